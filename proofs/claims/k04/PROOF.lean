import PyProof.Rows.All
import Wide.All
import OpenK.AllK
import Wide.FinOn
import KE.KStateDown
import Lean
import HandS.ForMost
import HandS.ForExc
import HandS.More
import HandS.Defaults
import HandS.Head0
import HandS.Head1
import HandS.Head2
import HandS.HeadEnd
import HandS.HeadHook1
import HandS.HeadHook2
import HandS.IsInst
import HandS.TupAny
import HandS.TupMul
import HandS.TupLe
import HandS.Deep
import HandS.Walk
import HandS.CallSlots
import HandS.Flow
import HandS.Zip
import HandS.Conv
import PyProof.ReprRoads
import HandS.Style
import KE.GoesEnum
import KE.GoesNew
import PyProof.FactsAll.tuple_2
import HandS.ExcInit
import HandS.ExcField
import HandS.TryMany
import PySem.Challenge.RW_stepsound_k04_whole_steps
set_option Elab.async false
set_option linter.all false
set_option maxRecDepth 100000
set_option maxHeartbeats 2000000
/-! VL: plain values over the hand layer: what a def does to data, without the heap. -/
namespace VL
open PySem PySem.Spec PyProof.Rows L2
abbrev Dt := PyData
/-! ### data that stand in a part of the heap -/
mutual
inductive DR (K : PySem.W.Frag) (G : Hp) : V → Dt → Prop
  | non : DR K G .non .none
  | bl (b : Bool) : DR K G (.bl b) (.bool b)
  | int (i : Int) : DR K G (.int i) (.int i)
  | str (x : Str) : DR K G (.str x) (.str x)
  | lst {a : Addr} {xs : List V} {ds : List Dt} : G a = some (.lst xs) → DRs K G xs ds → DR K G (.ref a) (.list ds)
  | tup {a : Addr} {xs : List V} {ds : List Dt} : SqT K G a xs → DRs K G xs ds → DR K G (.ref a) (.tuple ds)
inductive DRs (K : PySem.W.Frag) (G : Hp) : List V → List Dt → Prop
  | nil : DRs K G [] []
  | cons {v : V} {vs : List V} {d : Dt} {ds : List Dt} : DR K G v d → DRs K G vs ds → DRs K G (v :: vs) (d :: ds)
end
theorem sameT {K : PySem.W.Frag} {H H' : Hp} {a : Addr} {xs : List V} (e : Same H H') (h : SqT K H a xs) : SqT K H' a xs := by
  rcases h with (h | ⟨o, h⟩) | h
  · exact .inl (.inl (e _ _ h))
  · exact .inl (.inr ⟨o, e _ _ h⟩)
  · exact .inr h
section
variable {K : PySem.W.Frag} {G H : Hp}
mutual
theorem DR.same (s : Same G H) : ∀ {d : Dt} {v : V}, DR K G v d → DR K H v d
  | .none, _, h => by cases h; exact .non
  | .bool b, _, h => by cases h; exact .bl b
  | .int i, _, h => by cases h; exact .int i
  | .str x, _, h => by cases h; exact .str x
  | .list ds, _, h => by
    cases h with
    | lst a r => exact .lst (s _ _ a) (DRs.same s r)
  | .tuple ds, _, h => by
    cases h with
    | tup a r => exact .tup (sameT s a) (DRs.same s r)
  | .dict _, _, h => by cases h
theorem DRs.same (s : Same G H) : ∀ {ds : List Dt} {vs : List V}, DRs K G vs ds → DRs K H vs ds
  | [], _, h => by cases h; exact .nil
  | d :: ds, _, h => by
    cases h with
    | cons a r => exact .cons (DR.same s a) (DRs.same s r)
end
mutual
theorem DR.dp : ∀ {d : Dt} {v : V}, DR K G v d → Dp K G v d
  | .none, _, h => by cases h; exact .non
  | .bool b, _, h => by cases h; exact .bl b
  | .int i, _, h => by cases h; exact .int i
  | .str x, _, h => by cases h; exact .str x
  | .list ds, _, h => by
    cases h with
    | lst a r => exact .lst (SqL.of a) (DRs.dp r)
  | .tuple ds, _, h => by
    cases h with
    | tup a r => exact .tup a (DRs.dp r)
  | .dict _, _, h => by cases h
theorem DRs.dp : ∀ {ds : List Dt} {vs : List V}, DRs K G vs ds → DpAll K G vs ds
  | [], _, h => by cases h; exact .nil
  | d :: ds, _, h => by
    cases h with
    | cons a r => exact .cons (DR.dp a) (DRs.dp r)
end
theorem DRs.length : ∀ {ds : List Dt} {vs : List V}, DRs K G vs ds → vs.length = ds.length
  | [], _, h => by cases h; rfl
  | d :: ds, _, h => by
    cases h with
    | cons a r => simp [DRs.length r]
theorem DRs.get : ∀ {ds : List Dt} {vs : List V} {i : Nat} {d : Dt}, DRs K G vs ds → ds[i]? = some d → ∃ v, vs[i]? = some v ∧ DR K G v d
  | [], _, i, d, h, e => by simp at e
  | d :: ds, _, i, d', h, e => by
    cases h with
    | cons a r =>
      cases i with
      | zero => simp at e; subst e; exact ⟨_, rfl, a⟩
      | succ i =>
        obtain ⟨v, h1, h2⟩ := DRs.get r (i := i) (by simpa using e)
        exact ⟨v, by simpa using h1, h2⟩
theorem DRs.append : ∀ {ds es : List Dt} {vs us : List V}, DRs K G vs ds → DRs K G us es → DRs K G (vs ++ us) (ds ++ es)
  | [], _, _, _, h, h' => by cases h; exact h'
  | d :: ds, _, _, _, h, h' => by
    cases h with
    | cons a r => exact .cons a (DRs.append r h')
theorem DRs.drop : ∀ {ds : List Dt} {vs : List V} (n : Nat), DRs K G vs ds → DRs K G (vs.drop n) (ds.drop n)
  | _, _, 0, h => h
  | [], _, n + 1, h => by cases h; exact .nil
  | d :: ds, _, n + 1, h => by
    cases h with
    | cons a r => exact DRs.drop n r
theorem DRs.take : ∀ {ds : List Dt} {vs : List V} (n : Nat), DRs K G vs ds → DRs K G (vs.take n) (ds.take n)
  | _, _, 0, h => .nil
  | [], _, n + 1, h => by cases h; exact .nil
  | d :: ds, _, n + 1, h => by
    cases h with
    | cons a r => exact .cons a (DRs.take n r)
theorem DRs.ints : ∀ (ns : List Int), DRs K G (ns.map V.int) (ns.map PyData.int)
  | [] => .nil
  | n :: ns => .cons (.int n) (DRs.ints ns)
theorem DRs.bools : ∀ (ns : List Bool), DRs K G (ns.map V.bl) (ns.map PyData.bool)
  | [] => .nil
  | n :: ns => .cons (.bl n) (DRs.bools ns)
end
theorem same_upd {H : Hp} {p : Addr} {o : HO} (n : H p = none) : Same H (upd H p o) := fun b u e => by
  rw [upd_ne (ne_of_none e n)]; exact e
theorem same_upd2 {G H : Hp} {p : Addr} {o : HO} (s : Same G H) : Same (upd G p o) (upd H p o) := fun b u e => by
  by_cases hb : b = p
  · subst hb; rw [upd_same] at e ⊢; exact e
  · rw [upd_ne hb] at e ⊢; exact s _ _ e
/-- nothing of G' is new but what was not there -/
def New (G H G' : Hp) : Prop := ∀ a o, G' a = some o → G a = some o ∨ H a = none
theorem new_upd {G H : Hp} {p : Addr} {o : HO} (n : H p = none) : New G H (upd G p o) := fun a u e => by
  by_cases h : a = p
  · subst h; exact .inr n
  · rw [upd_ne h] at e; exact .inl e
theorem New.refl {G H : Hp} : New G H G := fun _ _ e => .inl e
/-! ### the machine of the draws -/
def mKvs (lc ll : Addr) (z : Int) : List (L2.Key × V) := [(.inr "cells", .ref lc), (.inr "left", .ref ll), (.inr "at", .int z)]
structure Mach (m : Addr) (n : Nat) (O H : Hp) : Prop where
  same : Same O H
  om : O m = none
  ex : ∃ (lc ll : Addr) (cs ls : List Int) (z : Int), O lc = none ∧ O ll = none ∧ lc ≠ ll ∧ H m = some (.dK (mKvs lc ll z)) ∧ H lc = some (.lst (cs.map V.int)) ∧ H ll = some (.lst (ls.map V.int)) ∧ 0 ≤ z ∧ z ≤ n ∧ cs.length ≤ 63 ∧ ls.length ≤ 63
def Good (mo : Option Addr) (n : Nat) (O H : Hp) : Prop := match mo with
  | none => Same O H
  | some m => Mach m n O H
theorem Good.same {mo : Option Addr} {n : Nat} {O H : Hp} (g : Good mo n O H) : Same O H := by
  cases mo with
  | none => exact g
  | some m => exact Mach.same g
/-- O and H changed alike at an address of O's, or at a free one -/
theorem Good.upd {mo : Option Addr} {n : Nat} {O H : Hp} {p : Addr} {o : HO} (g : Good mo n O H) (h : O p ≠ none ∨ H p = none) : Good mo n (upd O p o) (upd H p o) := by
  cases mo with
  | none => exact same_upd2 g
  | some m =>
    obtain ⟨s, om, lc, ll, cs, ls, z, h1, h2, h3, h4, h5, h6, r⟩ := g
    have ne : ∀ {q : Addr} {u : HO}, O q = none → H q = some u → q ≠ p := fun {q u} a b e => by
      subst e
      rcases h with h | h
      · exact h a
      · rw [h] at b; cases b
    exact ⟨same_upd2 s, by rw [upd_ne (ne om h4)]; exact om, lc, ll, cs, ls, z, by rw [upd_ne (ne h1 h5)]; exact h1, by rw [upd_ne (ne h2 h6)]; exact h2, h3, by rw [upd_ne (ne om h4)]; exact h4,
      by rw [upd_ne (ne h1 h5)]; exact h5, by rw [upd_ne (ne h2 h6)]; exact h6, r⟩
/-- the grown part -/
def grow (O H H' : Hp) : Hp := fun a => match H a with
  | none => H' a
  | some _ => O a
theorem grow_old {O H H' : Hp} {a : Addr} {o : HO} (h : H a = some o) : grow O H H' a = O a := by unfold grow; rw [h]
theorem grow_new {O H H' : Hp} {a : Addr} (h : H a = none) : grow O H H' a = H' a := by unfold grow; rw [h]
theorem grow_same {O H H' : Hp} (s : Same O H) : Same O (grow O H H') := fun a o e => by rw [grow_old (s _ _ e)]; exact e
theorem Good.grow {mo : Option Addr} {n : Nat} {O H H' : Hp} (g : Good mo n O H) (s : Same H H') : Good mo n (grow O H H') H' := by
  have sg : Same (VL.grow O H H') H' := fun a o e => by
    cases q : H a with
    | none => rw [grow_new q] at e; exact e
    | some u => rw [grow_old q] at e; rw [s _ _ q, ← q]; exact g.same _ _ e
  cases mo with
  | none => exact sg
  | some m =>
    obtain ⟨s0, om, lc, ll, cs, ls, z, h1, h2, h3, h4, h5, h6, r⟩ := g
    exact ⟨sg, by rw [grow_old h4]; exact om, lc, ll, cs, ls, z, by rw [grow_old h5]; exact h1, by rw [grow_old h6]; exact h2, h3, s _ _ h4, s _ _ h5, s _ _ h6, r⟩
/-! ### what a name stands for -/
inductive W where
  | dat (d : Dt)
  /-- a list of one's own: no other name, no datum has it -/
  | own (ds : List Dt)
  /-- the machine of the draws -/
  | tok
  /-- the script -/
  | scr (ns : List Int)
abbrev Nv := List (Option W)
structure Ct where
  mo : Option Addr
  G0 : Hp
  O0 : Hp
  H0 : Hp
def RelW (K : PySem.W.Frag) (C : Ct) (G O : Hp) : W → V → Prop
  | .dat d, v => DR K G v d
  | .own ds, v => ∃ a xs, v = .ref a ∧ G a = none ∧ C.H0 a = none ∧ O a = some (.lst xs) ∧ DRs K G xs ds
  | .tok, v => ∃ m, C.mo = some m ∧ v = .ref m
  | .scr ns, v => ∃ a, v = .ref a ∧ SqL K G a (ns.map V.int)
/-- all but the names -/
structure Io (C : Ct) (n : Nat) (G O H : Hp) : Prop where
  good : Good C.mo n O H
  go : Same G O
  g0 : Same C.G0 G
  o0 : Same C.O0 O
  oh : Same C.O0 C.H0
  nO : New C.O0 C.H0 O
  nG : New C.G0 C.H0 G
  h0 : ∀ a, H a = none → C.H0 a = none
structure In (K : PySem.W.Frag) (C : Ct) (σ : L2.St) (ρ : Nv) (n : Nat) (G O H : Hp) : Prop extends Io C n G O H where
  len : σ.length = ρ.length
  slot : ∀ (i : Nat) (w : W), ρ[i]? = some (some w) → ∃ v, σ[i]? = some (some v) ∧ RelW K C G O w v
  dis : ∀ (i j : Nat) (ds es : List Dt) (a : Addr), i ≠ j → ρ[i]? = some (some (.own ds)) → ρ[j]? = some (some (.own es)) → σ[i]? = some (some (.ref a)) → σ[j]? = some (some (.ref a)) → False
section
variable {K : PySem.W.Frag} {C : Ct} {σ : L2.St} {ρ : Nv} {n : Nat} {G O H G' H' : Hp}
theorem Io.oH (I : Io C n G O H) : Same O H := I.good.same
theorem Io.gH (I : Io C n G O H) : Same G H := I.go.trans I.oH
theorem RelW.same {w : W} {v : V} {O' : Hp} (r : RelW K C G O w v) (sg : Same G G') (so : ∀ a xs, O a = some (.lst xs) → G a = none → O' a = some (.lst xs) ∧ G' a = none) : RelW K C G' O' w v := by
  cases w with
  | dat d => exact DR.same sg r
  | own ds =>
    obtain ⟨a, xs, e, h1, h2, h3, h4⟩ := r
    obtain ⟨q1, q2⟩ := so a xs h3 h1
    exact ⟨a, xs, e, q2, h2, q1, DRs.same sg h4⟩
  | tok => exact r
  | scr ns =>
    obtain ⟨a, e, h⟩ := r
    exact ⟨a, e, sg.seq h⟩
theorem Io.pure (I : Io C n G O H) (sh : Same H H') (sg : Same G G') (sgh : Same G' H') (nw : New G H G') : Io C n G' (grow O H H') H' := by
  have hn : ∀ a, H' a = none → H a = none := fun a e => by
    cases q : H a with
    | none => rfl
    | some o => rw [sh _ _ q] at e; cases e
  refine ⟨I.good.grow sh, fun a o e => ?_, I.g0.trans sg, I.o0.trans (grow_same I.oH), I.oh, fun a o e => ?_, fun a o e => ?_, fun a e => I.h0 a (hn a e)⟩
  · rcases nw a o e with q | q
    · rw [grow_old (I.gH _ _ q)]; exact I.go _ _ q
    · rw [grow_new q]; exact sgh _ _ e
  · cases q : H a with
    | none => exact .inr (I.h0 a q)
    | some u => rw [grow_old q] at e; exact I.nO a o e
  · rcases nw a o e with q | q
    · exact I.nG a o q
    · exact .inr (I.h0 a q)
/-- a step that changes nothing old -/
theorem In.pure (I : In K C σ ρ n G O H) (sh : Same H H') (sg : Same G G') (sgh : Same G' H') (nw : New G H G') : In K C σ ρ n G' (grow O H H') H' := by
  refine ⟨I.toIo.pure sh sg sgh nw, I.len, fun i w e => ?_, I.dis⟩
  obtain ⟨v, e1, r⟩ := I.slot i w e
  refine ⟨v, e1, r.same sg fun a xs q g => ⟨grow_same I.oH _ _ q, ?_⟩⟩
  cases z : G' a with
  | none => rfl
  | some o =>
    rcases nw a o z with y | y
    · rw [g] at y; cases y
    · rw [I.oH _ _ q] at y; cases y
/-- a new frozen thing -/
theorem In.new {p : Addr} {o : HO} (I : In K C σ ρ n G O H) (hp : H p = none) : In K C σ ρ n (upd G p o) (grow O H (upd H p o)) (upd H p o) :=
  I.pure (same_upd hp) (same_upd (by cases q : G p with | none => rfl | some u => rw [I.gH _ _ q] at hp; cases hp)) (same_upd2 I.gH) (new_upd hp)
theorem In.gfree {p : Addr} (I : Io C n G O H) (hp : H p = none) : G p = none := by
  cases q : G p with | none => rfl | some u => rw [I.gH _ _ q] at hp; cases hp
theorem In.newSame {p : Addr} {o : HO} (I : Io C n G O H) (hp : H p = none) : Same G (upd G p o) := same_upd (In.gfree I hp)
/-- a name is given a datum -/
theorem In.set (I : In K C σ ρ n G O H) (i : Nat) {v : V} {d : Dt} (r : DR K G v d) : In K C (σ.set i (some v)) (ρ.set i (some (.dat d))) n G O H := by
  refine ⟨I.toIo, by simp [I.len], fun j w e => ?_, fun j k ds es a jk e1 e2 e3 e4 => ?_⟩
  · by_cases h : i = j
    · subst h
      by_cases hi : i < ρ.length
      · rw [List.getElem?_set_self hi] at e
        cases e
        exact ⟨v, by rw [List.getElem?_set_self (by rw [I.len]; exact hi)], r⟩
      · rw [List.getElem?_eq_none (by simpa using hi)] at e; cases e
    · rw [List.getElem?_set_ne h] at e
      obtain ⟨u, h1, h2⟩ := I.slot j w e
      exact ⟨u, by rw [List.getElem?_set_ne h]; exact h1, h2⟩
  · have hj : i ≠ j := fun q => by
      subst q
      by_cases hi : i < ρ.length
      · rw [List.getElem?_set_self hi] at e1; cases e1
      · rw [List.getElem?_eq_none (by simpa using hi)] at e1; cases e1
    have hk : i ≠ k := fun q => by
      subst q
      by_cases hi : i < ρ.length
      · rw [List.getElem?_set_self hi] at e2; cases e2
      · rw [List.getElem?_eq_none (by simpa using hi)] at e2; cases e2
    rw [List.getElem?_set_ne hj] at e1 e3
    rw [List.getElem?_set_ne hk] at e2 e4
    exact I.dis j k ds es a jk e1 e2 e3 e4
/-- a name is given a list of its own -/
theorem In.setOwn (I : In K C σ ρ n G O H) (i : Nat) {a : Addr} {xs : List V} {ds : List Dt} (g : G a = none) (h0 : C.H0 a = none) (o : O a = some (.lst xs)) (r : DRs K G xs ds)
    (fr : ∀ (j : Nat) (es : List Dt), ρ[j]? = some (some (.own es)) → σ[j]? ≠ some (some (.ref a))) : In K C (σ.set i (some (.ref a))) (ρ.set i (some (.own ds))) n G O H := by
  refine ⟨I.toIo, by simp [I.len], fun j w e => ?_, fun j k es fs b jk e1 e2 e3 e4 => ?_⟩
  · by_cases h : i = j
    · subst h
      by_cases hi : i < ρ.length
      · rw [List.getElem?_set_self hi] at e
        cases e
        exact ⟨_, by rw [List.getElem?_set_self (by rw [I.len]; exact hi)], a, xs, rfl, g, h0, o, r⟩
      · rw [List.getElem?_eq_none (by simpa using hi)] at e; cases e
    · rw [List.getElem?_set_ne h] at e
      obtain ⟨u, h1, h2⟩ := I.slot j w e
      exact ⟨u, by rw [List.getElem?_set_ne h]; exact h1, h2⟩
  · by_cases hj : i = j
    · subst hj
      have hi : i < σ.length := by
        by_cases hi : i < σ.length
        · exact hi
        · rw [List.getElem?_eq_none (by simpa using hi)] at e3; cases e3
      rw [List.getElem?_set_self hi] at e3
      cases e3
      rw [List.getElem?_set_ne jk] at e2 e4
      exact fr k fs e2 e4
    · by_cases hk : i = k
      · subst hk
        have hi : i < σ.length := by
          by_cases hi : i < σ.length
          · exact hi
          · rw [List.getElem?_eq_none (by simpa using hi)] at e4; cases e4
        rw [List.getElem?_set_self hi] at e4
        cases e4
        rw [List.getElem?_set_ne hj] at e1 e3
        exact fr j es e1 e3
      · rw [List.getElem?_set_ne hj] at e1 e3
        rw [List.getElem?_set_ne hk] at e2 e4
        exact I.dis j k es fs b jk e1 e2 e3 e4
/-- one's own list is changed -/
theorem In.mut (I : In K C σ ρ n G O H) {i : Nat} {a : Addr} {ds es : List Dt} {xs ys : List V} (hi : ρ[i]? = some (some (.own ds))) (hs : σ[i]? = some (some (.ref a))) (g : G a = none) (h0 : C.H0 a = none) (o : O a = some (.lst xs)) (r : DRs K G ys es) :
    In K C σ (ρ.set i (some (.own es))) n G (upd O a (.lst ys)) (upd H a (.lst ys)) := by
  have o0n : C.O0 a = none := by
    cases q : C.O0 a with | none => rfl | some u => rw [I.oh _ _ q] at h0; cases h0
  refine ⟨⟨I.good.upd (.inl (by rw [o]; simp)), fun b u e => ?_, I.g0, fun b u e => ?_, I.oh, fun b u e => ?_, I.nG, fun b e => ?_⟩, by simp [I.len], fun j w e => ?_, fun j k fs gs b jk e1 e2 e3 e4 => ?_⟩
  · rw [upd_ne (ne_of_none e g)]; exact I.go _ _ e
  · rw [upd_ne (ne_of_none e o0n)]; exact I.o0 _ _ e
  · by_cases hb : b = a
    · subst hb; exact .inr h0
    · rw [upd_ne hb] at e; exact I.nO b u e
  · by_cases hb : b = a
    · subst hb; exact h0
    · rw [upd_ne hb] at e; exact I.h0 b e
  · by_cases h : i = j
    · subst h
      have hl : i < ρ.length := by
        by_cases hl : i < ρ.length
        · exact hl
        · rw [List.getElem?_eq_none (by simpa using hl)] at hi; cases hi
      rw [List.getElem?_set_self hl] at e
      cases e
      exact ⟨_, hs, a, ys, rfl, g, h0, upd_same, r⟩
    · rw [List.getElem?_set_ne h] at e
      obtain ⟨u, h1, h2⟩ := I.slot j w e
      refine ⟨u, h1, ?_⟩
      cases w with
      | own fs =>
        obtain ⟨b, zs, e1, q1, q2, q3, q4⟩ := h2
        subst e1
        have nb : b ≠ a := fun z => by subst z; exact I.dis i j ds fs b h hi e hs h1
        exact ⟨b, zs, rfl, q1, q2, by rw [upd_ne nb]; exact q3, q4⟩
      | dat d => exact h2
      | tok => exact h2
      | scr ns => exact h2
  · have tr : ∀ {j : Nat} {fs : List Dt}, (ρ.set i (some (W.own es)))[j]? = some (some (W.own fs)) → ∃ fs', ρ[j]? = some (some (W.own fs')) := fun {j fs} e => by
      by_cases h : i = j
      · subst h; exact ⟨_, hi⟩
      · rw [List.getElem?_set_ne h] at e; exact ⟨_, e⟩
    obtain ⟨f1, p1⟩ := tr e1
    obtain ⟨f2, p2⟩ := tr e2
    exact I.dis j k f1 f2 b jk p1 p2 e3 e4
/-- one's own list becomes a datum -/
theorem In.frz (I : In K C σ ρ n G O H) {i : Nat} {ds : List Dt} (hi : ρ[i]? = some (some (.own ds))) : ∃ G', Same G G' ∧ In K C σ (ρ.set i (some (.dat (.list ds)))) n G' O H := by
  obtain ⟨v, hs, a, xs, rfl, g, h0, o, r⟩ := I.slot i _ hi
  have sg : Same G (upd G a (.lst xs)) := same_upd g
  refine ⟨upd G a (.lst xs), sg, ⟨I.good, fun b u e => ?_, I.g0.trans sg, I.o0, I.oh, I.nO, fun b u e => ?_, I.h0⟩, by simp [I.len], fun j w e => ?_, fun j k fs gs b jk e1 e2 e3 e4 => ?_⟩
  · by_cases hb : b = a
    · subst hb; rw [upd_same] at e; cases e; exact o
    · rw [upd_ne hb] at e; exact I.go _ _ e
  · by_cases hb : b = a
    · subst hb; exact .inr h0
    · rw [upd_ne hb] at e; exact I.nG b u e
  · by_cases h : i = j
    · subst h
      have hl : i < ρ.length := by
        by_cases hl : i < ρ.length
        · exact hl
        · rw [List.getElem?_eq_none (by simpa using hl)] at hi; cases hi
      rw [List.getElem?_set_self hl] at e
      cases e
      exact ⟨_, hs, .lst upd_same (DRs.same sg r)⟩
    · rw [List.getElem?_set_ne h] at e
      obtain ⟨u, h1, h2⟩ := I.slot j w e
      refine ⟨u, h1, ?_⟩
      cases w with
      | own fs =>
        obtain ⟨b, zs, e1, q1, q2, q3, q4⟩ := h2
        subst e1
        have nb : b ≠ a := fun z => by subst z; exact I.dis i j ds fs b h hi e hs h1
        exact ⟨b, zs, rfl, by rw [upd_ne nb]; exact q1, q2, q3, DRs.same sg q4⟩
      | dat d => exact DR.same sg h2
      | tok => exact h2
      | scr ns => obtain ⟨b, e1, q⟩ := h2; exact ⟨b, e1, sg.seq q⟩
  · have tr : ∀ {j : Nat} {fs : List Dt}, (ρ.set i (some (W.dat (.list ds))))[j]? = some (some (W.own fs)) → ρ[j]? = some (some (W.own fs)) := fun {j fs} e => by
      by_cases h : i = j
      · subst h
        by_cases hl : i < ρ.length
        · rw [List.getElem?_set_self hl] at e; cases e
        · rw [List.getElem?_eq_none (by simpa using hl)] at e; cases e
      · rw [List.getElem?_set_ne h] at e; exact e
    exact I.dis j k fs gs b jk (tr e1) (tr e2) e3 e4
end
end VL


set_option maxRecDepth 100000
set_option maxHeartbeats 2000000
namespace VL
open PySem PySem.Spec PyProof.Rows L2
/-- an own error: its class's name, its fields -/
structure Exc where
  name : Str
  fs : List (Str × Dt)
def ExcAt (K : PySem.W.Frag) (G : Hp) (x : Exc) (cls : Value) (d : Option Addr) : Prop :=
  cls = .ref (He.ga K x.name) ∧ ∃ a fs, d = some a ∧ G a = some (.xd fs) ∧ ∀ f dv, x.fs.lookup f = some dv → ∃ v, fs.lookup f = some v ∧ DR K G v dv
abbrev XW := Exc → Nat → Prop
abbrev VT := Nv → Nat → (Dt → Nat → Prop) → XW → Prop
abbrev VB := Nv → Nat → (Bool → Nat → Prop) → XW → Prop
abbrev VA := Nv → Nat → (List Dt → Nat → Prop) → XW → Prop
/-- what an error's wish tells the frame -/
def LkX (K : PySem.W.Frag) (U : WX) (C : Ct) (σ : L2.St) (ρ : Nv) (E0 : XW) : Prop :=
  ∀ x n', E0 x n' → ∀ cls d G' O' H', In K C σ ρ n' G' O' H' → ExcAt K G' x cls d → U cls d σ H'
def up (K : PySem.W.Frag) (U : WX) (t : VT) : TE := fun σ H Q => ∃ (C : Ct) (ρ : Nv) (n : Nat) (G O : Hp) (Q0 : Dt → Nat → Prop) (E0 : XW), In K C σ ρ n G O H ∧ t ρ n Q0 E0 ∧
  (∀ d n', Q0 d n' → ∀ v G' O' H', In K C σ ρ n' G' O' H' → Same G G' → DR K G' v d → Q v H') ∧ LkX K U C σ ρ E0
def upB (K : PySem.W.Frag) (U : WX) (t : VB) : TT := fun σ H Q => ∃ (C : Ct) (ρ : Nv) (n : Nat) (G O : Hp) (Q0 : Bool → Nat → Prop) (E0 : XW), In K C σ ρ n G O H ∧ t ρ n Q0 E0 ∧
  (∀ b n', Q0 b n' → ∀ G' O' H', In K C σ ρ n' G' O' H' → Same G G' → Q b H') ∧ LkX K U C σ ρ E0
def upA (K : PySem.W.Frag) (U : WX) (t : VA) : TA := fun σ H Q => ∃ (C : Ct) (ρ : Nv) (n : Nat) (G O : Hp) (Q0 : List Dt → Nat → Prop) (E0 : XW), In K C σ ρ n G O H ∧ t ρ n Q0 E0 ∧
  (∀ ds n', Q0 ds n' → ∀ vs G' O' H', In K C σ ρ n' G' O' H' → Same G G' → DRs K G' vs ds → Q vs H') ∧ LkX K U C σ ρ E0
/-- a fresh list of one's own -/
def Fresh (C : Ct) (σ : L2.St) (ρ : Nv) (K : PySem.W.Frag) (G O : Hp) (a : Addr) (ds : List Dt) : Prop :=
  ∃ xs, G a = none ∧ C.H0 a = none ∧ O a = some (.lst xs) ∧ DRs K G xs ds ∧ ∀ (j : Nat) (es : List Dt), ρ[j]? = some (some (.own es)) → σ[j]? ≠ some (some (.ref a))
def upO (K : PySem.W.Frag) (U : WX) (t : VA) : TE := fun σ H Q => ∃ (C : Ct) (ρ : Nv) (n : Nat) (G O : Hp) (Q0 : List Dt → Nat → Prop) (E0 : XW), In K C σ ρ n G O H ∧ t ρ n Q0 E0 ∧
  (∀ ds n', Q0 ds n' → ∀ a G' O' H', In K C σ ρ n' G' O' H' → Same G G' → Fresh C σ ρ K G' O' a ds → Q (.ref a) H') ∧ LkX K U C σ ρ E0
abbrev VE (X : Cx) (U : WX) (e : Expr) (t : VT) : Prop := PE X e (up X.K U t)
abbrev VTt (X : Cx) (U : WX) (e : Expr) (t : VB) : Prop := PT X e (upB X.K U t)
abbrev VW (X : Cx) (U : WX) (e : Expr) (t : VB) : Prop := PW X e (upB X.K U t)
abbrev VAa (X : Cx) (U : WX) (es : List Expr) (t : VA) : Prop := PA X es (upA X.K U t)
abbrev VO (X : Cx) (U : WX) (e : Expr) (t : VA) : Prop := PE X e (upO X.K U t)
theorem pe_imp {X : Cx} {e : Expr} {t t' : TE} (h : PE X e t) (w : ∀ σ H Q, t' σ H Q → t σ H Q) : PE X e t' := ⟨fun pins s σ H Q I q => h.run pins s σ H Q I (w _ _ _ q)⟩
theorem pt_imp {X : Cx} {e : Expr} {t t' : TT} (h : PT X e t) (w : ∀ σ H Q, t' σ H Q → t σ H Q) : PT X e t' := ⟨fun pins s σ H Q I q => h.run pins s σ H Q I (w _ _ _ q)⟩
theorem pw_imp {X : Cx} {e : Expr} {t t' : TT} (h : PW X e t) (w : ∀ σ H Q, t' σ H Q → t σ H Q) : PW X e t' := ⟨fun wh pins s σ H Q I q => h.run wh pins s σ H Q I (w _ _ _ q)⟩
theorem pa_imp {X : Cx} {e : List Expr} {t t' : TA} (h : PA X e t) (w : ∀ σ H Q, t' σ H Q → t σ H Q) : PA X e t' := ⟨fun pos pins s σ H Q I q => h.run pos pins s σ H Q I (w _ _ _ q)⟩
theorem ps_imp {X : Cx} {e : Stmt} {t t' : TS} (h : PS X e t) (w : ∀ D σ H, t' D σ H → t D σ H) : PS X e t' := ⟨fun pins s σ H D I q => h.run pins s σ H D I (w _ _ _ q)⟩
theorem pss_imp {X : Cx} {e : List Stmt} {t t' : TS} (h : PSs X e t) (w : ∀ D σ H, t' D σ H → t D σ H) : PSs X e t' := ⟨fun pins s σ H D I q => h.run pins s σ H D I (w _ _ _ q)⟩
section
variable {X : Cx} {U : WX} {a b c e : Expr} {es rest : List Expr} {pos : Pos} {ta tb tc : VT} {xa xb : VB} {al : VA}
/-! ### names, constants -/
def vVar (i : Nat) : VT := fun ρ n Q _ => match ρ[i]? with
  | some (some (.dat d)) => Q d n
  | _ => False
def vC (d : Dt) : VT := fun _ n Q _ => Q d n
theorem ve_of {t : TE} {u : VT} (h : PE X e t) (w : ∀ C σ ρ n G O H Q Q0 E0, In X.K C σ ρ n G O H → u ρ n Q0 E0 → (∀ d n', Q0 d n' → ∀ v G' O' H', In X.K C σ ρ n' G' O' H' → Same G G' → DR X.K G' v d → Q v H') → LkX X.K U C σ ρ E0 → t σ H Q) : VE X U e u :=
  pe_imp h fun σ H Q ⟨C, ρ, n, G, O, Q0, E0, I, h1, h2, h3⟩ => w C σ ρ n G O H Q Q0 E0 I h1 h2 h3
theorem ve_var (i : Nat) {x : Str} (hN : X.N[i]? = some x := by rfl) (hv : Vis X.env.scope x := by first | exact Or.inl rfl | exact Or.inr (Or.inl rfl) | exact Or.inr (Or.inr rfl)) (hd : (x == ("__debug__" : Str)) = false := by decide)
    (hcd : (x == ("__classdict__" : Str)) = false := by decide) : VE X U (.Name x pos) (vVar i) := by
  refine ve_of (pe_var hN hv hd hcd) fun C σ ρ n G O H Q Q0 E0 I h hq _ => ?_
  unfold vVar at h
  split at h
  · next d e =>
    obtain ⟨v, e1, r⟩ := I.slot i _ e
    exact ⟨v, e1, hq d n h v G O H I (Same.refl _) r⟩
  · exact h.elim
theorem ve_const {d : Dt} {v : V} (h : PE X e (tC v)) (r : ∀ G, DR X.K G v d) : VE X U e (vC d) :=
  ve_of h fun C σ ρ n G O H Q Q0 E0 I h hq _ => hq d n h v G O H I (Same.refl _) (r G)
theorem ve_int {i j} : VE X U (.Constant (.int i) j pos) (vC (.int i)) := ve_const pe_int fun _ => .int i
theorem ve_bl {i j} : VE X U (.Constant (.bool i) j pos) (vC (.bool i)) := ve_const pe_bl fun _ => .bl i
theorem ve_non {j} : VE X U (.Constant .none j pos) (vC .none) := ve_const pe_non fun _ => .non
theorem ve_str {x j} : VE X U (.Constant (.str x) j pos) (vC (.str x)) := ve_const pe_str fun _ => .str x
theorem ve_gint {x : Str} {i : Int} (hg : Gl X x) (hm : ∃ t, X.mg x = some (.int i t)) (hd : (x == ("__debug__" : Str)) = false := by decide) : VE X U (.Name x pos) (vC (.int i)) := by
  obtain ⟨t, hm⟩ := hm
  exact ve_const (v := .int i) (pe_glob (v := .int i) hg hm ⟨t, rfl⟩ hd) fun _ => .int i
theorem ve_gstr {x z : Str} (hg : Gl X x) (hm : ∃ t, X.mg x = some (.str z t)) (hd : (x == ("__debug__" : Str)) = false := by decide) : VE X U (.Name x pos) (vC (.str z)) := by
  obtain ⟨t, hm⟩ := hm
  exact ve_const (v := .str z) (pe_glob (v := .str z) hg hm ⟨t, rfl⟩ hd) fun _ => .str z
/-! ### operators -/
abbrev R2D := Dt → Dt → (Dt → Prop) → Prop
def lift2 (K : PySem.W.Frag) (r : R2D) : R2 := fun x y H Q => ∃ G d1 d2 Q0, Same G H ∧ DR K G x d1 ∧ DR K G y d2 ∧ r d1 d2 Q0 ∧
  ∀ d, Q0 d → ∀ v G' H', Same H H' → Same G G' → Same G' H' → New G H G' → DR K G' v d → Q v H'
abbrev VOp (X : Cx) (f : Value → Value → Sem Value) (r : R2D) : Prop := OpR X f (lift2 X.K r)
def vOp (r : R2D) (ta tb : VT) : VT := fun ρ n Q E => ta ρ n (fun d1 n1 => tb ρ n1 (fun d2 n2 => r d1 d2 fun d => Q d n2) E) E
theorem up_op {r : R2D} : ∀ σ H Q, up X.K U (vOp r ta tb) σ H Q → tOp (lift2 X.K r) (up X.K U ta) (up X.K U tb) σ H Q :=
  fun σ H Q ⟨C, ρ, n, G, O, Q0, E0, I, h, hq, he⟩ => ⟨C, ρ, n, G, O, _, E0, I, h, fun d1 n1 h1 v1 G1 O1 H1 I1 s1 r1 => ⟨C, ρ, n1, G1, O1, _, E0, I1, h1, fun d2 n2 h2 v2 G2 O2 H2 I2 s2 r2 =>
    ⟨G2, d1, d2, _, I2.gH, DR.same s2 r1, r2, h2, fun d hd v G' H' sh sg sgh nw rd => hq d n2 hd v G' _ H' (I2.pure sh sg sgh nw) ((s1.trans s2).trans sg) rd⟩, he⟩, he⟩
theorem ve_op {op : Operator} {r : R2D} (ho : VOp X (binaryOp op) r) (ha : VE X U a ta) (hb : VE X U b tb) : VE X U (.BinOp a op b pos) (vOp r ta tb) := pe_imp (pe_op ho ha hb) up_op
theorem ve_cmp {op : CmpOp} {r : R2D} (ho : VOp X (compareOp op) r) (ha : VE X U a ta) (hb : VE X U b tb) (hm : behindInMarks op b = false := by first | exact nomark _ | rfl) : VE X U (.Compare a [op] [b] pos) (vOp r ta tb) := pe_imp (pe_cmpR ho ha hb hm) up_op
/-- a value as a test -/
def isB (Q : Bool → Prop) : Dt → Prop
  | .bool b => Q b
  | _ => False
def vTest (t : VT) : VB := fun ρ n Q E => t ρ n (fun d n' => isB (fun b => Q b n') d) E
theorem up_test {t : VT} : ∀ σ H Q, upB X.K U (vTest t) σ H Q → tTest (up X.K U t) σ H Q :=
  fun σ H Q ⟨C, ρ, n, G, O, Q0, E0, I, h, hq, he⟩ => ⟨C, ρ, n, G, O, _, E0, I, h, fun d n' h1 v G' O' H' I' s' r' => by
    cases d with
    | bool b => cases r'; exact ⟨b, rfl, hq b n' h1 G' O' H' I' s'⟩
    | _ => exact h1.elim, he⟩
theorem vt_cmp {op : CmpOp} {r : R2D} (ho : VOp X (compareOp op) r) (ha : VE X U a ta) (hb : VE X U b tb) (hm : behindInMarks op b = false := by first | exact nomark _ | rfl) : VTt X U (.Compare a [op] [b] pos) (vTest (vOp r ta tb)) :=
  pt_imp (pt_cmpR ho ha hb hm) fun σ H Q h => by
    obtain ⟨C, ρ, n, G, O, Q0, E0, I, h, hq, he⟩ := h
    refine up_op σ H _ ⟨C, ρ, n, G, O, _, E0, I, h, fun d n' h1 v G' O' H' I' s' r' => ?_, he⟩
    cases d with
    | bool b => cases r'; exact ⟨b, rfl, hq b n' h1 G' O' H' I' s'⟩
    | _ => exact h1.elim
theorem vt_val {t : VT} (h : VE X U e t) (he : ∀ whole, isTrue e X.env whole = (do let v ← whole; standAt e.pos; holding [v] (truthy v)) := by intro _; rfl) : VTt X U e (vTest t) :=
  pt_imp (pt_val h he) fun σ H Q ⟨C, ρ, n, G, O, Q0, E0, I, h, hq, he⟩ => ⟨C, ρ, n, G, O, _, E0, I, h, fun d n' h1 v G' O' H' I' s' r' => by
    cases d with
    | bool b => cases r'; exact ⟨b, rfl, hq b n' h1 G' O' H' I' s'⟩
    | _ => exact h1.elim, he⟩
/-- a chain of two comparisons -/
def vChain (r r' : R2D) (ta tb tc : VT) : VT := fun ρ n Q E => ta ρ n (fun d1 n1 => tb ρ n1 (fun d2 n2 => r d1 d2 (isB fun k => if k = true then tc ρ n2 (fun d3 n3 => r' d2 d3 fun d => Q d n3) E else Q (.bool false) n2)) E) E
theorem up_chain {r r' : R2D} : ∀ σ H Q, up X.K U (vChain r r' ta tb tc) σ H Q → tChain (lift2 X.K r) (lift2 X.K r') (up X.K U ta) (up X.K U tb) (up X.K U tc) σ H Q :=
  fun σ H Q ⟨C, ρ, n, G, O, Q0, E0, I, h, hq, he⟩ => ⟨C, ρ, n, G, O, _, E0, I, h, fun d1 n1 h1 v1 G1 O1 H1 I1 s1 r1 => ⟨C, ρ, n1, G1, O1, _, E0, I1, h1, fun d2 n2 h2 v2 G2 O2 H2 I2 s2 r2 =>
    ⟨G2, d1, d2, _, I2.gH, DR.same s2 r1, r2, h2, fun d hd v G3 H3 sh sg sgh nw rd => by
      cases d with
      | bool k =>
        cases rd
        refine ⟨k, rfl, ?_⟩
        have I3 := I2.pure sh sg sgh nw
        cases k with
        | true =>
          rw [if_pos rfl]
          have hd' : tc ρ n2 (fun d3 n3 => r' d2 d3 fun d => Q0 d n3) E0 := hd
          exact ⟨C, ρ, n2, G3, _, _, E0, I3, hd', fun d3 n3 h3 v3 G4 O4 H4 I4 s4 r3 => ⟨G4, d2, d3, _, I4.gH, DR.same (sg.trans s4) r2, r3, h3, fun d hd v G5 H5 sh5 sg5 sgh5 nw5 rd => hq d n3 hd v G5 _ H5 (I4.pure sh5 sg5 sgh5 nw5) ((((s1.trans s2).trans sg).trans s4).trans sg5) rd⟩, he⟩
        | false =>
          rw [if_neg Bool.false_ne_true]
          have hd' : Q0 (.bool false) n2 := hd
          exact hq _ n2 hd' _ G3 _ H3 I3 ((s1.trans s2).trans sg) (.bl false)
      | _ => exact False.elim hd⟩, he⟩, he⟩
theorem ve_chain {op op' : CmpOp} {r r' : R2D} (ho : VOp X (compareOp op) r) (ho' : VOp X (compareOp op') r') (ha : VE X U a ta) (hb : VE X U b tb) (hc : VE X U c tc) (hm : lastMarks [op, op'] [b, c] = false := by with_unfolding_all rfl) :
    VE X U (.Compare a [op, op'] [b, c] pos) (vChain r r' ta tb tc) := pe_imp (pe_chain ho ho' ha hb hc hm) up_chain
theorem vt_chain {op op' : CmpOp} {r r' : R2D} (ho : VOp X (compareOp op) r) (ho' : VOp X (compareOp op') r') (ha : VE X U a ta) (hb : VE X U b tb) (hc : VE X U c tc) (hm : lastMarks [op, op'] [b, c] = false := by with_unfolding_all rfl) :
    VTt X U (.Compare a [op, op'] [b, c] pos) (vTest (vChain r r' ta tb tc)) := pt_imp (pt_chain ho ho' ha hb hc hm) fun σ H Q h => by
    obtain ⟨C, ρ, n, G, O, Q0, E0, I, h, hq, he⟩ := h
    refine up_chain σ H _ ⟨C, ρ, n, G, O, _, E0, I, h, fun d n' h1 v G' O' H' I' s' r' => ?_, he⟩
    cases d with
    | bool b => cases r'; exact ⟨b, rfl, hq b n' h1 G' O' H' I' s'⟩
    | _ => exact h1.elim
/-! ### one-place operators -/
abbrev R1D := Dt → (Dt → Prop) → Prop
def vUn (r : R1D) (ta : VT) : VT := fun ρ n Q E => ta ρ n (fun d1 n1 => r d1 fun d => Q d n1) E
def dNeg : R1D := fun d Q => match d with
  | .int i => Q (.int (-i))
  | _ => False
theorem ve_neg (ha : VE X U a ta) : VE X U (.UnaryOp .USub a pos) (vUn dNeg ta) :=
  pe_imp (pe_un un_neg ha) fun σ H Q ⟨C, ρ, n, G, O, Q0, E0, I, h, hq, he⟩ => ⟨C, ρ, n, G, O, _, E0, I, h, fun d n' h1 v G' O' H' I' s' r' => by
    cases d with
    | int i => cases r'; exact ⟨i, rfl, hq _ n' h1 _ G' O' H' I' s' (.int _)⟩
    | _ => exact h1.elim, he⟩
/-! ### and, or, not, if -/
def vAnd (t u : VB) : VB := fun ρ n Q E => t ρ n (fun c n1 => if c = true then u ρ n1 Q E else Q false n1) E
def vOr (t u : VB) : VB := fun ρ n Q E => t ρ n (fun c n1 => if c = true then Q true n1 else u ρ n1 Q E) E
def vNot (t : VB) : VB := fun ρ n Q E => t ρ n (fun c n1 => Q (!c) n1) E
theorem upB_and : ∀ σ H Q, upB X.K U (vAnd xa xb) σ H Q → tAnd (upB X.K U xa) (upB X.K U xb) σ H Q :=
  fun σ H Q ⟨C, ρ, n, G, O, Q0, E0, I, h, hq, he⟩ => ⟨C, ρ, n, G, O, _, E0, I, h, fun c n1 h1 G1 O1 H1 I1 s1 => by
    cases c with
    | true =>
      rw [if_pos rfl] at h1 ⊢
      exact ⟨C, ρ, n1, G1, O1, _, E0, I1, h1, fun b n' hb G' O' H' I' s' => hq b n' hb G' O' H' I' (s1.trans s'), he⟩
    | false =>
      rw [if_neg Bool.false_ne_true] at h1 ⊢
      exact hq _ n1 h1 G1 O1 H1 I1 s1, he⟩
theorem upB_or : ∀ σ H Q, upB X.K U (vOr xa xb) σ H Q → tOr (upB X.K U xa) (upB X.K U xb) σ H Q :=
  fun σ H Q ⟨C, ρ, n, G, O, Q0, E0, I, h, hq, he⟩ => ⟨C, ρ, n, G, O, _, E0, I, h, fun c n1 h1 G1 O1 H1 I1 s1 => by
    cases c with
    | false =>
      rw [if_neg Bool.false_ne_true] at h1 ⊢
      exact ⟨C, ρ, n1, G1, O1, _, E0, I1, h1, fun b n' hb G' O' H' I' s' => hq b n' hb G' O' H' I' (s1.trans s'), he⟩
    | true =>
      rw [if_pos rfl] at h1 ⊢
      exact hq _ n1 h1 G1 O1 H1 I1 s1, he⟩
theorem vw_and1 (ha : VTt X U a xa) : VW X U (.BoolOp .And [a] pos) xa := pw_and1 ha
theorem vw_or1 (ha : VTt X U a xa) : VW X U (.BoolOp .Or [a] pos) xa := pw_or1 ha
theorem vw_and (ha : VTt X U a xa) (hb : VW X U (.BoolOp .And (b :: rest) pos) xb) : VW X U (.BoolOp .And (a :: b :: rest) pos) (vAnd xa xb) := pw_imp (pw_and ha hb) upB_and
theorem vw_or (ha : VTt X U a xa) (hb : VW X U (.BoolOp .Or (b :: rest) pos) xb) : VW X U (.BoolOp .Or (a :: b :: rest) pos) (vOr xa xb) := pw_imp (pw_or ha hb) upB_or
theorem vt_w (h : VW X U a xa) : VTt X U a xa := h.pt
theorem vt_not (ha : VTt X U a xa) : VTt X U (.UnaryOp .Not a pos) (vNot xa) :=
  pt_imp (pt_not ha) fun σ H Q ⟨C, ρ, n, G, O, Q0, E0, I, h, hq, he⟩ => ⟨C, ρ, n, G, O, _, E0, I, h, fun c n1 h1 G1 O1 H1 I1 s1 => hq _ n1 h1 G1 O1 H1 I1 s1, he⟩
/-- as values -/
def vAndV (ta tb : VT) : VT := fun ρ n Q E => ta ρ n (fun d n1 => isB (fun c => if c = true then tb ρ n1 Q E else Q (.bool false) n1) d) E
def vOrV (ta tb : VT) : VT := fun ρ n Q E => ta ρ n (fun d n1 => isB (fun c => if c = true then Q (.bool true) n1 else tb ρ n1 Q E) d) E
def vNotV (ta : VT) : VT := fun ρ n Q E => ta ρ n (fun d n1 => isB (fun c => Q (.bool (!c)) n1) d) E
theorem ve_one {op} (h : VE X U a ta) : VE X U (.BoolOp op [a] pos) ta := pe_one h
theorem ve_and (ha : VE X U a ta) (hb : VE X U (.BoolOp .And (b :: rest) pos) tb) : VE X U (.BoolOp .And (a :: b :: rest) pos) (vAndV ta tb) :=
  pe_imp (pe_and ha hb) fun σ H Q ⟨C, ρ, n, G, O, Q0, E0, I, h, hq, he⟩ => ⟨C, ρ, n, G, O, _, E0, I, h, fun d n1 h1 v G1 O1 H1 I1 s1 r1 => by
    cases d with
    | bool c =>
      cases r1
      refine ⟨c, rfl, ?_⟩
      cases c with
      | true =>
        rw [if_pos rfl]
        have h1' : tb ρ n1 Q0 E0 := h1
        exact ⟨C, ρ, n1, G1, O1, _, E0, I1, h1', fun d n' hb v G' O' H' I' s' r' => hq d n' hb v G' O' H' I' (s1.trans s') r', he⟩
      | false =>
        rw [if_neg Bool.false_ne_true]
        have h1' : Q0 (.bool false) n1 := h1
        exact hq _ n1 h1' _ G1 O1 H1 I1 s1 (.bl _)
    | _ => exact h1.elim, he⟩
theorem ve_or (ha : VE X U a ta) (hb : VE X U (.BoolOp .Or (b :: rest) pos) tb) : VE X U (.BoolOp .Or (a :: b :: rest) pos) (vOrV ta tb) :=
  pe_imp (pe_or ha hb) fun σ H Q ⟨C, ρ, n, G, O, Q0, E0, I, h, hq, he⟩ => ⟨C, ρ, n, G, O, _, E0, I, h, fun d n1 h1 v G1 O1 H1 I1 s1 r1 => by
    cases d with
    | bool c =>
      cases r1
      refine ⟨c, rfl, ?_⟩
      cases c with
      | false =>
        rw [if_neg Bool.false_ne_true]
        have h1' : tb ρ n1 Q0 E0 := h1
        exact ⟨C, ρ, n1, G1, O1, _, E0, I1, h1', fun d n' hb v G' O' H' I' s' r' => hq d n' hb v G' O' H' I' (s1.trans s') r', he⟩
      | true =>
        rw [if_pos rfl]
        have h1' : Q0 (.bool true) n1 := h1
        exact hq _ n1 h1' _ G1 O1 H1 I1 s1 (.bl _)
    | _ => exact h1.elim, he⟩
theorem ve_not (ha : VE X U a ta) : VE X U (.UnaryOp .Not a pos) (vNotV ta) :=
  pe_imp (pe_not ha) fun σ H Q ⟨C, ρ, n, G, O, Q0, E0, I, h, hq, he⟩ => ⟨C, ρ, n, G, O, _, E0, I, h, fun d n1 h1 v G1 O1 H1 I1 s1 r1 => by
    cases d with
    | bool c => cases r1; exact ⟨c, rfl, hq _ n1 h1 _ G1 O1 H1 I1 s1 (.bl _)⟩
    | _ => exact h1.elim, he⟩
def vIf (t : VB) (ta tb : VT) : VT := fun ρ n Q E => t ρ n (fun c n1 => if c = true then ta ρ n1 Q E else tb ρ n1 Q E) E
theorem ve_if (hc : VTt X U c xa) (ha : VE X U a ta) (hb : VE X U b tb) : VE X U (.IfExp c a b pos) (vIf xa ta tb) :=
  pe_imp (pe_ifExp hc ha hb) fun σ H Q ⟨C, ρ, n, G, O, Q0, E0, I, h, hq, he⟩ => ⟨C, ρ, n, G, O, _, E0, I, h, fun c n1 h1 G1 O1 H1 I1 s1 => by
    cases c with
    | true =>
      rw [if_pos rfl] at h1 ⊢
      exact ⟨C, ρ, n1, G1, O1, _, E0, I1, h1, fun d n' hb v G' O' H' I' s' r' => hq d n' hb v G' O' H' I' (s1.trans s') r', he⟩
    | false =>
      rw [if_neg Bool.false_ne_true] at h1 ⊢
      exact ⟨C, ρ, n1, G1, O1, _, E0, I1, h1, fun d n' hb v G' O' H' I' s' r' => hq d n' hb v G' O' H' I' (s1.trans s') r', he⟩, he⟩
/-! ### argument lists, displays -/
def vNil : VA := fun _ n Q _ => Q [] n
def vCons (ta : VT) (tr : VA) : VA := fun ρ n Q E => ta ρ n (fun d n1 => tr ρ n1 (fun ds n2 => Q (d :: ds) n2) E) E
theorem va_nil : VAa X U [] vNil := pa_imp pa_nil fun σ H Q ⟨C, ρ, n, G, O, Q0, E0, I, h, hq, he⟩ => hq [] n h [] G O H I (Same.refl _) .nil
theorem va_cons (ha : VE X U e ta) (hr : VAa X U es al) (hs : starEach (e :: es) X.env = (false, eval e X.env) :: starEach es X.env := by rfl) : VAa X U (e :: es) (vCons ta al) :=
  pa_imp (pa_cons ha hr hs) fun σ H Q ⟨C, ρ, n, G, O, Q0, E0, I, h, hq, he⟩ => ⟨C, ρ, n, G, O, _, E0, I, h, fun d n1 h1 v G1 O1 H1 I1 s1 r1 => ⟨C, ρ, n1, G1, O1, _, E0, I1, h1, fun ds n2 h2 vs G2 O2 H2 I2 s2 r2 =>
    hq _ n2 h2 _ G2 O2 H2 I2 (s1.trans s2) (.cons (DR.same s2 r1) r2), he⟩, he⟩
def vTup (t : VA) : VT := fun ρ n Q E => t ρ n (fun ds n1 => ds.length ≤ sizeLine ∧ Q (.tuple ds) n1) E
theorem ve_tup {x1} (h : VAa X U es al) : VE X U (.Tuple es x1 pos) (vTup al) :=
  pe_imp (pe_tup h) fun σ H Q ⟨C, ρ, n, G, O, Q0, E0, I, h, hq, he⟩ => ⟨C, ρ, n, G, O, _, E0, I, h, fun ds n1 h1 vs G1 O1 H1 I1 s1 r1 =>
    ⟨by rw [DRs.length r1]; exact h1.1, fun p hp => hq _ n1 h1.2 _ _ _ _ (I1.new hp) (s1.trans (In.newSame I1.toIo hp)) (.tup (SqT.of upd_same) (DRs.same (In.newSame I1.toIo hp) r1))⟩, he⟩
/-- a new list of one's own -/
theorem fresh_new {K : PySem.W.Frag} {C : Ct} {σ : L2.St} {ρ : Nv} {n : Nat} {G O H : Hp} {p : Addr} {xs : List V} {ds : List Dt} (I : In K C σ ρ n G O H) (hp : H p = none) (r : DRs K G xs ds) :
    In K C σ ρ n G (grow O H (L2.upd H p (.lst xs))) (L2.upd H p (.lst xs)) ∧ Fresh C σ ρ K G (grow O H (L2.upd H p (.lst xs))) p ds := by
  refine ⟨I.pure (same_upd hp) (Same.refl _) (I.gH.trans (same_upd hp)) New.refl, xs, In.gfree I.toIo hp, I.h0 p hp, by rw [grow_new hp, upd_same], r, fun j es e z => ?_⟩
  obtain ⟨v, e1, a, ys, e2, _, _, o, _⟩ := I.slot j _ e
  rw [e1] at z
  cases z
  cases e2
  rw [I.oH _ _ o] at hp
  cases hp
def vLst (t : VA) : VA := fun ρ n Q E => t ρ n (fun ds n1 => ds.length ≤ sizeLine ∧ Q ds n1) E
theorem vo_lst (h : VAa X U es al) : VO X U (.List es pos) (vLst al) :=
  pe_imp (pe_lst h) fun σ H Q ⟨C, ρ, n, G, O, Q0, E0, I, h, hq, he⟩ => ⟨C, ρ, n, G, O, _, E0, I, h, fun ds n1 h1 vs G1 O1 H1 I1 s1 r1 =>
    ⟨by rw [DRs.length r1]; exact h1.1, fun p hp => hq _ n1 h1.2 p _ _ _ (fresh_new I1 hp r1).1 s1 (fresh_new I1 hp r1).2⟩, he⟩
/-- a list of one's own, as a datum -/
def vFz (t : VA) : VT := fun ρ n Q E => t ρ n (fun ds n1 => Q (.list ds) n1) E
theorem In.frzFresh {K : PySem.W.Frag} {C : Ct} {σ : L2.St} {ρ : Nv} {n : Nat} {G O H : Hp} {a : Addr} {ds : List Dt} (I : In K C σ ρ n G O H) (f : Fresh C σ ρ K G O a ds) : ∃ G', In K C σ ρ n G' O H ∧ Same G G' ∧ DR K G' (.ref a) (.list ds) := by
  obtain ⟨xs, g, h0, o, r, fr⟩ := f
  have sg : Same G (L2.upd G a (.lst xs)) := same_upd g
  refine ⟨L2.upd G a (.lst xs), ⟨⟨I.good, fun b u e => ?_, I.g0.trans sg, I.o0, I.oh, I.nO, fun b u e => ?_, I.h0⟩, I.len, fun j w e => ?_, I.dis⟩, sg, .lst upd_same (DRs.same sg r)⟩
  · by_cases hb : b = a
    · subst hb; rw [upd_same] at e; cases e; exact o
    · rw [upd_ne hb] at e; exact I.go _ _ e
  · by_cases hb : b = a
    · subst hb; exact .inr h0
    · rw [upd_ne hb] at e; exact I.nG b u e
  · obtain ⟨u, h1, h2⟩ := I.slot j w e
    refine ⟨u, h1, ?_⟩
    cases w with
    | own fs =>
      obtain ⟨b, zs, e1, q1, q2, q3, q4⟩ := h2
      subst e1
      have nb : b ≠ a := fun z => by subst z; exact fr j fs e h1
      exact ⟨b, zs, rfl, by rw [upd_ne nb]; exact q1, q2, q3, DRs.same sg q4⟩
    | dat d => exact DR.same sg h2
    | tok => exact h2
    | scr ns => obtain ⟨b, e1, q⟩ := h2; exact ⟨b, e1, sg.seq q⟩
theorem ve_fz (h : VO X U e al) : VE X U e (vFz al) :=
  pe_imp h fun σ H Q ⟨C, ρ, n, G, O, Q0, E0, I, h, hq, he⟩ => ⟨C, ρ, n, G, O, _, E0, I, h, fun ds n1 h1 a G1 O1 H1 I1 s1 f => by
    obtain ⟨G2, I2, s2, r⟩ := In.frzFresh I1 f
    exact hq _ n1 h1 _ G2 O1 H1 I2 (s1.trans s2) r, he⟩
end
end VL


set_option maxRecDepth 100000
set_option maxHeartbeats 2000000
namespace VL
open PySem PySem.Spec PyProof.Rows L2
/-! ### statements -/
structure VN where
  nx : Nv → Nat → Prop
  rt : W → Nat → Prop
  bk : Nv → Nat → Prop
  ct : Nv → Nat → Prop
  xc : Exc → Nv → Nat → Prop
structure LkS (K : PySem.W.Frag) (U : WX) (C : Ct) (V : VN) (D : Ends) : Prop where
  nx : ∀ ρ' n', V.nx ρ' n' → ∀ σ' G' O' H', In K C σ' ρ' n' G' O' H' → D.nx σ' H'
  rt : ∀ w n', V.rt w n' → ∀ v G' O' H', Io C n' G' O' H' → RelW K C G' O' w v → D.rt v H'
  bk : ∀ ρ' n', V.bk ρ' n' → ∀ σ' G' O' H', In K C σ' ρ' n' G' O' H' → D.bk σ' H'
  ct : ∀ ρ' n', V.ct ρ' n' → ∀ σ' G' O' H', In K C σ' ρ' n' G' O' H' → D.ct σ' H'
  xc : ∀ x ρ' n', V.xc x ρ' n' → ∀ cls d σ' G' O' H', In K C σ' ρ' n' G' O' H' → ExcAt K G' x cls d → U cls d σ' H'
abbrev VST := VN → Nv → Nat → Prop
def upS (K : PySem.W.Frag) (U : WX) (t : VST) : TS := fun D σ H => ∃ (C : Ct) (ρ : Nv) (n : Nat) (G O : Hp) (V : VN), In K C σ ρ n G O H ∧ t V ρ n ∧ LkS K U C V D
abbrev VS (X : Cx) (U : WX) (st : Stmt) (t : VST) : Prop := PS X st (upS X.K U t)
abbrev VSs (X : Cx) (U : WX) (st : List Stmt) (t : VST) : Prop := PSs X st (upS X.K U t)
theorem LkS.lkx {K : PySem.W.Frag} {U : WX} {C : Ct} {V : VN} {D : Ends} (L : LkS K U C V D) (σ : L2.St) (ρ : Nv) : LkX K U C σ ρ (fun x n' => V.xc x ρ n') := fun x n' h cls d G' O' H' I r => L.xc x ρ n' h cls d σ G' O' H' I r
section
variable {X : Cx} {U : WX} {e : Expr} {pos : Pos} {te : VT} {al : VA} {st : Stmt} {sts rest : List Stmt} {t u : VST} {xb : VB}
def vSeq (t u : VST) : VST := fun V ρ n => t { V with nx := u V } ρ n
def vNext : VST := fun V ρ n => V.nx ρ n
theorem vs_nil : VSs X U [] vNext := pss_imp pss_nil fun D σ H ⟨C, ρ, n, G, O, V, I, h, L⟩ => L.nx ρ n h σ G O H I
theorem vs_cons (h1 : VS X U st t) (h2 : VSs X U rest u) : VSs X U (st :: rest) (vSeq t u) := pss_imp (pss_cons h1 h2) fun D σ H ⟨C, ρ, n, G, O, V, I, h, L⟩ =>
  ⟨C, ρ, n, G, O, { V with nx := u V }, I, h, ⟨fun ρ' n' q σ' G' O' H' I' => ⟨C, ρ', n', G', O', V, I', q, L⟩, L.rt, L.bk, L.ct, L.xc⟩⟩
theorem vs_one (h1 : VS X U st t) : VSs X U [st] t := pss_one h1
theorem vs_pass : VS X U (.Pass pos) vNext := ps_imp ps_pass fun D σ H ⟨C, ρ, n, G, O, V, I, h, L⟩ => L.nx ρ n h σ G O H I
def vBreak : VST := fun V ρ n => V.bk ρ n
def vCont : VST := fun V ρ n => V.ct ρ n
theorem vs_break : VS X U (.Break pos) vBreak := ps_imp ps_break fun D σ H ⟨C, ρ, n, G, O, V, I, h, L⟩ => L.bk ρ n h σ G O H I
theorem vs_cont : VS X U (.Continue pos) vCont := ps_imp ps_continue fun D σ H ⟨C, ρ, n, G, O, V, I, h, L⟩ => L.ct ρ n h σ G O H I
def vNever : VST := fun _ _ _ => False
theorem vs_never : VS X U st vNever := ps_imp ps_never fun D σ H ⟨C, ρ, n, G, O, V, I, h, L⟩ => h.elim
def vDrop (te : VT) : VST := fun V ρ n => te ρ n (fun _ n' => V.nx ρ n') fun x n' => V.xc x ρ n'
theorem vs_expr (he : VE X U e te) (hs : swapsWith e none pos.line X.env = pure false := by rfl) : VS X U (.Expr e pos) (vDrop te) := ps_imp (ps_expr he hs) fun D σ H ⟨C, ρ, n, G, O, V, I, h, L⟩ =>
  ⟨C, ρ, n, G, O, _, _, I, h, fun d n' q v G' O' H' I' _ _ => L.nx ρ n' q σ G' O' H' I', L.lkx σ ρ⟩
def vRet (te : VT) : VST := fun V ρ n => te ρ n (fun d n' => V.rt (.dat d) n') fun x n' => V.xc x ρ n'
theorem vs_ret (he : VE X U e te) : VS X U (.Return (some e) pos) (vRet te) := ps_imp (ps_ret he) fun D σ H ⟨C, ρ, n, G, O, V, I, h, L⟩ =>
  ⟨C, ρ, n, G, O, _, _, I, h, fun d n' q v G' O' H' I' _ r => L.rt _ n' q v G' O' H' I'.toIo r, L.lkx σ ρ⟩
def vRetO (te : VA) : VST := fun V ρ n => te ρ n (fun ds n' => V.rt (.own ds) n') fun x n' => V.xc x ρ n'
theorem vs_retO (he : VO X U e al) : VS X U (.Return (some e) pos) (vRetO al) := ps_imp (ps_ret he) fun D σ H ⟨C, ρ, n, G, O, V, I, h, L⟩ =>
  ⟨C, ρ, n, G, O, _, _, I, h, fun ds n' q a G' O' H' I' _ ⟨xs, g, h0, o, r, _⟩ => L.rt _ n' q _ G' O' H' I'.toIo ⟨a, xs, rfl, g, h0, o, r⟩, L.lkx σ ρ⟩
/-- return x, x a list of one's own -/
def vRetV (i : Nat) : VST := fun V ρ n => match ρ[i]? with
  | some (some (.own ds)) => V.rt (.own ds) n
  | _ => False
theorem vs_retV (i : Nat) {x : Str} {pos' : Pos} (hN : X.N[i]? = some x := by rfl) (hv : Vis X.env.scope x := by first | exact Or.inl rfl | exact Or.inr (Or.inl rfl) | exact Or.inr (Or.inr rfl)) (hd : (x == ("__debug__" : Str)) = false := by decide)
    (hcd : (x == ("__classdict__" : Str)) = false := by decide) : VS X U (.Return (some (.Name x pos')) pos) (vRetV i) := ps_imp (ps_ret (pe_var hN hv hd hcd)) fun D σ H ⟨C, ρ, n, G, O, V, I, h, L⟩ => by
  unfold vRetV at h
  split at h
  · next ds e =>
    obtain ⟨v, e1, r⟩ := I.slot i _ e
    exact ⟨v, e1, L.rt _ n h v G O H I.toIo r⟩
  · exact h.elim
def vRetN : VST := fun V _ n => V.rt (.dat .none) n
theorem vs_retN : VS X U (.Return none pos) vRetN := ps_imp ps_retN fun D σ H ⟨C, ρ, n, G, O, V, I, h, L⟩ => L.rt _ n h .non G O H I.toIo .non
def vIfS (c : VB) (t u : VST) : VST := fun V ρ n => c ρ n (fun b n' => if b = true then t V ρ n' else u V ρ n') fun x n' => V.xc x ρ n'
theorem vs_if {c : Expr} {a b : List Stmt} (hc : VTt X U c xb) (ha : VSs X U a t) (hb : VSs X U b u) : VS X U (.If c a b pos) (vIfS xb t u) := ps_imp (ps_if hc ha hb) fun D σ H ⟨C, ρ, n, G, O, V, I, h, L⟩ =>
  ⟨C, ρ, n, G, O, _, _, I, h, fun b n' q G' O' H' I' _ => by
    cases b with
    | true => rw [if_pos rfl] at q ⊢; exact ⟨C, ρ, n', G', O', V, I', q, L⟩
    | false => rw [if_neg Bool.false_ne_true] at q ⊢; exact ⟨C, ρ, n', G', O', V, I', q, L⟩, L.lkx σ ρ⟩
/-! ### names that are given values -/
def vSet (i : Nat) (te : VT) : VST := fun V ρ n => te ρ n (fun d n' => V.nx (ρ.set i (some (.dat d))) n') fun x n' => V.xc x ρ n'
theorem vs_set {i : Nat} {x : Str} {pos' : Pos} (hN : X.N.Nodup) (hi : X.N[i]? = some x) (hx : Loc X.env.scope x) (he : VE X U e te) (hs : swapsWith e (some (.Name x pos')) pos.line X.env = pure false := by rfl) (hf : X.fn x = true ∨ X.env.scope.names.lookup x = some .local := by first | exact .inl rfl | exact .inr rfl | assumption) :
    VS X U (.Assign [.Name x pos'] e pos) (vSet i te) := ps_imp (ps_set hN hi hx he hs hf) fun D σ H ⟨C, ρ, n, G, O, V, I, h, L⟩ =>
  ⟨C, ρ, n, G, O, _, _, I, h, fun d n' q v G' O' H' I' _ r => L.nx _ n' q _ G' O' H' (I'.set i r), L.lkx σ ρ⟩
def vSetO (i : Nat) (te : VA) : VST := fun V ρ n => te ρ n (fun ds n' => V.nx (ρ.set i (some (.own ds))) n') fun x n' => V.xc x ρ n'
theorem vs_setO {i : Nat} {x : Str} {pos' : Pos} (hN : X.N.Nodup) (hi : X.N[i]? = some x) (hx : Loc X.env.scope x) (he : VO X U e al) (hs : swapsWith e (some (.Name x pos')) pos.line X.env = pure false := by rfl) (hf : X.fn x = true ∨ X.env.scope.names.lookup x = some .local := by first | exact .inl rfl | exact .inr rfl | assumption) :
    VS X U (.Assign [.Name x pos'] e pos) (vSetO i al) := ps_imp (ps_set hN hi hx he hs hf) fun D σ H ⟨C, ρ, n, G, O, V, I, h, L⟩ =>
  ⟨C, ρ, n, G, O, _, _, I, h, fun ds n' q a G' O' H' I' _ ⟨xs, g, h0, o, r, fr⟩ => L.nx _ n' q _ G' O' H' (I'.setOwn i g h0 o r fr), L.lkx σ ρ⟩
/-- one's own list becomes a datum ahead of a statement -/
def vFrz (i : Nat) (t : VST) : VST := fun V ρ n => match ρ[i]? with
  | some (some (.own ds)) => t V (ρ.set i (some (.dat (.list ds)))) n
  | _ => False
theorem vs_frz (i : Nat) (h : VS X U st t) : VS X U st (vFrz i t) := ps_imp h fun D σ H ⟨C, ρ, n, G, O, V, I, h, L⟩ => by
  unfold vFrz at h
  split at h
  · next ds e =>
    obtain ⟨G', _, I'⟩ := I.frz e
    exact ⟨C, _, n, G', O, V, I', h, L⟩
  · exact h.elim
/-! ### targets -/
abbrev VGt := Dt → Nv → (Nv → Prop) → Prop
def upG (K : PySem.W.Frag) (g : VGt) : TG := fun v σ H Q => ∃ (C : Ct) (ρ : Nv) (n : Nat) (G O : Hp) (d : Dt) (Q0 : Nv → Prop), In K C σ ρ n G O H ∧ DR K G v d ∧ g d ρ Q0 ∧ ∀ ρ', Q0 ρ' → ∀ σ', In K C σ' ρ' n G O H → Q σ' H
abbrev VGs := List Dt → Nv → (Nv → Prop) → Prop
def upGs (K : PySem.W.Frag) (g : VGs) : TGs := fun vs σ H Q => ∃ (C : Ct) (ρ : Nv) (n : Nat) (G O : Hp) (ds : List Dt) (Q0 : Nv → Prop), In K C σ ρ n G O H ∧ DRs K G vs ds ∧ g ds ρ Q0 ∧ ∀ ρ', Q0 ρ' → ∀ σ', In K C σ' ρ' n G O H → Q σ' H
theorem pg_imp {e : Expr} {t t' : TG} (h : PG X e t) (w : ∀ v σ H Q, t' v σ H Q → t v σ H Q) : PG X e t' := ⟨fun pins s σ H v u Q I r q => h.run pins s σ H v u Q I r (w _ _ _ _ q)⟩
theorem pgs_imp {e : List Expr} {t t' : TGs} (h : PGs X e t) (w : ∀ v σ H Q, t' v σ H Q → t v σ H Q) : PGs X e t' := ⟨fun pins s σ H v u Q I r q => h.run pins s σ H v u Q I r (w _ _ _ _ q)⟩
def gN (i : Nat) : VGt := fun d ρ Q => Q (ρ.set i (some (.dat d)))
theorem vg_name {i : Nat} {x : Str} (hN : X.N.Nodup) (hi : X.N[i]? = some x) (hx : Loc X.env.scope x) (hf : X.fn x = true ∨ X.env.scope.names.lookup x = some .local := by first | exact .inl rfl | exact .inr rfl | assumption) : PG X (.Name x pos) (upG X.K (gN i)) :=
  pg_imp (pg_name hN hi hx hf) fun v σ H Q ⟨C, ρ, n, G, O, d, Q0, I, r, h, hq⟩ => hq _ h _ (I.set i r)
def gsN : VGs := fun ds ρ Q => match ds with
  | [] => Q ρ
  | _ => False
def gsC (g : VGt) (r : VGs) : VGs := fun ds ρ Q => match ds with
  | d :: ds => g d ρ fun ρ1 => r ds ρ1 Q
  | [] => False
theorem vgs_nil : PGs X [] (upGs X.K gsN) := pgs_imp pgs_nil fun vs σ H Q ⟨C, ρ, n, G, O, ds, Q0, I, r, h, hq⟩ => by
  cases ds with
  | nil => cases r; exact ⟨rfl, hq _ h _ I⟩
  | cons d ds => exact h.elim
theorem vgs_cons {e : Expr} {es : List Expr} {g : VGt} {r : VGs} (h1 : PG X e (upG X.K g)) (h2 : PGs X es (upGs X.K r)) (hs : (assignEach (e :: es) X.env).map (·.2) = assign e X.env :: (assignEach es X.env).map (·.2) := by rfl) : PGs X (e :: es) (upGs X.K (gsC g r)) :=
  pgs_imp (pgs_cons h1 h2 hs) fun vs σ H Q ⟨C, ρ, n, G, O, ds, Q0, I, r, h, hq⟩ => by
  cases ds with
  | nil => exact h.elim
  | cons d ds =>
    cases r with
    | cons r1 r2 => exact ⟨_, _, rfl, C, ρ, n, G, O, d, _, I, r1, h, fun ρ1 h1 σ1 I1 => ⟨C, ρ1, n, G, O, ds, Q0, I1, r2, h1, hq⟩⟩
def gT (k : Nat) (r : VGs) : VGt := fun d ρ Q => match d with
  | .tuple ds => ds.length = k ∧ r ds ρ Q
  | _ => False
theorem vg_tup {es : List Expr} {k : Nat} {r : VGs} {n : Nat} (hc : X.calm = true) (h : PGs X es (upGs X.K r)) (hn : (assignEach es X.env).length = n := by rfl) (hst : (assignEach es X.env).findIdx? (·.1) = none := by rfl) : PG X (.Tuple es k pos) (upG X.K (gT n r)) :=
  pg_imp (pg_tup hc h hn hst) fun v σ H Q ⟨C, ρ, m, G, O, d, Q0, I, r, h, hq⟩ => by
  cases d with
  | tuple ds =>
    cases r with
    | tup a r => exact ⟨_, _, rfl, sameT I.gH a, by rw [DRs.length r]; exact h.1, C, ρ, m, G, O, ds, Q0, I, r, h.2, hq⟩
  | _ => exact h.elim
def vAsg (te : VT) (g : VGt) : VST := fun V ρ n => te ρ n (fun d n' => g d ρ fun ρ' => V.nx ρ' n') fun x n' => V.xc x ρ n'
theorem vs_asg {tg : Expr} {g : VGt} (he : VE X U e te) (hg : PG X tg (upG X.K g)) (hs : swapsWithSole [tg] e pos.line X.env = pure false := by rfl) (hw : swappedStores [tg] e X.env = pure none := by rfl)
    (h1 : (assignEach [tg] X.env).map (·.2) = [assign tg X.env] := by rfl) : VS X U (.Assign [tg] e pos) (vAsg te g) := ps_imp (ps_asg he hg hs hw h1) fun D σ H ⟨C, ρ, n, G, O, V, I, h, L⟩ =>
  ⟨C, ρ, n, G, O, _, _, I, h, fun d n' q v G' O' H' I' _ r => ⟨C, ρ, n', G', O', d, _, I', r, q, fun ρ' q' σ' I'' => L.nx _ n' q' _ G' O' H' I''⟩, L.lkx σ ρ⟩
def vPar (i j : Nat) (al : VA) : VST := fun V ρ n => al ρ n (fun ds n' => match ds with
  | [d1, d2] => V.nx ((ρ.set i (some (.dat d1))).set j (some (.dat d2))) n'
  | _ => False) fun x n' => V.xc x ρ n'
theorem vs_par {i j : Nat} {x y : Str} {a b : Expr} {px py pt : Pos} {kt k2 pt2} (hc : X.calm = true) (hN : X.N.Nodup) (hi : X.N[i]? = some x) (hj : X.N[j]? = some y) (hij : i ≠ j)
    (hx : X.env.scope.names.lookup x = some .local) (hy : X.env.scope.names.lookup y = some .local) (ha : VAa X U [a, b] al)
    (hw : swappedStores [.Tuple [.Name x px, .Name y py] kt pt] (.Tuple [a, b] k2 pt2) X.env = pure (some [x, y]))
    (hs : swapsWithSole [.Tuple [.Name x px, .Name y py] kt pt] (.Tuple [a, b] k2 pt2) pos.line X.env = pure false := by rfl) :
    VS X U (.Assign [.Tuple [.Name x px, .Name y py] kt pt] (.Tuple [a, b] k2 pt2) pos) (vPar i j al) := ps_imp (ps_par hc hN hi hj hij hx hy ha hw hs) fun D σ H ⟨C, ρ, n, G, O, V, I, h, L⟩ =>
  ⟨C, ρ, n, G, O, _, _, I, h, fun ds n' q vs G' O' H' I' _ r => by
    match ds, r, q with
    | [d1, d2], .cons r1 (.cons r2 .nil), q => exact ⟨_, _, rfl, L.nx _ n' q _ G' O' H' ((I'.set i r1).set j r2)⟩, L.lkx σ ρ⟩
def vAug (i : Nat) (r : R2D) (te : VT) : VST := fun V ρ n => match ρ[i]? with
  | some (some (.dat d0)) => te ρ n (fun d n' => r d0 d fun d' => V.nx (ρ.set i (some (.dat d'))) n') fun x n' => V.xc x ρ n'
  | _ => False
theorem vs_aug {i : Nat} {x : Str} {op : Operator} {r : R2D} {pos' : Pos} (hN : X.N.Nodup) (hi : X.N[i]? = some x) (hx : Loc X.env.scope x) (he : VE X U e te) (ho : VOp X (inplaceOp op) r) (hf : X.fn x = true ∨ X.env.scope.names.lookup x = some .local := by first | exact .inl rfl | exact .inr rfl | assumption) :
    VS X U (.AugAssign (.Name x pos') op e pos) (vAug i r te) := ps_imp (ps_aug hN hi hx he ho hf) fun D σ H ⟨C, ρ, n, G, O, V, I, h, L⟩ => by
  unfold vAug at h
  split at h
  · next d0 e0 =>
    obtain ⟨v0, e1, r0⟩ := I.slot i _ e0
    exact ⟨v0, e1, C, ρ, n, G, O, _, _, I, h, fun d n' q v G' O' H' I' s' rd => ⟨G', d0, d, _, I'.gH, DR.same s' r0, rd, q, fun d' q' v' G2 H2 sh sg sgh nw rd' => L.nx _ n' q' _ G2 _ H2 ((I'.pure sh sg sgh nw).set i rd')⟩, L.lkx σ ρ⟩
  · exact h.elim
/-- xs.append(e), xs a list of one's own -/
def vAppend (i : Nat) (te : VT) : VST := fun V ρ n => match ρ[i]? with
  | some (some (.own ds)) => te ρ n (fun d n' => ds.length < sizeLine ∧ V.nx (ρ.set i (some (.own (ds ++ [d])))) n') fun x n' => V.xc x ρ n'
  | _ => False
theorem vs_append {i : Nat} (h : PE X e (tBM X.K "list" rAppend (tVar i) (tCons (up X.K U te) tNil))) (hs : swapsWith e none pos.line X.env = pure false := by rfl) :
    VS X U (.Expr e pos) (vAppend i te) := ps_imp (ps_expr h hs) fun D σ H ⟨C, ρ, n, G, O, V, I, h, L⟩ => by
  unfold vAppend at h
  split at h
  · next ds e0 =>
    obtain ⟨v, e1, a, xs, rfl, g, h0, o, r⟩ := I.slot i _ e0
    refine ⟨_, e1, .inl ⟨rfl, _, SqL.of (I.oH _ _ o)⟩, C, ρ, n, G, O, _, _, I, h, fun d n' q v G' O' H' I' s' rd => ?_, L.lkx σ ρ⟩
    obtain ⟨v', e1', a', xs', ev, g', h0', o', r'⟩ := I'.slot i _ e0
    rw [e1] at e1'
    cases e1'
    cases ev
    exact ⟨a, xs', v, rfl, rfl, I'.oH _ _ o', by rw [DRs.length r']; exact q.1, L.nx _ n' q.2 _ G' _ _ (I'.mut e0 e1 g' h0' o' (DRs.append r' (.cons rd .nil)))⟩
  · exact h.elim
end
/-! ### defs -/
structure FnG (P : Program) (w : World) (K : PySem.W.Frag) (mg : Str → Option Value) (base : Heap) (k : Nat) (f : Addr) (fd : FuncData) (ps : List Str) (sp : Sp) : Prop where
  len : ∀ vs H Q E, sp vs H Q E → vs.length = ps.length
  run : ∀ (A : Around) (outer : List PySem.Env) (s : Shared) (H : Hp) (args : Args) (us : List Value) (vs : List V) (Q : VK) (E : XK), A.guards = some [] → Room k A → Env0 P w K mg base A outer s H → BindsTo s fd args (ps.zip us) → Vals vs us → sp vs H Q E →
    codeAny (model P w) A (.call (.ref f) args) (CR (L2.CX P w) outer P w H s Q E) s
theorem FnG.mono {P : Program} {w : World} {K : PySem.W.Frag} {mg : Str → Option Value} {base : Heap} {j k : Nat} {f : Addr} {fd : FuncData} {ps : List Str} {sp : Sp} (F : FnG P w K mg base j f fd ps sp) (h : j ≤ k) : FnG P w K mg base k f fd ps sp :=
  ⟨F.len, fun A outer s H args us vs Q E hg hr => F.run A outer s H args us vs Q E hg (hr.mono h)⟩
theorem FnG.imp {P : Program} {w : World} {K : PySem.W.Frag} {mg : Str → Option Value} {base : Heap} {k : Nat} {f : Addr} {fd : FuncData} {ps : List Str} {sp sp' : Sp} (F : FnG P w K mg base k f fd ps sp) (h : ∀ vs H Q E, sp' vs H Q E → sp vs H Q E) : FnG P w K mg base k f fd ps sp' :=
  ⟨fun vs H Q E q => F.len vs H Q E (h _ _ _ _ q), fun A outer s H args us vs Q E hg hr he hb hv hs => F.run A outer s H args us vs Q E hg hr he hb hv (h _ _ _ _ hs)⟩
/-- a def by its body; nothing that is being shown (repr) is under way -/
theorem fnG_of {P : Program} {w : World} {K : PySem.W.Frag} {mg : Str → Option Value} {base : Heap} {k : Nat} {x qual : Str} {params : Arguments} {body : List Stmt} {scope : Scope} {dvs : List V} {kws : List (Str × V)} {f : Addr} {fd : FuncData} {N ps : List Str} {sp : Sp}
    (F : FunD K x qual params body scope dvs kws f fd) (S : FnScope N ps scope) (len : ∀ vs H Q E, sp vs H Q E → vs.length = ps.length)
    (hb : ∀ (cdv : Value) (A : Around) (outer : List PySem.Env) (s : Shared) (H : Hp) (vs : List V) (Q : VK) (E : XK), A.guards = some [] → Room k (A.deeper (envOfC qual scope s.heap.objs.size f cdv)) → sp vs H Q E →
      ∃ t, PSs (cxOf (L2.CX P w) P w K mg base N qual scope f cdv A outer s H E) body t ∧ t { nx := fun _ H' => Q .non H', rt := Q } (start N vs) H) : FnG P w K mg base (k + 1) f fd ps sp := by
  obtain ⟨oc, od, dV, kV, doc, pm, an, cdv, ct, osl, rfl, lk, hcd, _, _⟩ := F.ex
  constructor
  · exact len
  intro A outer s H args us vs Q E hg hr e0 hbd rv hsp
  have hk : ∀ b o, base.get? b = some o → s.heap.get? b = some o := fun b o e => (e0.bs b o e).1
  have KI : K.In s.heap := e0.mod.kin.keeps hk
  have nl : s.heap.NoLimit := e0.mod.nolimit.keeps hk
  have kinds : ∀ y ∈ ps.zip us, scope.names.lookup y.1 = some .local ∨ (scope.names.lookup y.1 = some .cell ∧ ((cellsFrom (s.heap.objs.size + 1) scope.names []).lookup y.1).isSome = true) := by
    rintro ⟨nm, val⟩ hy
    rcases S.par nm (List.of_mem_zip hy).1 with q | q
    · exact Or.inl q
    · exact Or.inr ⟨q, PySem.W.cellsFrom_some _ _ _ (Or.inl q)⟩
  refine codeAny_call_function hr.depth (KI _ _ lk) rfl S.co S.gen rfl (PySem.W.codeRec_of KI hcd) (hbd _ _ _ _ ?_)
  refine wpAny_newFunctionEnv_cells S.kind kinds fun env he s1 ic => ?_
  subst he
  refine ⟨nl.keeps ic.toInCall.keep, codeAny_func ?_⟩
  obtain ⟨t, ht, hq⟩ := hb cdv A outer s H vs Q E hg (hr.deeper _) hsp
  have I0 := inv_start (CX := L2.CX P w) (E := E) S hr.hd e0 (len _ _ _ _ hsp) rv ic
  refine wpAny_mono (ht.run [] s1 (start N vs) H _ I0 hq) (fun fl s' hs => ?_) fun e s' hs => hs
  cases fl with
  | ret u =>
    obtain ⟨v, σ', H', J, r1, q⟩ := hs
    exact ⟨v, H', J.os, J.bare, J.base, J.hok, r1, q⟩
  | next =>
    obtain ⟨σ', H', J, q⟩ := hs
    exact ⟨V.non, H', J.os, J.bare, J.base, J.hok, rfl, q⟩
  | brk => obtain ⟨_, _, _, q⟩ := hs; exact False.elim q
  | cont => obtain ⟨_, _, _, q⟩ := hs; exact False.elim q
/-! ### what a def does to values -/
abbrev VFn := List W → Nat → (W → Nat → Prop) → XW → Prop
def RelWs (K : PySem.W.Frag) (C : Ct) (G O : Hp) : List W → List V → Prop
  | [], [] => True
  | w :: ws, v :: vs => RelW K C G O w v ∧ RelWs K C G O ws vs
  | _, _ => False
theorem RelWs.length {K : PySem.W.Frag} {C : Ct} {G O : Hp} : ∀ {ws : List W} {vs : List V}, RelWs K C G O ws vs → vs.length = ws.length
  | [], [], _ => rfl
  | _ :: _, _ :: _, h => by simp [RelWs.length h.2]
  | [], _ :: _, h => h.elim
  | _ :: _, [], h => h.elim
theorem RelWs.get {K : PySem.W.Frag} {C : Ct} {G O : Hp} : ∀ {ws : List W} {vs : List V} {i : Nat} {w : W}, RelWs K C G O ws vs → ws[i]? = some w → ∃ v, vs[i]? = some v ∧ RelW K C G O w v
  | [], _, _, _, _, e => by simp at e
  | _ :: _, [], _, _, h, _ => h.elim
  | w :: ws, v :: vs, 0, _, h, e => by simp at e; subst e; exact ⟨v, rfl, h.1⟩
  | w :: ws, v :: vs, i + 1, _, h, e => by
    obtain ⟨u, h1, h2⟩ := RelWs.get (i := i) h.2 (by simpa using e)
    exact ⟨u, by simpa using h1, h2⟩
def lift (K : PySem.W.Frag) (c : VFn) : Sp := fun vs H Q E => ∃ (C : Ct) (n : Nat) (ws : List W) (Q0 : W → Nat → Prop) (E0 : XW), C.H0 = H ∧ Io C n C.G0 C.O0 H ∧ RelWs K C C.G0 C.O0 ws vs ∧ c ws n Q0 E0 ∧
  (∀ w n', Q0 w n' → ∀ v G' O' H', Io C n' G' O' H' → RelW K C G' O' w v → Q v H') ∧ (∀ x n', E0 x n' → ∀ cls d G' O' H', Io C n' G' O' H' → ExcAt K G' x cls d → E cls d H')
def startE (m : Nat) (ws : List W) : Nv := ws.map some ++ List.replicate (m - ws.length) none
def bodyV (m k : Nat) (t : VST) : VFn := fun ws n Q E => ws.length = k ∧ t ⟨fun _ n' => Q (.dat .none) n', Q, fun _ _ => False, fun _ _ => False, fun x _ n' => E x n'⟩ (startE m ws) n
theorem in_start {K : PySem.W.Frag} {C : Ct} {n : Nat} {N : List Str} {ws : List W} {vs : List V} (h : Io C n C.G0 C.O0 C.H0) (r : RelWs K C C.G0 C.O0 ws vs) : In K C (start N vs) (startE N.length ws) n C.G0 C.O0 C.H0 := by
  have el := r.length
  have own : ∀ {i : Nat} {ds : List Dt}, (startE N.length ws)[i]? = some (some (.own ds)) → False := fun {i ds} e => by
    unfold startE at e
    by_cases hi : i < ws.length
    · rw [List.getElem?_append_left (by simpa using hi), List.getElem?_map] at e
      cases q : ws[i]? with
      | none => rw [q] at e; cases e
      | some w =>
        rw [q] at e
        cases e
        obtain ⟨v, _, a, xs, _, _, h0, o, _⟩ := r.get q
        rw [h.oH _ _ o] at h0
        cases h0
    · rw [List.getElem?_append_right (by simpa using hi), List.getElem?_replicate] at e
      split at e <;> cases e
  refine ⟨h, ?_, fun i w e => ?_, fun i j ds es a _ e1 _ _ _ => (own e1).elim⟩
  · unfold L2.start startE; simp [el]
  · unfold startE at e
    by_cases hi : i < ws.length
    · rw [List.getElem?_append_left (by simpa using hi), List.getElem?_map] at e
      cases q : ws[i]? with
      | none => rw [q] at e; cases e
      | some w' =>
        rw [q] at e
        cases e
        obtain ⟨v, hv, rw'⟩ := r.get q
        refine ⟨v, ?_, rw'⟩
        unfold L2.start
        rw [List.getElem?_append_left (by rw [List.length_map, el]; exact hi), List.getElem?_map, hv]
        rfl
    · rw [List.getElem?_append_right (by simpa using hi), List.getElem?_replicate] at e
      split at e <;> cases e
/-- THE RULE: a def's body gives what the def does to values -/
theorem fnV {P : Program} {w : World} {K : PySem.W.Frag} {mg : Str → Option Value} {base : Heap} {k : Nat} {x qual : Str} {params : Arguments} {body : List Stmt} {scope : Scope} {dvs : List V} {kws : List (Str × V)} {f : Addr} {fd : FuncData} {N ps : List Str} {t : VST}
    (F : FunD K x qual params body scope dvs kws f fd) (S : FnScope N ps scope)
    (hb : ∀ (cdv : Value) (A : Around) (outer : List PySem.Env) (s : Shared) (H : Hp) (E : XK), A.guards = some [] → Room k (A.deeper (envOfC qual scope s.heap.objs.size f cdv)) →
      VSs (cxOf (L2.CX P w) P w K mg base N qual scope f cdv A outer s H E) (fun cls d _ H' => E cls d H') body t) : FnG P w K mg base (k + 1) f fd ps (lift K (bodyV N.length ps.length t)) := by
  refine fnG_of F S (fun vs H Q E h => ?_) (fun cdv A outer s H vs Q E hg hr h => ⟨_, hb cdv A outer s H E hg hr, ?_⟩)
  · obtain ⟨C, n, ws, Q0, E0, e0, io, r, h, _⟩ := h
    rw [r.length, h.1]
  · obtain ⟨C, n, ws, Q0, E0, e0, io, r, h, hq, he⟩ := h
    subst e0
    refine ⟨C, _, n, C.G0, C.O0, _, in_start io r, h.2, ⟨fun ρ' n' q σ' G' O' H' I' => hq _ n' q .non G' O' H' I'.toIo .non, hq, fun _ _ q => q.elim, fun _ _ q => q.elim, fun x ρ' n' q cls d σ' G' O' H' I' r' => he x n' q cls d G' O' H' I'.toIo r'⟩⟩
/-- another promise that says no more -/
theorem FnG.weak {P : Program} {w : World} {K : PySem.W.Frag} {mg : Str → Option Value} {base : Heap} {k : Nat} {f : Addr} {fd : FuncData} {ps : List Str} {c c' : VFn} (F : FnG P w K mg base k f fd ps (lift K c)) (h : ∀ ws n Q E, c' ws n Q E → c ws n Q E) : FnG P w K mg base k f fd ps (lift K c') :=
  F.imp fun vs H Q E ⟨C, n, ws, Q0, E0, e0, io, r, q, hq, he⟩ => ⟨C, n, ws, Q0, E0, e0, io, r, h _ _ _ _ q, hq, he⟩
/-! ### calls -/
theorem In.call {K : PySem.W.Frag} {C : Ct} {σ : L2.St} {ρ : Nv} {n n' : Nat} {G O H G' O' H' : Hp} (I : In K C σ ρ n G O H) (J : Io ⟨C.mo, G, O, H⟩ n' G' O' H') : In K C σ ρ n' G' O' H' := by
  have nw : ∀ a o, O a = some o → G a = none → G' a = none := fun a o e g => by
    cases z : G' a with
    | none => rfl
    | some u =>
      rcases J.nG a u z with y | y
      · have y' : G a = some u := y
        rw [g] at y'; cases y'
      · have y' : H a = none := y
        rw [I.oH _ _ e] at y'; cases y'
  refine ⟨⟨J.good, J.go, I.g0.trans J.g0, I.o0.trans J.o0, I.oh, fun a o e => ?_, fun a o e => ?_, fun a e => I.h0 a (J.h0 a e)⟩, I.len, fun i w e => ?_, I.dis⟩
  · rcases J.nO a o e with q | q
    · exact I.nO a o q
    · exact .inr (I.h0 a q)
  · rcases J.nG a o e with q | q
    · exact I.nG a o q
    · exact .inr (I.h0 a q)
  · obtain ⟨v, e1, r⟩ := I.slot i w e
    exact ⟨v, e1, r.same J.g0 fun a xs q g => ⟨J.o0 _ _ q, nw a _ q g⟩⟩
/-- arguments: data, the machine, the script -/
abbrev VAW := Nv → Nat → (List W → Nat → Prop) → XW → Prop
def RWs (K : PySem.W.Frag) (C : Ct) (G : Hp) : List W → List V → Prop
  | [], [] => True
  | w :: ws, v :: vs => (match w with | .dat d => DR K G v d | .own _ => False | .tok => ∃ m, C.mo = some m ∧ v = .ref m | .scr ns => ∃ a, v = .ref a ∧ SqL K G a (ns.map V.int)) ∧ RWs K C G ws vs
  | _, _ => False
theorem RWs.same {K : PySem.W.Frag} {C : Ct} {G G' : Hp} (s : Same G G') : ∀ {ws : List W} {vs : List V}, RWs K C G ws vs → RWs K C G' ws vs
  | [], [], _ => trivial
  | [], _ :: _, h => h.elim
  | _ :: _, [], h => h.elim
  | w :: ws, v :: vs, h => by
    refine ⟨?_, RWs.same s h.2⟩
    cases w with
    | dat d => exact DR.same s h.1
    | own ds => exact h.1.elim
    | tok => exact h.1
    | scr ns => obtain ⟨a, e, q⟩ := h.1; exact ⟨a, e, s.seq q⟩
theorem RWs.rel {K : PySem.W.Frag} {C C' : Ct} {G O : Hp} (hm : C'.mo = C.mo) : ∀ {ws : List W} {vs : List V}, RWs K C G ws vs → RelWs K C' G O ws vs
  | [], [], _ => trivial
  | [], _ :: _, h => h.elim
  | _ :: _, [], h => h.elim
  | w :: ws, v :: vs, h => by
    refine ⟨?_, RWs.rel hm h.2⟩
    cases w with
    | dat d => exact h.1
    | own ds => exact h.1.elim
    | tok => obtain ⟨m, e, q⟩ := h.1; exact ⟨m, hm.trans e, q⟩
    | scr ns => exact h.1
def upW (K : PySem.W.Frag) (U : WX) (t : VAW) : TA := fun σ H Q => ∃ (C : Ct) (ρ : Nv) (n : Nat) (G O : Hp) (Q0 : List W → Nat → Prop) (E0 : XW), In K C σ ρ n G O H ∧ t ρ n Q0 E0 ∧
  (∀ ws n', Q0 ws n' → ∀ vs G' O' H', In K C σ ρ n' G' O' H' → Same G G' → RWs K C G' ws vs → Q vs H') ∧ LkX K U C σ ρ E0
abbrev VAg (X : Cx) (U : WX) (es : List Expr) (t : VAW) : Prop := PA X es (upW X.K U t)
section
variable {X : Cx} {U : WX} {e : Expr} {es : List Expr} {pos p : Pos} {te : VT} {al : VAW} {x : Str} {k : Nat} {f : Addr} {fd : FuncData} {ps : List Str} {c : VFn}
def wNil : VAW := fun _ n Q _ => Q [] n
def wDat (te : VT) (r : VAW) : VAW := fun ρ n Q E => te ρ n (fun d n1 => r ρ n1 (fun ws n2 => Q (.dat d :: ws) n2) E) E
def wVar (i : Nat) (r : VAW) : VAW := fun ρ n Q E => match ρ[i]? with
  | some (some .tok) => r ρ n (fun ws n2 => Q (.tok :: ws) n2) E
  | some (some (.scr ns)) => r ρ n (fun ws n2 => Q (.scr ns :: ws) n2) E
  | _ => False
theorem wa_nil : VAg X U [] wNil := pa_imp pa_nil fun σ H Q ⟨C, ρ, n, G, O, Q0, E0, I, h, hq, he⟩ => hq [] n h [] G O H I (Same.refl _) trivial
theorem wa_dat (ha : VE X U e te) (hr : VAg X U es al) (hs : starEach (e :: es) X.env = (false, eval e X.env) :: starEach es X.env := by rfl) : VAg X U (e :: es) (wDat te al) :=
  pa_imp (pa_cons ha hr hs) fun σ H Q ⟨C, ρ, n, G, O, Q0, E0, I, h, hq, he⟩ => ⟨C, ρ, n, G, O, _, E0, I, h, fun d n1 h1 v G1 O1 H1 I1 s1 r1 => ⟨C, ρ, n1, G1, O1, _, E0, I1, h1, fun ds n2 h2 vs G2 O2 H2 I2 s2 r2 =>
    hq _ n2 h2 _ G2 O2 H2 I2 (s1.trans s2) ⟨DR.same s2 r1, r2⟩, he⟩, he⟩
theorem wa_var (i : Nat) (hr : VAg X U es al) (hN : X.N[i]? = some x := by rfl) (hv : Vis X.env.scope x := by first | exact Or.inl rfl | exact Or.inr (Or.inl rfl) | exact Or.inr (Or.inr rfl)) (hd : (x == ("__debug__" : Str)) = false := by decide)
    (hcd : (x == ("__classdict__" : Str)) = false := by decide) (hs : starEach (.Name x pos :: es) X.env = (false, eval (.Name x pos) X.env) :: starEach es X.env := by rfl) : VAg X U (.Name x pos :: es) (wVar i al) :=
  pa_imp (pa_cons (pe_var hN hv hd hcd) hr hs) fun σ H Q ⟨C, ρ, n, G, O, Q0, E0, I, h, hq, he⟩ => by
    unfold wVar at h
    split at h
    · next e0 =>
      obtain ⟨v, e1, m, em, ev⟩ := I.slot i _ e0
      exact ⟨v, e1, C, ρ, n, G, O, _, E0, I, h, fun ws n2 h2 vs G2 O2 H2 I2 s2 r2 => hq _ n2 h2 _ G2 O2 H2 I2 s2 ⟨⟨m, em, ev⟩, r2⟩, he⟩
    · next ns e0 =>
      obtain ⟨v, e1, a, ea, sq⟩ := I.slot i _ e0
      exact ⟨v, e1, C, ρ, n, G, O, _, E0, I, h, fun ws n2 h2 vs G2 O2 H2 I2 s2 r2 => hq _ n2 h2 _ G2 O2 H2 I2 s2 ⟨⟨a, ea, s2.seq sq⟩, r2⟩, he⟩
    · exact h.elim
/-- a call of a def of the text -/
theorem pe_callG {sp : Sp} {dvs : List V} {ds : List Value} {t : TA} (F : FnG X.prog X.w X.K X.mg X.base k f fd ps sp) (hG : X.A.guards = some []) (hr : Room k X.A) (tk : Takes X U) (hg : Gl X x) (hm : X.mg x = some (.ref f)) (hk : PySem.W.keepIn X.K (.ref f) = true) (hb : Binds X.K fd ps ds) (hd : Vals dvs ds)
    (ha : PA X (e :: es) t) (hdb : (x == ("__debug__" : Str)) = false := by decide) (he : starEach (e :: es) X.env = (false, eval e X.env) :: starEach es X.env := by rfl) (hpl : (backTo pos (starEach es X.env)).any (·.1) = false := by rfl) :
    PE X (.Call (.Name x p) (e :: es) [] pos) (fun σ H Q => t σ H fun vs H1 => sp (vs ++ dvs) H1 Q fun cls d H' => U cls d σ H') := by
  constructor
  intro pins s σ H Q I h
  refine wpAny_Call_Name_kw (ld_glob I hg hm ?_ hdb)
  refine PySem.W.callWith_K (h₀ := X.base) I.ok.mod.kin hk (thn (ha.run pos pins s σ H _ I h) fun us s1 z => ?_) he hpl
  obtain ⟨vs, H1, I1, r, q⟩ := z
  refine ⟨I1.kIn, ?_⟩
  have r2 : Vals (vs ++ dvs) (us ++ ds) := r.append hd
  have hl : (us ++ ds).length = ps.length := r2.length.symm.trans (F.len _ _ _ _ q)
  refine wpAny_call (codeAny_mono (F.run X.A X.stack s1 H1 ⟨us, []⟩ (us ++ ds) (vs ++ dvs) Q _ hG hr I1.env0 (hb s1 us I1.kIn hl) r2 q) fun rs s' hq => ?_)
  match rs, hq with
  | .error e, hq => exact passAt tk σ pins H1 s1 e s' I1 hq
  | .ok (.ret u), hq => exact I1.after hq
def rOf (Q : Dt → Nat → Prop) : W → Nat → Prop := fun w n => match w with
  | .dat d => Q d n
  | .own ds => Q (.list ds) n
  | _ => False
def vCall (c : VFn) (dw : List W) (al : VAW) : VT := fun ρ n Q E => al ρ n (fun ws n1 => c (ws ++ dw) n1 (rOf Q) E) E
def vCallO (c : VFn) (dw : List W) (al : VAW) : VA := fun ρ n Q E => al ρ n (fun ws n1 => c (ws ++ dw) n1 (fun w n' => match w with
  | .own ds => Q ds n'
  | _ => False) E) E
/-- the defaults' data stand in the written part -/
def RDf (K : PySem.W.Frag) : List W → List V → Prop
  | [], [] => True
  | w :: ws, v :: vs => (match w with | .dat d => ∀ G, DR K G v d | _ => False) ∧ RDf K ws vs
  | _, _ => False
theorem RDf.rws {K : PySem.W.Frag} {C : Ct} {G : Hp} : ∀ {dw : List W} {dvs : List V}, RDf K dw dvs → RWs K C G dw dvs
  | [], [], _ => trivial
  | [], _ :: _, h => h.elim
  | _ :: _, [], h => h.elim
  | w :: ws, v :: vs, d => by
    refine ⟨?_, RDf.rws d.2⟩
    cases w with
    | dat x => exact d.1 G
    | _ => exact d.1.elim
theorem RDf.app {K : PySem.W.Frag} {C : Ct} {G : Hp} {dw : List W} {dvs : List V} (d : RDf K dw dvs) : ∀ {ws : List W} {vs : List V}, RWs K C G ws vs → RWs K C G (ws ++ dw) (vs ++ dvs)
  | _ :: _, _ :: _, h => ⟨h.1, RDf.app d h.2⟩
  | [], _ :: _, h => h.elim
  | _ :: _, [], h => h.elim
  | [], [], _ => d.rws
theorem ve_call {dw : List W} {dvs : List V} {ds : List Value} (F : FnG X.prog X.w X.K X.mg X.base k f fd ps (lift X.K c)) (hG : X.A.guards = some []) (hr : Room k X.A) (tk : Takes X U) (hg : Gl X x) (hm : X.mg x = some (.ref f)) (hk : PySem.W.keepIn X.K (.ref f) = true) (hb : Binds X.K fd ps ds) (hd : Vals dvs ds) (hdw : RDf X.K dw dvs)
    (ha : VAg X U (e :: es) al) (hdb : (x == ("__debug__" : Str)) = false := by decide) (he : starEach (e :: es) X.env = (false, eval e X.env) :: starEach es X.env := by rfl) (hpl : (backTo pos (starEach es X.env)).any (·.1) = false := by rfl) :
    VE X U (.Call (.Name x p) (e :: es) [] pos) (vCall c dw al) :=
  pe_imp (pe_callG F hG hr tk hg hm hk hb hd ha hdb he hpl) fun σ H Q ⟨C, ρ, n, G, O, Q0, E0, I, h, hq, hE⟩ => ⟨C, ρ, n, G, O, _, E0, I, h, fun ws n1 h1 vs G1 O1 H1 I1 s1 r1 =>
    ⟨⟨C.mo, G1, O1, H1⟩, n1, _, _, E0, rfl, ⟨I1.good, I1.go, Same.refl _, Same.refl _, I1.oH, New.refl, New.refl, fun _ q => q⟩, RWs.rel (C := C) (C' := ⟨C.mo, G1, O1, H1⟩) rfl (hdw.app r1), h1, fun w n' q v G' O' H' J rw' => by
      have I2 := I1.call J
      cases w with
      | dat d => exact hq d n' q v G' O' H' I2 (s1.trans J.g0) rw'
      | own ds =>
        obtain ⟨a, xs, rfl, g, h0, o, r⟩ := rw'
        obtain ⟨G2, I3, s3, r3⟩ := I2.frzFresh (a := a) (ds := ds) ⟨xs, g, I1.h0 a h0, o, r, fun j es e z => by
          obtain ⟨v, e1, b, ys, ev, _, _, o', _⟩ := I1.slot j _ e
          rw [e1] at z; cases z; cases ev
          have h0' : H1 a = none := h0
          rw [I1.oH _ _ o'] at h0'; cases h0'⟩
        exact hq _ n' q _ G2 O' H' I3 ((s1.trans J.g0).trans s3) r3
      | tok => exact q.elim
      | scr ns => exact q.elim, fun x n' q cls d G' O' H' J r => hE x n' q cls d G' O' H' (I1.call J) r⟩, hE⟩
theorem vo_call {dw : List W} {dvs : List V} {ds : List Value} (F : FnG X.prog X.w X.K X.mg X.base k f fd ps (lift X.K c)) (hG : X.A.guards = some []) (hr : Room k X.A) (tk : Takes X U) (hg : Gl X x) (hm : X.mg x = some (.ref f)) (hk : PySem.W.keepIn X.K (.ref f) = true) (hb : Binds X.K fd ps ds) (hd : Vals dvs ds) (hdw : RDf X.K dw dvs)
    (ha : VAg X U (e :: es) al) (hdb : (x == ("__debug__" : Str)) = false := by decide) (he : starEach (e :: es) X.env = (false, eval e X.env) :: starEach es X.env := by rfl) (hpl : (backTo pos (starEach es X.env)).any (·.1) = false := by rfl) :
    VO X U (.Call (.Name x p) (e :: es) [] pos) (vCallO c dw al) :=
  pe_imp (pe_callG F hG hr tk hg hm hk hb hd ha hdb he hpl) fun σ H Q ⟨C, ρ, n, G, O, Q0, E0, I, h, hq, hE⟩ => ⟨C, ρ, n, G, O, _, E0, I, h, fun ws n1 h1 vs G1 O1 H1 I1 s1 r1 =>
    ⟨⟨C.mo, G1, O1, H1⟩, n1, _, _, E0, rfl, ⟨I1.good, I1.go, Same.refl _, Same.refl _, I1.oH, New.refl, New.refl, fun _ q => q⟩, RWs.rel (C := C) (C' := ⟨C.mo, G1, O1, H1⟩) rfl (hdw.app r1), h1, fun w n' q v G' O' H' J rw' => by
      have I2 := I1.call J
      cases w with
      | own ds =>
        obtain ⟨a, xs, rfl, g, h0, o, r⟩ := rw'
        exact hq ds n' q a G' O' H' I2 (s1.trans J.g0) ⟨xs, g, I1.h0 a h0, o, r, fun j es e z => by
          obtain ⟨v, e1, b, ys, ev, _, _, o', _⟩ := I1.slot j _ e
          rw [e1] at z; cases z; cases ev
          have h0' : H1 a = none := h0
          rw [I1.oH _ _ o'] at h0'; cases h0'⟩
      | _ => exact q.elim, fun x n' q cls d G' O' H' J r => hE x n' q cls d G' O' H' (I1.call J) r⟩, hE⟩
end
end VL


set_option maxRecDepth 100000
set_option maxHeartbeats 2000000
namespace VL
open PySem PySem.Spec PyProof.Rows L2
/-! ### operators on data -/
def dAdd : R2D := fun a b Q => match a, b with
  | .int i, .int j => Q (.int (i + j))
  | .str x, .str y => x.length + y.length ≤ sizeLine ∧ Q (.str (x ++ y))
  | .tuple xs, .tuple ys => xs.length + ys.length ≤ sizeLine ∧ Q (.tuple (xs ++ ys))
  | .list xs, .list ys => xs.length + ys.length ≤ sizeLine ∧ Q (.list (xs ++ ys))
  | _, _ => False
def dSub : R2D := fun a b Q => match a, b with
  | .int i, .int j => Q (.int (i - j))
  | _, _ => False
def dMul : R2D := fun a b Q => match a, b with
  | .int i, .int j => CMul i j ∧ Q (.int (i * j))
  | _, _ => False
def dDiv : R2D := fun a b Q => match a, b with
  | .int i, .int j => CDiv i j ∧ Q (.int (i / j))
  | _, _ => False
def dMod : R2D := fun a b Q => match a, b with
  | .int i, .int j => 0 < j ∧ Q (.int (i % j))
  | _, _ => False
def dPow : R2D := fun a b Q => match a, b with
  | .int i, .int j => CPow i j ∧ Q (.int (i ^ j.toNat))
  | _, _ => False
/-- what may be compared: two texts, or data of plain signs that are not too deep -/
def shp (a b : Dt) : Prop := match a, b with
  | .str _, .str _ => True
  | a, b => SeqAt.shaped a = true ∧ SeqAt.shaped b = true
def dEq : R2D := fun a b Q => shp a b ∧ Q (.bool (PyData.eqv a b))
def dNe : R2D := fun a b Q => shp a b ∧ Q (.bool (!PyData.eqv a b))
def dLt : R2D := fun a b Q => match a, b with
  | .int i, .int j => Q (.bool (decide (i < j)))
  | _, _ => False
def dLe : R2D := fun a b Q => match a, b with
  | .int i, .int j => Q (.bool (decide (i ≤ j)))
  | _, _ => False
def dGt : R2D := fun a b Q => match a, b with
  | .int i, .int j => Q (.bool (decide (j < i)))
  | _, _ => False
def dGe : R2D := fun a b Q => match a, b with
  | .int i, .int j => Q (.bool (decide (j ≤ i)))
  | _, _ => False
def isNoneD : Dt → Bool
  | .none => true
  | _ => false
def dIs : R2D := fun a b Q => match b with
  | .none => Q (.bool (isNoneD a))
  | _ => False
def dIsNot : R2D := fun a b Q => match b with
  | .none => Q (.bool (!isNoneD a))
  | _ => False
section
variable {X : Cx}
theorem DR.none_iff {K : PySem.W.Frag} {G : Hp} {v : V} {d : Dt} (r : DR K G v d) : decide (v = V.non) = isNoneD d := by
  cases d <;> cases r <;> rfl
theorem op2I {f : Value → Value → Sem Value} {C : Int → Int → Prop} {g : Int → Int → V} {r : R2D} (o : OpR X f (rI C g)) (h : ∀ a b Q, r a b Q → ∃ i j d, a = .int i ∧ b = .int j ∧ C i j ∧ (∀ G, DR X.K G (g i j) d) ∧ Q d) : VOp X f r := by
  intro pins s σ H x y v u Q I rx ry ⟨G, d1, d2, Q0, sg, r1, r2, q, hq⟩
  obtain ⟨i, j, d, rfl, rfl, c, rd, q⟩ := h _ _ _ q
  cases r1
  cases r2
  exact o pins s σ H _ _ v u Q I rx ry ⟨i, j, rfl, rfl, c, hq d q _ G H (Same.refl _) (Same.refl _) sg New.refl (rd G)⟩
theorem op2I0 {f : Value → Value → Sem Value} {g : Int → Int → V} {r : R2D} (o : OpR X f (rI0 g)) (h : ∀ a b Q, r a b Q → ∃ i j d, a = .int i ∧ b = .int j ∧ (∀ G, DR X.K G (g i j) d) ∧ Q d) : VOp X f r := by
  intro pins s σ H x y v u Q I rx ry ⟨G, d1, d2, Q0, sg, r1, r2, q, hq⟩
  obtain ⟨i, j, d, rfl, rfl, rd, q⟩ := h _ _ _ q
  cases r1
  cases r2
  exact o pins s σ H _ _ v u Q I rx ry ⟨i, j, rfl, rfl, hq d q _ G H (Same.refl _) (Same.refl _) sg New.refl (rd G)⟩
theorem o_sub : VOp X (binaryOp .Sub) dSub := op2I0 op_sub fun a b Q h => by
  cases a <;> cases b <;> first | exact ⟨_, _, _, rfl, rfl, fun _ => .int _, h⟩ | exact h.elim
theorem o_mul : VOp X (binaryOp .Mult) dMul := op2I op_mul fun a b Q h => by
  cases a <;> cases b <;> first | exact ⟨_, _, _, rfl, rfl, h.1, fun _ => .int _, h.2⟩ | exact h.elim
theorem o_div : VOp X (binaryOp .FloorDiv) dDiv := op2I op_fdiv fun a b Q h => by
  cases a <;> cases b <;> first | exact ⟨_, _, _, rfl, rfl, h.1, fun _ => .int _, h.2⟩ | exact h.elim
theorem o_mod : VOp X (binaryOp .Mod) dMod := op2I op_mod fun a b Q h => by
  cases a <;> cases b <;> first | exact ⟨_, _, _, rfl, rfl, h.1, fun _ => .int _, h.2⟩ | exact h.elim
theorem o_pow : VOp X (binaryOp .Pow) dPow := op2I op_pow fun a b Q h => by
  cases a <;> cases b <;> first | exact ⟨_, _, _, rfl, rfl, h.1, fun _ => .int _, h.2⟩ | exact h.elim
theorem o_lt : VOp X (compareOp .Lt) dLt := op2I0 op_lt fun a b Q h => by
  cases a <;> cases b <;> first | exact ⟨_, _, _, rfl, rfl, fun _ => .bl _, h⟩ | exact h.elim
theorem o_le : VOp X (compareOp .LtE) dLe := op2I0 op_le fun a b Q h => by
  cases a <;> cases b <;> first | exact ⟨_, _, _, rfl, rfl, fun _ => .bl _, h⟩ | exact h.elim
theorem o_gt : VOp X (compareOp .Gt) dGt := op2I0 op_gt fun a b Q h => by
  cases a <;> cases b <;> first | exact ⟨_, _, _, rfl, rfl, fun _ => .bl _, h⟩ | exact h.elim
theorem o_ge : VOp X (compareOp .GtE) dGe := op2I0 op_ge fun a b Q h => by
  cases a <;> cases b <;> first | exact ⟨_, _, _, rfl, rfl, fun _ => .bl _, h⟩ | exact h.elim
theorem o_iadd : VOp X (inplaceOp .Add) (fun a b Q => match a, b with | .int i, .int j => Q (.int (i + j)) | _, _ => False) := op2I0 iop_add fun a b Q h => by
  cases a <;> cases b <;> first | exact ⟨_, _, _, rfl, rfl, fun _ => .int _, h⟩ | exact h.elim
theorem str_eqv (x y : Str) : decide (V.str x = V.str y) = PyData.eqv (.str x) (.str y) := by
  simp only [PyData.eqv]
  by_cases h : x = y
  · subst h; simp
  · have h' : ¬ V.str x = V.str y := fun e => h (V.str.inj e)
    rw [decide_eq_false h']
    exact (beq_eq_false_iff_ne.mpr h).symm
theorem shp_cases {a b : Dt} (h : shp a b) : (∃ x y, a = .str x ∧ b = .str y) ∨ (SeqAt.shaped a = true ∧ SeqAt.shaped b = true) := by
  cases a <;> cases b <;> first | exact .inr h | exact .inl ⟨_, _, rfl, rfl⟩
theorem o_eq (hu : X.A.units + 64 < cLine) : VOp X (compareOp .Eq) dEq := by
  intro pins s σ H x y v u Q I rx ry ⟨G, d1, d2, Q0, sg, r1, r2, q, hq⟩
  rcases shp_cases q.1 with ⟨a, b, rfl, rfl⟩ | ⟨q1, q2⟩
  · cases r1; cases r2
    exact op_eq pins s σ H _ _ v u Q I rx ry ⟨rfl, by rw [str_eqv]; exact hq _ q.2 _ G H (Same.refl _) (Same.refl _) sg New.refl (.bl _)⟩
  · exact op_eqD hu pins s σ H x y v u Q I rx ry ⟨d1, d2, (DR.same sg r1).dp, (DR.same sg r2).dp, q1, q2, hq _ q.2 _ G H (Same.refl _) (Same.refl _) sg New.refl (.bl _)⟩
theorem o_ne (hu : X.A.units + 64 < cLine) : VOp X (compareOp .NotEq) dNe := by
  intro pins s σ H x y v u Q I rx ry ⟨G, d1, d2, Q0, sg, r1, r2, q, hq⟩
  rcases shp_cases q.1 with ⟨a, b, rfl, rfl⟩ | ⟨q1, q2⟩
  · cases r1; cases r2
    exact op_ne pins s σ H _ _ v u Q I rx ry ⟨rfl, by rw [str_eqv]; exact hq _ q.2 _ G H (Same.refl _) (Same.refl _) sg New.refl (.bl _)⟩
  · exact op_neD hu pins s σ H x y v u Q I rx ry ⟨d1, d2, (DR.same sg r1).dp, (DR.same sg r2).dp, q1, q2, hq _ q.2 _ G H (Same.refl _) (Same.refl _) sg New.refl (.bl _)⟩
theorem o_is : VOp X (compareOp .Is) dIs := by
  intro pins s σ H x y v u Q I rx ry ⟨G, d1, d2, Q0, sg, r1, r2, q, hq⟩
  cases d2 with
  | none =>
    cases r2
    exact op_isN pins s σ H x _ v u Q I rx ry ⟨rfl, by rw [r1.none_iff]; exact hq _ q _ G H (Same.refl _) (Same.refl _) sg New.refl (.bl _)⟩
  | _ => exact q.elim
theorem o_isnot : VOp X (compareOp .IsNot) dIsNot := by
  intro pins s σ H x y v u Q I rx ry ⟨G, d1, d2, Q0, sg, r1, r2, q, hq⟩
  cases d2 with
  | none =>
    cases r2
    exact op_notN pins s σ H x _ v u Q I rx ry ⟨rfl, by rw [r1.none_iff]; exact hq _ q _ G H (Same.refl _) (Same.refl _) sg New.refl (.bl _)⟩
  | _ => exact q.elim
theorem gfree {G H : Hp} {p : Addr} (s : Same G H) (h : H p = none) : G p = none := by
  cases q : G p with | none => rfl | some u => rw [s _ _ q] at h; cases h
theorem o_add : VOp X (binaryOp .Add) dAdd := by
  intro pins s σ H x y v u Q I rx ry ⟨G, d1, d2, Q0, sg, r1, r2, q, hq⟩
  cases d1 with
  | int i =>
    cases d2 with
    | int j =>
      cases r1; cases r2
      exact op_add pins s σ H _ _ v u Q I rx ry ⟨i, j, rfl, rfl, hq _ q _ G H (Same.refl _) (Same.refl _) sg New.refl (.int _)⟩
    | _ => exact q.elim
  | str a =>
    cases d2 with
    | str b =>
      cases r1; cases r2
      exact op_add_str pins s σ H _ _ v u Q I rx ry ⟨a, b, rfl, rfl, q.1, hq _ q.2 _ G H (Same.refl _) (Same.refl _) sg New.refl (.str _)⟩
    | _ => exact q.elim
  | tuple xs =>
    cases d2 with
    | tuple ys =>
      cases r1 with
      | tup a1 q1 =>
        cases r2 with
        | tup a2 q2 =>
          refine op_catA pins s σ H _ _ v u Q I rx ry ⟨_, _, _, _, rfl, rfl, sameT sg a1, sameT sg a2, by rw [q1.length, q2.length]; exact q.1, fun e => ?_, fun _ e => ?_, fun _ _ p hp => ?_⟩
          · subst e
            cases xs with
            | nil => exact hq _ q.2 _ G H (Same.refl _) (Same.refl _) sg New.refl (.tup a2 q2)
            | cons => cases q1
          · subst e
            cases ys with
            | nil => exact hq _ q.2 _ G H (Same.refl _) (Same.refl _) sg New.refl (.tup a1 (by rw [List.append_nil]; exact q1))
            | cons => cases q2
          · have n := gfree sg hp
            exact hq _ q.2 _ (L2.upd G p _) _ (same_upd hp) (same_upd n) (same_upd2 sg) (new_upd hp) (.tup (SqT.of upd_same) (DRs.same (same_upd n) (q1.append q2)))
    | _ => exact q.elim
  | list xs =>
    cases d2 with
    | list ys =>
      cases r1 with
      | lst a1 q1 =>
        cases r2 with
        | lst a2 q2 =>
          refine op_cat pins s σ H _ _ v u Q I rx ry ⟨_, _, _, _, rfl, rfl, sg _ _ a1, sg _ _ a2, by rw [q1.length, q2.length]; exact q.1, fun p hp => ?_⟩
          have n := gfree sg hp
          exact hq _ q.2 _ (L2.upd G p _) _ (same_upd hp) (same_upd n) (same_upd2 sg) (new_upd hp) (.lst upd_same (DRs.same (same_upd n) (q1.append q2)))
    | _ => exact q.elim
  | _ => cases d2 <;> exact q.elim
end
/-! ### places -/
def dIx : R2D := fun a b Q => match a, b with
  | .tuple ds, .int i => (match atI ds i with | some d => Q d | none => False)
  | .list ds, .int i => (match atI ds i with | some d => Q d | none => False)
  | .str z, .int i => z.length ≤ sizeLine ∧ (match atI z.cps.toList i with | some c => Q (.str ⟨#[c]⟩) | none => False)
  | _, _ => False
theorem DRs.atI {K : PySem.W.Frag} {G : Hp} {xs : List V} {ds : List Dt} {i : Int} {d : Dt} (r : DRs K G xs ds) (h : L2.atI ds i = some d) : ∃ v, L2.atI xs i = some v ∧ DR K G v d := by
  unfold L2.atI at h ⊢
  rw [r.length]
  cases q : ixN ds.length i with
  | none => rw [q] at h; cases h
  | some j =>
    rw [q] at h
    obtain ⟨v, h1, h2⟩ := r.get (i := j) (d := d) h
    exact ⟨v, h1, h2⟩
section
variable {X : Cx} {U : WX} {a b e : Expr} {es : List Expr} {pos p2 : Pos} {ta tb te : VT} {al : VA}
theorem ix_imp {K : PySem.W.Frag} : ∀ x y H Q, lift2 K dIx x y H Q → rIx K x y H Q := by
  rintro x y H Q ⟨G, d1, d2, Q0, sg, r1, r2, q, hq⟩
  cases d1 with
  | tuple ds =>
    cases d2 with
    | int i =>
      cases r1 with
      | tup a1 q1 =>
        cases r2
        have q' : (match L2.atI ds i with | some d => Q0 d | none => False) := q
        cases hh : L2.atI ds i with
        | none => rw [hh] at q'; exact q'.elim
        | some d =>
          rw [hh] at q'
          obtain ⟨w, h1, h2⟩ := q1.atI hh
          exact .inr (.inl ⟨_, _, i, w, rfl, rfl, sameT sg a1, h1, hq d q' _ G H (Same.refl _) (Same.refl _) sg New.refl h2⟩)
    | _ => exact q.elim
  | list ds =>
    cases d2 with
    | int i =>
      cases r1 with
      | lst a1 q1 =>
        cases r2
        have q' : (match L2.atI ds i with | some d => Q0 d | none => False) := q
        cases hh : L2.atI ds i with
        | none => rw [hh] at q'; exact q'.elim
        | some d =>
          rw [hh] at q'
          obtain ⟨w, h1, h2⟩ := q1.atI hh
          exact .inl ⟨_, _, i, w, rfl, rfl, SqL.of (sg _ _ a1), h1, hq d q' _ G H (Same.refl _) (Same.refl _) sg New.refl h2⟩
    | _ => exact q.elim
  | str z =>
    cases d2 with
    | int i =>
      cases r1
      cases r2
      have q' : z.length ≤ sizeLine ∧ (match L2.atI z.cps.toList i with | some c => Q0 (.str ⟨#[c]⟩) | none => False) := q
      cases hh : L2.atI z.cps.toList i with
      | none => rw [hh] at q'; exact q'.2.elim
      | some c =>
        rw [hh] at q'
        exact .inr (.inr ⟨z, i, c, rfl, rfl, q'.1, hh, hq _ q'.2 _ G H (Same.refl _) (Same.refl _) sg New.refl (.str _)⟩)
    | _ => exact q.elim
  | _ => cases d2 <;> exact q.elim
theorem tOp_imp {K : PySem.W.Frag} {r : R2D} {r' : R2} (w : ∀ x y H Q, lift2 K r x y H Q → r' x y H Q) : ∀ σ H Q, tOp (lift2 K r) (up K U ta) (up K U tb) σ H Q → tOp r' (up K U ta) (up K U tb) σ H Q :=
  fun σ H Q ⟨C, ρ, n, G, O, Q0, E0, I, h, hq, he⟩ => ⟨C, ρ, n, G, O, Q0, E0, I, h, fun d1 n1 h1 v1 G1 O1 H1 I1 s1 r1 => by
    obtain ⟨C, ρ, n, G, O, Q0, E0, I, h, hq, he⟩ := hq d1 n1 h1 v1 G1 O1 H1 I1 s1 r1
    exact ⟨C, ρ, n, G, O, Q0, E0, I, h, fun d2 n2 h2 v2 G2 O2 H2 I2 s2 r2 => w _ _ _ _ (hq d2 n2 h2 v2 G2 O2 H2 I2 s2 r2), he⟩, he⟩
theorem ve_ix (ha : VE X U a ta) (hb : VE X U b tb) (hs : PlainIx b := by exact fun _ _ => rfl) : VE X U (.Subscript a b pos) (vOp dIx ta tb) := pe_imp (pe_ix ix_seq ha hb hs) fun σ H Q h => tOp_imp ix_imp σ H Q (up_op σ H Q h)
/-- x[i], x a list of one's own -/
def vIxO (k : Nat) (tb : VT) : VT := fun ρ n Q E => match ρ[k]? with
  | some (some (.own ds)) => tb ρ n (fun d n' => dIx (.list ds) d fun d' => Q d' n') E
  | _ => False
theorem ve_ixO {k : Nat} {x : Str} {p : Pos} (hb : VE X U b tb) (hN : X.N[k]? = some x := by rfl) (hv : Vis X.env.scope x := by first | exact Or.inl rfl | exact Or.inr (Or.inl rfl) | exact Or.inr (Or.inr rfl)) (hd : (x == ("__debug__" : Str)) = false := by decide)
    (hcd : (x == ("__classdict__" : Str)) = false := by decide) (hs : PlainIx b := by exact fun _ _ => rfl) : VE X U (.Subscript (.Name x p) b pos) (vIxO k tb) :=
  pe_imp (pe_ix ix_list (pe_var hN hv hd hcd) hb hs) fun σ H Q ⟨C, ρ, n, G, O, Q0, E0, I, h, hq, he⟩ => by
    unfold vIxO at h
    split at h
    · next ds e0 =>
      obtain ⟨v, e1, _⟩ := I.slot k _ e0
      refine ⟨v, e1, C, ρ, n, G, O, _, E0, I, h, fun d n' q v2 G' O' H' I' s' rd => ?_, he⟩
      obtain ⟨v', e1', a', xs', rfl, g', h0', o', r'⟩ := I'.slot k _ e0
      rw [e1] at e1'
      cases e1'
      cases d with
      | int i =>
        cases rd
        have q' : (match L2.atI ds i with | some d => Q0 d n' | none => False) := q
        cases hh : L2.atI ds i with
        | none => rw [hh] at q'; exact q'.elim
        | some d =>
          rw [hh] at q'
          obtain ⟨w, h1, h2⟩ := r'.atI hh
          exact ⟨_, _, i, w, rfl, rfl, SqL.of (I'.oH _ _ o'), h1, hq d n' q' _ G' O' H' I' s' h2⟩
      | _ => exact q.elim
    · exact h.elim
/-! ### slices -/
def cutD {α : Type} (xs : List α) (lo hi : Option Int) : List α := (xs.drop (HT.sIx xs.length 0 lo)).take (HT.sIx xs.length xs.length hi - HT.sIx xs.length 0 lo)
theorem DRs.cut {K : PySem.W.Frag} {G : Hp} {xs : List V} {ds : List Dt} (r : DRs K G xs ds) (lo hi : Option Int) : DRs K G (cutV xs lo hi) (cutD ds lo hi) := by
  unfold cutV cutD
  rw [r.length]
  exact (r.drop _).take _
abbrev VP := Nv → Nat → (Option Int → Nat → Prop) → XW → Prop
def upP (K : PySem.W.Frag) (U : WX) (t : VP) : TO := fun σ H Q => ∃ (C : Ct) (ρ : Nv) (n : Nat) (G O : Hp) (Q0 : Option Int → Nat → Prop) (E0 : XW), In K C σ ρ n G O H ∧ t ρ n Q0 E0 ∧
  (∀ b n', Q0 b n' → ∀ G' O' H', In K C σ ρ n' G' O' H' → Same G G' → Q b H') ∧ LkX K U C σ ρ E0
abbrev VPo (X : Cx) (U : WX) (e : Option Expr) (t : VP) : Prop := PO X e (upP X.K U t)
theorem po_imp {o : Option Expr} {t t' : TO} (h : PO X o t) (w : ∀ σ H Q, t' σ H Q → t σ H Q) : PO X o t' := by
  obtain ⟨h⟩ := h
  exact ⟨fun pins s σ H Q I q => h pins s σ H Q I (w _ _ _ q)⟩
def pN : VP := fun _ n Q _ => Q none n
def pS (te : VT) : VP := fun ρ n Q E => te ρ n (fun d n' => match d with | .int i => Q (some i) n' | _ => False) E
theorem vp_none : VPo X U none pN := po_imp po_none fun σ H Q ⟨C, ρ, n, G, O, Q0, E0, I, h, hq, he⟩ => hq _ n h G O H I (Same.refl _)
theorem vp_some (h : VE X U e te) : VPo X U (some e) (pS te) := po_imp (po_some h) fun σ H Q ⟨C, ρ, n, G, O, Q0, E0, I, h, hq, he⟩ => ⟨C, ρ, n, G, O, _, E0, I, h, fun d n' q v G' O' H' I' s' r => by
  cases d with
  | int i => cases r; exact ⟨i, rfl, hq _ n' q G' O' H' I' s'⟩
  | _ => exact q.elim, he⟩
def dSl (d : Dt) (lo hi : Option Int) (Q : Dt → Prop) : Prop := match d with
  | .tuple ds => Q (.tuple (cutD ds lo hi))
  | .list ds => Q (.list (cutD ds lo hi))
  | .str z => z.length ≤ sizeLine ∧ Q (.str (cutS z lo hi))
  | _ => False
def vSl (te : VT) (tl th : VP) : VT := fun ρ n Q E => te ρ n (fun d n1 => tl ρ n1 (fun lo n2 => th ρ n2 (fun hi n3 => dSl d lo hi fun d' => Q d' n3) E) E) E
def rSl (K : PySem.W.Frag) : V → Option Int → Option Int → Hp → VK → Prop := fun x lo hi H Q => ∃ G d Q0, Same G H ∧ DR K G x d ∧ dSl d lo hi Q0 ∧ ∀ d', Q0 d' → ∀ v G' H', Same H H' → Same G G' → Same G' H' → New G H G' → DR K G' v d' → Q v H'
theorem sl_D : SlR X (rSl X.K) := by
  have key : SlR X (fun x lo hi H Q => rSlA X.K x lo hi H Q ∨ rSlL X.K x lo hi H Q ∨ rSlS x lo hi H Q) := sl_tupA.or (sl_list.or sl_str)
  have imp : ∀ x lo hi H Q, rSl X.K x lo hi H Q → (rSlA X.K x lo hi H Q ∨ rSlL X.K x lo hi H Q ∨ rSlS x lo hi H Q) := by
    rintro x lo hi H Q ⟨G, d, Q0, sg, r, q, hq⟩
    cases d with
    | tuple ds =>
      cases r with
      | tup a1 q1 =>
        refine .inl ⟨_, _, rfl, sameT sg a1, fun e => ?_, fun e p hp => ?_⟩
        · have c : cutD ds lo hi = ds := by
            unfold cutD
            rw [← q1.length, e.1, e.2]
            simp [q1.length]
          exact hq _ q _ G H (Same.refl _) (Same.refl _) sg New.refl (by rw [c]; exact .tup a1 q1)
        · have n := gfree sg hp
          exact hq _ q _ (L2.upd G p _) _ (same_upd hp) (same_upd n) (same_upd2 sg) (new_upd hp) (.tup (SqT.of upd_same) (DRs.same (same_upd n) (q1.cut lo hi)))
    | list ds =>
      cases r with
      | lst a1 q1 =>
        refine .inr (.inl ⟨_, _, rfl, SqL.of (sg _ _ a1), fun p hp => ?_⟩)
        have n := gfree sg hp
        exact hq _ q _ (L2.upd G p _) _ (same_upd hp) (same_upd n) (same_upd2 sg) (new_upd hp) (.lst upd_same (DRs.same (same_upd n) (q1.cut lo hi)))
    | str z =>
      cases r
      exact .inr (.inr ⟨z, rfl, q.1, hq _ q.2 _ G H (Same.refl _) (Same.refl _) sg New.refl (.str _)⟩)
    | _ => exact q.elim
  intro pins s σ H x v vl vu lo hi sl Q I rx hs pl pu q
  exact key pins s σ H x v vl vu lo hi sl Q I rx hs pl pu (imp _ _ _ _ _ q)
theorem ve_slice {lo hi : Option Expr} {tl th : VP} (he : VE X U e te) (hl : VPo X U lo tl) (hu : VPo X U hi th) : VE X U (.Subscript e (.Slice lo hi none p2) pos) (vSl te tl th) :=
  pe_imp (pe_slice sl_D he hl hu) fun σ H Q ⟨C, ρ, n, G, O, Q0, E0, I, h, hq, hE⟩ => ⟨C, ρ, n, G, O, _, E0, I, h, fun d n1 h1 v G1 O1 H1 I1 s1 r1 => ⟨C, ρ, n1, G1, O1, _, E0, I1, h1, fun l n2 h2 G2 O2 H2 I2 s2 =>
    ⟨C, ρ, n2, G2, O2, _, E0, I2, h2, fun u n3 h3 G3 O3 H3 I3 s3 => ⟨G3, d, _, I3.gH, DR.same (s2.trans s3) r1, h3, fun d' q v' G' H' sh sg sgh nw rd => hq d' n3 q v' G' _ H' (I3.pure sh sg sgh nw) (((s1.trans s2).trans s3).trans sg) rd⟩, hE⟩, hE⟩, hE⟩
end
end VL


set_option maxRecDepth 100000
set_option maxHeartbeats 2000000
namespace VL
open PySem PySem.Spec PyProof.Rows L2
/-! ### built-in functions on data -/
abbrev RCD := List Dt → (Dt → Prop) → Prop
def liftC (K : PySem.W.Frag) (r : RCD) : List V → Hp → VK → Prop := fun xs H Q => ∃ G ds Q0, Same G H ∧ DRs K G xs ds ∧ r ds Q0 ∧ ∀ d, Q0 d → ∀ v G' H', Same H H' → Same G G' → Same G' H' → New G H G' → DR K G' v d → Q v H'
abbrev VCal (X : Cx) (f : Value) (r : RCD) : Prop := CallR X f (liftC X.K r)
def vCB (r : RCD) (al : VA) : VT := fun ρ n Q E => al ρ n (fun ds n' => r ds fun d => Q d n') E
section
variable {X : Cx} {U : WX} {a b e : Expr} {es : List Expr} {pos p : Pos} {ta tb te : VT} {al : VA} {x : Str} {id T : String} {r : RCD}
theorem up_cb : ∀ σ H Q, up X.K U (vCB r al) σ H Q → tCB (liftC X.K r) (upA X.K U al) σ H Q :=
  fun σ H Q ⟨C, ρ, n, G, O, Q0, E0, I, h, hq, he⟩ => ⟨C, ρ, n, G, O, _, E0, I, h, fun ds n1 h1 vs G1 O1 H1 I1 s1 r1 => ⟨G1, ds, _, I1.gH, r1, h1, fun d hd v G' H' sh sg sgh nw rd => hq d n1 hd v G' _ H' (I1.pure sh sg sgh nw) (s1.trans sg) rd⟩, he⟩
theorem ve_callB (hc : VCal X (.builtin id) r) (hg : Gl X x) (hm : X.mg x = none) (hv : bootBuiltins x = some (.builtin id)) (ha : VAa X U (e :: es) al) (hn : x ≠ "__name__" := by decide) (hdb : (x == ("__debug__" : Str)) = false := by decide)
    (he : starEach (e :: es) X.env = (false, eval e X.env) :: starEach es X.env := by rfl) (hpl : (backTo pos (starEach es X.env)).any (·.1) = false := by rfl) : VE X U (.Call (.Name x p) (e :: es) [] pos) (vCB r al) := pe_imp (pe_callB hc hg hm hv ha hn hdb he hpl) up_cb
theorem ve_callTy (hc : VCal X (.type T) r) (hg : Gl X x) (hm : X.mg x = none) (hv : bootBuiltins x = some (.type T)) (ha : VAa X U (e :: es) al) (hn : x ≠ "__name__" := by decide) (hdb : (x == ("__debug__" : Str)) = false := by decide)
    (he : starEach (e :: es) X.env = (false, eval e X.env) :: starEach es X.env := by rfl) (hpl : (backTo pos (starEach es X.env)).any (·.1) = false := by rfl) : VE X U (.Call (.Name x p) (e :: es) [] pos) (vCB r al) := pe_imp (pe_callTy hc hg hm hv ha hn hdb he hpl) up_cb
/-- a built-in that makes a new list -/
abbrev RCO := List Dt → (List Dt → Prop) → Prop
def liftO (K : PySem.W.Frag) (r : RCO) : List V → Hp → VK → Prop := fun xs H Q => ∃ G ds Q0, Same G H ∧ DRs K G xs ds ∧ r ds Q0 ∧ ∀ es, Q0 es → ∀ p ys, H p = none → DRs K G ys es → Q (.ref p) (L2.upd H p (.lst ys))
def vCO (r : RCO) (al : VA) : VA := fun ρ n Q E => al ρ n (fun ds n' => r ds fun es => Q es n') E
theorem up_co {r : RCO} : ∀ σ H Q, upO X.K U (vCO r al) σ H Q → tCB (liftO X.K r) (upA X.K U al) σ H Q :=
  fun σ H Q ⟨C, ρ, n, G, O, Q0, E0, I, h, hq, he⟩ => ⟨C, ρ, n, G, O, _, E0, I, h, fun ds n1 h1 vs G1 O1 H1 I1 s1 r1 => ⟨G1, ds, _, I1.gH, r1, h1, fun es hd p ys hp ry => hq es n1 hd p G1 _ _ (fresh_new I1 hp ry).1 s1 (fresh_new I1 hp ry).2⟩, he⟩
theorem vo_callTy {r : RCO} (hc : CallR X (.type T) (liftO X.K r)) (hg : Gl X x) (hm : X.mg x = none) (hv : bootBuiltins x = some (.type T)) (ha : VAa X U (e :: es) al) (hn : x ≠ "__name__" := by decide) (hdb : (x == ("__debug__" : Str)) = false := by decide)
    (he : starEach (e :: es) X.env = (false, eval e X.env) :: starEach es X.env := by rfl) (hpl : (backTo pos (starEach es X.env)).any (·.1) = false := by rfl) : VO X U (.Call (.Name x p) (e :: es) [] pos) (vCO r al) := pe_imp (pe_callTy hc hg hm hv ha hn hdb he hpl) up_co
theorem call_imp {f : Value} {r r' : List V → Hp → VK → Prop} (h : CallR X f r) (w : ∀ xs H Q, r' xs H Q → r xs H Q) : CallR X f r' := fun pins s σ H xs us Q I rv q => h pins s σ H xs us Q I rv (w _ _ _ q)
def bLen : RCD := fun ds Q => match ds with
  | [.tuple xs] => Q (.int (xs.length : Int))
  | [.list xs] => Q (.int (xs.length : Int))
  | [.str z] => z.length ≤ sizeLine ∧ Q (.int (z.length : Int))
  | _ => False
theorem c_len : VCal X (.builtin "len") bLen := call_imp (call_len_seq.or call_len_str) fun xs H Q ⟨G, ds, Q0, sg, r, q, hq⟩ => by
  match ds, r, q with
  | [.tuple ys], .cons (.tup a1 q1) .nil, q => exact .inl ⟨_, _, rfl, .inr (sameT sg a1), by rw [q1.length]; exact hq _ q _ G H (Same.refl _) (Same.refl _) sg New.refl (.int _)⟩
  | [.list ys], .cons (.lst a1 q1) .nil, q => exact .inl ⟨_, _, rfl, .inl (SqL.of (sg _ _ a1)), by rw [q1.length]; exact hq _ q _ G H (Same.refl _) (Same.refl _) sg New.refl (.int _)⟩
  | [.str z], .cons (.str _) .nil, q => exact .inr ⟨z, rfl, q.1, hq _ q.2 _ G H (Same.refl _) (Same.refl _) sg New.refl (.int _)⟩
def bMin2 : RCD := fun ds Q => match ds with
  | [.int i, .int j] => Q (.int (if j < i then j else i))
  | _ => False
def bMax2 : RCD := fun ds Q => match ds with
  | [.int i, .int j] => Q (.int (if j > i then j else i))
  | _ => False
theorem c_min2 (hc : X.calm = true) : VCal X (.builtin "min") bMin2 := call_imp (call_min2 hc) fun xs H Q ⟨G, ds, Q0, sg, r, q, hq⟩ => by
  match ds, r, q with
  | [.int i, .int j], .cons (.int _) (.cons (.int _) .nil), q => exact ⟨i, j, rfl, hq _ q _ G H (Same.refl _) (Same.refl _) sg New.refl (.int _)⟩
theorem c_max2 (hc : X.calm = true) : VCal X (.builtin "max") bMax2 := call_imp (call_max2 hc) fun xs H Q ⟨G, ds, Q0, sg, r, q, hq⟩ => by
  match ds, r, q with
  | [.int i, .int j], .cons (.int _) (.cons (.int _) .nil), q => exact ⟨i, j, rfl, hq _ q _ G H (Same.refl _) (Same.refl _) sg New.refl (.int _)⟩
def bAbs : RCD := fun ds Q => match ds with
  | [.int i] => Q (.int (if i < 0 then -i else i))
  | _ => False
theorem c_abs : VCal X (.builtin "abs") bAbs := call_imp call_abs fun xs H Q ⟨G, ds, Q0, sg, r, q, hq⟩ => by
  match ds, r, q with
  | [.int i], .cons (.int _) .nil, q => exact ⟨i, rfl, hq _ q _ G H (Same.refl _) (Same.refl _) sg New.refl (.int _)⟩
def bInt : RCD := fun ds Q => match ds with
  | [.int i] => Q (.int i)
  | _ => False
theorem c_int : VCal X (.type "int") bInt := call_imp call_int1 fun xs H Q ⟨G, ds, Q0, sg, r, q, hq⟩ => by
  match ds, r, q with
  | [.int i], .cons (.int _) .nil, q => exact .inl ⟨i, rfl, hq _ q _ G H (Same.refl _) (Same.refl _) sg New.refl (.int _)⟩
def bStr : RCD := fun ds Q => match ds with
  | [.int i] => i.natAbs.log2 < 1920 ∧ Q (.str (toString i))
  | _ => False
theorem c_str : VCal X (.type "str") bStr := call_imp call_str_int fun xs H Q ⟨G, ds, Q0, sg, r, q, hq⟩ => by
  match ds, r, q with
  | [.int i], .cons (.int _) .nil, q => exact ⟨i, rfl, q.1, hq _ q.2 _ G H (Same.refl _) (Same.refl _) sg New.refl (.str _)⟩
def bTuple : RCD := fun ds Q => match ds with
  | [.tuple xs] => Q (.tuple xs)
  | [.list xs] => Q (.tuple xs)
  | _ => False
theorem c_tuple : VCal X (.type "tuple") bTuple := call_imp call_tuple_of fun xs H Q ⟨G, ds, Q0, sg, r, q, hq⟩ => by
  match ds, r, q with
  | [.tuple ys], .cons (.tup a1 q1) .nil, q => exact ⟨_, _, rfl, .inr ⟨sameT sg a1, hq _ q _ G H (Same.refl _) (Same.refl _) sg New.refl (.tup a1 q1)⟩⟩
  | [.list ys], .cons (.lst a1 q1) .nil, q => exact ⟨_, _, rfl, .inl ⟨SqL.of (sg _ _ a1), fun p hp => hq _ q _ (L2.upd G p _) _ (same_upd hp) (same_upd (gfree sg hp)) (same_upd2 sg) (new_upd hp) (.tup (SqT.of upd_same) (DRs.same (same_upd (gfree sg hp)) q1))⟩⟩
def bList : RCO := fun ds Q => match ds with
  | [.tuple xs] => Q xs
  | [.list xs] => Q xs
  | _ => False
theorem c_list : CallR X (.type "list") (liftO X.K bList) := call_imp call_list_of fun xs H Q ⟨G, ds, Q0, sg, r, q, hq⟩ => by
  match ds, r, q with
  | [.tuple ys], .cons (.tup a1 q1) .nil, q => exact ⟨_, _, rfl, .inr (sameT sg a1), fun p hp => hq _ q p _ hp q1⟩
  | [.list ys], .cons (.lst a1 q1) .nil, q => exact ⟨_, _, rfl, .inl (SqL.of (sg _ _ a1)), fun p hp => hq _ q p _ hp q1⟩
def intsD : List Dt → Option (List Int)
  | [] => some []
  | .int i :: r => (intsD r).map (i :: ·)
  | _ => none
theorem intsD_map : ∀ ns : List Int, intsD (ns.map PyData.int) = some ns
  | [] => rfl
  | n :: ns => by simp [intsD, intsD_map ns]
theorem intsD_ok : ∀ {ds : List Dt} {ns : List Int}, intsD ds = some ns → ds = ns.map PyData.int
  | [], _, h => by cases h; rfl
  | .int i :: r, ns, h => by
    unfold intsD at h
    cases q : intsD r with
    | none => rw [q] at h; cases h
    | some ms => rw [q] at h; cases h; rw [intsD_ok q]; rfl
  | .none :: _, _, h | .bool _ :: _, _, h | .str _ :: _, _, h | .list _ :: _, _, h | .tuple _ :: _, _, h | .dict _ :: _, _, h => by cases h
theorem DRs.ints_of {K : PySem.W.Frag} {G : Hp} : ∀ {ns : List Int} {vs : List V}, DRs K G vs (ns.map PyData.int) → vs = ns.map V.int
  | [], _, h => by cases h; rfl
  | n :: ns, _, h => by
    cases h with
    | cons a r => cases a; rw [DRs.ints_of r]; rfl
theorem DRs.bools_of {K : PySem.W.Frag} {G : Hp} : ∀ {ns : List Bool} {vs : List V}, DRs K G vs (ns.map PyData.bool) → vs = ns.map V.bl
  | [], _, h => by cases h; rfl
  | n :: ns, _, h => by
    cases h with
    | cons a r => cases a; rw [DRs.bools_of r]; rfl
def bSum : RCD := fun ds Q => match ds with
  | [.list xs] => ∃ ns, intsD xs = some ns ∧ Q (.int ns.sum)
  | _ => False
theorem c_sum (hc : X.calm = true) : VCal X (.builtin "sum") bSum := call_imp (cr_sum hc) fun xs H Q ⟨G, ds, Q0, sg, r, q, hq⟩ => by
  match ds, r, q with
  | [.list ys], .cons (.lst a1 q1) .nil, ⟨ns, e, q⟩ =>
    have e' := intsD_ok e
    subst e'
    have e2 := q1.ints_of
    subst e2
    exact ⟨_, ns, rfl, SqL.of (sg _ _ a1), hq _ q _ G H (Same.refl _) (Same.refl _) sg New.refl (.int _)⟩
def bAll : RCD := fun ds Q => match ds with
  | [.list xs] => ∃ bs : List Bool, xs = bs.map PyData.bool ∧ Q (.bool (bs.all _root_.id))
  | _ => False
theorem c_all (hc : X.calm = true) : VCal X (.builtin "all") bAll := call_imp (cr_all hc) fun xs H Q ⟨G, ds, Q0, sg, r, q, hq⟩ => by
  match ds, r, q with
  | [.list ys], .cons (.lst a1 q1) .nil, ⟨bs, e, q⟩ =>
    subst e
    have e2 := q1.bools_of
    subst e2
    exact ⟨_, bs, rfl, SqL.of (sg _ _ a1), hq _ q _ G H (Same.refl _) (Same.refl _) sg New.refl (.bl _)⟩
/-! ### repr -/
mutual
theorem hasDict_no : ∀ {d : Dt}, (∃ (K : PySem.W.Frag) (G : Hp) (v : V), DR K G v d) → d.hasDict = false
  | .none, _ => rfl
  | .bool _, _ => rfl
  | .int _, _ => rfl
  | .str _, _ => rfl
  | .list ds, ⟨K, G, v, h⟩ => by
    cases h with
    | lst _ r => simp only [PyData.hasDict]; exact hasDict_nos ⟨K, G, _, r⟩
  | .tuple ds, ⟨K, G, v, h⟩ => by
    cases h with
    | tup _ r => simp only [PyData.hasDict]; exact hasDict_nos ⟨K, G, _, r⟩
  | .dict _, ⟨K, G, v, h⟩ => by cases h
theorem hasDict_nos : ∀ {ds : List Dt}, (∃ (K : PySem.W.Frag) (G : Hp) (vs : List V), DRs K G vs ds) → PyData.hasDictAll ds = false
  | [], _ => rfl
  | d :: ds, ⟨K, G, vs, h⟩ => by
    cases h with
    | cons a r => simp only [PyData.hasDictAll, hasDict_no ⟨K, G, _, a⟩, hasDict_nos ⟨K, G, _, r⟩, Bool.or_self]
end
def bRepr : RCD := fun ds Q => match ds with
  | [d] => d.showable = true ∧ d.shown.length ≤ sizeLine ∧ d.depth ≤ 60 ∧ Q (.str d.shown)
  | _ => False
theorem c_repr (hG : X.A.guards = some []) (hu : X.A.units + 64 < cLine) : VCal X (.builtin "repr") bRepr := by
  intro pins s σ H xs us Q I rv ⟨G, ds, Q0, sg, r, q, hq⟩
  match ds, r, q with
  | [d], .cons r1 .nil, ⟨h1, h2, h3, q⟩ =>
    cases rv with
    | cons rv1 rv2 =>
      cases rv2
      have fin : ∀ h' u tk, (∀ b o, s.heap.get? b = some o → h'.get? b = some o) → EP X pins σ Q (.str d.shown u) { s with heap := h', toks := tk } := fun h' u tk hk =>
        ⟨.str d.shown, H, I.kept hk, ⟨u, rfl⟩, hq _ q _ G H (Same.refl _) (Same.refl _) sg New.refl (.str _)⟩
      have nd := hasDict_no ⟨_, _, _, r1⟩
      obtain ⟨as, rd⟩ := Dp.reads I d _ _ (DR.same sg r1).dp rv1
      cases d with
      | none => cases r1; cases rv1; exact PySem.P.repr_of_none (fin _ _ _ fun _ _ e => e)
      | bool b => cases r1; cases rv1; exact PySem.P.repr_of_bool (fin _ _ _ fun _ _ e => e)
      | int i =>
        cases r1
        obtain ⟨t, rfl⟩ := rv1
        have h1' : i.natAbs.log2 < 1920 := by simpa [PyData.showable] using h1
        exact PySem.P.repr_of_int h1' (fin _ _ _ fun _ _ e => e)
      | str z =>
        cases r1
        obtain ⟨t, rfl⟩ := rv1
        exact PySem.P.repr_of_str (fin _ _ _ fun _ _ e => e) h2
      | list ds =>
        cases r1
        cases rv1
        exact repr_of_reads' rd h1 (fun z => by rw [nd] at z; cases z) hG (by omega) (fun _ _ e => e) fin h2
      | tuple ds =>
        cases r1
        cases rv1
        exact repr_of_reads' rd h1 (fun z => by rw [nd] at z; cases z) hG (by omega) (fun _ _ e => e) fin h2
      | dict kvs => cases r1
/-! ### isinstance -/
def tyN : Dt → String
  | .none => "NoneType"
  | .bool _ => "bool"
  | .int _ => "int"
  | .str _ => "str"
  | .list _ => "list"
  | .tuple _ => "tuple"
  | .dict _ => "dict"
def isiD (T : String) (d : Dt) : Bool := tyN d == T || (T == "int" && tyN d == "bool")
/-- the answers of the written part -/
def KitOk (K : PySem.W.Frag) (T : String) : Prop := ∀ t ∈ ["NoneType", "bool", "int", "str", "list", "tuple"], PySem.W.kitOne K (.type t) (.type T) = some (t == T || (T == "int" && t == "bool"))
theorem DR.tyX {K : PySem.W.Frag} {G H : Hp} {v : V} {d : Dt} (r : DR K G v d) (s : Same G H) : TyX K H v (.type (tyN d)) := by
  cases d with
  | none => cases r; exact .base .non
  | bool b => cases r; exact .base (.bl b)
  | int i => cases r; exact .base (.int i)
  | str z => cases r; exact .base (.str z)
  | list ds => cases r with | lst a _ => exact .base (.lst (s _ _ a))
  | tuple ds =>
    cases r with
    | tup a _ =>
      rcases a with (a | ⟨o, a⟩) | ⟨o, its, n, hk, hc, _⟩
      · exact .base (.tup (s _ _ a))
      · exact .fTuple (s _ _ a)
      · exact .kTuple hk hc
  | dict _ => cases r
def vIsi (T : String) (te : VT) : VT := fun ρ n Q E => te ρ n (fun d n' => Q (.bool (isiD T d)) n') E
theorem ve_isi {y : Str} {p2 p3 : Pos} (hg : Gl X "isinstance") (hm : X.mg "isinstance" = none) (hg2 : Gl X y) (hm2 : X.mg y = none) (hv2 : bootBuiltins y = some (.type T)) (hk : KitOk X.K T) (ha : VE X U e te)
    (hv : bootBuiltins "isinstance" = some (.builtin "isinstance") := by decide +kernel) (hn : y ≠ "__name__" := by decide) (hdb : (y == ("__debug__" : Str)) = false := by decide)
    (he : starEach [e, .Name y p2] X.env = (false, eval e X.env) :: starEach [.Name y p2] X.env := by rfl) (he2 : starEach [.Name y p2] X.env = (false, eval (.Name y p2) X.env) :: starEach [] X.env := by rfl) (hpl : (backTo pos (starEach [.Name y p2] X.env)).any (·.1) = false := by rfl) :
    VE X U (.Call (.Name "isinstance" p3) [e, .Name y p2] [] pos) (vIsi T te) :=
  pe_imp (pe_callB call_isi hg hm hv (pa_cons ha (pa_cons (pe_bltn (v := .ty T) hg2 hm2 hv2 rfl hn hdb) pa_nil he2) he) (by decide) (by decide) he hpl) fun σ H Q ⟨C, ρ, n, G, O, Q0, E0, I, h, hq, hE⟩ => ⟨C, ρ, n, G, O, _, E0, I, h, fun d n' q v G' O' H' I' s' r =>
    ⟨v, .ty T, .type (tyN d), .type T, isiD T d, rfl, .ty T, r.tyX I'.gH, hk _ (by cases d <;> first | (cases r; done) | simp [tyN]), hq _ n' q _ G' O' H' I' s' (.bl _)⟩, hE⟩
end
end VL


set_option maxRecDepth 100000
set_option maxHeartbeats 2000000
namespace VL
open PySem PySem.Spec PyProof.Rows L2
/-! ### enumerate of a tuple -/
def IteT (K : PySem.W.Frag) (a : Addr) : It :=
  ⟨fun i H => ∃ (xs : List V) (x : V), SqT K H a xs ∧ xs[i]? = some x, fun i H v H' => ∃ T x, v = .ref T ∧ H T = none ∧ H' = L2.upd H T (.tup [.int (i : Nat), x]) ∧ ∀ xs, SqT K H a xs → xs[i]? = some x, fun i H => ∃ xs : List V, SqT K H a xs ∧ xs.length = i⟩
def TnT (a e it : Addr) (i : Nat) (h : Heap) : Prop := (∃ old, IsEnum h e it (0 + (i : Int)) old) ∧ h.IsTupleIter it a i ∧ e ≠ it ∧ a ≠ it ∧ e ≠ a
theorem turn_enumT {P : Program} {w : World} {K : PySem.W.Frag} {elts : List Expr} {kk : Nat} {tpos : Pos} (a e it : Addr) : Turn P w K (.Tuple elts kk tpos) (IteT K a) [e, it] e (TnT a e it) where
  mem := by simp
  obj := fun i h st b hb => by
    obtain ⟨⟨old, he⟩, ⟨o, ho, hc, hd⟩, _⟩ := st
    rcases (show b = e ∨ b = it by simpa using hb) with z | z
    · subst z; exact ⟨_, he, fun v q => nomatch q⟩
    · subst z; exact ⟨o, ho, fun v q => by rw [hd] at q; cases q⟩
  keep := fun i h h' st k => by
    obtain ⟨⟨old, he⟩, hi, r⟩ := st
    exact ⟨⟨old, k e (by simp) _ he⟩, hi.at fun o q => k it (by simp) o q, r⟩
  item := by
    intro X hP hw hK hc i pins s σ H E I hf st hg
    subst hP hw hK
    obtain ⟨he, hit, n1, n2, n3⟩ := st
    obtain ⟨xs, x, hq, hx⟩ := hg
    obtain ⟨its, rv, tp, hz⟩ := I.tuple hq
    obtain ⟨u, hu, ru⟩ := rv.get hx
    have hlt : i < its.toArray.size := by
      have := (List.getElem?_eq_some_iff.mp hu).1
      simpa using this
    have hh : X.A.in1.handled = none := I.ok.hd hc
    have W := GoesN.enumFrom (prog := X.prog) (w := X.w) (A := X.A) (elts := elts) (x1 := kk) (pos := tpos) 0 (Draws.tuple hh it a n2 its.toArray) e n1 (by simp [n1, n3]) (by simp)
    refine W.goes i s _ E hlt ⟨he, hit, tp⟩ fun v h' tk hY st' hk htk => ?_
    obtain ⟨T, t, y, rfl, hT, hy, hTup⟩ := hY
    have ey : y = u := by
      have e1 : its.toArray[i]? = some y := hy
      rw [show its.toArray[i]? = its[i]? by simp, hu] at e1
      exact (Option.some.inj e1).symm
    subst ey
    have new : ObjOk X.prog X.w (L2.upd H T (.tup [.int (i : Nat), x])) h' T (.tup [.int (i : Nat), x]) :=
      ⟨by show 2 ≤ sizeLine; decide, [.int (0 + (i : Int)) t, y], .cons ⟨t, by simp⟩ (.cons ru .nil), hTup⟩
    have hlte : e < s.heap.objs.size := by obtain ⟨_, q⟩ := he; exact Heap.lt_size q
    have hlti : it < s.heap.objs.size := by obtain ⟨_, q, _⟩ := hit; exact Heap.lt_size q
    refine ⟨.ref T, _, I.turnedNew (ch := [e, it]) (fun b ob hb q => hk b ob hb q) hf hT new, rfl, ⟨T, x, rfl, I.hok.fresh hT, rfl, fun ys hy => by rw [I.tuple_inj hy hq]; exact hx⟩, ⟨st'.1, st'.2.1, n1, n2, n3⟩, fun b hb => ?_⟩
    have hb' : b < T := by
      rcases (show b = e ∨ b = it by simpa using hb) with z | z
      · subst z; exact Nat.lt_of_lt_of_le hlte hT
      · subst z; exact Nat.lt_of_lt_of_le hlti hT
    rw [upd_ne (Nat.ne_of_lt hb')]
    exact (hf b hb).1
  done := by
    intro X hP hw hK hc i pins s σ H E I hf st hg
    subst hP hw hK
    obtain ⟨he, hit, n1, n2, n3⟩ := st
    obtain ⟨xs, hq, hx⟩ := hg
    obtain ⟨its, rv, tp, hz⟩ := I.tuple hq
    have hh : X.A.in1.handled = none := I.ok.hd hc
    have W := GoesN.enumFrom (prog := X.prog) (w := X.w) (A := X.A) (elts := elts) (x1 := kk) (pos := tpos) 0 (Draws.tuple hh it a n2 its.toArray) e n1 (by simp [n1, n3]) (by simp)
    have ei : its.toArray.size = i := by rw [← hx, rv.length]; simp
    refine W.stops s (fun s1 => Inv X pins σ H s1) E ?_ fun h' tk hk htk => ?_
    · rw [ei]; exact ⟨he, hit, tp⟩
    · exact I.turnedL (ch := [e, it]) (fun b ob hb q => hk b ob hb q) hf
  self := fun A i s Q E st h => by
    obtain ⟨⟨_, he⟩, _⟩ := st
    exact wpAny_pyIter_enum he h
set_option maxHeartbeats 4000000 in
theorem enum_new1 {v : Value} {o : Obj} {B : Heap → Prop} (G : Begins v o B) : Meets (Builtin.«enumerate.__new__» ⟨[.type "enumerate", v], []⟩) (fun _ R s => B s.heap ∧
    R (.ok (.ret (.ref (s.heap.push o).objs.size))) { s with heap := (s.heap.push o).push { cls := .type "enumerate", data := .fields #[.none, .bool false, .ref s.heap.objs.size, rawInt 0, .none, .none] } }) :=
  .of_wp fun prog w A R s h => by
    obtain ⟨hp, g, d, tk, os⟩ := s
    obtain ⟨hb, h⟩ := h
    have hsub := sub_enumerate
    have go : ∀ {A' : Around} {E : Value → Shared → Prop} {Q : Value → Shared → Prop}, Q (.ref hp.objs.size) ⟨hp.push o, g, d, tk, os⟩ → wpAny (model prog w) A' (pyIter v) Q E ⟨hp, g, d, tk, os⟩ := fun q => G.iter prog w _ _ ⟨hp, g, d, tk, os⟩ _ hb q
    wp_walk using go
    refine wpAny_stack_any fun st => wpAny_pure ?_
    split
    · rename_i c _ _ _ _ _
      cases (c == Value.type "enumerate") <;> (wp_walk using go; exact ⟨_, rfl, h⟩)
    · wp_walk using go
      exact ⟨_, rfl, h⟩
theorem call_enum1 {prog : Program} {w : World} {A : Around} {E : Value → Shared → Prop} {s : Shared} {v : Value} {o : Obj} {B : Heap → Prop} {Q : Value → Shared → Prop} (G : Begins v o B) (hb : B s.heap)
    (h : ∀ h', IsEnum h' (s.heap.objs.size + 1) s.heap.objs.size 0 .none → h'.get? s.heap.objs.size = some o → (∀ b u, s.heap.get? b = some u → h'.get? b = some u) → Q (.ref (s.heap.objs.size + 1)) { s with heap := h' }) :
    wpAny (model prog w) A (call (.type "enumerate") [v]) Q E s := by
  refine callType_new F.called_enumerate (by decide) (F.typeCall_enumerate_1 _) (F.newCall_enumerate_1 _) (fun obj => F.args_object_init_2 obj _) F.entry_enumerate_new (enum_new1 G) ⟨hb, ?_⟩
  have sz : (s.heap.push o).objs.size = s.heap.objs.size + 1 := Heap.size_push ..
  have ie : IsEnum ((s.heap.push o).push { cls := .type "enumerate", data := .fields #[.none, .bool false, .ref s.heap.objs.size, rawInt 0, .none, .none] }) (s.heap.objs.size + 1) s.heap.objs.size 0 .none := by
    rw [← sz]
    exact Heap.get?_push_size (s.heap.push o) rfl
  rw [sz]
  exact ⟨⟨_, ie, rfl⟩, h _ ie (Heap.get?_push_of_some _ (Heap.get?_push_size _ G.free)) fun b u q => Heap.get?_push_of_some _ (Heap.get?_push_of_some _ q)⟩
def iEnumT (K : PySem.W.Frag) (ta : TA) : TI := fun σ H R => ta σ H fun vs H1 => ∃ a xs, vs = [.ref a] ∧ SqT K H1 a xs ∧ R (IteT K a) H1
theorem pi_enumT {X : Cx} {e : Expr} {ta : TA} {p pos tpos : Pos} {elts : List Expr} {kk : Nat} (hg : Gl X "enumerate") (hm : X.mg "enumerate" = none) (ha : PA X [e] ta) (hs : starEach [e] X.env = [(false, eval e X.env)] := by rfl) :
    PI X (.Tuple elts kk tpos) (.Call (.Name "enumerate" p) [e] [] pos) (iEnumT X.K ta) := by
  constructor
  intro pins s σ H R I h
  refine Call_ (ld_blt I hg hm boot_enumerate (PyProof.Rows.callWith_type1 (thn (ha.run pos pins s σ H _ I h) fun us s1 z => ?_) hs rfl))
  obtain ⟨vs, H1, I1, r1, a, xs, ex, hq, q⟩ := z
  subst ex
  cases r1 with
  | cons r rr =>
    cases rr
    cases r
    obtain ⟨its, rv, tp, hz⟩ := I1.tuple hq
    have alt : a < s1.heap.objs.size := by obtain ⟨o, ho, _⟩ := tp; exact Heap.lt_size ho
    refine call_enum1 (begins_tuple a its.toArray) tp fun h' he hit hk => wpAny_pyIter_enum he ?_
    have I2 : Inv X pins σ H1 { s1 with heap := h' } := I1.kept (t' := s1.toks) hk
    refine ⟨s1.heap.objs.size + 1, [s1.heap.objs.size + 1, s1.heap.objs.size], _, _, H1, rfl, I2, turn_enumT a (s1.heap.objs.size + 1) s1.heap.objs.size, ⟨⟨.none, he⟩, ⟨_, hit, rfl, rfl⟩, Nat.succ_ne_self _, Nat.ne_of_lt alt, Nat.ne_of_gt (Nat.lt_succ_of_lt alt)⟩, fun b hb => ?_, q⟩
    have hle : s1.heap.objs.size ≤ b := by
      rcases (show b = s1.heap.objs.size + 1 ∨ b = s1.heap.objs.size by simpa using hb) with z | z
      · rw [z]; exact Nat.le_add_right _ _
      · rw [z]; exact Nat.le_refl _
    exact I1.fpOk hle (I1.hok.fresh hle)
/-! ### what is walked, as data -/
structure WalkD (K : PySem.W.Frag) (J : It) (G : Hp) (ds : List Dt) : Prop where
  stop : ∀ H, Same G H → J.stop ds.length H
  go : ∀ i H, Same G H → i < ds.length → J.go i H
  yld : ∀ i H x H' G1 d, Same G G1 → Same G1 H → J.yld i H x H' → ds[i]? = some d → ∃ G2, Same H H' ∧ Same G1 G2 ∧ Same G2 H' ∧ New G1 H G2 ∧ DR K G2 x d
def upI (K : PySem.W.Frag) (U : WX) (t : VA) : TI := fun σ H R => ∃ (C : Ct) (ρ : Nv) (n : Nat) (G O : Hp) (Q0 : List Dt → Nat → Prop) (E0 : XW), In K C σ ρ n G O H ∧ t ρ n Q0 E0 ∧
  (∀ ds n', Q0 ds n' → ∀ J G' O' H', In K C σ ρ n' G' O' H' → Same G G' → WalkD K J G' ds → R J H') ∧ LkX K U C σ ρ E0
abbrev VI (X : Cx) (U : WX) (tg iter : Expr) (t : VA) : Prop := PI X tg iter (upI X.K U t)
theorem pi_imp {X : Cx} {tg iter : Expr} {t t' : TI} (h : PI X tg iter t) (w : ∀ σ H R, t' σ H R → t σ H R) : PI X tg iter t' := by
  obtain ⟨h⟩ := h
  exact ⟨fun pins s σ H R I q => h pins s σ H R I (w _ _ _ q)⟩
section
variable {X : Cx} {U : WX} {tg e : Expr} {pos p tpos : Pos} {te : VT} {al : VA} {elts : List Expr} {kk : Nat}
theorem walkD_tup {K : PySem.W.Frag} {G : Hp} {a : Addr} {xs : List V} {ds : List Dt} (h : SqT K G a xs) (r : DRs K G xs ds) : WalkD K (Itt K a) G ds where
  stop := fun H s => ⟨xs, sameT s h, Nat.le_of_eq r.length⟩
  go := fun i H s hi => ⟨xs, xs[i]'(by rw [r.length]; exact hi), sameT s h, by simp⟩
  yld := fun i H x H' G1 d s1 s2 y e => by
    obtain ⟨e1, y⟩ := y
    subst e1
    obtain ⟨v, hv, rv⟩ := r.get e
    have := y xs (sameT (s1.trans s2) h)
    rw [hv] at this
    cases this
    exact ⟨G1, Same.refl _, Same.refl _, s2, New.refl, DR.same s1 rv⟩
theorem walkD_lst {K : PySem.W.Frag} {G : Hp} {a : Addr} {xs : List V} {ds : List Dt} (h : G a = some (.lst xs)) (r : DRs K G xs ds) : WalkD K (Itl K a) G ds where
  stop := fun H s => ⟨xs, SqL.of (s _ _ h), Nat.le_of_eq r.length⟩
  go := fun i H s hi => ⟨xs, xs[i]'(by rw [r.length]; exact hi), SqL.of (s _ _ h), by simp⟩
  yld := fun i H x H' G1 d s1 s2 y e => by
    obtain ⟨e1, y⟩ := y
    subst e1
    obtain ⟨v, hv, rv⟩ := r.get e
    have := y xs (SqL.of ((s1.trans s2) _ _ h))
    rw [hv] at this
    cases this
    exact ⟨G1, Same.refl _, Same.refl _, s2, New.refl, DR.same s1 rv⟩
def itemsT (Q : List Dt → Prop) : Dt → Prop
  | .tuple ds => Q ds
  | _ => False
def itemsL (Q : List Dt → Prop) : Dt → Prop
  | .list ds => Q ds
  | _ => False
def iT (te : VT) : VA := fun ρ n Q E => te ρ n (fun d n' => itemsT (fun ds => Q ds n') d) E
def iL (te : VT) : VA := fun ρ n Q E => te ρ n (fun d n' => itemsL (fun ds => Q ds n') d) E
theorem vi_tup (h : VE X U e te) : VI X U tg e (iT te) := pi_imp (pi_tup h) fun σ H R ⟨C, ρ, n, G, O, Q0, E0, I, h, hq, he⟩ => ⟨C, ρ, n, G, O, _, E0, I, h, fun d n' q v G' O' H' I' s' r => by
  cases d with
  | tuple ds => cases r with | tup a r => exact ⟨_, rfl, ⟨_, sameT I'.gH a⟩, hq ds n' q _ G' O' H' I' s' (walkD_tup a r)⟩
  | _ => exact q.elim, he⟩
theorem vi_lst (h : VE X U e te) : VI X U tg e (iL te) := pi_imp (pi_list h) fun σ H R ⟨C, ρ, n, G, O, Q0, E0, I, h, hq, he⟩ => ⟨C, ρ, n, G, O, _, E0, I, h, fun d n' q v G' O' H' I' s' r => by
  cases d with
  | list ds => cases r with | lst a r => exact ⟨_, rfl, ⟨_, SqL.of (I'.gH _ _ a)⟩, hq ds n' q _ G' O' H' I' s' (walkD_lst a r)⟩
  | _ => exact q.elim, he⟩
/-- range -/
def rngD (lo : Int) (n : Nat) : List Dt := (List.range n).map fun i : Nat => PyData.int (lo + i)
theorem rngD_length (lo : Int) (n : Nat) : (rngD lo n).length = n := by simp [rngD]
theorem rngD_get {lo : Int} {n i : Nat} {d : Dt} (h : (rngD lo n)[i]? = some d) : d = .int (lo + i) := by
  unfold rngD at h
  rw [List.getElem?_map] at h
  cases q : (List.range n)[i]? with
  | none => rw [q] at h; cases h
  | some k =>
    rw [q] at h
    cases h
    rw [(List.getElem?_eq_some_iff.mp q).2.symm]
    simp
theorem walkD_rng {K : PySem.W.Frag} {G : Hp} {lo : Int} {n : Nat} : WalkD K (Itr lo n) G (rngD lo n) where
  stop := fun H s => by rw [rngD_length]; exact Nat.le_refl _
  go := fun i H s hi => by rw [rngD_length] at hi; exact hi
  yld := fun i H x H' G1 d s1 s2 y e => by
    obtain ⟨e1, y⟩ := y
    subst e1
    subst y
    rw [rngD_get e]
    exact ⟨G1, Same.refl _, Same.refl _, s2, New.refl, .int _⟩
def rng1 (Q : List Dt → Prop) (ds : List Dt) : Prop := match ds with
  | [.int j] => -(2 ^ 62) ≤ j ∧ j < 2 ^ 62 ∧ Q (rngD 0 j.toNat)
  | _ => False
def rng2 (Q : List Dt → Prop) (ds : List Dt) : Prop := match ds with
  | [.int i, .int j] => (-(2 ^ 62) ≤ i ∧ i < 2 ^ 62 ∧ -(2 ^ 62) ≤ j ∧ j < 2 ^ 62) ∧ Q (rngD i (j - i).toNat)
  | _ => False
def iR1 (al : VA) : VA := fun ρ n Q E => al ρ n (fun ds n' => rng1 (fun r => Q r n') ds) E
def iR2 (al : VA) : VA := fun ρ n Q E => al ρ n (fun ds n' => rng2 (fun r => Q r n') ds) E
theorem vi_range1 {a : Expr} (hg : Gl X "range") (hm : X.mg "range" = none) (ha : VAa X U [a] al) (hs : starEach [a] X.env = [(false, eval a X.env)] := by rfl) : VI X U tg (.Call (.Name "range" p) [a] [] pos) (iR1 al) :=
  pi_imp (pi_range1 hg hm ha hs) fun σ H R ⟨C, ρ, n, G, O, Q0, E0, I, h, hq, he⟩ => ⟨C, ρ, n, G, O, _, E0, I, h, fun ds n' q vs G' O' H' I' s' r => by
    match ds, r, q with
    | [.int j], .cons (.int _) .nil, q => exact ⟨j, rfl, q.1, q.2.1, hq _ n' q.2.2 _ G' O' H' I' s' walkD_rng⟩, he⟩
theorem vi_range2 {a b : Expr} (hg : Gl X "range") (hm : X.mg "range" = none) (ha : VAa X U [a, b] al) (hs : starEach [a, b] X.env = [(false, eval a X.env), (false, eval b X.env)] := by rfl) (hs2 : starEach [b] X.env = [(false, eval b X.env)] := by rfl) : VI X U tg (.Call (.Name "range" p) [a, b] [] pos) (iR2 al) :=
  pi_imp (pi_range2 hg hm ha hs hs2) fun σ H R ⟨C, ρ, n, G, O, Q0, E0, I, h, hq, he⟩ => ⟨C, ρ, n, G, O, _, E0, I, h, fun ds n' q vs G' O' H' I' s' r => by
    match ds, r, q with
    | [.int i, .int j], .cons (.int _) (.cons (.int _) .nil), q => exact ⟨i, j, rfl, q.1, hq _ n' q.2 _ G' O' H' I' s' walkD_rng⟩, he⟩
/-- enumerate -/
def enumD (ds : List Dt) : List Dt := ds.mapIdx fun i d => PyData.tuple [.int (i : Int), d]
theorem enumD_length (ds : List Dt) : (enumD ds).length = ds.length := by simp [enumD]
theorem enumD_get {ds : List Dt} {i : Nat} {d : Dt} (h : (enumD ds)[i]? = some d) : ∃ x, ds[i]? = some x ∧ d = .tuple [.int (i : Int), x] := by
  unfold enumD at h
  rw [List.getElem?_mapIdx] at h
  cases q : ds[i]? with
  | none => rw [q] at h; cases h
  | some x => rw [q] at h; cases h; exact ⟨x, rfl, rfl⟩
theorem walkD_enumT {K : PySem.W.Frag} {G : Hp} {a : Addr} {xs : List V} {ds : List Dt} (h : SqT K G a xs) (r : DRs K G xs ds) : WalkD K (IteT K a) G (enumD ds) where
  stop := fun H s => ⟨xs, sameT s h, by rw [enumD_length]; exact r.length⟩
  go := fun i H s hi => ⟨xs, xs[i]'(by rw [r.length]; rw [enumD_length] at hi; exact hi), sameT s h, by simp⟩
  yld := fun i H x H' G1 d s1 s2 y e => by
    obtain ⟨T, z, e1, hT, e2, y⟩ := y
    subst e1 e2
    obtain ⟨dx, hx, rfl⟩ := enumD_get e
    obtain ⟨v, hv, rv⟩ := r.get hx
    have := y xs (sameT (s1.trans s2) h)
    rw [hv] at this
    cases this
    have n := gfree s2 hT
    exact ⟨L2.upd G1 T _, same_upd hT, same_upd n, same_upd2 s2, new_upd hT, .tup (SqT.of upd_same) (.cons (.int _) (.cons (DR.same (s1.trans (same_upd n)) rv) .nil))⟩
theorem walkD_enumL {K : PySem.W.Frag} {G : Hp} {a : Addr} {xs : List V} {ds : List Dt} (h : G a = some (.lst xs)) (r : DRs K G xs ds) : WalkD K (Ite K a) G (enumD ds) where
  stop := fun H s => ⟨xs, SqL.of (s _ _ h), by rw [enumD_length]; exact Nat.le_of_eq r.length⟩
  go := fun i H s hi => ⟨xs, xs[i]'(by rw [r.length]; rw [enumD_length] at hi; exact hi), SqL.of (s _ _ h), by simp⟩
  yld := fun i H x H' G1 d s1 s2 y e => by
    obtain ⟨T, z, e1, hT, e2, y⟩ := y
    subst e1 e2
    obtain ⟨dx, hx, rfl⟩ := enumD_get e
    obtain ⟨v, hv, rv⟩ := r.get hx
    have := y xs (SqL.of ((s1.trans s2) _ _ h))
    rw [hv] at this
    cases this
    have n := gfree s2 hT
    exact ⟨L2.upd G1 T _, same_upd hT, same_upd n, same_upd2 s2, new_upd hT, .tup (SqT.of upd_same) (.cons (.int _) (.cons (DR.same (s1.trans (same_upd n)) rv) .nil))⟩
def iET (al : VA) : VA := fun ρ n Q E => al ρ n (fun ds n' => match ds with
  | [.tuple xs] => Q (enumD xs) n'
  | _ => False) E
def iEL (al : VA) : VA := fun ρ n Q E => al ρ n (fun ds n' => match ds with
  | [.list xs] => Q (enumD xs) n'
  | _ => False) E
theorem vi_enumT (hg : Gl X "enumerate") (hm : X.mg "enumerate" = none) (ha : VAa X U [e] al) (hs : starEach [e] X.env = [(false, eval e X.env)] := by rfl) : VI X U (.Tuple elts kk tpos) (.Call (.Name "enumerate" p) [e] [] pos) (iET al) :=
  pi_imp (pi_enumT hg hm ha hs) fun σ H R ⟨C, ρ, n, G, O, Q0, E0, I, h, hq, he⟩ => ⟨C, ρ, n, G, O, _, E0, I, h, fun ds n' q vs G' O' H' I' s' r => by
    match ds, r, q with
    | [.tuple xs], .cons (.tup a r1) .nil, q => exact ⟨_, _, rfl, sameT I'.gH a, hq _ n' q _ G' O' H' I' s' (walkD_enumT a r1)⟩, he⟩
theorem vi_enumL (hg : Gl X "enumerate") (hm : X.mg "enumerate" = none) (ha : VAa X U [e] al) (hs : starEach [e] X.env = [(false, eval e X.env)] := by rfl) : VI X U (.Tuple elts kk tpos) (.Call (.Name "enumerate" p) [e] [] pos) (iEL al) :=
  pi_imp (pi_enum hg hm ha hs) fun σ H R ⟨C, ρ, n, G, O, Q0, E0, I, h, hq, he⟩ => ⟨C, ρ, n, G, O, _, E0, I, h, fun ds n' q vs G' O' H' I' s' r => by
    match ds, r, q with
    | [.list xs], .cons (.lst a r1) .nil, q => exact ⟨_, _, rfl, SqL.of (I'.gH _ _ a), hq _ n' q _ G' O' H' I' s' (walkD_enumL a r1)⟩, he⟩
/-! ### for -/
def vLoop (g : VGt) (tb : VST) (V : VN) : List Dt → Nv → Nat → Prop
  | [], ρ, n => V.nx ρ n
  | d :: ds, ρ, n => g d ρ fun ρ1 => tb { V with nx := vLoop g tb V ds, ct := vLoop g tb V ds, bk := V.nx } ρ1 n
abbrev Ct.at (C : Ct) (G : Hp) : Ct := ⟨C.mo, G, C.O0, C.H0⟩
theorem RelW.to {K : PySem.W.Frag} {C : Ct} {G1 G O : Hp} {w : W} {v : V} (r : RelW K C G O w v) : RelW K (C.at G1) G O w v := by cases w <;> exact r
theorem RelW.back {K : PySem.W.Frag} {C : Ct} {G1 G O : Hp} {w : W} {v : V} (r : RelW K (C.at G1) G O w v) : RelW K C G O w v := by cases w <;> exact r
theorem Io.to {C : Ct} {n : Nat} {G1 G O H : Hp} (I : Io C n G O H) (s : Same G1 G) (b : Same C.G0 G1) : Io (C.at G1) n G O H :=
  ⟨I.good, I.go, s, I.o0, I.oh, I.nO, fun a o e => by
    rcases I.nG a o e with q | q
    · exact .inl (b _ _ q)
    · exact .inr q, I.h0⟩
theorem Io.back {C : Ct} {n : Nat} {G1 G O H : Hp} (I : Io (C.at G1) n G O H) (b : Same C.G0 G1) (nb : New C.G0 C.H0 G1) : Io C n G O H :=
  ⟨I.good, I.go, b.trans I.g0, I.o0, I.oh, I.nO, fun a o e => by
    rcases I.nG a o e with q | q
    · exact nb _ _ q
    · exact .inr q, I.h0⟩
theorem In.to {K : PySem.W.Frag} {C : Ct} {σ : L2.St} {ρ : Nv} {n : Nat} {G1 G O H : Hp} (I : In K C σ ρ n G O H) (s : Same G1 G) (b : Same C.G0 G1) : In K (C.at G1) σ ρ n G O H :=
  ⟨I.toIo.to s b, I.len, fun i w e => by obtain ⟨v, h, r⟩ := I.slot i w e; exact ⟨v, h, r.to⟩, I.dis⟩
theorem In.back {K : PySem.W.Frag} {C : Ct} {σ : L2.St} {ρ : Nv} {n : Nat} {G1 G O H : Hp} (I : In K (C.at G1) σ ρ n G O H) (b : Same C.G0 G1) (nb : New C.G0 C.H0 G1) : In K C σ ρ n G O H :=
  ⟨I.toIo.back b nb, I.len, fun i w e => by obtain ⟨v, h, r⟩ := I.slot i w e; exact ⟨v, h, r.back⟩, I.dis⟩
def vFor (ti : VA) (g : VGt) (tb : VST) : VST := fun V ρ n => ti ρ n (fun ds n' => vLoop g tb V ds ρ n') fun x n' => V.xc x ρ n'
theorem vs_for {iter : Expr} {body : List Stmt} {g : VGt} {tb : VST} {ti : VA} (hp : PassesOwn (model X.prog X.w) X.A X.env X.xe) (hc : X.calm = true) (hi : VI X U tg iter ti) (hg : PG X tg (upG X.K g)) (hb : VSs X U body tb)
    (hs : ∀ x, foldedSetIterable iter X.env x = pure x := by intro _; rfl) :
    VS X U (.For tg iter body [] pos) (vFor ti g tb) := ps_imp (ps_for hp hc hi hg hb hs) fun D σ H ⟨C, ρ, n, G, O, V, I, h, L⟩ => by
  refine ⟨C, ρ, n, G, O, _, _, I, h, fun ds n' q J G1 O1 H1 I1 s1 w => ?_, L.lkx σ ρ⟩
  refine ⟨fun i m σ H => ∃ ρ n G O, In X.K C σ ρ n G O H ∧ Same G1 G ∧ i ≤ ds.length ∧ m = ds.length - i ∧ vLoop g tb V (ds.drop i) ρ n, ⟨_, ρ, n', G1, O1, I1, Same.refl _, Nat.zero_le _, rfl, q⟩, ?_⟩
  rintro i m σ2 H2 ⟨ρ2, n2, G2, O2, I2, s2, hi, rfl, q2⟩
  by_cases hlt : i < ds.length
  · refine .inr ⟨w.go i H2 (s2.trans I2.gH) hlt, fun σ' H' => ∃ ρ n G O, In X.K C σ' ρ n G O H' ∧ Same G1 G ∧ vLoop g tb V (ds.drop (i + 1)) ρ n, ?_, fun x H3 y => ?_⟩
    · rintro σ' H' ⟨ρ', n'', G', O', I', s', q'⟩
      exact ⟨ds.length - (i + 1), by omega, ρ', n'', G', O', I', s', hlt, rfl, q'⟩
    · have ed : ds[i]? = some ds[i] := by simp [hlt]
      obtain ⟨G4, sh, sg, sgh, nw, rd⟩ := w.yld i H2 x H3 G2 ds[i] s2 I2.gH y ed
      have I4 := I2.pure sh sg sgh nw
      rw [List.drop_eq_getElem_cons hlt] at q2
      refine ⟨C, ρ2, n2, G4, _, ds[i], _, I4, rd, q2, fun ρ5 q5 σ5 I5 => ?_⟩
      have b1 : Same C.G0 G1 := I1.g0
      have b2 : New C.G0 C.H0 G1 := I1.nG
      refine ⟨C.at G1, ρ5, n2, G4, _, _, I5.to (s2.trans sg) b1, q5, ⟨fun ρ' n' q' σ' G' O' H' I' => ⟨ρ', n', G', O', I'.back b1 b2, I'.g0, q'⟩, fun w' n' q' v G' O' H' J r => L.rt w' n' q' v G' O' H' (J.back b1 b2) r.back, fun ρ' n' q' σ' G' O' H' I' => L.nx ρ' n' q' σ' G' O' H' (I'.back b1 b2),
        fun ρ' n' q' σ' G' O' H' I' => ⟨ρ', n', G', O', I'.back b1 b2, I'.g0, q'⟩, fun x ρ' n' q' cls d σ' G' O' H' I' r => L.xc x ρ' n' q' cls d σ' G' O' H' (I'.back b1 b2) r⟩⟩
  · have e : i = ds.length := by omega
    subst e
    rw [List.drop_length] at q2
    exact .inl ⟨w.stop H2 (s2.trans I2.gH), L.nx _ n2 q2 _ _ _ _ I2⟩
/-! ### while -/
def vWhileN (xb : VB) (tb : VST) (V : VN) : Nat → Nv → Nat → Prop
  | 0, _, _ => False
  | k + 1, ρ, n => xb ρ n (fun b n' => if b = true then tb { V with nx := vWhileN xb tb V k, ct := vWhileN xb tb V k, bk := V.nx } ρ n' else V.nx ρ n') fun x n' => V.xc x ρ n'
def vWhile (xb : VB) (tb : VST) : VST := fun V ρ n => ∃ k, vWhileN xb tb V k ρ n
theorem vs_while {c : Expr} {body : List Stmt} {xb : VB} {tb : VST} (hp : PassesOwn (model X.prog X.w) X.A X.env X.xe) (hc : VTt X U c xb) (hb : VSs X U body tb) : VS X U (.While c body [] pos) (vWhile xb tb) :=
  ps_imp (ps_while hp hc hb) fun D σ H ⟨C, ρ, n, G, O, V, I, ⟨k, h⟩, L⟩ => by
  refine ⟨fun m σ H => ∃ ρ n G O, In X.K C σ ρ n G O H ∧ vWhileN xb tb V m ρ n, ⟨k, ρ, n, G, O, I, h⟩, ?_⟩
  rintro m σ2 H2 ⟨ρ2, n2, G2, O2, I2, q2⟩
  cases m with
  | zero => exact q2.elim
  | succ m =>
    refine ⟨C, ρ2, n2, G2, O2, _, _, I2, q2, fun b n' q G' O' H' I' s' => ?_, L.lkx σ2 ρ2⟩
    cases b with
    | true =>
      rw [if_pos rfl] at q ⊢
      exact ⟨fun σ' H' => ∃ ρ n G O, In X.K C σ' ρ n G O H' ∧ vWhileN xb tb V m ρ n, fun σ' H' z => ⟨m, Nat.lt_succ_self _, z⟩, C, ρ2, n', G', O', _, I', q,
        ⟨fun ρ' n' q' σ' G' O' H' I' => ⟨ρ', n', G', O', I', q'⟩, L.rt, L.nx, fun ρ' n' q' σ' G' O' H' I' => ⟨ρ', n', G', O', I', q'⟩, L.xc⟩⟩
    | false =>
      rw [if_neg Bool.false_ne_true] at q ⊢
      exact L.nx _ n' q _ _ _ _ I'
end
end VL


set_option maxRecDepth 100000
set_option maxHeartbeats 400000
namespace VL
open PySem PySem.Spec PyProof.Rows L2
/-! ### list comprehensions -/
def wipeE (ρ : Nv) : List Nat → Nv
  | [] => ρ
  | v :: vs => (wipeE ρ vs).set v none
theorem wipeE_length (ρ : Nv) : ∀ vs, (wipeE ρ vs).length = ρ.length
  | [] => rfl
  | v :: vs => by unfold wipeE; rw [List.length_set, wipeE_length ρ vs]
theorem wipeE_out {ρ : Nv} {i : Nat} : ∀ {vs : List Nat}, i ∉ vs → (wipeE ρ vs)[i]? = ρ[i]?
  | [], _ => rfl
  | v :: vs, h => by
    unfold wipeE
    rw [List.getElem?_set_ne (fun e => h (by simp [e])), wipeE_out fun z => h (List.mem_cons_of_mem _ z)]
theorem wipeE_some {ρ : Nv} {i : Nat} {w : W} : ∀ {vs : List Nat}, (wipeE ρ vs)[i]? = some (some w) → ρ[i]? = some (some w) ∧ i ∉ vs
  | [], h => ⟨h, by simp⟩
  | v :: vs, h => by
    unfold wipeE at h
    by_cases hi : v = i
    · subst hi
      by_cases hv : v < (wipeE ρ vs).length
      · rw [List.getElem?_set_self hv] at h; cases h
      · rw [List.getElem?_eq_none (by simpa using hv)] at h; cases h
    · rw [List.getElem?_set_ne hi] at h
      obtain ⟨h1, h2⟩ := wipeE_some h
      exact ⟨h1, by simp only [List.mem_cons, not_or]; exact ⟨fun e => hi e.symm, h2⟩⟩
theorem wipe_out {σ : L2.St} {i : Nat} : ∀ {vs : List Nat}, i ∉ vs → (wipe σ vs)[i]? = σ[i]?
  | [], _ => rfl
  | v :: vs, h => by
    unfold wipe
    rw [List.getElem?_set_ne (fun e => h (by simp [e])), wipe_out fun z => h (List.mem_cons_of_mem _ z)]
theorem wipe_set {σ : L2.St} {i : Nat} {x : Option V} : ∀ {vs : List Nat}, i ∈ vs → wipe (σ.set i x) vs = wipe σ vs
  | [], h => by cases h
  | v :: vs, h => by
    unfold wipe
    by_cases hv : i ∈ vs
    · rw [wipe_set hv]
    · have e : i = v := by
        rcases List.mem_cons.mp h with z | z
        · exact z
        · exact absurd z hv
      subst e
      have key : ∀ us : List Nat, i ∉ us → wipe (σ.set i x) us = (wipe σ us).set i x := by
        intro us
        induction us with
        | nil => intro _; rfl
        | cons u us ih =>
          intro hn
          unfold wipe
          rw [ih fun z => hn (List.mem_cons_of_mem _ z), List.set_comm _ _ (fun e => hn (by simp [e]))]
      rw [key vs hv, List.set_set]
theorem wipeE_set {σ : Nv} {i : Nat} {x : Option W} : ∀ {vs : List Nat}, i ∈ vs → wipeE (σ.set i x) vs = wipeE σ vs
  | [], h => by cases h
  | v :: vs, h => by
    unfold wipeE
    by_cases hv : i ∈ vs
    · rw [wipeE_set hv]
    · have e : i = v := by
        rcases List.mem_cons.mp h with z | z
        · exact z
        · exact absurd z hv
      subst e
      have key : ∀ us : List Nat, i ∉ us → wipeE (σ.set i x) us = (wipeE σ us).set i x := by
        intro us
        induction us with
        | nil => intro _; rfl
        | cons u us ih =>
          intro hn
          unfold wipeE
          rw [ih fun z => hn (List.mem_cons_of_mem _ z), List.set_comm _ _ (fun e => hn (by simp [e]))]
      rw [key vs hv, List.set_set]
section
variable {K : PySem.W.Frag} {C : Ct} {σ : L2.St} {ρ : Nv} {n n' : Nat} {G O H G' O' H' : Hp}
theorem In.wipe (I : In K C σ ρ n G O H) (vs : List Nat) : In K C (L2.wipe σ vs) (wipeE ρ vs) n G O H := by
  refine ⟨I.toIo, by rw [wipe_length, wipeE_length]; exact I.len, fun i w e => ?_, fun i j ds es a ij e1 e2 e3 e4 => ?_⟩
  · obtain ⟨e1, h⟩ := wipeE_some e
    obtain ⟨v, h1, h2⟩ := I.slot i w e1
    exact ⟨v, by rw [wipe_out h]; exact h1, h2⟩
  · obtain ⟨p1, q1⟩ := wipeE_some e1
    obtain ⟨p2, q2⟩ := wipeE_some e2
    rw [wipe_out q1] at e3
    rw [wipe_out q2] at e4
    exact I.dis i j ds es a ij p1 p2 e3 e4
def noOwn (ρ : Nv) : List Nat → Prop
  | [] => True
  | v :: vs => (match ρ[v]? with | some (some (.own _)) => False | _ => True) ∧ noOwn ρ vs
theorem noOwn.at {i : Nat} {ds : List Dt} : ∀ {vs : List Nat}, noOwn ρ vs → i ∈ vs → ρ[i]? ≠ some (some (.own ds))
  | v :: vs, h, hi, e => by
    rcases List.mem_cons.mp hi with z | z
    · subst z
      have := h.1
      rw [e] at this
      exact this
    · exact noOwn.at h.2 z e
theorem In.unwipe (I : In K C σ ρ n G O H) {vs : List Nat} (J : In K C (L2.wipe σ vs) (wipeE ρ vs) n' G' O' H') (sg : Same G G') (no : noOwn ρ vs) : In K C σ ρ n' G' O' H' := by
  have out : ∀ {i : Nat} {ds : List Dt}, ρ[i]? = some (some (.own ds)) → i ∉ vs := fun {i ds} e hi => no.at hi e
  refine ⟨J.toIo, I.len, fun i w e => ?_, fun i j ds es a ij e1 e2 e3 e4 => ?_⟩
  · by_cases hi : i ∈ vs
    · obtain ⟨v, h1, h2⟩ := I.slot i w e
      refine ⟨v, h1, ?_⟩
      cases w with
      | own ds => exact absurd e (no.at hi)
      | dat d => exact DR.same sg h2
      | tok => exact h2
      | scr ns => obtain ⟨a, e1, q⟩ := h2; exact ⟨a, e1, sg.seq q⟩
    · obtain ⟨v, h1, h2⟩ := J.slot i w (by rw [wipeE_out hi]; exact e)
      exact ⟨v, by rw [wipe_out hi] at h1; exact h1, h2⟩
  · have o1 := out e1
    have o2 := out e2
    exact J.dis i j ds es a ij (by rw [wipeE_out o1]; exact e1) (by rw [wipeE_out o2]; exact e2) (by rw [wipe_out o1]; exact e3) (by rw [wipe_out o2]; exact e4)
/-- a list under way, out of sight -/
abbrev Ct.hide (C : Ct) (D : Addr) (xs : List V) : Ct := ⟨C.mo, C.G0, L2.upd C.O0 D (.lst xs), L2.upd C.H0 D (.lst xs)⟩
theorem In.hide {D : Addr} {xs : List V} (I : In K C σ ρ n G O H) (g : G D = none) (h0 : C.H0 D = none) (o : O D = some (.lst xs)) (fr : ∀ (j : Nat) (es : List Dt), ρ[j]? = some (some (.own es)) → σ[j]? ≠ some (some (.ref D))) : In K (C.hide D xs) σ ρ n G O H := by
  refine ⟨⟨I.good, I.go, I.g0, fun a u e => ?_, same_upd2 I.oh, fun a u e => ?_, fun a u e => ?_, fun a e => ?_⟩, I.len, fun i w e => ?_, I.dis⟩
  · by_cases h : a = D
    · subst h
      have e' : L2.upd C.O0 a (.lst xs) a = some u := e
      rw [upd_same] at e'; cases e'; exact o
    · have e' : L2.upd C.O0 D (.lst xs) a = some u := e
      rw [upd_ne h] at e'; exact I.o0 _ _ e'
  · by_cases h : a = D
    · subst h
      rw [o] at e; cases e
      exact .inl upd_same
    · rcases I.nO a u e with q | q
      · exact .inl (by show L2.upd C.O0 D _ a = _; rw [upd_ne h]; exact q)
      · exact .inr (by show L2.upd C.H0 D _ a = _; rw [upd_ne h]; exact q)
  · have h : a ≠ D := ne_of_none e g
    rcases I.nG a u e with q | q
    · exact .inl q
    · exact .inr (by show L2.upd C.H0 D _ a = _; rw [upd_ne h]; exact q)
  · have h : a ≠ D := fun z => by subst z; rw [I.oH _ _ o] at e; cases e
    show L2.upd C.H0 D _ a = _
    rw [upd_ne h]; exact I.h0 a e
  · obtain ⟨v, h1, h2⟩ := I.slot i w e
    refine ⟨v, h1, ?_⟩
    cases w with
    | own ds =>
      obtain ⟨a, ys, rfl, q1, q2, q3, q4⟩ := h2
      have h : a ≠ D := fun z => by subst z; exact fr i ds e h1
      exact ⟨a, ys, rfl, q1, by show L2.upd C.H0 D _ a = _; rw [upd_ne h]; exact q2, q3, q4⟩
    | dat d => exact h2
    | tok => exact h2
    | scr ns => exact h2
theorem In.show {D : Addr} {xs : List V} (I : In K (C.hide D xs) σ ρ n G O H) (h0 : C.H0 D = none) (oh : Same C.O0 C.H0) (g0 : C.G0 D = none) :
    In K C σ ρ n G O H ∧ O D = some (.lst xs) ∧ G D = none ∧ ∀ (j : Nat) (es : List Dt), ρ[j]? = some (some (.own es)) → σ[j]? ≠ some (some (.ref D)) := by
  have o0 : C.O0 D = none := by
    cases q : C.O0 D with | none => rfl | some u => rw [oh _ _ q] at h0; cases h0
  have oD : O D = some (.lst xs) := I.o0 _ _ upd_same
  have gD : G D = none := by
    cases q : G D with
    | none => rfl
    | some u =>
      rcases I.nG D u q with z | z
      · have z' : C.G0 D = some u := z
        rw [g0] at z'; cases z'
      · have z' : L2.upd C.H0 D (.lst xs) D = none := z
        rw [upd_same] at z'; cases z'
  refine ⟨⟨⟨I.good, I.go, I.g0, fun a u e => ?_, oh, fun a u e => ?_, fun a u e => ?_, fun a e => ?_⟩, I.len, fun i w e => ?_, I.dis⟩, oD, gD, fun j es e z => ?_⟩
  · have h : a ≠ D := ne_of_none e o0
    exact I.o0 _ _ (by show L2.upd C.O0 D _ a = _; rw [upd_ne h]; exact e)
  · by_cases h : a = D
    · subst h; exact .inr h0
    · rcases I.nO a u e with q | q
      · have q' : L2.upd C.O0 D (.lst xs) a = some u := q
        rw [upd_ne h] at q'; exact .inl q'
      · have q' : L2.upd C.H0 D (.lst xs) a = none := q
        rw [upd_ne h] at q'; exact .inr q'
  · have h : a ≠ D := ne_of_none e gD
    rcases I.nG a u e with q | q
    · exact .inl q
    · have q' : L2.upd C.H0 D (.lst xs) a = none := q
      rw [upd_ne h] at q'; exact .inr q'
  · by_cases h : a = D
    · subst h; exact h0
    · have q' : L2.upd C.H0 D (.lst xs) a = none := I.h0 a e
      rw [upd_ne h] at q'; exact q'
  · obtain ⟨v, h1, h2⟩ := I.slot i w e
    refine ⟨v, h1, ?_⟩
    cases w with
    | own ds =>
      obtain ⟨a, ys, rfl, q1, q2, q3, q4⟩ := h2
      have q2' : L2.upd C.H0 D (.lst xs) a = none := q2
      by_cases h : a = D
      · subst h; rw [upd_same] at q2'; cases q2'
      · rw [upd_ne h] at q2'
        exact ⟨a, ys, rfl, q1, q2', q3, q4⟩
    | dat d => exact h2
    | tok => exact h2
    | scr ns => exact h2
  · obtain ⟨v, h1, a, ys, ev, q1, q2, q3, q4⟩ := I.slot j _ e
    rw [h1] at z
    cases z
    cases ev
    have q2' : L2.upd C.H0 D (.lst xs) D = none := q2
    rw [upd_same] at q2'; cases q2'
end
/-- a target in both readings -/
def PairG (K : PySem.W.Frag) (vs : List Nat) (gh : TG) (gv : VGt) : Prop := ∀ v σ H Q C ρ n G O d Q0, In K C σ ρ n G O H → DR K G v d → gv d ρ Q0 → (∀ ρ', Q0 ρ' → wipeE ρ' vs = wipeE ρ vs → ∀ σ', In K C σ' ρ' n G O H → wipe σ' vs = wipe σ vs → Q σ' H) → gh v σ H Q
theorem pair_name {K : PySem.W.Frag} {vs : List Nat} (i : Nat) (hi : i ∈ vs := by decide) : PairG K vs (gName i) (gN i) := fun v σ H Q C ρ n G O d Q0 I r q h => h _ q (wipeE_set hi) _ (I.set i r) (wipe_set hi)
theorem pair_tup2 {K : PySem.W.Frag} {vs : List Nat} (i j : Nat) (hi : i ∈ vs := by decide) (hj : j ∈ vs := by decide) : PairG K vs (gTup K 2 (gCons (gName i) (gCons (gName j) gNil))) (gT 2 (gsC (gN i) (gsC (gN j) gsN))) := by
  intro v σ H Q C ρ n G O d Q0 I r q h
  cases d with
  | tuple ds =>
    cases r with
    | tup a r =>
      cases r with
      | nil => exact absurd q.1 (by simp)
      | cons r1 r =>
        cases r with
        | nil => exact absurd q.1 (by simp)
        | cons r2 r =>
          cases r with
          | nil => exact ⟨_, _, rfl, sameT I.gH a, rfl, _, _, rfl, _, _, rfl, rfl, h _ q.2 (by rw [wipeE_set hj, wipeE_set hi]) _ ((I.set i r1).set j r2) (by rw [wipe_set hj, wipe_set hi])⟩
          | cons r3 r => exact absurd q.1 (by simp)
  | _ => exact q.elim
theorem wipe_idem (σ : L2.St) (vs : List Nat) : ∀ us : List Nat, (∀ u ∈ us, u ∈ vs) → wipe (wipe σ vs) us = wipe σ vs
  | [], _ => rfl
  | u :: us, hu => by
    have ih := wipe_idem σ vs us fun z hz => hu z (List.mem_cons_of_mem _ hz)
    show (wipe (wipe σ vs) us).set u none = wipe σ vs
    rw [ih]
    generalize ht : wipe σ vs = τ
    apply List.ext_getElem?
    intro k
    by_cases hk : u = k
    · subst hk
      by_cases hl : u < τ.length
      · rw [List.getElem?_set_self hl]
        cases z : τ[u]? with
        | none => rw [List.getElem?_eq_none_iff] at z; omega
        | some o =>
          cases o with
          | none => rfl
          | some v => rw [← ht] at z; exact absurd (hu u (by simp)) (wipe_some z).2
      · rw [List.getElem?_eq_none (by simpa using hl), List.getElem?_eq_none (by simpa using hl)]
    · rw [List.getElem?_set_ne hk]
theorem wipeE_idem (ρ : Nv) (vs : List Nat) : ∀ us : List Nat, (∀ u ∈ us, u ∈ vs) → wipeE (wipeE ρ vs) us = wipeE ρ vs
  | [], _ => rfl
  | u :: us, hu => by
    have ih := wipeE_idem ρ vs us fun z hz => hu z (List.mem_cons_of_mem _ hz)
    show (wipeE (wipeE ρ vs) us).set u none = wipeE ρ vs
    rw [ih]
    generalize ht : wipeE ρ vs = τ
    apply List.ext_getElem?
    intro k
    by_cases hk : u = k
    · subst hk
      by_cases hl : u < τ.length
      · rw [List.getElem?_set_self hl]
        cases z : τ[u]? with
        | none => rw [List.getElem?_eq_none_iff] at z; omega
        | some o =>
          cases o with
          | none => rfl
          | some v => rw [← ht] at z; exact absurd (hu u (by simp)) (wipeE_some z).2
      · rw [List.getElem?_eq_none (by simpa using hl), List.getElem?_eq_none (by simpa using hl)]
    · rw [List.getElem?_set_ne hk]
theorem In.mutD {K : PySem.W.Frag} {C : Ct} {σ : L2.St} {ρ : Nv} {n : Nat} {G O H : Hp} {D : Addr} {xs ys : List V} (I : In K C σ ρ n G O H) (g : G D = none) (h0 : C.H0 D = none) (o : O D = some (.lst xs)) (fr : ∀ (j : Nat) (es : List Dt), ρ[j]? = some (some (.own es)) → σ[j]? ≠ some (some (.ref D))) :
    In K C σ ρ n G (L2.upd O D (.lst ys)) (L2.upd H D (.lst ys)) := by
  have o0n : C.O0 D = none := by
    cases q : C.O0 D with | none => rfl | some u => rw [I.oh _ _ q] at h0; cases h0
  refine ⟨⟨I.good.upd (.inl (by rw [o]; simp)), fun b u e => ?_, I.g0, fun b u e => ?_, I.oh, fun b u e => ?_, I.nG, fun b e => ?_⟩, I.len, fun j w e => ?_, I.dis⟩
  · rw [upd_ne (ne_of_none e g)]; exact I.go _ _ e
  · rw [upd_ne (ne_of_none e o0n)]; exact I.o0 _ _ e
  · by_cases hb : b = D
    · subst hb; exact .inr h0
    · rw [upd_ne hb] at e; exact I.nO b u e
  · by_cases hb : b = D
    · subst hb; exact h0
    · rw [upd_ne hb] at e; exact I.h0 b e
  · obtain ⟨u, h1, h2⟩ := I.slot j w e
    refine ⟨u, h1, ?_⟩
    cases w with
    | own fs =>
      obtain ⟨b, zs, e1, q1, q2, q3, q4⟩ := h2
      subst e1
      have nb : b ≠ D := fun z => by subst z; exact fr j fs e h1
      exact ⟨b, zs, rfl, q1, q2, by rw [upd_ne nb]; exact q3, q4⟩
    | dat d => exact h2
    | tok => exact h2
    | scr ns => exact h2
def vLcL (g : VGt) (xt : VB) (te : VT) (ρ : Nv) (Q : List Dt → Nat → Prop) : List Dt → List Dt → Nat → Prop
  | [], acc, n => Q acc n
  | d :: ds, acc, n => g d ρ fun ρ1 => xt ρ1 n (fun b n1 => if b = true then te ρ1 n1 (fun y n2 => acc.length < sizeLine ∧ vLcL g xt te ρ Q ds (acc ++ [y]) n2) (fun _ _ => False) else vLcL g xt te ρ Q ds acc n1) fun _ _ => False
def vLc (ti : VA) (g : VGt) (xt : VB) (te : VT) (vs : List Nat) : VA := fun ρ n Q E => noOwn ρ vs ∧ ti ρ n (fun ds n' => vLcL g xt te (wipeE ρ vs) Q ds [] n') E
abbrev U0 : WX := fun _ _ _ _ => False
theorem lkx0 {K : PySem.W.Frag} {C : Ct} {σ : L2.St} {ρ : Nv} : LkX K U0 C σ ρ (fun _ _ => False) := fun _ _ h => h.elim
theorem up_lc {K : PySem.W.Frag} {U : WX} {ti : VA} {g : VGt} {gh : TG} {xt : VB} {te : VT} {vs : List Nat} (pg : PairG K vs gh g) :
    ∀ σ H Q, upO K U (vLc ti g xt te vs) σ H Q → tLc (upI K U ti) gh (upB K U0 xt) (up K U0 te) vs σ H Q := fun σ H Q ⟨C, ρ, n, G, O, Q0, E0, I, h, hq, he⟩ => by
  refine ⟨C, ρ, n, G, O, _, E0, I, h.2, fun ds n' q J G1 O1 H1 I1 s1 w D hD => ?_, he⟩
  have I2 := (fresh_new (K := K) (xs := []) (ds := []) I1 hD .nil)
  have gD0 : C.G0 D = none := by
    cases q : C.G0 D with | none => rfl | some u => rw [I1.gH _ _ (I1.g0 _ _ q)] at hD; cases hD
  have hD0 : C.H0 D = none := I1.h0 D hD
  refine ⟨fun i m H' => ∃ acc n2 G2 O2 xs, In K C σ ρ n2 G2 O2 H' ∧ Same G1 G2 ∧ i ≤ ds.length ∧ m = ds.length - i ∧ G2 D = none ∧ O2 D = some (.lst xs) ∧ DRs K G2 xs acc ∧ (∀ (j : Nat) (es : List Dt), ρ[j]? = some (some (.own es)) → σ[j]? ≠ some (some (.ref D))) ∧ vLcL g xt te (wipeE ρ vs) Q0 (ds.drop i) acc n2,
    ⟨_, [], n', G1, _, [], I2.1, Same.refl _, Nat.zero_le _, rfl, ?_⟩, ?_⟩
  · obtain ⟨xs, f1, f2, f3, f4, f5⟩ := I2.2
    have e : xs = [] := by cases f4; rfl
    subst e
    exact ⟨f1, f3, f4, f5, q⟩
  rintro i m H2 ⟨acc, n2, G2, O2, xs, J2, s2, hi, rfl, gD, oD, r2, fr, q2⟩
  by_cases hlt : i < ds.length
  · refine .inr ⟨w.go i H2 (s2.trans J2.gH) hlt, fun H' => ∃ acc n2 G2 O2 xs, In K C σ ρ n2 G2 O2 H' ∧ Same G1 G2 ∧ G2 D = none ∧ O2 D = some (.lst xs) ∧ DRs K G2 xs acc ∧ (∀ (j : Nat) (es : List Dt), ρ[j]? = some (some (.own es)) → σ[j]? ≠ some (some (.ref D))) ∧ vLcL g xt te (wipeE ρ vs) Q0 (ds.drop (i + 1)) acc n2, ?_, fun x H3 y => ?_⟩
    · rintro H' ⟨acc', n3, G3, O3, xs', J3, s3, g3, o3, r3, f3, q3⟩
      exact ⟨ds.length - (i + 1), by omega, acc', n3, G3, O3, xs', J3, s3, hlt, rfl, g3, o3, r3, f3, q3⟩
    · have ed : ds[i]? = some ds[i] := by simp [hlt]
      obtain ⟨G4, sh, sg, sgh, nw, rd⟩ := w.yld i H2 x H3 G2 ds[i] s2 J2.gH y ed
      have J4 := J2.pure sh sg sgh nw
      have g4 : G4 D = none := by
        cases q : G4 D with
        | none => rfl
        | some u =>
          rcases nw D u q with z | z
          · rw [gD] at z; cases z
          · rw [J2.oH _ _ oD] at z; cases z
      have o4 : grow O2 H2 H3 D = some (.lst xs) := grow_same J2.oH _ _ oD
      have J5 := ((J4.hide g4 hD0 o4 fr).to (G1 := G4) (Same.refl _) (J4.g0)).wipe vs
      rw [List.drop_eq_getElem_cons hlt] at q2
      refine pg x _ H3 _ _ _ _ _ _ ds[i] _ J5 rd q2 fun ρ6 q6 e6 σ6 J6 w6 => ?_
      have eS : wipe σ6 vs = wipe σ vs := w6.trans (wipe_idem σ vs vs fun _ h => h)
      have eW : wipeE ρ6 vs = wipeE ρ vs := e6.trans (wipeE_idem ρ vs vs fun _ h => h)
      refine ⟨eS, ?_⟩
      have fin : ∀ {n' : Nat} {G' O' H' : Hp}, In K ((C.hide D xs).at G4) σ6 ρ6 n' G' O' H' → In K C σ ρ n' G' O' H' ∧ O' D = some (.lst xs) ∧ G' D = none ∧ Same G4 G' := fun {n' G' O' H'} J7 => by
        have nb : New C.G0 (L2.upd C.H0 D (.lst xs)) G4 := by
          intro a o e
          have hD' : a ≠ D := ne_of_none e g4
          rcases J4.nG a o e with z | z
          · exact .inl z
          · exact .inr (by rw [upd_ne hD']; exact z)
        obtain ⟨b1, b2, b3, _⟩ := (J7.back (C := C.hide D xs) J4.g0 nb).show hD0 I.oh gD0
        have v7 := b1.wipe vs
        rw [eW, eS] at v7
        exact ⟨J4.unwipe v7 J7.g0 h.1, b2, b3, J7.g0⟩
      refine ⟨_, ρ6, n2, G4, _, _, _, J6, q6, fun b n1 qb G7 O7 H7 J7 s7 => ?_, lkx0⟩
      cases b with
      | true =>
        rw [if_pos rfl] at qb ⊢
        refine ⟨_, ρ6, n1, G7, O7, _, _, J7, qb, fun y n8 qy v G8 O8 H8 J8 s8 ry => ?_, lkx0⟩
        obtain ⟨K8, o8, g8, s48⟩ := fin J8
        have r8 : DRs K G8 (xs ++ [v]) (acc ++ [y]) := (DRs.same (sg.trans s48) r2).append (.cons ry .nil)
        exact ⟨xs, K8.oH _ _ o8, by rw [r2.length]; exact qy.1, acc ++ [y], n8, G8, _, xs ++ [v], K8.mutD g8 hD0 o8 fr, (s2.trans sg).trans s48, g8, upd_same, r8, fr, qy.2⟩
      | false =>
        rw [if_neg Bool.false_ne_true] at qb ⊢
        obtain ⟨K7, o7, g7, s47⟩ := fin J7
        exact ⟨acc, n1, G7, O7, xs, K7, (s2.trans sg).trans s47, g7, o7, DRs.same (sg.trans s47) r2, fr, qb⟩
  · have e : i = ds.length := by omega
    subst e
    rw [List.drop_length] at q2
    exact .inl ⟨w.stop H2 (s2.trans J2.gH), hq acc n2 q2 D G2 O2 H2 J2 (s1.trans s2) ⟨xs, gD, hD0, oD, r2, fr⟩⟩
end VL


set_option maxRecDepth 100000
set_option maxHeartbeats 400000
namespace VL
open PySem PySem.Spec PyProof.Rows L2
section
variable {X : Cx} {U : WX} {elt tg iter : Expr} {ifs : List Expr} {scope : Scope} {own : List (Str × Nat)} {pos spos : Pos} {ti : VA} {g : VGt} {gh : TG} {xt : VB} {te : VT}
def vYes : VB := fun _ n Q _ => Q true n
theorem vpts_nil : PTs X [] (upB X.K U vYes) := by
  obtain ⟨h⟩ := pts_nil (X := X)
  exact ⟨fun pins s σ H Q I ⟨C, ρ, n, G, O, Q0, E0, J, q, hq, he⟩ => h pins s σ H Q I (hq true n q G O H J (Same.refl _))⟩
theorem vpts_one {c : Expr} (h : VTt X U c xt) : PTs X [c] (upB X.K U xt) := pts_one h
theorem vo_lc (hc : X.calm = true) (hN : X.N.Nodup) (hi : VI X U tg iter ti) (ok : BlkOk X.N X.env.scope scope own)
    (hg : ∀ (s : Shared) (H : Hp) (C : Addr) (cl : List (Str × Addr)) (fp : List Addr), PG (X.blk s H scope (compEnvC scope cl C X.env) fp) tg gh) (pg : PairG X.K (own.map (·.2)) gh g)
    (ht : ∀ (s : Shared) (H : Hp) (C : Addr) (cl : List (Str × Addr)) (fp : List Addr), PTs (X.blk s H scope (compEnvC scope cl C X.env) fp) ifs (upB X.K U0 xt))
    (he : ∀ (s : Shared) (H : Hp) (C : Addr) (cl : List (Str × Addr)) (fp : List Addr), PE (X.blk s H scope (compEnvC scope cl C X.env) fp) elt (up X.K U0 te)) (hs : ∀ x, foldedSetIterable iter X.env x = pure x := by intro _; rfl) :
    VO X U (.ListComp elt [⟨tg, iter, ifs, 0⟩] scope pos) (vLc ti g xt te (own.map (·.2))) := pe_imp (pe_lc hc hN hi ok hg ht he hs) (up_lc pg)
/-- y = [..], y a local name: a list of one's own, or a datum -/
theorem vs_setLcO {i : Nat} {y : Str} {py : Pos} (hc : X.calm = true) (hN : X.N.Nodup) (hy : X.N[i]? = some y) (hyl : X.env.scope.names.lookup y = some .local)
    (hsw : swapsWith (.ListComp elt [⟨tg, iter, ifs, 0⟩] scope pos) (some (.Name y py)) spos.line X.env = pure true) (hi : VI X U tg iter ti) (ok : BlkOk X.N X.env.scope scope own)
    (hg : ∀ (s : Shared) (H : Hp) (C : Addr) (cl : List (Str × Addr)) (fp : List Addr), PG (X.blk s H scope (compEnvC scope cl C X.env) fp) tg gh) (pg : PairG X.K (own.map (·.2)) gh g)
    (ht : ∀ (s : Shared) (H : Hp) (C : Addr) (cl : List (Str × Addr)) (fp : List Addr), PTs (X.blk s H scope (compEnvC scope cl C X.env) fp) ifs (upB X.K U0 xt))
    (he : ∀ (s : Shared) (H : Hp) (C : Addr) (cl : List (Str × Addr)) (fp : List Addr), PE (X.blk s H scope (compEnvC scope cl C X.env) fp) elt (up X.K U0 te)) (hs : ∀ x, foldedSetIterable iter X.env x = pure x := by intro _; rfl) :
    VS X U (.Assign [.Name y py] (.ListComp elt [⟨tg, iter, ifs, 0⟩] scope pos) spos) (vSetO i (vLc ti g xt te (own.map (·.2)))) := ps_imp (ps_setLc hc hN hy hyl hsw hi ok hg ht he hs) fun D σ H ⟨C, ρ, n, G, O, V, I, h, L⟩ =>
  up_lc pg σ H _ ⟨C, ρ, n, G, O, _, _, I, h, fun ds n' q a G' O' H' I' _ ⟨xs, g, h0, o, r, fr⟩ => L.nx _ n' q _ G' O' H' (I'.setOwn i g h0 o r fr), L.lkx σ ρ⟩
theorem vs_setLc {i : Nat} {y : Str} {py : Pos} (hc : X.calm = true) (hN : X.N.Nodup) (hy : X.N[i]? = some y) (hyl : X.env.scope.names.lookup y = some .local)
    (hsw : swapsWith (.ListComp elt [⟨tg, iter, ifs, 0⟩] scope pos) (some (.Name y py)) spos.line X.env = pure true) (hi : VI X U tg iter ti) (ok : BlkOk X.N X.env.scope scope own)
    (hg : ∀ (s : Shared) (H : Hp) (C : Addr) (cl : List (Str × Addr)) (fp : List Addr), PG (X.blk s H scope (compEnvC scope cl C X.env) fp) tg gh) (pg : PairG X.K (own.map (·.2)) gh g)
    (ht : ∀ (s : Shared) (H : Hp) (C : Addr) (cl : List (Str × Addr)) (fp : List Addr), PTs (X.blk s H scope (compEnvC scope cl C X.env) fp) ifs (upB X.K U0 xt))
    (he : ∀ (s : Shared) (H : Hp) (C : Addr) (cl : List (Str × Addr)) (fp : List Addr), PE (X.blk s H scope (compEnvC scope cl C X.env) fp) elt (up X.K U0 te)) (hs : ∀ x, foldedSetIterable iter X.env x = pure x := by intro _; rfl) :
    VS X U (.Assign [.Name y py] (.ListComp elt [⟨tg, iter, ifs, 0⟩] scope pos) spos) (vSet i (vFz (vLc ti g xt te (own.map (·.2))))) := ps_imp (ps_setLc hc hN hy hyl hsw hi ok hg ht he hs) fun D σ H ⟨C, ρ, n, G, O, V, I, h, L⟩ =>
  up_lc pg σ H _ ⟨C, ρ, n, G, O, _, _, I, h, fun ds n' q a G' O' H' I' s' f => by
    obtain ⟨G2, I2, s2, r⟩ := I'.frzFresh f
    exact L.nx _ n' q _ G2 O' H' (I2.set i r), L.lkx σ ρ⟩
/-! ### the machine is made -/
def spBegun (K : PySem.W.Frag) : Sp := fun vs H Q _ => ∃ (a : Addr) (ns : List Int), vs = [.ref a] ∧ SqL K H a (ns.map V.int) ∧ ns.length ≤ 63 ∧
  ∀ m H', Same H H' → Mach m 0 H H' → H m = none → Q (.ref m) H'
end
/-! ### the law's own def -/
def spLaw (K : PySem.W.Frag) : Sp := fun vs H Q _ => ∃ (a : Addr) (ns : List Int), vs = [.ref a] ∧ SqL K H a (ns.map V.int) ∧ ns.length ≤ 63 ∧ ∀ H', Q (.bl true) H'
def lawEnd : VN := ⟨fun _ _ => False, fun w _ => w = .dat (.bool true), fun _ _ => False, fun _ _ => False, fun _ _ _ => False⟩
theorem lawG {P : Program} {w : World} {K : PySem.W.Frag} {mg : Str → Option Value} {base : Heap} {k i : Nat} {x qual : Str} {params : Arguments} {st : Stmt} {rest : List Stmt} {scope : Scope} {dvs : List V} {kws : List (Str × V)} {f : Addr} {fd : FuncData} {N : List Str} {t : VST}
    (F : FunD K x qual params (st :: rest) scope dvs kws f fd) (S : FnScope N ["script"] scope) (hi : i ≠ 0)
    (h1 : ∀ (cdv : Value) (A : Around) (outer : List PySem.Env) (s : Shared) (H : Hp) (E : XK), A.guards = some [] → Room k (A.deeper (envOfC qual scope s.heap.objs.size f cdv)) →
      PS (cxOf (L2.CX P w) P w K mg base N qual scope f cdv A outer s H E) st (tAsg (fun σ H Q => tCons (tVar 0) tNil σ H fun vs H1 => spBegun K (vs ++ []) H1 Q fun cls d H' => E cls d H') (gName i)))
    (h2 : ∀ (cdv : Value) (A : Around) (outer : List PySem.Env) (s : Shared) (H : Hp) (E : XK), A.guards = some [] → Room k (A.deeper (envOfC qual scope s.heap.objs.size f cdv)) →
      VSs (cxOf (L2.CX P w) P w K mg base N qual scope f cdv A outer s H E) (fun cls d _ H' => E cls d H') rest t)
    (ht : ∀ ns : List Int, ns.length ≤ 63 → t lawEnd ((startE N.length [.scr ns]).set i (some .tok)) 0) : FnG P w K mg base (k + 1) f fd ["script"] (spLaw K) := by
  refine fnG_of F S (fun vs H Q E h => ?_) (fun cdv A outer s H vs Q E hg hr h => ⟨_, pss_cons (h1 cdv A outer s H E hg hr) (h2 cdv A outer s H E hg hr), ?_⟩)
  · obtain ⟨a, ns, rfl, _⟩ := h
    rfl
  · obtain ⟨a, ns, rfl, hs, hl, hq⟩ := h
    have ex : N.length ≠ 0 := fun z => by
      have := S.pre
      rw [List.length_eq_zero_iff.mp z] at this
      cases this
    have s0 : (L2.start N [V.ref a])[0]? = some (some (.ref a)) := rfl
    refine ⟨_, s0, a, ns, rfl, hs, hl, fun m H' sh mach hm => ?_⟩
    have hlen : (L2.start N [V.ref a]).length = (startE N.length [.scr ns]).length := by unfold L2.start startE; simp
    have hn : ∀ b, H' b = none → H b = none := fun b e => by
      cases q : H b with
      | none => rfl
      | some o => rw [sh _ _ q] at e; cases e
    refine ⟨⟨some m, H, H, H⟩, (startE N.length [.scr ns]).set i (some .tok), 0, H, H, lawEnd, ⟨⟨mach, Same.refl _, Same.refl _, Same.refl _, Same.refl _, New.refl, New.refl, hn⟩, by simpa using hlen, fun j w e => ?_, fun j j' ds es b jj e1 e2 e3 e4 => ?_⟩, ht ns hl,
      ⟨fun _ _ z => z.elim, fun w n' z v G' O' H' _ r => ?_, fun _ _ z => z.elim, fun _ _ z => z.elim, fun _ _ _ z => z.elim⟩⟩
    · by_cases hj : i = j
      · subst hj
        by_cases hlt : i < (startE N.length [.scr ns]).length
        · rw [List.getElem?_set_self hlt] at e
          cases e
          exact ⟨.ref m, by rw [List.getElem?_set_self (by rw [hlen]; exact hlt)], m, rfl, rfl⟩
        · rw [List.getElem?_eq_none (by simpa using hlt)] at e; cases e
      · rw [List.getElem?_set_ne hj] at e
        cases j with
        | zero =>
          have e' : some (some (W.scr ns)) = some (some w) := e
          cases e'
          exact ⟨.ref a, by rw [List.getElem?_set_ne hj]; exact s0, a, rfl, hs⟩
        | succ j =>
          have e' : (List.replicate (N.length - 1) (none : Option W))[j]? = some (some w) := e
          rw [List.getElem?_replicate] at e'
          split at e' <;> cases e'
    · by_cases hj : i = j
      · subst hj
        by_cases hlt : i < (startE N.length [.scr ns]).length
        · rw [List.getElem?_set_self hlt] at e1; cases e1
        · rw [List.getElem?_eq_none (by simpa using hlt)] at e1; cases e1
      · rw [List.getElem?_set_ne hj] at e1
        cases j with
        | zero =>
          have e' : some (some (W.scr ns)) = some (some (W.own ds)) := e1
          cases e'
        | succ j =>
          have e' : (List.replicate (N.length - 1) (none : Option W))[j]? = some (some (W.own ds)) := e1
          rw [List.getElem?_replicate] at e'
          split at e' <;> cases e'
    · have z' : w = .dat (.bool true) := z
      subst z'
      cases r
      exact hq H'
/-! ### the end of a law -/
theorem callG {P : Program} {w : World} {K : PySem.W.Frag} {mg mb : Str → Option Value} {k : Nat} {fa a : Addr} {fd : FuncData} {s1 : Shared} {vs : List Value} {ns : List Int}
    (KX : K.In s1.heap) (hns : s1.heap.Ns mainGlobals mg) (hb : s1.heap.Ns builtinsNs mb) (hbb : ∀ x : Str, x ≠ "__name__" → mb x = bootBuiltins x) (hlim : s1.heap.NoLimit) (hg : s1.gens = #[])
    (ha : s1.heap.get? a = some { cls := .type "list", data := .seq vs.toArray }) (hi : IntsAre vs ns) (hl : ns.length ≤ 63) (hr : Room k callerA)
    (F : ∀ base : Heap, K.In base → base.Ns mainGlobals mg → FnG P w K mg base k fa fd ["script"] (spLaw K)) (hbind : ∀ (s : Shared) (u : Value), BindsTo s fd ⟨[u], []⟩ [("script", u)]) :
    codeAny (model P w) callerA (.call (.ref fa) ⟨[.ref a], []⟩) (fun r s' => r = .ok (.ret (.bool true)) ∧ OldK s1.heap s'.heap ∧ s'.os = s1.os ∧ AllBare s'.gens) s1 := by
  have hl2 : ns.length ≤ sizeLine := Nat.le_trans hl (by decide)
  have rv := vals_ints hi
  have lenV := hi.length
  have core : ∀ H : Hp, Only H → SqL K H a (ns.map V.int) → HOk P w H s1.heap → (∀ b, H b ≠ none → b = a) → (H a ≠ none → K.lookup a = none) →
      codeAny (model P w) callerA (.call (.ref fa) ⟨[.ref a], []⟩) (fun r s' => r = .ok (.ret (.bool true)) ∧ OldK s1.heap s'.heap ∧ s'.os = s1.os ∧ AllBare s'.gens) s1 := by
    intro H hO hS hok hA hK
    have free : ∀ {b : Addr} {o : Obj} {es : Array DictEntry} {ep : Nat}, s1.heap.get? b = some o → o.data = .dict es ep → H b = none := by
      intro b o es ep e d
      cases q : H b with
      | none => rfl
      | some u =>
        have e' : b = a := hA b (by rw [q]; simp)
        rw [e', ha] at e
        cases e
        cases d
    have ns0 : ∀ {b : Addr} {m : Str → Option Value}, s1.heap.Ns b m → (hidT s1.heap H).Ns b m := by
      rintro b m ⟨o, es, ep, e, d, r⟩
      exact ⟨o, es, ep, hidT_get e (free e d), d, r⟩
    have kin : K.In (hidT s1.heap H) := by
      intro b o e
      refine hidT_get (KX b o e) ?_
      cases q : H b with
      | none => rfl
      | some u =>
        have e' : b = a := hA b (by rw [q]; simp)
        subst e'
        rw [hK (by rw [q]; simp)] at e
        cases e
    have mod : Mod K mg (hidT s1.heap H) := by
      refine ⟨kin, ns0 hns, ⟨mb, ns0 hb, hbb⟩, ?_⟩
      obtain ⟨mc, c1, c2⟩ := hlim
      exact ⟨mc, ns0 c1, c2⟩
    have e0 : Env0 P w K mg (hidT s1.heap H) callerA [] s1 H := ⟨rfl, mod, fun b o e => of_hidT e, Nat.le_of_eq (hidT_size _ _), trivial, (fun b z => absurd (show b ∈ ([] : List Addr) from z) (by simp)), hok, .of_eq hg⟩
    have run := (F _ kin (ns0 hns)).run callerA [] s1 H ⟨[.ref a], []⟩ [.ref a] [.ref a] (fun v _ => v = .bl true) (fun _ _ _ => False) rfl hr e0 (hbind s1 (.ref a)) (.cons rfl .nil) ⟨a, ns, rfl, hS, hl, fun _ => rfl⟩
    refine codeAny_mono run fun r s' h => ?_
    match r, h with
    | .error e, h =>
      obtain ⟨_, _, _, _, _, _, _, _, _, _, _, _, z⟩ := h
      exact z.elim
    | .ok (.ret u), h =>
      obtain ⟨v, H', os, bare, un, hok', r', q⟩ := h
      have q' : v = .bl true := q
      subst q'
      obtain rfl : u = Value.bool true := r'
      refine ⟨rfl, OldK.of_keep fun b o e => ?_, os, bare⟩
      cases q : H b with
      | none => exact un.keep b o e q (fun z => absurd (show b ∈ ([] : List Addr) from z) (by simp)) (by simp)
      | some u =>
        rcases hO b with z | ⟨ob, xs, z⟩
        · rw [q] at z; cases z
        · obtain ⟨e1, _⟩ := hok b _ z
          obtain ⟨e2, _⟩ := hok' b _ (un.frzs b ob _ z)
          rw [e] at e1
          cases e1
          exact e2
  cases hk : K.lookup a with
  | some o =>
    have e := KX a o hk
    rw [ha] at e
    cases e
    refine core (fun _ => none) (fun _ => .inl rfl) (.inr ⟨_, vs.toArray, _, hk, rfl, rfl, rfl, by rw [List.size_toArray, lenV]; exact hl2, by simpa using rv⟩) (fun b u z => by cases (show (none : Option HO) = some u from z)) (fun b z => absurd rfl z) fun z => absurd rfl z
  | none =>
    have tr : ∀ b u, (if b = a then some (HO.frz { cls := .type "list", data := .seq vs.toArray } (.lst (ns.map V.int))) else none) = some u → b = a ∧ u = HO.frz { cls := .type "list", data := .seq vs.toArray } (.lst (ns.map V.int)) := by
      intro b u z
      by_cases hb : b = a
      · rw [if_pos hb] at z; cases z; exact ⟨hb, rfl⟩
      · rw [if_neg hb] at z; cases z
    refine core (fun b => if b = a then some (.frz { cls := .type "list", data := .seq vs.toArray } (.lst (ns.map V.int))) else none) (fun b => ?_) (.inl (.inr ⟨{ cls := .type "list", data := .seq vs.toArray }, if_pos rfl⟩)) (fun b u z => ?_) (fun b z => ?_) fun _ => hk
    · by_cases hb : b = a
      · exact .inr ⟨_, _, if_pos hb⟩
      · exact .inl (if_neg hb)
    · obtain ⟨rfl, rfl⟩ := tr b u z
      exact ⟨ha, by rw [List.length_map]; exact hl2, vs, _, rv, ha⟩
    · by_cases hb : b = a
      · exact hb
      · exact absurd (if_neg hb) z
theorem walkG {l : PySem.W.OpenLaw} {k : Nat} {q : Program} {loose : List Str} {XP : (Str → Option Value) → Heap → Prop} {YP : World → Heap → Prop} {d : DefRec}
    (hn : l.most = some 63) (hdf : d.params.defaults = []) (hr : Room k callerA)
    (F : ∀ (w : World) (mg : Str → Option Value) (fa : Addr) (h : Heap), YP w h → h.Ns mainGlobals mg → mg d.name = some (.ref fa) →
      ∃ (K : PySem.W.Frag) (fd : FuncData), K.In h ∧ (∀ (s : Shared) (u : Value), BindsTo s fd ⟨[u], []⟩ [("script", u)]) ∧ ∀ base : Heap, K.In base → base.Ns mainGlobals mg → FnG l.prog w K mg base k fa fd ["script"] (spLaw K)) :
    PySem.W.WalkO q loose XP YP l.row.toRowW d [] (fun f vs => PySem.call f vs) := by
  refine Att.attach_call hn hdf fun w s0 s1 mg mb fa o pm cd doc a vs ns G Y ho hd hcd hmg hobj hints hlen hg => ?_
  obtain ⟨K, fd, KX, hb, hF⟩ := F w mg fa _ Y G.T.g hmg
  exact callG KX G.T.g G.T.b G.T.builtins G.T.nolimit hg hobj hints hlen hr hF hb
end VL


set_option maxRecDepth 100000
set_option maxHeartbeats 400000
namespace VL
open PySem PySem.Spec PyProof.Rows L2
/-! ### defs by names -/
def Ok (P : Program) (w : World) (K : PySem.W.Frag) (mg : Str → Option Value) (base : Heap) (k : Nat) (x : Str) (ps : List Str) (c : VFn) : Prop :=
  ∃ fd, FnG P w K mg base k (He.ga K x) fd ps (lift K c) ∧ Binds K fd ps [] ∧ PySem.W.keepIn K (.ref (He.ga K x)) = true ∧ mg x = some (.ref (He.ga K x))
theorem Ok.weak {P : Program} {w : World} {K : PySem.W.Frag} {mg : Str → Option Value} {base : Heap} {k : Nat} {x : Str} {ps : List Str} {c c' : VFn} (h : Ok P w K mg base k x ps c) (i : ∀ ws n Q E, c' ws n Q E → c ws n Q E) : Ok P w K mg base k x ps c' := by
  obtain ⟨fd, F, r⟩ := h
  exact ⟨fd, F.weak i, r⟩
theorem Ok.mono {P : Program} {w : World} {K : PySem.W.Frag} {mg : Str → Option Value} {base : Heap} {j k : Nat} {x : Str} {ps : List Str} {c : VFn} (h : Ok P w K mg base j x ps c) (i : j ≤ k) : Ok P w K mg base k x ps c := by
  obtain ⟨fd, F, r⟩ := h
  exact ⟨fd, F.mono i, r⟩
/-- with one keyword-only parameter, state=(0, 0) -/
abbrev stN : List Str := ["state"]
def start00 : Dt := .tuple [.int 0, .int 0]
def OkS (P : Program) (w : World) (K : PySem.W.Frag) (mg : Str → Option Value) (base : Heap) (k : Nat) (x : Str) (ps : List Str) (c : VFn) : Prop :=
  ∃ fd, FnG P w K mg base k (He.ga K x) fd (ps ++ stN) (lift K c) ∧ (∃ (dv : V) (ds : List Value), Vals [dv] ds ∧ Binds K fd (ps ++ stN) ds ∧ ∀ G, DR K G dv start00) ∧
    (∀ (s : Shared) (us ws : List Value), us.length = ps.length → ws.length = 1 → BindsTo s fd ⟨us, stN.zip ws⟩ ((ps ++ stN).zip (us ++ ws))) ∧ PySem.W.keepIn K (.ref (He.ga K x)) = true ∧ mg x = some (.ref (He.ga K x))
theorem lift_at {K : PySem.W.Frag} {U : WX} {c : VFn} {C : Ct} {σ : L2.St} {ρ : Nv} {n : Nat} {G O H : Hp} {ws : List W} {vs : List V} {Q0 : Dt → Nat → Prop} {E0 : XW} {Q : VK} (I : In K C σ ρ n G O H) (r : RWs K C G ws vs) (h : c ws n (rOf Q0) E0)
    (hq : ∀ d n', Q0 d n' → ∀ v G' O' H', In K C σ ρ n' G' O' H' → Same G G' → DR K G' v d → Q v H') (hE : LkX K U C σ ρ E0) : lift K c vs H Q fun cls d H' => U cls d σ H' :=
  ⟨⟨C.mo, G, O, H⟩, n, _, _, E0, rfl, ⟨I.good, I.go, Same.refl _, Same.refl _, I.oH, New.refl, New.refl, fun _ q => q⟩, RWs.rel (C := C) (C' := ⟨C.mo, G, O, H⟩) rfl r, h, fun w n' q v G' O' H' J rw' => by
    have I2 := I.call J
    cases w with
    | dat d => exact hq d n' q v G' O' H' I2 J.g0 rw'
    | own ds =>
      obtain ⟨a, xs, rfl, g, h0, o, r⟩ := rw'
      obtain ⟨G2, I3, s3, r3⟩ := I2.frzFresh (a := a) (ds := ds) ⟨xs, g, I.h0 a h0, o, r, fun j es e z => by
        obtain ⟨v, e1, b, ys, ev, _, _, o', _⟩ := I.slot j _ e
        rw [e1] at z; cases z; cases ev
        have h0' : H a = none := h0
        rw [I.oH _ _ o'] at h0'; cases h0'⟩
      exact hq _ n' q _ G2 O' H' I3 (J.g0.trans s3) r3
    | tok => exact q.elim
    | scr ns => exact q.elim, fun x n' q cls d G' O' H' J r => hE x n' q cls d G' O' H' (I.call J) r⟩
theorem RWs.snoc {K : PySem.W.Frag} {C : Ct} {G : Hp} {d : Dt} {v : V} (r : DR K G v d) : ∀ {ws : List W} {vs : List V}, RWs K C G ws vs → RWs K C G (ws ++ [.dat d]) (vs ++ [v])
  | [], [], _ => ⟨r, trivial⟩
  | _ :: _, _ :: _, h => ⟨h.1, RWs.snoc r h.2⟩
  | [], _ :: _, h => h.elim
  | _ :: _, [], h => h.elim
section
variable {X : Cx} {U : WX} {e e2 : Expr} {es : List Expr} {pos p kpos : Pos} {te : VT} {al : VAW} {x : Str} {k : Nat} {ps : List Str} {c : VFn}
theorem ve_ok (F : Ok X.prog X.w X.K X.mg X.base k x ps c) (hG : X.A.guards = some []) (hr : Room k X.A) (tk : Takes X U) (hg : Gl X x) (ha : VAg X U (e :: es) al) (hdb : (x == ("__debug__" : Str)) = false := by decide)
    (he : starEach (e :: es) X.env = (false, eval e X.env) :: starEach es X.env := by rfl) (hpl : (backTo pos (starEach es X.env)).any (·.1) = false := by rfl) : VE X U (.Call (.Name x p) (e :: es) [] pos) (vCall c [] al) := by
  obtain ⟨fd, F, hb, hk, hm⟩ := F
  exact ve_call F hG hr tk hg hm hk hb .nil (dw := []) (dvs := []) trivial ha hdb he hpl
theorem vo_ok (F : Ok X.prog X.w X.K X.mg X.base k x ps c) (hG : X.A.guards = some []) (hr : Room k X.A) (tk : Takes X U) (hg : Gl X x) (ha : VAg X U (e :: es) al) (hdb : (x == ("__debug__" : Str)) = false := by decide)
    (he : starEach (e :: es) X.env = (false, eval e X.env) :: starEach es X.env := by rfl) (hpl : (backTo pos (starEach es X.env)).any (·.1) = false := by rfl) : VO X U (.Call (.Name x p) (e :: es) [] pos) (vCallO c [] al) := by
  obtain ⟨fd, F, hb, hk, hm⟩ := F
  exact vo_call F hG hr tk hg hm hk hb .nil (dw := []) (dvs := []) trivial ha hdb he hpl
/-- state left out -/
theorem ve_okD (F : OkS X.prog X.w X.K X.mg X.base k x ps c) (hG : X.A.guards = some []) (hr : Room k X.A) (tk : Takes X U) (hg : Gl X x) (ha : VAg X U (e :: es) al) (hdb : (x == ("__debug__" : Str)) = false := by decide)
    (he : starEach (e :: es) X.env = (false, eval e X.env) :: starEach es X.env := by rfl) (hpl : (backTo pos (starEach es X.env)).any (·.1) = false := by rfl) : VE X U (.Call (.Name x p) (e :: es) [] pos) (vCall c [.dat start00] al) := by
  obtain ⟨fd, F, ⟨dv, ds, hv, hb, hd⟩, _, hk, hm⟩ := F
  exact ve_call F hG hr tk hg hm hk hb hv (dw := [.dat start00]) (dvs := [dv]) ⟨hd, trivial⟩ ha hdb he hpl
/-- state=e -/
def vCallS (c : VFn) (al : VAW) (te : VT) : VT := fun ρ n Q E => al ρ n (fun ws n1 => te ρ n1 (fun d n2 => c (ws ++ [.dat d]) n2 (rOf Q) E) E) E
theorem ve_okS (F : OkS X.prog X.w X.K X.mg X.base k x ps c) (hG : X.A.guards = some []) (hr : Room k X.A) (tk : Takes X U) (hg : Gl X x) (ha : VAg X U (e :: es) al) (hkw : VE X U e2 te) (hdb : (x == ("__debug__" : Str)) = false := by decide)
    (hall : (backToKw pos (keywordEach [⟨some "state", e2, kpos⟩] X.env)).all (·.1.isSome) = true := by rfl) (hks : (backToKw pos (keywordEach [⟨some "state", e2, kpos⟩] X.env)).filterMap (·.1) = stN := by rfl)
    (he : starEach (e :: es) X.env = (false, eval e X.env) :: starEach es X.env := by rfl)
    (hpl : ((backTo pos (starEach (e :: es) X.env)).any (·.1) || (backToKw pos (keywordEach [⟨some "state", e2, kpos⟩] X.env)).any (·.1.isNone)) = false := by rfl) :
    VE X U (.Call (.Name x p) (e :: es) [⟨some "state", e2, kpos⟩] pos) (vCallS c al te) := by
  obtain ⟨fd, F, _, hb, hk, hm⟩ := F
  constructor
  intro pins s σ H Q I h
  obtain ⟨C, ρ, n, G, O, Q0, E0, J, h, hq, hE⟩ := h
  refine wpAny_Call_Name_kw (ld_glob I hg hm ?_ hdb)
  refine PySem.W.callWith_KW (h₀ := X.base) I.ok.mod.kin hk hall (thn (ha.run pos pins s σ H (fun vs H1 => (tCons (up X.K U te) tNil) σ H1 fun zs H2 => ∃ z, zs = [z] ∧ lift X.K c (vs ++ [z]) H2 Q fun cls d H' => U cls d σ H') I ?_) fun us s1 z => ?_) hpl he
  · exact ⟨C, ρ, n, G, O, _, E0, J, h, fun ws n1 h1 vs G1 O1 H1 I1 s1 r1 => ⟨C, ρ, n1, G1, O1, _, E0, I1, h1, fun d n2 h2 v G2 O2 H2 I2 s2 rd => ⟨v, rfl, lift_at I2 (RWs.snoc rd (r1.same s2)) h2 (fun d' n' q v' G' O' H' I' s' r' => hq d' n' q v' G' O' H' I' ((s1.trans s2).trans s') r') hE⟩, hE⟩, hE⟩
  · obtain ⟨vs, H1, I1, r, q⟩ := z
    refine thn ((pk_cons hkw pk_nil).run pos pins s1 σ H1 _ I1 q) fun ws s2 y => ?_
    obtain ⟨zs, H2, I2, rz, z, rfl, q2⟩ := y
    refine ⟨I2.kIn, ?_⟩
    rw [hks]
    have r2 : Vals (vs ++ [z]) (us ++ ws) := r.append rz
    have hl := F.len _ _ _ _ q2
    have hlw : ws.length = 1 := rz.length.symm
    have hlu : us.length = ps.length := by
      rw [List.length_append, List.length_append] at hl
      have := r.length
      simp at hl
      omega
    refine wpAny_call (codeAny_mono (F.run X.A X.stack s2 H2 ⟨us, stN.zip ws⟩ (us ++ ws) (vs ++ [z]) Q _ hG hr I2.env0 (hb s2 us ws hlu hlw) r2 q2) fun rs s' hq => ?_)
    match rs, hq with
    | .error e, hq => exact passAt tk σ pins H2 s2 e s' I2 hq
    | .ok (.ret u), hq => exact I2.after hq
end
/-! ### a head with one more look -/
def hookX (n : Nat) (fa : List He.Fa) (fn : List He.DefD) (ex : PySem.W.Frag → Bool) : PySem.W.Hook where
  α := He.AlD × Bool
  obs := fun s => (He.obsDG n fa fn s.heap.get?, ex (He.frG s.heap.get? (He.asD s.heap.get? n)))
  val := fun _ => (He.valD fn, true)
  says := fun _ h => ∃ K : PySem.W.Frag, K.In h ∧ He.SaysD fa fn K ∧ ex K = true
  of := fun _ _ e => by
    have e1 := congrArg Prod.fst e
    have e2 := congrArg Prod.snd e
    exact ⟨_, He.frG_in, e1, e2⟩
  keeps := fun _ _ _ ⟨K, hK, c⟩ k => ⟨K, PySem.W.Frag.In.keeps hK k, c⟩
def obX (n : Nat) (fa : List He.Fa) (fn : List He.DefD) (ex : PySem.W.Frag → Bool) (s : PySem.W.SharedT) : He.AlD × Bool := (He.obsDG n fa fn (HandSHeadRun.getT s), ex (He.frG (HandSHeadRun.getT s) (He.asD (HandSHeadRun.getT s) n)))
theorem obX_eq {n : Nat} {fa : List He.Fa} {fn : List He.DefD} {ex : PySem.W.Frag → Bool} (s : PySem.W.SharedT) : obX n fa fn ex s = (hookX n fa fn ex).obs s.abs := by
  have e : HandSHeadRun.getT s = s.abs.heap.get? := funext (HandSHeadRun.getT_eq s)
  unfold obX
  rw [e]
  rfl
/-- the tuple that is the default of a keyword-only parameter -/
def kwAt (f : Str × Option Str) (y : Str) (K : PySem.W.Frag) : Addr := match K.lookup (He.fAd K f) with
  | some ⟨_, _, .func fd, _⟩ => (match fd.kwdefaults with
    | .ref D => (match PySem.W.nsIn K D y with
      | some (some (.ref a)) => a
      | _ => 0)
    | _ => 0)
  | _ => 0
def tupAt (K : PySem.W.Frag) (a : Addr) (vs : List V) : Bool := match K.lookup a with
  | some ⟨.type c, _, .seq its _, _⟩ => decide (c = "tuple") && (decide (its.size ≤ sizeLine) && He.relAll vs its.toList)
  | _ => false
theorem tupAt_ok {K : PySem.W.Frag} {a : Addr} {vs : List V} (h : tupAt K a vs = true) (H : Hp) : SqT K H a vs := by
  unfold tupAt at h
  cases q : K.lookup a with
  | none => rw [q] at h; cases h
  | some o =>
    obtain ⟨oc, od, dt, osl⟩ := o
    rw [q] at h
    cases oc with
    | type c =>
      cases dt with
      | seq its n =>
        obtain ⟨h1, h2⟩ := He.ba (show (decide (c = "tuple") && (decide (its.size ≤ sizeLine) && He.relAll vs its.toList)) = true from h)
        obtain ⟨h3, h4⟩ := He.ba h2
        exact .inr ⟨_, its, n, q, congrArg Value.type (of_decide_eq_true h1), rfl, of_decide_eq_true h3, He.relAll_ok h4⟩
      | _ => cases h
    | _ => cases dt <;> cases h
theorem tup00 {K : PySem.W.Frag} {a : Addr} (h : tupAt K a [.int 0, .int 0] = true) (G : Hp) : DR K G (.ref a) start00 := .tup (tupAt_ok h G) (.cons (.int 0) (.cons (.int 0) .nil))
def kitB (K : PySem.W.Frag) (T : String) : Bool := ["NoneType", "bool", "int", "str", "list", "tuple"].all fun t => decide (PySem.W.kitOne K (.type t) (.type T) = some (t == T || (T == "int" && t == "bool")))
theorem kitB_ok {K : PySem.W.Frag} {T : String} (h : kitB K T = true) : KitOk K T := fun t ht => of_decide_eq_true (List.all_eq_true.mp h t ht)
/-! ### lengths of what is no datum -/
section
variable {X : Cx} {U : WX} {pos p p2 : Pos} {x : Str}
def vLenO (k : Nat) : VT := fun ρ n Q _ => match ρ[k]? with
  | some (some (.own ds)) => Q (.int (ds.length : Int)) n
  | _ => False
theorem ve_lenO {k : Nat} (hg : Gl X "len") (hm : X.mg "len" = none) (hv : bootBuiltins "len" = some (.builtin "len")) (hN : X.N[k]? = some x := by rfl) (hvs : Vis X.env.scope x := by first | exact Or.inl rfl | exact Or.inr (Or.inl rfl) | exact Or.inr (Or.inr rfl)) (hd : (x == ("__debug__" : Str)) = false := by decide)
    (hcd : (x == ("__classdict__" : Str)) = false := by decide) (he : starEach [.Name x p2] X.env = (false, eval (.Name x p2) X.env) :: starEach [] X.env := by rfl) (hpl : (backTo pos (starEach [] X.env)).any (·.1) = false := by rfl) :
    VE X U (.Call (.Name "len" p) [.Name x p2] [] pos) (vLenO k) :=
  pe_imp (pe_callB call_len_seq hg hm hv (pa_cons (pe_var hN hvs hd hcd) pa_nil he) (by decide) (by decide) he hpl) fun σ H Q ⟨C, ρ, n, G, O, Q0, E0, I, h, hq, hE⟩ => by
    unfold vLenO at h
    split at h
    · next ds e0 =>
      obtain ⟨v, e1, a, xs, rfl, g, h0, o, r⟩ := I.slot k _ e0
      exact ⟨_, e1, a, xs, rfl, .inl (SqL.of (I.oH _ _ o)), by rw [r.length]; exact hq _ n h _ G O H I (Same.refl _) (.int _)⟩
    · exact h.elim
def vLenS (k : Nat) : VT := fun ρ n Q _ => match ρ[k]? with
  | some (some (.scr ns)) => Q (.int (ns.length : Int)) n
  | _ => False
theorem ve_lenS {k : Nat} (hg : Gl X "len") (hm : X.mg "len" = none) (hv : bootBuiltins "len" = some (.builtin "len")) (hN : X.N[k]? = some x := by rfl) (hvs : Vis X.env.scope x := by first | exact Or.inl rfl | exact Or.inr (Or.inl rfl) | exact Or.inr (Or.inr rfl)) (hd : (x == ("__debug__" : Str)) = false := by decide)
    (hcd : (x == ("__classdict__" : Str)) = false := by decide) (he : starEach [.Name x p2] X.env = (false, eval (.Name x p2) X.env) :: starEach [] X.env := by rfl) (hpl : (backTo pos (starEach [] X.env)).any (·.1) = false := by rfl) :
    VE X U (.Call (.Name "len" p) [.Name x p2] [] pos) (vLenS k) :=
  pe_imp (pe_callB call_len_seq hg hm hv (pa_cons (pe_var hN hvs hd hcd) pa_nil he) (by decide) (by decide) he hpl) fun σ H Q ⟨C, ρ, n, G, O, Q0, E0, I, h, hq, hE⟩ => by
    unfold vLenS at h
    split at h
    · next ns e0 =>
      obtain ⟨v, e1, a, rfl, sq⟩ := I.slot k _ e0
      exact ⟨_, e1, a, _, rfl, .inl (I.gH.seq sq), by rw [List.length_map]; exact hq _ n h _ G O H I (Same.refl _) (.int _)⟩
    · exact h.elim
def dIadd : R2D := fun a b Q => match a, b with
  | .int i, .int j => Q (.int (i + j))
  | _, _ => False
theorem o_iaddD : VOp X (inplaceOp .Add) dIadd := op2I0 iop_add fun a b Q h => by
  cases a <;> cases b <;> first | exact ⟨_, _, _, rfl, rfl, fun _ => .int _, h⟩ | exact h.elim
end
/-! ### the machine's dict -/
theorem key_cl : ¬ (Sum.inr ("cells" : Str) : L2.Key) = Sum.inr ("left" : Str) := fun e => absurd (Sum.inr.inj e) (by decide +kernel)
theorem key_ca : ¬ (Sum.inr ("cells" : Str) : L2.Key) = Sum.inr ("at" : Str) := fun e => absurd (Sum.inr.inj e) (by decide +kernel)
theorem key_la : ¬ (Sum.inr ("left" : Str) : L2.Key) = Sum.inr ("at" : Str) := fun e => absurd (Sum.inr.inj e) (by decide +kernel)
theorem m_cells (lc ll : Addr) (z : Int) : valV (mKvs lc ll z) (.inr "cells") = some (.ref lc) := valV_pos rfl
theorem m_left (lc ll : Addr) (z : Int) : valV (mKvs lc ll z) (.inr "left") = some (.ref ll) := (valV_neg key_cl).trans (valV_pos rfl)
theorem m_at (lc ll : Addr) (z : Int) : valV (mKvs lc ll z) (.inr "at") = some (.int z) := (valV_neg key_ca).trans ((valV_neg key_la).trans (valV_pos rfl))
theorem m_putLeft (lc ll l : Addr) (z : Int) : putK (mKvs lc ll z) (.inr "left") (.ref l) = mKvs lc l z := by
  unfold putK mKvs
  have h1 := key_cl
  have h2 : ¬ (Sum.inr ("at" : Str) : L2.Key) = Sum.inr ("left" : Str) := fun e => key_la e.symm
  simp [h1, h2]
theorem m_putAt (lc ll : Addr) (z y : Int) : putK (mKvs lc ll z) (.inr "at") (.int y) = mKvs lc ll y := by
  unfold putK mKvs
  have h1 := key_ca
  have h2 := key_la
  simp [h1, h2]
theorem m_merge (lc ll : Addr) (z : Int) : mergeK [] (mKvs lc ll z) = mKvs lc ll z := by
  have h1 := key_cl
  have h2 := key_ca
  have h3 := key_la
  simp [mergeK, mKvs, putK, h1, h2, h3]
theorem Mach.garb {m p : Addr} {n : Nat} {O H : Hp} {o : HO} (M : Mach m n O H) (hp : H p = none) : Mach m n O (L2.upd H p o) := by
  obtain ⟨s, om, lc, ll, cs, ls, z, h1, h2, h3, h4, h5, h6, r⟩ := M
  have ne : ∀ {q : Addr} {u : HO}, H q = some u → q ≠ p := fun {q u} e => ne_of_none e hp
  exact ⟨s.trans (same_upd hp), om, lc, ll, cs, ls, z, h1, h2, h3, by rw [upd_ne (ne h4)]; exact h4, by rw [upd_ne (ne h5)]; exact h5, by rw [upd_ne (ne h6)]; exact h6, r⟩
theorem dom_upd {H0 H : Hp} {p : Addr} {o : HO} (d : ∀ a, H a = none → H0 a = none) : ∀ a, L2.upd H p o a = none → H0 a = none := fun a e => by
  by_cases h : a = p
  · subst h; rw [upd_same] at e; cases e
  · rw [upd_ne h] at e; exact d a e
/-! ### a if c else b, as a test -/
def vIfT (t ta tb : VB) : VB := fun ρ n Q E => t ρ n (fun c n1 => if c = true then ta ρ n1 Q E else tb ρ n1 Q E) E
theorem vt_if {X : Cx} {U : WX} {a b c : Expr} {pos : Pos} {xa xb xc : VB} (hc : VTt X U c xc) (ha : VTt X U a xa) (hb : VTt X U b xb) : VTt X U (.IfExp c a b pos) (vIfT xc xa xb) := by
  constructor
  intro pins s σ H Q I h
  obtain ⟨C, ρ, n, G, O, Q0, E0, J, h, hq, he⟩ := h
  refine isTrue_IfExp (thn (hc.run pins s σ H (fun d H1 => if d = true then upB X.K U xa σ H1 Q else upB X.K U xb σ H1 Q) I ⟨C, ρ, n, G, O, _, E0, J, h, fun d n1 h1 G1 O1 H1 I1 s1 => ?_, he⟩) fun d s2 z => ?_)
  · cases d with
    | true =>
      rw [if_pos rfl] at h1 ⊢
      exact ⟨C, ρ, n1, G1, O1, _, E0, I1, h1, fun b n' hb G' O' H' I' s' => hq b n' hb G' O' H' I' (s1.trans s'), he⟩
    | false =>
      rw [if_neg Bool.false_ne_true] at h1 ⊢
      exact ⟨C, ρ, n1, G1, O1, _, E0, I1, h1, fun b n' hb G' O' H' I' s' => hq b n' hb G' O' H' I' (s1.trans s'), he⟩
  · obtain ⟨H1, I1, q1⟩ := z
    cases d with
    | true =>
      rw [if_pos rfl] at q1
      exact ha.run pins s2 σ H1 Q I1 q1
    | false =>
      rw [if_neg Bool.false_ne_true] at q1
      exact hb.run pins s2 σ H1 Q I1 q1
end VL


set_option maxRecDepth 100000
set_option maxHeartbeats 400000
namespace VL
open PySem PySem.Spec PyProof.Rows L2
/-! ### shapes of ints -/
theorem lay_ints : ∀ ns : List Int, PyData.canLayAll0 (ns.map PyData.int) = true
  | [] => by simp [PyData.canLayAll0]
  | n :: ns => by simp only [List.map_cons, PyData.canLayAll0, PyData.canLay0, Bool.true_and, lay_ints ns]
theorem depth_ints : ∀ ns : List Int, PyData.depthAll (ns.map PyData.int) = 0
  | [] => by simp [PyData.depthAll]
  | n :: ns => by simp [PyData.depthAll, PyData.depth, depth_ints ns]
theorem shaped_ints (ns : List Int) : SeqAt.shaped (.list (ns.map .int)) = true := by
  unfold SeqAt.shaped
  rw [Bool.and_eq_true]
  refine ⟨by simp only [PyData.canLay0]; exact lay_ints ns, decide_eq_true ?_⟩
  simp only [PyData.depth, depth_ints]
  decide
theorem dp_ints {K : PySem.W.Frag} {H : Hp} : ∀ ns : List Int, DpAll K H (ns.map V.int) (ns.map PyData.int)
  | [] => .nil
  | n :: ns => .cons (.int n) (dp_ints ns)
theorem ne_nil {K : PySem.W.Frag} {H : Hp} {l p : Addr} {ls : List Int} {Q : VK} (h : H l = some (.lst (ls.map V.int))) (hp : H p = some (.lst [])) (h1 : ls ≠ [] → Q (.bl true) H) (h2 : ls = [] → Q (.bl false) H) : rNeD K (.ref l) (.ref p) H Q := by
  refine ⟨.list (ls.map .int), .list [], .lst (SqL.of h) (dp_ints ls), .lst (SqL.of hp) .nil, shaped_ints ls, shaped_ints [], ?_⟩
  cases ls with
  | nil =>
    have e : PyData.eqv (.list (([] : List Int).map PyData.int)) (.list []) = true := by simp [PyData.eqv, PyData.eqvAll]
    rw [e]
    exact h2 rfl
  | cons x xs =>
    have e : PyData.eqv (.list ((x :: xs).map PyData.int)) (.list []) = false := by simp [PyData.eqv, PyData.eqvAll]
    rw [e]
    exact h1 (by simp)
/-! ### the machine, opened -/
structure MK (m : Addr) (n : Nat) (O H : Hp) (lc ll : Addr) (cs ls : List Int) (z : Int) : Prop where
  same : Same O H
  om : O m = none
  oc : O lc = none
  ol : O ll = none
  ne : lc ≠ ll
  hm : H m = some (.dK (mKvs lc ll z))
  hc : H lc = some (.lst (cs.map V.int))
  hl : H ll = some (.lst (ls.map V.int))
  z0 : 0 ≤ z
  z1 : z ≤ n
  nc : cs.length ≤ 63
  nl : ls.length ≤ 63
theorem Mach.mk' {m : Addr} {n : Nat} {O H : Hp} (M : Mach m n O H) : ∃ lc ll cs ls z, MK m n O H lc ll cs ls z := by
  obtain ⟨s, om, lc, ll, cs, ls, z, h1, h2, h3, h4, h5, h6, a, b, c, d⟩ := M
  exact ⟨lc, ll, cs, ls, z, s, om, h1, h2, h3, h4, h5, h6, a, b, c, d⟩
section
variable {m : Addr} {n : Nat} {O H : Hp} {lc ll : Addr} {cs ls : List Int} {z : Int}
theorem MK.mach (M : MK m n O H lc ll cs ls z) : Mach m n O H := ⟨M.same, M.om, lc, ll, cs, ls, z, M.oc, M.ol, M.ne, M.hm, M.hc, M.hl, M.z0, M.z1, M.nc, M.nl⟩
theorem MK.garb {p : Addr} {o : HO} (M : MK m n O H lc ll cs ls z) (hp : H p = none) : MK m n O (L2.upd H p o) lc ll cs ls z :=
  ⟨M.same.trans (same_upd hp), M.om, M.oc, M.ol, M.ne, by rw [upd_ne (ne_of_none M.hm hp)]; exact M.hm, by rw [upd_ne (ne_of_none M.hc hp)]; exact M.hc, by rw [upd_ne (ne_of_none M.hl hp)]; exact M.hl, M.z0, M.z1, M.nc, M.nl⟩
theorem MK.gl (M : MK m n O H lc ll cs ls z) : DGet H m (.str "left") (some (.ref ll)) := by
  have := DGet.k (k := Sum.inr "left") M.hm
  rw [m_left] at this
  exact this
theorem MK.gc (M : MK m n O H lc ll cs ls z) : DGet H m (.str "cells") (some (.ref lc)) := by
  have := DGet.k (k := Sum.inr "cells") M.hm
  rw [m_cells] at this
  exact this
theorem MK.ga (M : MK m n O H lc ll cs ls z) : DGet H m (.str "at") (some (.int z)) := by
  have := DGet.k (k := Sum.inr "at") M.hm
  rw [m_at] at this
  exact this
theorem MK.nm (M : MK m n O H lc ll cs ls z) : lc ≠ m ∧ ll ≠ m := ⟨ne_of M.hc M.hm (by intro q; cases q), ne_of M.hl M.hm (by intro q; cases q)⟩
/-- m['left'] = a new list -/
theorem MK.pl {l : Addr} {ms : List Int} (M : MK m n O H lc ll cs ls z) (hl : H l = some (.lst (ms.map V.int))) (ol : O l = none) (hlc : lc ≠ l) (hs : ms.length ≤ 63) : DPut H m (.str "left") (.ref l) (L2.upd H m (.dK (mKvs lc l z))) ∧ MK m n O (L2.upd H m (.dK (mKvs lc l z))) lc l cs ms z := by
  refine ⟨?_, ?_⟩
  · have := DPut.k (k := Sum.inr "left") (v := .ref l) M.hm (by show 3 < sizeLine; decide)
    rw [m_putLeft] at this
    exact this
  · have nl : l ≠ m := ne_of hl M.hm (by intro q; cases q)
    exact ⟨fun b o e => by rw [upd_ne (ne_of_none e M.om)]; exact M.same _ _ e, M.om, M.oc, ol, hlc, upd_same, by rw [upd_ne M.nm.1]; exact M.hc, by rw [upd_ne nl]; exact hl, M.z0, M.z1, M.nc, hs⟩
theorem MK.pa {y : Int} {n' : Nat} (M : MK m n O H lc ll cs ls z) (y0 : 0 ≤ y) (y1 : y ≤ n') : DPut H m (.str "at") (.int y) (L2.upd H m (.dK (mKvs lc ll y))) ∧ MK m n' O (L2.upd H m (.dK (mKvs lc ll y))) lc ll cs ls y := by
  refine ⟨?_, ?_⟩
  · have := DPut.k (k := Sum.inr "at") (v := .int y) M.hm (by show 3 < sizeLine; decide)
    rw [m_putAt] at this
    exact this
  · exact ⟨fun b o e => by rw [upd_ne (ne_of_none e M.om)]; exact M.same _ _ e, M.om, M.oc, M.ol, M.ne, upd_same, by rw [upd_ne M.nm.1]; exact M.hc, by rw [upd_ne M.nm.2]; exact M.hl, y0, y1, M.nc, M.nl⟩
/-- m['left'][0] = x -/
theorem MK.ph {ms : List Int} (M : MK m n O H lc ll cs ls z) (hs : ms.length ≤ 63) : MK m n O (L2.upd H ll (.lst (ms.map V.int))) lc ll cs ms z :=
  ⟨fun b o e => by rw [upd_ne (ne_of_none e M.ol)]; exact M.same _ _ e, M.om, M.oc, M.ol, M.ne, by rw [upd_ne M.nm.2.symm]; exact M.hm, by rw [upd_ne M.ne]; exact M.hc, upd_same, M.z0, M.z1, M.nc, hs⟩
end
theorem atI_ints {ns : List Int} {j : Nat} {u : Int} (h : ns[j]? = some u) : atI (ns.map V.int) (j : Int) = some (V.int u) := atI_nat (by rw [List.getElem?_map, h]; rfl)
theorem cut1_ints (ns : List Int) : cutV (ns.map V.int) (some 1) none = (ns.drop 1).map V.int := by
  unfold cutV
  have e1 : HT.sIx (ns.map V.int).length 0 (some 1) = min 1 ns.length := by
    rw [show (1 : Int) = ((1 : Nat) : Int) from rfl, HT.sIx_nat, List.length_map]
  rw [e1, HT.sIx_none, List.length_map]
  cases ns with
  | nil => rfl
  | cons x xs =>
    have : min 1 (x :: xs).length = 1 := by simp
    rw [this, List.map_drop]
    exact List.take_of_length_le (by simp)
theorem sealed_ex {α : Type _} (a : α) : ∃ x, x = a := ⟨a, rfl⟩
/-- a, closed to the kernel -/
noncomputable def sealed {α : Type _} (a : α) : α := Classical.choose (sealed_ex a)
theorem sealed_eq {α : Type _} (a : α) : sealed a = a := Classical.choose_spec (sealed_ex a)
theorem ixN0 {n : Nat} (hj : 0 < n) : ixN n 0 = some 0 := by
  unfold ixN
  rw [if_pos (Int.le_refl _), if_pos (by omega)]
  rfl
theorem seq_by {t u : TS} {D : Ends} {σ : L2.St} {H : Hp} (J : L2.St → Hp → Prop) (hu : ∀ σ H, J σ H → u D σ H) (ht : ∀ N : L2.St → Hp → Prop, (∀ σ H, J σ H → N σ H) → t { D with nx := N } σ H) : tSeq t u D σ H := ht _ hu
end VL


set_option maxRecDepth 100000
set_option maxHeartbeats 400000
namespace VL
open PySem PySem.Spec PyProof.Rows L2
/-! ### kinds, places, loops: the plain side -/
theorem isi_int (i : Int) : isiD "int" (.int i) = true := rfl
theorem isi_intb (i : Int) : isiD "bool" (.int i) = false := rfl
theorem isi_tup (xs : List Dt) : isiD "tuple" (.tuple xs) = true := rfl
theorem loop_cons {g : VGt} {tb : VST} {V : VN} {d : Dt} {ds : List Dt} {ρ : Nv} {n : Nat} : vLoop g tb V (d :: ds) ρ n = g d ρ fun ρ1 => tb { V with nx := vLoop g tb V ds, ct := vLoop g tb V ds, bk := V.nx } ρ1 n := rfl
theorem loop_nil {g : VGt} {tb : VST} {V : VN} {ρ : Nv} {n : Nat} : vLoop g tb V [] ρ n = V.nx ρ n := rfl
theorem lc_cons {g : VGt} {xt : VB} {te : VT} {ρ : Nv} {Q : List Dt → Nat → Prop} {d : Dt} {ds acc : List Dt} {n : Nat} : vLcL g xt te ρ Q (d :: ds) acc n = g d ρ fun ρ1 => xt ρ1 n (fun b n1 => if b = true then te ρ1 n1 (fun y n2 => acc.length < sizeLine ∧ vLcL g xt te ρ Q ds (acc ++ [y]) n2) (fun _ _ => False) else vLcL g xt te ρ Q ds acc n1) fun _ _ => False := rfl
theorem lc_nil {g : VGt} {xt : VB} {te : VT} {ρ : Nv} {Q : List Dt → Nat → Prop} {acc : List Dt} {n : Nat} : vLcL g xt te ρ Q [] acc n = Q acc n := rfl
section
variable {α β : Type}
theorem at0 {a : α} {l : List α} : atI (a :: l) 0 = some a := atI_nat (j := 0) rfl
theorem at1 {a b : α} {l : List α} : atI (a :: b :: l) 1 = some b := atI_nat (j := 1) rfl
theorem at2 {a b c : α} {l : List α} : atI (a :: b :: c :: l) 2 = some c := atI_nat (j := 2) rfl
theorem at3 {a b c d : α} {l : List α} : atI (a :: b :: c :: d :: l) 3 = some d := atI_nat (j := 3) rfl
theorem at4 {a b c d e : α} {l : List α} : atI (a :: b :: c :: d :: e :: l) 4 = some e := atI_nat (j := 4) rfl
theorem atLast {a : α} {l : List α} : atI (l ++ [a]) (-1) = some a := by
  unfold atI ixN
  rw [if_neg (by decide), if_pos (by rw [List.length_append, List.length_singleton]; omega)]
  have : (-1 + ((l ++ [a]).length : Int)).toNat = l.length := by rw [List.length_append, List.length_singleton]; omega
  rw [this]
  simp
/-- the thing at a place -/
def nth [Inhabited α] (xs : List α) (i : Int) : α := xs.getD i.toNat default
theorem atI_map [Inhabited α] {xs : List α} {f : α → β} {i : Int} (h0 : 0 ≤ i) (h1 : i < xs.length) : atI (xs.map f) i = some (f (nth xs i)) := by
  obtain ⟨j, rfl⟩ : ∃ j : Nat, i = j := ⟨i.toNat, (Int.toNat_of_nonneg h0).symm⟩
  have hj : j < xs.length := by omega
  refine atI_nat ?_
  rw [List.getElem?_map, List.getElem?_eq_getElem hj]
  unfold nth
  simp [hj]
theorem nth_mem [Inhabited α] {xs : List α} {i : Int} (h0 : 0 ≤ i) (h1 : i < xs.length) : nth xs i ∈ xs := by
  have hj : i.toNat < xs.length := by omega
  unfold nth
  simp [hj]
end
/-! ### what repr takes -/
structure Sh (w dp : Nat) (d : Dt) : Prop where
  sh : d.showable = true
  lv : d.leavesShort 13 = true
  wt : d.weight ≤ w
  dp : d.depth ≤ dp
structure ShA (w dp : Nat) (ds : List Dt) : Prop where
  sh : PyData.showableAll ds = true
  lv : PyData.leavesShortAll 13 ds = true
  wt : PyData.weightAll ds ≤ w
  dp : PyData.depthAll ds ≤ dp
theorem Sh.int {i : Int} (h : i.natAbs < 10 ^ 12) : Sh 40 0 (.int i) := by
  have hl : i.natAbs.log2 ≤ 39 := by
    by_cases e : i.natAbs = 0
    · rw [e]; decide
    · have := (Nat.log2_lt e (k := 40)).mpr (by omega)
      omega
  refine ⟨?_, ?_, ?_, ?_⟩
  · simp only [PyData.showable]; exact decide_eq_true (by omega)
  · simp only [PyData.leavesShort]; exact decide_eq_true (PyData.shown_int_le h)
  · simp only [PyData.weight]; split <;> omega
  · simp [PyData.depth]
theorem ShA.nil {dp : Nat} : ShA 0 dp [] := ⟨rfl, rfl, Nat.le_refl _, Nat.zero_le _⟩
theorem ShA.cons {w1 w2 dp : Nat} {d : Dt} {ds : List Dt} (a : Sh w1 dp d) (b : ShA w2 dp ds) : ShA (w1 + 1 + w2) dp (d :: ds) := by
  refine ⟨?_, ?_, ?_, ?_⟩
  · simp only [PyData.showableAll, a.sh, b.sh, Bool.and_self]
  · simp only [PyData.leavesShortAll, a.lv, b.lv, Bool.and_self]
  · simp only [PyData.weightAll]; have := a.wt; have := b.wt; omega
  · simp only [PyData.depthAll]; have := a.dp; have := b.dp; omega
theorem Sh.tup {w dp : Nat} {ds : List Dt} (a : ShA w dp ds) : Sh w (dp + 1) (.tuple ds) := by
  refine ⟨?_, ?_, ?_, ?_⟩
  · simp only [PyData.showable]; exact a.sh
  · simp only [PyData.leavesShort]; exact a.lv
  · simp only [PyData.weight]; exact a.wt
  · simp only [PyData.depth]; have := a.dp; omega
theorem Sh.lst {w dp : Nat} {ds : List Dt} (a : ShA w dp ds) : Sh w (dp + 1) (.list ds) := by
  refine ⟨?_, ?_, ?_, ?_⟩
  · simp only [PyData.showable]; exact a.sh
  · simp only [PyData.leavesShort]; exact a.lv
  · simp only [PyData.weight]; exact a.wt
  · simp only [PyData.depth]; have := a.dp; omega
theorem Sh.le {w w' dp dp' : Nat} {d : Dt} (a : Sh w dp d) (h : w ≤ w') (h2 : dp ≤ dp') : Sh w' dp' d := ⟨a.sh, a.lv, Nat.le_trans a.wt h, Nat.le_trans a.dp h2⟩
theorem ShA.of {w dp : Nat} : ∀ {ds : List Dt}, (∀ d ∈ ds, Sh w dp d) → ShA ((w + 1) * ds.length) dp ds
  | [], _ => .nil
  | d :: ds, h => by
    have r := ShA.cons (h d (by simp)) (ShA.of (ds := ds) fun x hx => h x (List.mem_cons_of_mem _ hx))
    refine ⟨r.sh, r.lv, Nat.le_trans r.wt ?_, r.dp⟩
    rw [List.length_cons, Nat.mul_add]
    omega
theorem ShA.ints {ns : List Int} (h : ∀ i ∈ ns, i.natAbs < 10 ^ 12) : ShA (41 * ns.length) 0 (ns.map PyData.int) := by
  have := ShA.of (w := 40) (dp := 0) (ds := ns.map PyData.int) (fun d hd => by
    obtain ⟨i, hi, rfl⟩ := List.mem_map.mp hd
    exact Sh.int (h i hi))
  rw [List.length_map] at this
  exact this
theorem Sh.repr {w dp : Nat} {d : Dt} (a : Sh w dp d) (h : w ≤ 2 ^ 20) (h2 : dp ≤ 60) {Q : Dt → Prop} (q : Q (.str d.shown)) : bRepr [d] Q :=
  ⟨a.sh, PyData.shown_fits (by decide) (by decide) a.lv (Nat.le_trans a.wt h), Nat.le_trans a.dp h2, q⟩
theorem dNeS1 {x : Str} {Q : Dt → Prop} (q : Q (.bool false)) : dNe (.str x) (.str x) Q := by
  refine ⟨trivial, ?_⟩
  have : PyData.eqv (.str x) (.str x) = true := by simp [PyData.eqv]
  rw [this]
  exact q
theorem dEqS1 {x : Str} {Q : Dt → Prop} (q : Q (.bool true)) : dEq (.str x) (.str x) Q := by
  refine ⟨trivial, ?_⟩
  have : PyData.eqv (.str x) (.str x) = true := by simp [PyData.eqv]
  rw [this]
  exact q
theorem shaped_int {i : Int} : SeqAt.shaped (.int i) = true := by simp [SeqAt.shaped, PyData.canLay0, PyData.depth]
theorem dEqI {i j : Int} {Q : Dt → Prop} : dEq (.int i) (.int j) Q ↔ Q (.bool (decide (i = j))) := by
  have e : PyData.eqv (.int i) (.int j) = decide (i = j) := by simp [PyData.eqv]; rfl
  simp only [dEq, shp, shaped_int, e, true_and]
theorem dNeI {i j : Int} {Q : Dt → Prop} : dNe (.int i) (.int j) Q ↔ Q (.bool (!decide (i = j))) := by
  have e : PyData.eqv (.int i) (.int j) = decide (i = j) := by simp [PyData.eqv]; rfl
  simp only [dNe, shp, shaped_int, e, true_and]
theorem dEqS {x y : Str} {Q : Dt → Prop} : dEq (.str x) (.str y) Q ↔ Q (.bool (x == y)) := by
  have e : PyData.eqv (.str x) (.str y) = (x == y) := by simp [PyData.eqv]
  simp only [dEq, shp, e, true_and]
theorem seq_at {t u : VST} {V : VN} {ρ ρ' : Nv} {n n' : Nat} (h1 : ∀ N : Nv → Nat → Prop, N ρ' n' → t { V with nx := N } ρ n) (h2 : u V ρ' n') : vSeq t u V ρ n := h1 _ h2
theorem body_at {m k : Nat} {t : VST} {ws : List W} {n : Nat} {Q : W → Nat → Prop} {E : XW} (hk : ws.length = k) (h : t ⟨fun _ n' => Q (.dat .none) n', Q, fun _ _ => False, fun _ _ => False, fun x _ n' => E x n'⟩ (startE m ws) n) : bodyV m k t ws n Q E := ⟨hk, h⟩
theorem seq_for {ti : VA} {g : VGt} {tb u : VST} {V : VN} {ρ : Nv} {n n' : Nat} {ds : List Dt} (h1 : ∀ N : List Dt → Nat → Prop, N ds n' → ti ρ n N (fun x n' => V.xc x ρ n')) (h2 : vLoop g tb { V with nx := u V } ds ρ n') : vSeq (vFor ti g tb) u V ρ n := h1 _ h2
theorem seq_all {t u : VST} {V : VN} {ρ : Nv} {n : Nat} (J : Nv → Nat → Prop) (h1 : ∀ N : Nv → Nat → Prop, (∀ ρ' n', J ρ' n' → N ρ' n') → t { V with nx := N } ρ n) (h2 : ∀ ρ' n', J ρ' n' → u V ρ' n') : vSeq t u V ρ n := h1 _ h2
theorem seq_forA {ti : VA} {g : VGt} {tb u : VST} {V : VN} {ρ : Nv} {n : Nat} (J : List Dt → Nat → Prop) (h1 : ∀ N : List Dt → Nat → Prop, (∀ ds n', J ds n' → N ds n') → ti ρ n N (fun x n' => V.xc x ρ n')) (h2 : ∀ ds n', J ds n' → vLoop g tb { V with nx := u V } ds ρ n') : vSeq (vFor ti g tb) u V ρ n := h1 _ h2
theorem cut_hi {α : Type} (xs : List α) (k : Nat) : cutD xs none (some (k : Int)) = xs.take k := by
  unfold cutD
  rw [HT.sIx_none, HT.sIx_nat, List.drop_zero, Nat.sub_zero, List.take_eq_take_iff]
  omega
theorem cut_lo {α : Type} (xs : List α) (k : Nat) : cutD xs (some (k : Int)) none = xs.drop k := by
  unfold cutD
  rw [HT.sIx_none, HT.sIx_nat]
  by_cases h : k ≤ xs.length
  · rw [Nat.min_eq_left h]
    exact List.take_of_length_le (by simp)
  · rw [Nat.min_eq_right (by omega), List.drop_eq_nil_of_le (Nat.le_refl _), List.drop_eq_nil_of_le (by omega), List.take_nil]
theorem cut_1 {α : Type} (x : α) (xs : List α) : cutD (x :: xs) (some 1) none = xs := cut_lo (x :: xs) 1
theorem rngD_len (lo : Int) (n : Nat) : (rngD lo n).length = n := by unfold rngD; simp
theorem mem_enumD {xs : List Dt} {d : Dt} (h : d ∈ enumD xs) : ∃ (k : Int) (x : Dt), x ∈ xs ∧ d = .tuple [.int k, x] := by
  unfold enumD at h
  rw [List.mem_mapIdx] at h
  obtain ⟨i, hi, rfl⟩ := h
  exact ⟨i, xs[i], List.getElem_mem hi, rfl⟩
theorem sizeLine_pos : 2 ^ 24 = sizeLine := rfl
end VL


set_option maxRecDepth 100000
set_option maxHeartbeats 400000
namespace VL
open PySem PySem.Spec PyProof.Rows L2
section
variable {X : Cx} {U : WX} {a b c e : Expr} {pos : Pos} {te : VT} {al tl : VA}
def vPar3 (i j l : Nat) (al : VA) : VST := fun V ρ n => al ρ n (fun ds n' => match ds with
  | [d1, d2, d3] => V.nx (((ρ.set i (some (.dat d1))).set j (some (.dat d2))).set l (some (.dat d3))) n'
  | _ => False) fun x n' => V.xc x ρ n'
theorem vs_par3 {i j l : Nat} {x y z : Str} {px py pz pt : Pos} {kt k2 pt2} (hc : X.calm = true) (hN : X.N.Nodup) (hi : X.N[i]? = some x) (hj : X.N[j]? = some y) (hl : X.N[l]? = some z) (hij : i ≠ j) (hil : i ≠ l) (hjl : j ≠ l)
    (hx : X.env.scope.names.lookup x = some .local) (hy : X.env.scope.names.lookup y = some .local) (hz : X.env.scope.names.lookup z = some .local) (ha : VAa X U [a, b, c] al)
    (hw : swappedStores [.Tuple [.Name x px, .Name y py, .Name z pz] kt pt] (.Tuple [a, b, c] k2 pt2) X.env = pure (some [x, y, z]))
    (hs : swapsWithSole [.Tuple [.Name x px, .Name y py, .Name z pz] kt pt] (.Tuple [a, b, c] k2 pt2) pos.line X.env = pure false := by rfl) :
    VS X U (.Assign [.Tuple [.Name x px, .Name y py, .Name z pz] kt pt] (.Tuple [a, b, c] k2 pt2) pos) (vPar3 i j l al) := ps_imp (ps_par3 hc hN hi hj hl hij hil hjl hx hy hz ha hw hs) fun D σ H ⟨C, ρ, n, G, O, V, I, h, L⟩ =>
  ⟨C, ρ, n, G, O, _, _, I, h, fun ds n' q vs G' O' H' I' _ r => by
    match ds, r, q with
    | [d1, d2, d3], .cons r1 (.cons r2 (.cons r3 .nil)), q => exact ⟨_, _, _, rfl, L.nx _ n' q _ G' O' H' (((I'.set i r1).set j r2).set l r3)⟩, L.lkx σ ρ⟩
/-- xs, y = a new list, a datum -/
def vParO (i j : Nat) (tl : VA) (te : VT) : VST := fun V ρ n => tl ρ n (fun ds n1 => te ρ n1 (fun d n2 => V.nx ((ρ.set i (some (.own ds))).set j (some (.dat d))) n2) fun x n' => V.xc x ρ n') fun x n' => V.xc x ρ n'
theorem vs_parO {i j : Nat} {x y : Str} {px py pt : Pos} {kt k2 pt2} (hc : X.calm = true) (hN : X.N.Nodup) (hi : X.N[i]? = some x) (hj : X.N[j]? = some y) (hij : i ≠ j)
    (hx : X.env.scope.names.lookup x = some .local) (hy : X.env.scope.names.lookup y = some .local) (h1 : VO X U a tl) (h2 : VE X U b te)
    (hw : swappedStores [.Tuple [.Name x px, .Name y py] kt pt] (.Tuple [a, b] k2 pt2) X.env = pure (some [x, y]))
    (he : starEach [a, b] X.env = (false, eval a X.env) :: starEach [b] X.env := by rfl) (he2 : starEach [b] X.env = (false, eval b X.env) :: starEach [] X.env := by rfl)
    (hs : swapsWithSole [.Tuple [.Name x px, .Name y py] kt pt] (.Tuple [a, b] k2 pt2) pos.line X.env = pure false := by rfl) :
    VS X U (.Assign [.Tuple [.Name x px, .Name y py] kt pt] (.Tuple [a, b] k2 pt2) pos) (vParO i j tl te) := ps_imp (ps_par hc hN hi hj hij hx hy (pa_cons h1 (pa_cons h2 pa_nil (hs := he2)) (hs := he)) hw hs) fun D σ H ⟨C, ρ, n, G, O, V, I, h, L⟩ => by
  refine ⟨C, ρ, n, G, O, _, _, I, h, fun ds n1 q p G1 O1 H1 I1 s1 ⟨xs, g, h0, o, r, fr⟩ => ?_, L.lkx σ ρ⟩
  have g0 : C.G0 p = none := by
    cases z : C.G0 p with
    | none => rfl
    | some u => have := I1.g0 _ _ z; rw [g] at this; cases this
  refine ⟨C.hide p xs, ρ, n1, G1, O1, _, _, I1.hide g h0 o fr, q, fun d n2 q2 v G2 O2 H2 I2 s2 r2 => ?_, fun x n' ex cls d G' O' H' I' ea => L.lkx σ ρ x n' ex cls d G' O' H' (I'.show h0 I1.oh g0).1 ea⟩
  obtain ⟨J, o2, g2, fr2⟩ := I2.show h0 I1.oh g0
  exact ⟨_, _, rfl, L.nx _ n2 q2 _ G2 O2 H2 ((J.setOwn i g2 h0 o2 (DRs.same s2 r) fr2).set j r2)⟩
/-- xs * k, xs a list -/
def dRep : R2D := fun a b Q => match a, b with
  | .list xs, .int k => (-(2 ^ 63) ≤ k ∧ k < 2 ^ 63 ∧ xs.length * k.toNat ≤ sizeLine) ∧ Q (.list (List.replicate k.toNat xs).flatten)
  | _, _ => False
theorem DRs.app {K : PySem.W.Frag} {G : Hp} {ds es : List Dt} : ∀ {xs ys : List V}, DRs K G xs ds → DRs K G ys es → DRs K G (xs ++ ys) (ds ++ es) := by
  intro xs ys r q
  induction ds generalizing xs with
  | nil => cases r; exact q
  | cons d ds ih => cases r with | cons a r => exact .cons a (ih r)
theorem DRs.rep {K : PySem.W.Frag} {G : Hp} {xs : List V} {ds : List Dt} (r : DRs K G xs ds) : ∀ k : Nat, DRs K G (List.replicate k xs).flatten (List.replicate k ds).flatten
  | 0 => .nil
  | k + 1 => by
    rw [List.replicate_succ, List.replicate_succ, List.flatten_cons, List.flatten_cons]
    exact DRs.app r (DRs.rep r k)
theorem o_rep : VOp X (binaryOp .Mult) dRep := by
  intro pins s σ H x y v u Q I rx ry ⟨G, d1, d2, Q0, sg, r1, r2, q, hq⟩
  cases d1 with
  | list xs =>
    cases d2 with
    | int k =>
      cases r1 with
      | lst a1 q1 =>
        cases r2
        refine op_rep pins s σ H _ _ v u Q I rx ry ⟨_, k, _, rfl, rfl, sg _ _ a1, q.1.1, q.1.2.1, by rw [q1.length]; exact q.1.2.2, fun p hp => ?_⟩
        exact hq _ q.2 _ (L2.upd G p _) _ (same_upd hp) (same_upd (gfree sg hp)) (same_upd2 sg) (new_upd hp) (.lst upd_same (DRs.same (same_upd (gfree sg hp)) (DRs.rep q1 _)))
    | _ => exact q.elim
  | _ => exact q.elim
end
end VL


set_option maxRecDepth 100000
set_option maxHeartbeats 4000000
namespace L2
open PySem PySem.Spec PyProof.Rows
theorem tuple_mulS (l : Addr) (items : Array Value) (n : Nat) (dd : Option Addr) (sl : Array (Option Value)) (x : Int) (u : Tok) (c0 : (decide (x < -(2 ^ 63)) || decide (x ≥ 2 ^ 63)) = false) (c1 : (items.isEmpty || x == 1) = true) :
    Meets (Builtin.«tuple.__mul__» ⟨[.ref l, .int x u], []⟩) (fun _ R s => s.heap.get? l = some { cls := .type "tuple", dict := dd, data := .seq items n, slots := sl } ∧ R (.ok (.ret (Value.ref l))) s) :=
  .of_wp fun prog w A R s h => by
    obtain ⟨hp, g, d, tk, os⟩ := s
    obtain ⟨hl, h⟩ := h
    have f1 := AutoSeq1.idx_int
    wp_walk using wpAny_loadPart' hl
    repeat (first
      | (refine wpAny_ite_false (decide_eq_false (by rw [c0]; exact Bool.false_ne_true)) ?_; wp_walk using wpAny_loadPart' hl)
      | (refine wpAny_ite_true (decide_eq_true c1) ?_; wp_walk using wpAny_loadPart' hl))
    exact ⟨_, rfl, h⟩
theorem tuple_mul0 (l : Addr) (items : Array Value) (n : Nat) (dd : Option Addr) (sl : Array (Option Value)) (x : Int) (u : Tok) (c0 : (decide (x < -(2 ^ 63)) || decide (x ≥ 2 ^ 63)) = false) (c1 : (items.isEmpty || x == 1) = false) (c2 : (decide (x ≤ 0) || items.isEmpty) = true) :
    Meets (Builtin.«tuple.__mul__» ⟨[.ref l, .int x u], []⟩) (fun _ R s => s.heap.get? l = some { cls := .type "tuple", dict := dd, data := .seq items n, slots := sl } ∧
      R (.ok (.ret (Value.ref s.heap.objs.size))) { s with heap := s.heap.push { cls := Value.type "tuple", data := Data.seq #[] }, toks := s.toks }) :=
  .of_wp fun prog w A R s h => by
    obtain ⟨hp, g, d, tk, os⟩ := s
    obtain ⟨hl, h⟩ := h
    have f1 := AutoSeq1.idx_int
    wp_walk using wpAny_loadPart' hl
    repeat (first
      | (refine wpAny_ite_false (decide_eq_false (by rw [c0]; exact Bool.false_ne_true)) ?_; wp_walk using wpAny_loadPart' hl)
      | (refine wpAny_ite_false (decide_eq_false (by rw [c1]; exact Bool.false_ne_true)) ?_; wp_walk using wpAny_loadPart' hl)
      | (refine wpAny_ite_true (decide_eq_true c2) ?_; wp_walk using wpAny_loadPart' hl))
    exact ⟨_, rfl, h⟩
section
variable {X : Cx}
/-- t * k: t itself where it is empty or k is 1 -/
def rRepA (K : PySem.W.Frag) : R2 := fun x y H Q => ∃ l k xs, x = .ref l ∧ y = .int k ∧ SqT K H l xs ∧ 0 ≤ k ∧ k ≤ 1000 ∧ xs.length ≤ 1000 ∧
  (xs = [] ∨ k = 1 → Q (.ref l) H) ∧ (xs ≠ [] → k = 0 → ∀ p, H p = none → Q (.ref p) (upd H p (.tup []))) ∧ (xs ≠ [] → 2 ≤ k → ∀ p, H p = none → Q (.ref p) (upd H p (.tup (List.replicate k.toNat xs).flatten)))
theorem op_repA : OpR X (binaryOp .Mult) (rRepA X.K) := by
  intro pins s σ H x y v u Q I rx ry h
  obtain ⟨l, k, xs, rfl, rfl, hT, h1, h2, hz, q1, q2, q3⟩ := h
  by_cases h3 : xs ≠ [] ∧ 2 ≤ k
  · exact op_repT pins s σ H _ _ v u Q I rx ry ⟨l, k, xs, rfl, rfl, hT, h3.1, h3.2, h2, hz, q3 h3.1 h3.2⟩
  cases rx
  obtain ⟨t, rfl⟩ := ry
  obtain ⟨its, r, ⟨⟨cls, dd, data, sl⟩, ho, hc, n, hd⟩, hs⟩ := I.tuple hT
  simp only at hc hd
  subst hc hd
  have hle : its.length = xs.length := r.length.symm
  have c0 : (decide (k < -(2 ^ 63)) || decide (k ≥ 2 ^ 63)) = false := by
    rw [decide_eq_false (by omega), decide_eq_false (by omega)] <;> rfl
  have hi : its.toArray.isEmpty = decide (xs = []) := by
    cases its with
    | nil =>
      have : xs = [] := List.eq_nil_of_length_eq_zero hle.symm
      rw [this]; rfl
    | cons a b =>
      have : xs ≠ [] := fun e => by rw [e] at hle; simp at hle
      rw [decide_eq_false this]; rfl
  by_cases h4 : xs = [] ∨ k = 1
  · have c1 : (its.toArray.isEmpty || k == 1) = true := by
      rw [hi]
      rcases h4 with e | e
      · rw [decide_eq_true e]; rfl
      · rw [e]; exact Bool.or_true _
    refine wpAny_binaryOp_repeat_ref (T := "tuple") (U := "int") (by decide) ⟨_, ho, rfl⟩ (fun s' => typeIs_int s' k t) noFill_tuple_mul F.fills_int_mul F.slot_int_rmul repeat_tuple F.slot_int_index.lookup
      (call_meets F.slot_int_rmul (typeIs_int s k t) F.entry_int_rmul (F.args_int_rmul_2 _ _) (int_rmul_tuple k t l its.toArray n dd sl)
        ⟨ho, rfl, ⟨_, ho, rfl⟩, call_meets F.slot_tuple_mul ⟨_, ho, rfl⟩ F.entry_tuple_mul (F.args_tuple_mul_2 _ _) (tuple_mulS l its.toArray n dd sl k t c0 c1) ⟨ho, ?_⟩⟩)
    exact ⟨.ref l, H, I, rfl, q1 h4⟩
  · have hx : xs ≠ [] := fun e => h4 (.inl e)
    have hk : k = 0 := by
      have a1 : k ≠ 1 := fun e => h4 (.inr e)
      have a2 : ¬ 2 ≤ k := fun e => h3 ⟨hx, e⟩
      omega
    have c1 : (its.toArray.isEmpty || k == 1) = false := by
      rw [hi, decide_eq_false hx, hk]; rfl
    have c2 : (decide (k ≤ 0) || its.toArray.isEmpty) = true := by
      rw [hk]; rfl
    refine wpAny_binaryOp_repeat_ref (T := "tuple") (U := "int") (by decide) ⟨_, ho, rfl⟩ (fun s' => typeIs_int s' k t) noFill_tuple_mul F.fills_int_mul F.slot_int_rmul repeat_tuple F.slot_int_index.lookup
      (call_meets F.slot_int_rmul (typeIs_int s k t) F.entry_int_rmul (F.args_int_rmul_2 _ _) (int_rmul_tuple k t l its.toArray n dd sl)
        ⟨ho, rfl, ⟨_, ho, rfl⟩, call_meets F.slot_tuple_mul ⟨_, ho, rfl⟩ F.entry_tuple_mul (F.args_tuple_mul_2 _ _) (tuple_mul0 l its.toArray n dd sl k t c0 c1 c2) ⟨ho, ?_⟩⟩)
    refine ⟨.ref s.heap.objs.size, _, I.laid (t' := s.toks) (o := .tup []) (fun b ob q => Heap.get?_push_of_some _ q) (Nat.le_refl _) ?_, rfl, q2 hx hk _ (I.hok.fresh (Nat.le_refl _))⟩
    exact ⟨by show 0 ≤ sizeLine; exact Nat.zero_le _, _, .nil, IsTup.new _ _⟩
end
end L2
namespace VL
open PySem PySem.Spec PyProof.Rows L2
section
variable {X : Cx}
/-- t * k, t a tuple -/
def dRepT : R2D := fun a b Q => match a, b with
  | .tuple xs, .int k => (0 ≤ k ∧ k ≤ 1000 ∧ xs.length ≤ 1000) ∧ Q (.tuple (List.replicate k.toNat xs).flatten)
  | _, _ => False
theorem o_repT : VOp X (binaryOp .Mult) dRepT := by
  intro pins s σ H x y v u Q I rx ry ⟨G, d1, d2, Q0, sg, r1, r2, q, hq⟩
  cases d1 with
  | tuple ds =>
    cases d2 with
    | int k =>
      cases r1 with
      | tup a1 q1 =>
        cases r2
        refine op_repA pins s σ H _ _ v u Q I rx ry ⟨_, k, _, rfl, rfl, sameT sg a1, q.1.1, q.1.2.1, by rw [q1.length]; exact q.1.2.2, fun e => ?_, fun _ e p hp => ?_, fun _ _ p hp => ?_⟩
        · have : (List.replicate k.toNat ds).flatten = ds := by
            rcases e with e | e
            · subst e
              cases q1
              simp
            · subst e
              show (List.replicate 1 ds).flatten = ds
              simp
          have q2 := q.2
          rw [this] at q2
          exact hq _ q2 _ G H (Same.refl _) (Same.refl _) sg New.refl (.tup a1 q1)
        · subst e
          exact hq _ q.2 _ (L2.upd G p _) _ (same_upd hp) (same_upd (gfree sg hp)) (same_upd2 sg) (new_upd hp) (.tup (SqT.of upd_same) .nil)
        · exact hq _ q.2 _ (L2.upd G p _) _ (same_upd hp) (same_upd (gfree sg hp)) (same_upd2 sg) (new_upd hp) (.tup (SqT.of upd_same) (DRs.same (same_upd (gfree sg hp)) (DRs.rep q1 _)))
    | _ => exact q.elim
  | _ => exact q.elim
end
end VL


set_option maxRecDepth 100000
set_option maxHeartbeats 1000000
namespace VL
open PySem PySem.Spec PyProof.Rows L2
/-! ### raise C(x, ..): C a class whose __init__ puts its arguments into fields -/
/-- what such an __init__ does -/
def spInit (K : PySem.W.Frag) (flds : List Str) : Sp := fun vs H Q _ => ∃ (a C : Addr) (ws : List V), vs = .ref a :: ws ∧ ws.length = flds.length ∧ OexC K C ∧ (∀ f ∈ flds, PySem.W.findIn K (.ref C) f = some none) ∧ H a = some (exo a C none) ∧
  ∀ dx, H dx = none → dx ≠ a → Q .non (L2.upd (L2.upd H dx (exd dx (flds.zip ws).reverse)) a (exo a C (some dx)))
/-- what is known of such a class -/
structure RzC (P : Program) (w : World) (K : PySem.W.Frag) (mg : Str → Option Value) (base : Heap) (x : Str) (flds : List Str) : Prop where
  cls : OexC K (He.ga K x)
  g : mg x = some (.ref (He.ga K x))
  no : ∀ f ∈ flds, PySem.W.findIn K (.ref (He.ga K x)) f = some none
  nd : flds.Nodup
  ini : ∃ (fI : Addr) (fd : FuncData) (ps : List Str), PySem.W.findIn K (.ref (He.ga K x)) "__init__" = some (some (.ref fI)) ∧ PySem.W.typeIn K (.ref fI) = some (.type "function") ∧ FnOk P w K mg base (L2.CX P w) 1 fI fd ps (spInit K flds) ∧ Binds K fd ps []
def mkX (x : Str) (flds : List Str) (ds : List Dt) : Exc := ⟨x, (flds.zip ds).reverse⟩
def vRaise (x : Str) (flds : List Str) (al : VA) : VST := fun V ρ n => al ρ n (fun ds n' => ds.length = flds.length ∧ ds.length ≤ 1000 ∧ V.xc (mkX x flds ds) ρ n') fun y n' => V.xc y ρ n'
theorem zip_rel {K : PySem.W.Frag} {G : Hp} : ∀ {vs : List V} {ds : List Dt} (flds : List Str), DRs K G vs ds → ∀ (acc : List (Str × V)) (bcc : List (Str × Dt)), (∀ f dv, bcc.lookup f = some dv → ∃ v, acc.lookup f = some v ∧ DR K G v dv) → (∀ f, bcc.lookup f = none → acc.lookup f = none) →
    ∀ f dv, ((flds.zip ds).reverse ++ bcc).lookup f = some dv → ∃ v, ((flds.zip vs).reverse ++ acc).lookup f = some v ∧ DR K G v dv := by
  intro vs ds flds
  induction flds generalizing vs ds with
  | nil => intro r acc bcc h _ f dv e; exact h f dv (by simpa using e)
  | cons g gs ih =>
    intro r acc bcc h hn f dv e
    cases ds with
    | nil => cases r; exact h f dv (by simpa using e)
    | cons d ds =>
      cases r with
      | cons a r =>
        rw [List.zip_cons_cons, List.reverse_cons, List.append_assoc, List.singleton_append] at e ⊢
        refine ih r _ _ (fun f dv e => ?_) (fun f e => ?_) f dv e
        · rw [List.lookup_cons] at e ⊢
          by_cases q : (f == g) = true
          · rw [q] at e ⊢; cases e; exact ⟨_, rfl, a⟩
          · rw [Bool.not_eq_true] at q; rw [q] at e ⊢; exact h f dv e
        · rw [List.lookup_cons] at e ⊢
          by_cases q : (f == g) = true
          · rw [q] at e; cases e
          · rw [Bool.not_eq_true] at q; rw [q] at e ⊢; exact hn f e
section
variable {X : Cx} {U : WX} {e : Expr} {es : List Expr} {al : VA} {p p2 pos : Pos}
theorem vs_raise {x : Str} {flds : List Str} (hc : X.calm = true) (tk : Takes X U) (R : RzC X.prog X.w X.K X.mg X.base x flds) (hr : Room 2 X.A) (hx : Passes (L2.CX X.prog X.w) X (fun _ _ _ => False)) (hg : Gl X x) (ha : VAa X U (e :: es) al)
    (hdb : (x == ("__debug__" : Str)) = false := by decide) (he : starEach (e :: es) X.env = (false, eval e X.env) :: starEach es X.env := by rfl) (hpl : (backTo p2 (starEach es X.env)).any (·.1) = false := by rfl) :
    VS X U (.Raise (some (.Call (.Name x p) (e :: es) [] p2)) none pos) (vRaise x flds al) := by
  obtain ⟨fI, fd, ps, h1, h2, F, B⟩ := R.ini
  refine ps_imp (ps_raise hc tk (pmk_oex R.cls h1 h2 F hr B .nil hx hg R.g ha hdb he hpl)) fun D σ H ⟨C, ρ, n, G, O, V, I, h, L⟩ => ?_
  refine ⟨C, ρ, n, G, O, _, _, I, h, fun ds n' ⟨q1, q2, q⟩ vs G' O' H' I' s' r => ⟨by rw [DRs.length r]; exact q2, fun a ha => ?_⟩, L.lkx σ ρ⟩
  refine ⟨a, He.ga X.K x, vs, by rw [List.append_nil], by rw [DRs.length r]; exact q1, R.cls, R.no, upd_same, fun dx hdx hne => ⟨rfl, dx, (flds.zip vs).reverse, upd_same, ?_, ?_, ?_⟩⟩
  · rw [upd_ne hne, upd_same]
  · rw [upd_ne hne] at hdx; exact hdx
  · rw [upd_ne hne] at hdx
    have eH : L2.upd (L2.del (L2.upd (L2.upd (L2.upd H' a (exo a (He.ga X.K x) none)) dx (exd dx (flds.zip vs).reverse)) a (exo a (He.ga X.K x) (some dx))) a) dx (.xd (flds.zip vs).reverse) = L2.upd H' dx (.xd (flds.zip vs).reverse) := by
      funext b
      by_cases b1 : b = dx
      · subst b1; rw [upd_same, upd_same]
      · rw [upd_ne b1, upd_ne b1]
        by_cases b2 : b = a
        · subst b2; rw [L2.del_same]; exact ha.symm
        · rw [L2.del_ne b2, upd_ne b2, upd_ne b1, upd_ne b2]
    rw [eH]
    have J := I'.new (o := .xd (flds.zip vs).reverse) hdx
    refine L.lkx σ ρ _ n' q _ _ _ _ _ J ⟨rfl, dx, (flds.zip vs).reverse, rfl, upd_same, fun f dv ef => ?_⟩
    have r' := DRs.same (In.newSame (o := .xd (flds.zip vs).reverse) I'.toIo hdx) r
    have := zip_rel flds r' [] [] (fun f dv z => by cases z) (fun f z => rfl) f dv (by rw [List.append_nil]; exact ef)
    rw [List.append_nil] at this
    exact this
end
/-! ### try: .. except C: .. -/
/-- what the clauses do -/
def hdl (V : VN) : List (Str × VST) → Exc → Nv → Nat → Prop
  | [], x, ρ, n => V.xc x ρ n
  | (c, th) :: r, x, ρ, n => if x.name = c then th V ρ n else hdl V r x ρ n
def vTry (known : List Str) (tb : VST) (hs : List (Str × VST)) : VST := fun V ρ n => tb { V with xc := fun x ρ' n' => x.name ∈ known ∧ hdl V hs x ρ' n' } ρ n
/-- no known class is under another one -/
def KnX (K : PySem.W.Frag) (known : List Str) : Prop := ∀ x ∈ known, ∀ c ∈ known, PySem.W.exmOne K (.ref (He.ga K x)) (.ref (He.ga K c)) = some (decide (x = c))
def hts (K : PySem.W.Frag) (U : WX) (hs : List (Str × VST)) : List (Value × (Addr → Value → Option Addr → TS)) := hs.map fun h => (.ref (He.ga K h.1), fun _ _ _ => upS K U h.2)
theorem hdl_link {K : PySem.W.Frag} {U : WX} {C : Ct} {V : VN} {D : Ends} {known : List Str} (kx : KnX K known) (L : LkS K U C V D) {x : Exc} {σ : L2.St} {ρ : Nv} {n : Nat} {G O H : Hp} {cls : Value} {d : Option Addr} (hx : x.name ∈ known) (I : In K C σ ρ n G O H) (ea : ExcAt K G x cls d) :
    ∀ hs : List (Str × VST), (∀ h ∈ hs, h.1 ∈ known) → hdl V hs x ρ n → wMany K U D (hts K U hs) cls d σ H
  | [], _, q => L.xc x ρ n q cls d σ G O H I ea
  | (c, th) :: r, hk, q => by
    have e := kx x.name hx c (hk (c, th) (by simp))
    have ec := ea.1
    refine ⟨decide (x.name = c), by rw [ec]; exact e, fun b a ha => ?_, fun b => ?_⟩
    · have b := of_decide_eq_true b
      unfold hdl at q
      rw [if_pos b] at q
      exact ⟨C, ρ, n, G, O, V, I, q, L⟩
    · have b := of_decide_eq_false b
      unfold hdl at q
      rw [if_neg b] at q
      exact hdl_link kx L hx I ea r (fun h hh => hk h (List.mem_cons_of_mem _ hh)) q
inductive HdsV (X : Cx) (U : WX) : List ExceptHandler → List (Str × VST) → Prop
  | nil : HdsV X U [] []
  | cons {x : Str} {th : VST} {b₀ : Stmt} {suite : List Stmt} {np pos' : Pos} {hds : List ExceptHandler} {l : List (Str × VST)} (hc : Names X x (.ref (He.ga X.K x)))
      (hsu : ∀ (a : Addr) (oe : Obj) (pn : List (Addr × Obj)), VSs (X.suite a ((a, oe) :: pn)) U (b₀ :: suite) th) (r : HdsV X U hds l) : HdsV X U (.ExceptHandler (some (.Name x np)) none (b₀ :: suite) pos' :: hds) ((x, th) :: l)
theorem HdsV.ok {X : Cx} {U : WX} {hds : List ExceptHandler} {l : List (Str × VST)} (h : HdsV X U hds l) : HdsOk X hds (hts X.K U l) := by
  induction h with
  | nil => exact .nil
  | cons hc hsu r ih => exact .cons hc (fun a oe cls d pn _ _ => hsu a oe pn) ih
section
variable {X : Cx} {U : WX} {body : List Stmt} {h₀ : ExceptHandler} {hds : List ExceptHandler} {l : List (Str × VST)} {known : List Str} {tb : VST} {pos : Pos}
theorem vs_try (hs : X.stack = X.env :: X.outer) (hf : X.env.frame = some X.env.locals) (tk : Takes X U) (kx : KnX X.K known) (hk : ∀ h ∈ l, h.1 ∈ known)
    (hb : ∀ (W : WX) (pn : List (Addr × Obj)) (xe : Value → Shared → Prop), Takes (X.tr pn xe) W → PassesOwn (model X.prog X.w) X.A X.env xe → VSs (X.tr pn xe) W body tb)
    (hh : HdsV X U (h₀ :: hds) l) : VS X U (.Try body (h₀ :: hds) [] [] pos) (vTry known tb l) :=
  ps_imp (ps_try_many (tb := fun W => upS X.K W tb) hs hf tk (fun W pn xe t1 t2 => hb W pn xe t1 t2) hh.ok) fun D σ H ⟨C, ρ, n, G, O, V, I, h, L⟩ =>
    ⟨C, ρ, n, G, O, _, I, h, ⟨L.nx, L.rt, L.bk, L.ct, fun x ρ' n' ⟨q1, q2⟩ cls d σ' G' O' H' I' ea => hdl_link kx L q1 I' ea l hk q2⟩⟩
end
end VL


set_option maxRecDepth 100000
set_option maxHeartbeats 1000000
namespace VL
open PySem PySem.Spec PyProof.Rows L2
/-! ### what the written part says of an error's class -/
def oexO (K : PySem.W.Frag) (C : Addr) : Bool := match K.lookup C with
  | some ⟨.type "type", _, .cls cd, sl⟩ => (match cd.mro, sl.toList with
    | .ref C' :: bm, [_, _, _, _, some (.builtin n), _] => C' == C && n == "ValueError.__new__" && !cd.hasDel && cd.hasDict && PySem.HandSPX.refsVE bm
    | _, _ => false)
  | _ => false
def oexB (K : PySem.W.Frag) (C : Addr) : Bool := oexO K C && (decide (PySem.W.findIn K (.ref C) "__setattr__" = some (some (.builtin "object.__setattr__"))) && (decide (PySem.W.subIn K (.ref C) (.type "BaseException") = some true) && (decide (PySem.W.typeIn K (.ref C) = some (.type "type")) && PySem.W.keepIn K (.ref C))))
theorem oexB_ok {K : PySem.W.Frag} {C : Addr} (h : oexB K C = true) : OexC K C := by
  unfold oexB at h
  simp only [Bool.and_eq_true, decide_eq_true_eq] at h
  obtain ⟨h0, h1, h2, h3, h4⟩ := h
  refine ⟨?_, h1, h2, h3, h4⟩
  unfold oexO at h0
  split at h0
  · rename_i dd cd sl ho
    split at h0
    · rename_i C' bm k0 k1 k2 k3 n k5 hm hs
      simp only [Bool.and_eq_true, beq_iff_eq, Bool.not_eq_true'] at h0
      obtain ⟨⟨⟨⟨rfl, rfl⟩, hdel⟩, hdct⟩, ht⟩ := h0
      obtain ⟨nm, bs, mro, ns, qn, hd, sn, sub, ab, col, del⟩ := cd
      dsimp only at hm hdel hdct
      subst hm hdel hdct
      have hsl : sl = #[k0, k1, k2, k3, some (.builtin "ValueError.__new__"), k5] := by
        obtain ⟨l⟩ := sl
        simp only at hs
        rw [hs]
      subst hsl
      exact ⟨nm, qn, ns, bs, bm, sn, sub, ab, col, dd, k0, k1, k2, k3, k5, ho, ht⟩
    · cases h0
  · cases h0
abbrev iA (K : PySem.W.Frag) (x : Str) : Addr := He.fAd K (x, some "__init__")
def rzB (K : PySem.W.Frag) (x : Str) (flds : List Str) : Bool := oexB K (He.ga K x) && ((flds.all fun f => decide (PySem.W.findIn K (.ref (He.ga K x)) f = some none)) && (decide (PySem.W.findIn K (.ref (He.ga K x)) "__init__" = some (some (.ref (iA K x)))) && decide (PySem.W.typeIn K (.ref (iA K x)) = some (.type "function"))))
theorem rz_of {P : Program} {w : World} {K : PySem.W.Frag} {mg : Str → Option Value} {base : Heap} {x : Str} {flds : List Str} (h : rzB K x flds = true) (g : mg x = some (.ref (He.ga K x))) (nd : flds.Nodup) {fd : FuncData} {ps : List Str} (F : FnOk P w K mg base (L2.CX P w) 1 (iA K x) fd ps (spInit K flds)) (B : Binds K fd ps []) : RzC P w K mg base x flds := by
  unfold rzB at h
  simp only [Bool.and_eq_true, decide_eq_true_eq, List.all_eq_true] at h
  obtain ⟨h0, h1, h2, h3⟩ := h
  exact ⟨oexB_ok h0, g, h1, nd, _, _, _, h2, h3, F, B⟩
/-- two fields: the heap behind both stores -/
theorem two_eq {H : Hp} {a dx : Addr} {o1 o2 o3 : HO} (hne : dx ≠ a) : L2.upd (L2.upd (L2.upd H dx o1) a o3) dx o2 = L2.upd (L2.upd H dx o2) a o3 := by
  funext b
  by_cases b1 : b = dx
  · subst b1; rw [upd_same, upd_ne hne, upd_same]
  · rw [upd_ne b1]
    by_cases b2 : b = a
    · subst b2; rw [upd_same, upd_same]
    · rw [upd_ne b2, upd_ne b2, upd_ne b1, upd_ne b1]
section
variable {K : PySem.W.Frag} {f g : Str} {H : Hp} {D : Ends} {a C : Addr} {y z : V} {N : List Str}
theorem init1_read {vs : List V} {Q : VK} {E : XK} (h : spInit K [f] vs H Q E) : ∃ a y, vs = [.ref a, y] ∧ ∀ σ : L2.St, σ[0]? = some (some (.ref a)) → σ[1]? = some (some y) → ∀ D : Ends, (∀ σ' H', Q .non H' → D.nx σ' H') → tOst K f (tVar 0) (tVar 1) D σ H := by
  obtain ⟨a, C, ws, rfl, hl, T, no, ha, q⟩ := h
  match ws, hl with
  | [y], _ =>
    exact ⟨a, y, rfl, fun σ e0 e1 D hD => ⟨y, e1, .ref a, e0, a, C, rfl, T, no f (by simp), .inl ⟨ha, fun dx hdx hne => hD _ _ (q dx hdx hne)⟩⟩⟩
theorem init2_read {vs : List V} {Q : VK} {E : XK} (h : spInit K [f, g] vs H Q E) : ∃ a y z, vs = [.ref a, y, z] ∧ ∀ σ : L2.St, σ[0]? = some (some (.ref a)) → σ[1]? = some (some y) → σ[2]? = some (some z) → ∀ D : Ends, (∀ σ' H', Q .non H' → D.nx σ' H') → tSeq (tOst K f (tVar 0) (tVar 1)) (tOst K g (tVar 0) (tVar 2)) D σ H := by
  obtain ⟨a, C, ws, rfl, hl, T, no, ha, q⟩ := h
  match ws, hl with
  | [y, z], _ =>
    refine ⟨a, y, z, rfl, fun σ e0 e1 e2 D hD => ⟨y, e1, .ref a, e0, a, C, rfl, T, no f (by simp), .inl ⟨ha, fun dx hdx hne => ?_⟩⟩⟩
    refine ⟨z, e2, .ref a, e0, a, C, rfl, T, no g (by simp), .inr ⟨dx, [(f, y)], upd_same, by rw [upd_ne hne, upd_same], by show 1 ≤ 900; decide, hD _ _ ?_⟩⟩
    rw [two_eq hne]
    exact q dx hdx hne
end
theorem passes0 {X : Cx} {P : Program} {w : World} : Passes (L2.CX P w) X (fun _ _ _ => False) := fun pins σ H s e s' I ⟨a, B, H', cls, d, h1, h2, h3, h4, h5, h6, h7, f⟩ => f.elim
def knB (K : PySem.W.Frag) (known : List Str) : Bool := known.all fun x => known.all fun c => decide (PySem.W.exmOne K (.ref (He.ga K x)) (.ref (He.ga K c)) = some (decide (x = c)))
theorem knB_ok {K : PySem.W.Frag} {known : List Str} (h : knB K known = true) : KnX K known := by
  unfold knB at h
  simp only [List.all_eq_true, decide_eq_true_eq] at h
  exact h
end VL


set_option maxRecDepth 100000
set_option maxHeartbeats 4000000
namespace LW
open PySem PySem.Spec PyProof.Rows L2 VL
/-! ### the text by places -/
def top (i : Nat) : Stmt := PySem.Challenge.pw_stepsound_k04_whole_steps.main.body.getD i (.Pass ⟨0, 0, 0, 0⟩)
abbrev s_is_whole : Stmt := top 6
abbrev s_cd_is_move : Stmt := top 7
abbrev s_cd_row_fault : Stmt := top 8
abbrev s_coder_fault : Stmt := top 9
abbrev s_need_coder : Stmt := top 10
abbrev s_is_state : Stmt := top 11
abbrev s_need_state : Stmt := top 12
abbrev s_need_place : Stmt := top 13
abbrev s_is_code : Stmt := top 14
abbrev s_need_code : Stmt := top 15
abbrev s_divided : Stmt := top 16
abbrev s_moved_by : Stmt := top 17
abbrev s_change_of : Stmt := top 18
abbrev s_next_state : Stmt := top 19
abbrev s_led_to : Stmt := top 20
abbrev s__law_begun : Stmt := top 22
abbrev s__law_next : Stmt := top 23
abbrev s__law_parted : Stmt := top 24
abbrev s__law_limited : Stmt := top 25
abbrev s__law_led : Stmt := top 26
abbrev s__law_wide : Stmt := top 27
abbrev s__law_refused : Stmt := top 28
abbrev s__law_wrong_right : Stmt := top 29
abbrev s_law : Stmt := top 30
def clsAt (s : Stmt) (j : Nat) : Stmt := match s with
  | .ClassDef _ _ _ body _ _ _ _ _ _ _ => body.getD j (.Pass ⟨0, 0, 0, 0⟩)
  | _ => .Pass ⟨0, 0, 0, 0⟩
abbrev i_OutOfPlace : Stmt := clsAt (top 2) 0
theorem sci_OutOfPlace : FnScope ["self", "text"] ["self", "text"] (defScope i_OutOfPlace) := ⟨rfl, rfl, rfl, by decide +kernel, rfl, by decide +kernel, by decide +kernel⟩
abbrev kn : List Str := ["OutOfPlace"]
abbrev nm_is_whole : List Str := ["value", "least", "most"]
theorem sc_is_whole : FnScope nm_is_whole ["value", "least", "most"] (defScope s_is_whole) := ⟨rfl, rfl, rfl, by decide +kernel, rfl, by decide +kernel, by decide +kernel⟩
abbrev nm_cd_is_move : List Str := ["move"]
theorem sc_cd_is_move : FnScope nm_cd_is_move ["move"] (defScope s_cd_is_move) := ⟨rfl, rfl, rfl, by decide +kernel, rfl, by decide +kernel, by decide +kernel⟩
abbrev nm_cd_row_fault : List Str := ["part", "row", "least", "most", "number", "thing"]
theorem sc_cd_row_fault : FnScope nm_cd_row_fault ["part", "row", "least", "most"] (defScope s_cd_row_fault) := ⟨rfl, rfl, rfl, by decide +kernel, rfl, by decide +kernel, by decide +kernel⟩
abbrev nm_coder_fault : List Str := ["thing", "low", "high", "steps", "moves", "fade", "fault"]
theorem sc_coder_fault : FnScope nm_coder_fault ["thing"] (defScope s_coder_fault) := ⟨rfl, rfl, rfl, by decide +kernel, rfl, by decide +kernel, by decide +kernel⟩
abbrev nm_need_coder : List Str := ["thing", "fault"]
theorem sc_need_coder : FnScope nm_need_coder ["thing"] (defScope s_need_coder) := ⟨rfl, rfl, rfl, by decide +kernel, rfl, by decide +kernel, by decide +kernel⟩
abbrev nm_is_state : List Str := ["coder", "thing"]
theorem sc_is_state : FnScope nm_is_state ["coder", "thing"] (defScope s_is_state) := ⟨rfl, rfl, rfl, by decide +kernel, rfl, by decide +kernel, by decide +kernel⟩
abbrev nm_need_state : List Str := ["coder", "thing"]
theorem sc_need_state : FnScope nm_need_state ["coder", "thing"] (defScope s_need_state) := ⟨rfl, rfl, rfl, by decide +kernel, rfl, by decide +kernel, by decide +kernel⟩
abbrev nm_need_place : List Str := ["coder", "thing"]
theorem sc_need_place : FnScope nm_need_place ["coder", "thing"] (defScope s_need_place) := ⟨rfl, rfl, rfl, by decide +kernel, rfl, by decide +kernel, by decide +kernel⟩
abbrev nm_is_code : List Str := ["coder", "thing"]
theorem sc_is_code : FnScope nm_is_code ["coder", "thing"] (defScope s_is_code) := ⟨rfl, rfl, rfl, by decide +kernel, rfl, by decide +kernel, by decide +kernel⟩
abbrev nm_need_code : List Str := ["coder", "thing"]
theorem sc_need_code : FnScope nm_need_code ["coder", "thing"] (defScope s_need_code) := ⟨rfl, rfl, rfl, by decide +kernel, rfl, by decide +kernel, by decide +kernel⟩
abbrev nm_divided : List Str := ["number", "by"]
theorem sc_divided : FnScope nm_divided ["number", "by"] (defScope s_divided) := ⟨rfl, rfl, rfl, by decide +kernel, rfl, by decide +kernel, by decide +kernel⟩
abbrev nm_moved_by : List Str := ["coder", "code", "place"]
theorem sc_moved_by : FnScope nm_moved_by ["coder", "code", "place"] (defScope s_moved_by) := ⟨rfl, rfl, rfl, by decide +kernel, rfl, by decide +kernel, by decide +kernel⟩
abbrev nm_change_of : List Str := ["coder", "code", "place"]
theorem sc_change_of : FnScope nm_change_of ["coder", "code", "place"] (defScope s_change_of) := ⟨rfl, rfl, rfl, by decide +kernel, rfl, by decide +kernel, by decide +kernel⟩
abbrev nm_next_state : List Str := ["coder", "state", "code", "low", "high", "steps", "moves", "fade", "level", "place", "faded", "further"]
theorem sc_next_state : FnScope nm_next_state ["coder", "state", "code"] (defScope s_next_state) := ⟨rfl, rfl, rfl, by decide +kernel, rfl, by decide +kernel, by decide +kernel⟩
abbrev nm_led_to : List Str := ["coder", "state", "code"]
theorem sc_led_to : FnScope nm_led_to ["coder", "state", "code"] (defScope s_led_to) := ⟨rfl, rfl, rfl, by decide +kernel, rfl, by decide +kernel, by decide +kernel⟩
abbrev nm__law_begun : List Str := ["script", "cell"]
theorem sc__law_begun : FnScope nm__law_begun ["script"] (defScope s__law_begun) := ⟨rfl, rfl, rfl, by decide +kernel, rfl, by decide +kernel, by decide +kernel⟩
abbrev nm__law_next : List Str := ["m", "many", "rest", "k", "cell", "mixed"]
theorem sc__law_next : FnScope nm__law_next ["m", "many"] (defScope s__law_next) := ⟨rfl, rfl, rfl, by decide +kernel, rfl, by decide +kernel, by decide +kernel⟩
abbrev nm__law_parted : List Str := ["number", "by"]
theorem sc__law_parted : FnScope nm__law_parted ["number", "by"] (defScope s__law_parted) := ⟨rfl, rfl, rfl, by decide +kernel, rfl, by decide +kernel, by decide +kernel⟩
abbrev nm__law_limited : List Str := ["number", "least", "most"]
theorem sc__law_limited : FnScope nm__law_limited ["number", "least", "most"] (defScope s__law_limited) := ⟨rfl, rfl, rfl, by decide +kernel, rfl, by decide +kernel, by decide +kernel⟩
abbrev nm__law_led : List Str := ["coder", "here", "code", "share", "turn", "level"]
theorem sc__law_led : FnScope nm__law_led ["coder", "here", "code"] (defScope s__law_led) := ⟨rfl, rfl, rfl, by decide +kernel, rfl, by decide +kernel, by decide +kernel⟩
abbrev nm__law_wide : List Str := ["m", "low", "high", "steps", "k", "moves", "fade"]
theorem sc__law_wide : FnScope nm__law_wide ["m"] (defScope s__law_wide) := ⟨rfl, rfl, rfl, by decide +kernel, rfl, by decide +kernel, by decide +kernel⟩
abbrev nm__law_refused : List Str := ["way", "coder", "x", "y", "found"]
theorem sc__law_refused : FnScope nm__law_refused ["way", "coder", "x", "y"] (defScope s__law_refused) := ⟨rfl, rfl, rfl, by decide +kernel, rfl, by decide +kernel, by decide +kernel⟩
abbrev nm__law_wrong_right : List Str := ["coder", "here", "some", "thing"]
theorem sc__law_wrong_right : FnScope nm__law_wrong_right ["coder", "here"] (defScope s__law_wrong_right) := ⟨rfl, rfl, rfl, by decide +kernel, rfl, by decide +kernel, by decide +kernel⟩
abbrev nm_law : List Str := ["script", "m", "turn", "coder", "level", "here", "code", "move", "due"]
theorem sc_law : FnScope nm_law ["script"] (defScope s_law) := ⟨rfl, rfl, rfl, by decide +kernel, rfl, by decide +kernel, by decide +kernel⟩
abbrev kw_ (x : Str) (K : PySem.W.Frag) : List (Str × V) := [("state", .ref (kwAt (x, none) "state" K))]
/-! ### what the top has left -/
structure Tx (K : PySem.W.Frag) (mg : Str → Option Value) : Prop where
  d_is_whole : ∃ fd, FunD K "is_whole" "is_whole" (defArgs s_is_whole) (defBody s_is_whole) (defScope s_is_whole) [] [] (He.ga K "is_whole") fd
  g_is_whole : mg "is_whole" = some (.ref (He.ga K "is_whole"))
  d_cd_is_move : ∃ fd, FunD K "cd_is_move" "cd_is_move" (defArgs s_cd_is_move) (defBody s_cd_is_move) (defScope s_cd_is_move) [] [] (He.ga K "cd_is_move") fd
  g_cd_is_move : mg "cd_is_move" = some (.ref (He.ga K "cd_is_move"))
  d_cd_row_fault : ∃ fd, FunD K "cd_row_fault" "cd_row_fault" (defArgs s_cd_row_fault) (defBody s_cd_row_fault) (defScope s_cd_row_fault) [] [] (He.ga K "cd_row_fault") fd
  g_cd_row_fault : mg "cd_row_fault" = some (.ref (He.ga K "cd_row_fault"))
  d_coder_fault : ∃ fd, FunD K "coder_fault" "coder_fault" (defArgs s_coder_fault) (defBody s_coder_fault) (defScope s_coder_fault) [] [] (He.ga K "coder_fault") fd
  g_coder_fault : mg "coder_fault" = some (.ref (He.ga K "coder_fault"))
  d_need_coder : ∃ fd, FunD K "need_coder" "need_coder" (defArgs s_need_coder) (defBody s_need_coder) (defScope s_need_coder) [] [] (He.ga K "need_coder") fd
  g_need_coder : mg "need_coder" = some (.ref (He.ga K "need_coder"))
  d_is_state : ∃ fd, FunD K "is_state" "is_state" (defArgs s_is_state) (defBody s_is_state) (defScope s_is_state) [] [] (He.ga K "is_state") fd
  g_is_state : mg "is_state" = some (.ref (He.ga K "is_state"))
  d_need_state : ∃ fd, FunD K "need_state" "need_state" (defArgs s_need_state) (defBody s_need_state) (defScope s_need_state) [] [] (He.ga K "need_state") fd
  g_need_state : mg "need_state" = some (.ref (He.ga K "need_state"))
  d_need_place : ∃ fd, FunD K "need_place" "need_place" (defArgs s_need_place) (defBody s_need_place) (defScope s_need_place) [] [] (He.ga K "need_place") fd
  g_need_place : mg "need_place" = some (.ref (He.ga K "need_place"))
  d_is_code : ∃ fd, FunD K "is_code" "is_code" (defArgs s_is_code) (defBody s_is_code) (defScope s_is_code) [] [] (He.ga K "is_code") fd
  g_is_code : mg "is_code" = some (.ref (He.ga K "is_code"))
  d_need_code : ∃ fd, FunD K "need_code" "need_code" (defArgs s_need_code) (defBody s_need_code) (defScope s_need_code) [] [] (He.ga K "need_code") fd
  g_need_code : mg "need_code" = some (.ref (He.ga K "need_code"))
  d_divided : ∃ fd, FunD K "divided" "divided" (defArgs s_divided) (defBody s_divided) (defScope s_divided) [] [] (He.ga K "divided") fd
  g_divided : mg "divided" = some (.ref (He.ga K "divided"))
  d_moved_by : ∃ fd, FunD K "moved_by" "moved_by" (defArgs s_moved_by) (defBody s_moved_by) (defScope s_moved_by) [] [] (He.ga K "moved_by") fd
  g_moved_by : mg "moved_by" = some (.ref (He.ga K "moved_by"))
  d_change_of : ∃ fd, FunD K "change_of" "change_of" (defArgs s_change_of) (defBody s_change_of) (defScope s_change_of) [] [] (He.ga K "change_of") fd
  g_change_of : mg "change_of" = some (.ref (He.ga K "change_of"))
  d_next_state : ∃ fd, FunD K "next_state" "next_state" (defArgs s_next_state) (defBody s_next_state) (defScope s_next_state) [] [] (He.ga K "next_state") fd
  g_next_state : mg "next_state" = some (.ref (He.ga K "next_state"))
  d_led_to : ∃ fd, FunD K "led_to" "led_to" (defArgs s_led_to) (defBody s_led_to) (defScope s_led_to) [] [] (He.ga K "led_to") fd
  g_led_to : mg "led_to" = some (.ref (He.ga K "led_to"))
  d__law_begun : ∃ fd, FunD K "_law_begun" "_law_begun" (defArgs s__law_begun) (defBody s__law_begun) (defScope s__law_begun) [] [] (He.ga K "_law_begun") fd
  g__law_begun : mg "_law_begun" = some (.ref (He.ga K "_law_begun"))
  d__law_next : ∃ fd, FunD K "_law_next" "_law_next" (defArgs s__law_next) (defBody s__law_next) (defScope s__law_next) [] [] (He.ga K "_law_next") fd
  g__law_next : mg "_law_next" = some (.ref (He.ga K "_law_next"))
  d__law_parted : ∃ fd, FunD K "_law_parted" "_law_parted" (defArgs s__law_parted) (defBody s__law_parted) (defScope s__law_parted) [] [] (He.ga K "_law_parted") fd
  g__law_parted : mg "_law_parted" = some (.ref (He.ga K "_law_parted"))
  d__law_limited : ∃ fd, FunD K "_law_limited" "_law_limited" (defArgs s__law_limited) (defBody s__law_limited) (defScope s__law_limited) [] [] (He.ga K "_law_limited") fd
  g__law_limited : mg "_law_limited" = some (.ref (He.ga K "_law_limited"))
  d__law_led : ∃ fd, FunD K "_law_led" "_law_led" (defArgs s__law_led) (defBody s__law_led) (defScope s__law_led) [] [] (He.ga K "_law_led") fd
  g__law_led : mg "_law_led" = some (.ref (He.ga K "_law_led"))
  d__law_wide : ∃ fd, FunD K "_law_wide" "_law_wide" (defArgs s__law_wide) (defBody s__law_wide) (defScope s__law_wide) [] [] (He.ga K "_law_wide") fd
  g__law_wide : mg "_law_wide" = some (.ref (He.ga K "_law_wide"))
  d__law_refused : ∃ fd, FunD K "_law_refused" "_law_refused" (defArgs s__law_refused) (defBody s__law_refused) (defScope s__law_refused) [] [] (He.ga K "_law_refused") fd
  g__law_refused : mg "_law_refused" = some (.ref (He.ga K "_law_refused"))
  d__law_wrong_right : ∃ fd, FunD K "_law_wrong_right" "_law_wrong_right" (defArgs s__law_wrong_right) (defBody s__law_wrong_right) (defScope s__law_wrong_right) [] [] (He.ga K "_law_wrong_right") fd
  g__law_wrong_right : mg "_law_wrong_right" = some (.ref (He.ga K "_law_wrong_right"))
  d_law : ∃ fd, FunD K "law" "law" (defArgs s_law) (defBody s_law) (defScope s_law) [] [] (He.ga K "law") fd
  g_law : mg "law" = some (.ref (He.ga K "law"))
  g_OutOfPlace : mg "OutOfPlace" = some (.ref (He.ga K "OutOfPlace"))
  z_OutOfPlace : rzB K "OutOfPlace" ["text"] = true
  d_OutOfPlace : ∃ fd, FunD K "__init__" "OutOfPlace.__init__" (defArgs i_OutOfPlace) (defBody i_OutOfPlace) (defScope i_OutOfPlace) [] [] (iA K "OutOfPlace") fd
  kx : KnX K kn
  b_bool : mg "bool" = none
  b_enumerate : mg "enumerate" = none
  b_int : mg "int" = none
  b_isinstance : mg "isinstance" = none
  b_len : mg "len" = none
  b_list : mg "list" = none
  b_max : mg "max" = none
  b_min : mg "min" = none
  b_range : mg "range" = none
  b_repr : mg "repr" = none
  b_tuple : mg "tuple" = none
  c_MOST_STEPS : ∃ t, mg "MOST_STEPS" = some (.int 16 t)
  c_MOST_MOVES : ∃ t, mg "MOST_MOVES" = some (.int 16 t)
  k_bool : KitOk K "bool"
  k_int : KitOk K "int"
  k_tuple : KitOk K "tuple"
/-! ### the mirrors -/
/-- a draw: any number below many; the counter goes on -/
def w__law_next : VFn := fun ws n Q _ => match ws with
  | [.tok, .dat (.int many)] => 0 < many ∧ many < 1073741824 ∧ n < 1000000000000 ∧ ∀ r, 0 ≤ r → r < many → Q (.dat (.int r)) (n + 1)
  | _ => False
noncomputable def t_is_whole : VST :=
  vRet (vAndV (vIsi "int" (vVar 0)) (vAndV (vNotV (vIsi "bool" (vVar 0))) (vChain dLe dLe (vVar 1) (vVar 0) (vVar 2))))
noncomputable def w_is_whole : VFn := sealed (bodyV 3 3 t_is_whole)
theorem wd_is_whole : w_is_whole = bodyV 3 3 t_is_whole := sealed_eq _
noncomputable def t_cd_is_move : VST :=
  vRet (vAndV (vIsi "tuple" (vVar 0)) (vAndV (vOp dEq (vCB bLen (vCons (vVar 0) (vNil))) (vC (.int 2))) (vAndV (vCall w_is_whole [] (wDat (vOp dIx (vVar 0) (vC (.int 0))) (wDat (vUn dNeg (vC (.int 32))) (wDat (vC (.int 32)) (wNil))))) (vCall w_is_whole [] (wDat (vOp dIx (vVar 0) (vC (.int 1))) (wDat (vUn dNeg (vC (.int 15))) (wDat (vC (.int 15)) (wNil))))))))
noncomputable def w_cd_is_move : VFn := sealed (bodyV 1 1 t_cd_is_move)
theorem wd_cd_is_move : w_cd_is_move = bodyV 1 1 t_cd_is_move := sealed_eq _
noncomputable def b_cd_row_fault_0 : VST :=
  vIfS (vNot (vIfT (vTest (vOp dEq (vVar 0) (vC (.str "steps")))) (vTest (vCall w_is_whole [] (wDat (vVar 5) (wDat (vC (.int 1)) (wDat (vC (.int 9999)) (wNil)))))) (vTest (vCall w_cd_is_move [] (wDat (vVar 5) (wNil)))))) (vRet (vTup (vCons (vVar 0) (vCons (vVar 4) (vNil))))) (vNext)
noncomputable def t_cd_row_fault : VST :=
  vSeq (vIfS (vOr (vNot (vTest (vIsi "tuple" (vVar 1)))) (vNot (vTest (vChain dLe dLe (vVar 2) (vCB bLen (vCons (vVar 1) (vNil))) (vVar 3))))) (vRet (vTup (vCons (vVar 0) (vCons (vC .none) (vNil))))) (vNext))
  (vSeq (vFor (iET (vCons (vVar 1) (vNil))) (gT 2 (gsC (gN 4) (gsC (gN 5) (gsN)))) b_cd_row_fault_0)
  (vRet (vC .none)))
noncomputable def w_cd_row_fault : VFn := sealed (bodyV 6 4 t_cd_row_fault)
theorem wd_cd_row_fault : w_cd_row_fault = bodyV 6 4 t_cd_row_fault := sealed_eq _
noncomputable def t_coder_fault : VST :=
  vSeq (vIfS (vOr (vNot (vTest (vIsi "tuple" (vVar 0)))) (vTest (vOp dNe (vCB bLen (vCons (vVar 0) (vNil))) (vC (.int 5))))) (vRet (vTup (vCons (vC (.str "form")) (vCons (vC .none) (vNil))))) (vNext))
  (vSeq (vAsg (vVar 0) (gT 5 (gsC (gN 1) (gsC (gN 2) (gsC (gN 3) (gsC (gN 4) (gsC (gN 5) (gsN))))))))
  (vSeq (vIfS (vNot (vTest (vCall w_is_whole [] (wDat (vVar 1) (wDat (vUn dNeg (vC (.int 32768))) (wDat (vC (.int 0)) (wNil))))))) (vRet (vTup (vCons (vC (.str "low")) (vCons (vC .none) (vNil))))) (vNext))
  (vSeq (vIfS (vNot (vTest (vCall w_is_whole [] (wDat (vVar 2) (wDat (vC (.int 0)) (wDat (vC (.int 32767)) (wNil))))))) (vRet (vTup (vCons (vC (.str "high")) (vCons (vC .none) (vNil))))) (vNext))
  (vSeq (vSet 6 (vCall w_cd_row_fault [] (wDat (vC (.str "steps")) (wDat (vVar 3) (wDat (vC (.int 1)) (wDat (vC (.int 16)) (wNil)))))))
  (vSeq (vIfS (vTest (vOp dIs (vVar 6) (vC .none))) (vSet 6 (vCall w_cd_row_fault [] (wDat (vC (.str "moves")) (wDat (vVar 4) (wDat (vC (.int 2)) (wDat (vC (.int 16)) (wNil))))))) (vNext))
  (vSeq (vIfS (vAnd (vTest (vOp dIs (vVar 6) (vC .none))) (vAnd (vNot (vTest (vCall w_is_whole [] (wDat (vVar 5) (wDat (vC (.int 2)) (wDat (vC (.int 99)) (wNil))))))) (vNot (vTest (vCall w_is_whole [] (wDat (vVar 5) (wDat (vC (.int 0)) (wDat (vC (.int 0)) (wNil))))))))) (vSet 6 (vTup (vCons (vC (.str "fade")) (vCons (vC .none) (vNil))))) (vNext))
  (vRet (vVar 6))))))))
noncomputable def w_coder_fault : VFn := sealed (bodyV 7 1 t_coder_fault)
theorem wd_coder_fault : w_coder_fault = bodyV 7 1 t_coder_fault := sealed_eq _
noncomputable def t_need_coder : VST :=
  vSeq (vSet 1 (vCall w_coder_fault [] (wDat (vVar 0) (wNil))))
  (vSeq (vIfS (vTest (vOp dIsNot (vVar 1) (vC .none))) (vNever) (vNext))
  (vRet (vVar 0)))
noncomputable def w_need_coder : VFn := sealed (bodyV 2 1 t_need_coder)
theorem wd_need_coder : w_need_coder = bodyV 2 1 t_need_coder := sealed_eq _
noncomputable def t_is_state : VST :=
  vSeq (vIfS (vOr (vNot (vTest (vIsi "tuple" (vVar 1)))) (vTest (vOp dNe (vCB bLen (vCons (vVar 1) (vNil))) (vC (.int 2))))) (vRet (vC (.bool false))) (vNext))
  (vRet (vAndV (vCall w_is_whole [] (wDat (vOp dIx (vVar 1) (vC (.int 0))) (wDat (vOp dIx (vVar 0) (vC (.int 0))) (wDat (vOp dIx (vVar 0) (vC (.int 1))) (wNil))))) (vCall w_is_whole [] (wDat (vOp dIx (vVar 1) (vC (.int 1))) (wDat (vC (.int 0)) (wDat (vOp dSub (vCB bLen (vCons (vOp dIx (vVar 0) (vC (.int 2))) (vNil))) (vC (.int 1))) (wNil)))))))
noncomputable def w_is_state : VFn := sealed (bodyV 2 2 t_is_state)
theorem wd_is_state : w_is_state = bodyV 2 2 t_is_state := sealed_eq _
noncomputable def t_need_state : VST :=
  vIfS (vNot (vTest (vCall w_is_state [] (wDat (vVar 0) (wDat (vVar 1) (wNil)))))) (vRaise "OutOfPlace" ["text"] (vCons (vC (.str "no state of the coder")) (vNil))) (vNext)
noncomputable def w_need_state : VFn := sealed (bodyV 2 2 t_need_state)
theorem wd_need_state : w_need_state = bodyV 2 2 t_need_state := sealed_eq _
noncomputable def t_need_place : VST :=
  vIfS (vNot (vTest (vCall w_is_whole [] (wDat (vVar 1) (wDat (vC (.int 0)) (wDat (vOp dSub (vCB bLen (vCons (vOp dIx (vVar 0) (vC (.int 2))) (vNil))) (vC (.int 1))) (wNil))))))) (vRaise "OutOfPlace" ["text"] (vCons (vC (.str "no place of the coder")) (vNil))) (vNext)
noncomputable def w_need_place : VFn := sealed (bodyV 2 2 t_need_place)
theorem wd_need_place : w_need_place = bodyV 2 2 t_need_place := sealed_eq _
noncomputable def t_is_code : VST :=
  vRet (vCall w_is_whole [] (wDat (vVar 1) (wDat (vC (.int 0)) (wDat (vOp dSub (vCB bLen (vCons (vOp dIx (vVar 0) (vC (.int 3))) (vNil))) (vC (.int 1))) (wNil)))))
noncomputable def w_is_code : VFn := sealed (bodyV 2 2 t_is_code)
theorem wd_is_code : w_is_code = bodyV 2 2 t_is_code := sealed_eq _
noncomputable def t_need_code : VST :=
  vIfS (vNot (vTest (vCall w_is_code [] (wDat (vVar 0) (wDat (vVar 1) (wNil)))))) (vRaise "OutOfPlace" ["text"] (vCons (vC (.str "no code of the coder")) (vNil))) (vNext)
noncomputable def w_need_code : VFn := sealed (bodyV 2 2 t_need_code)
theorem wd_need_code : w_need_code = bodyV 2 2 t_need_code := sealed_eq _
noncomputable def t_divided : VST :=
  vRet (vIf (vTest (vOp dGe (vVar 0) (vC (.int 0)))) (vOp dDiv (vVar 0) (vVar 1)) (vUn dNeg (vOp dDiv (vUn dNeg (vVar 0)) (vVar 1))))
noncomputable def w_divided : VFn := sealed (bodyV 2 2 t_divided)
theorem wd_divided : w_divided = bodyV 2 2 t_divided := sealed_eq _
noncomputable def t_moved_by : VST :=
  vRet (vCall w_divided [] (wDat (vOp dMul (vOp dIx (vOp dIx (vOp dIx (vVar 0) (vC (.int 3))) (vVar 1)) (vC (.int 0))) (vOp dIx (vOp dIx (vVar 0) (vC (.int 2))) (vVar 2))) (wDat (vC (.int 8)) (wNil))))
noncomputable def w_moved_by : VFn := sealed (bodyV 3 3 t_moved_by)
theorem wd_moved_by : w_moved_by = bodyV 3 3 t_moved_by := sealed_eq _
noncomputable def t_change_of : VST :=
  vSeq (vDrop (vCall w_need_coder [] (wDat (vVar 0) (wNil))))
  (vSeq (vDrop (vCall w_need_code [] (wDat (vVar 0) (wDat (vVar 1) (wNil)))))
  (vSeq (vDrop (vCall w_need_place [] (wDat (vVar 0) (wDat (vVar 2) (wNil)))))
  (vRet (vCall w_moved_by [] (wDat (vVar 0) (wDat (vVar 1) (wDat (vVar 2) (wNil))))))))
noncomputable def w_change_of : VFn := sealed (bodyV 3 3 t_change_of)
theorem wd_change_of : w_change_of = bodyV 3 3 t_change_of := sealed_eq _
noncomputable def t_next_state : VST :=
  vSeq (vAsg (vVar 0) (gT 5 (gsC (gN 3) (gsC (gN 4) (gsC (gN 5) (gsC (gN 6) (gsC (gN 7) (gsN))))))))
  (vSeq (vAsg (vVar 1) (gT 2 (gsC (gN 8) (gsC (gN 9) (gsN)))))
  (vSeq (vSet 10 (vIf (vTest (vOp dEq (vVar 7) (vC (.int 0)))) (vVar 8) (vOp dSub (vVar 8) (vCall w_divided [] (wDat (vVar 8) (wDat (vVar 7) (wNil)))))))
  (vSeq (vSet 11 (vOp dAdd (vVar 9) (vOp dIx (vOp dIx (vVar 6) (vVar 2)) (vC (.int 1)))))
  (vRet (vTup (vCons (vCB bMin2 (vCons (vVar 4) (vCons (vCB bMax2 (vCons (vVar 3) (vCons (vOp dAdd (vVar 10) (vCall w_moved_by [] (wDat (vVar 0) (wDat (vVar 2) (wDat (vVar 9) (wNil)))))) (vNil)))) (vNil)))) (vCons (vCB bMin2 (vCons (vOp dSub (vCB bLen (vCons (vVar 5) (vNil))) (vC (.int 1))) (vCons (vCB bMax2 (vCons (vC (.int 0)) (vCons (vVar 11) (vNil)))) (vNil)))) (vNil))))))))
noncomputable def w_next_state : VFn := sealed (bodyV 12 3 t_next_state)
theorem wd_next_state : w_next_state = bodyV 12 3 t_next_state := sealed_eq _
noncomputable def t_led_to : VST :=
  vSeq (vDrop (vCall w_need_coder [] (wDat (vVar 0) (wNil))))
  (vSeq (vDrop (vCall w_need_state [] (wDat (vVar 0) (wDat (vVar 1) (wNil)))))
  (vSeq (vDrop (vCall w_need_code [] (wDat (vVar 0) (wDat (vVar 2) (wNil)))))
  (vRet (vCall w_next_state [] (wDat (vVar 0) (wDat (vVar 1) (wDat (vVar 2) (wNil))))))))
noncomputable def w_led_to : VFn := sealed (bodyV 3 3 t_led_to)
theorem wd_led_to : w_led_to = bodyV 3 3 t_led_to := sealed_eq _
noncomputable def t__law_parted : VST :=
  vRet (vIf (vTest (vOp dGe (vVar 0) (vC (.int 0)))) (vOp dDiv (vVar 0) (vVar 1)) (vOp dSub (vC (.int 0)) (vOp dDiv (vOp dSub (vC (.int 0)) (vVar 0)) (vVar 1))))
noncomputable def w__law_parted : VFn := sealed (bodyV 2 2 t__law_parted)
theorem wd__law_parted : w__law_parted = bodyV 2 2 t__law_parted := sealed_eq _
noncomputable def t__law_limited : VST :=
  vRet (vIf (vTest (vOp dLt (vVar 0) (vVar 1))) (vVar 1) (vIf (vTest (vOp dGt (vVar 0) (vVar 2))) (vVar 2) (vVar 0)))
noncomputable def w__law_limited : VFn := sealed (bodyV 3 3 t__law_limited)
theorem wd__law_limited : w__law_limited = bodyV 3 3 t__law_limited := sealed_eq _
noncomputable def t__law_led : VST :=
  vSeq (vAsg (vOp dIx (vOp dIx (vVar 0) (vC (.int 3))) (vVar 2)) (gT 2 (gsC (gN 3) (gsC (gN 4) (gsN)))))
  (vSeq (vSet 5 (vOp dIx (vVar 1) (vC (.int 0))))
  (vSeq (vIfS (vTest (vOp dNe (vOp dIx (vVar 0) (vC (.int 4))) (vC (.int 0)))) (vSet 5 (vOp dSub (vVar 5) (vCall w__law_parted [] (wDat (vVar 5) (wDat (vOp dIx (vVar 0) (vC (.int 4))) (wNil)))))) (vNext))
  (vSeq (vSet 5 (vOp dAdd (vVar 5) (vCall w__law_parted [] (wDat (vOp dMul (vVar 3) (vOp dIx (vOp dIx (vVar 0) (vC (.int 2))) (vOp dIx (vVar 1) (vC (.int 1))))) (wDat (vC (.int 8)) (wNil))))))
  (vRet (vTup (vCons (vCall w__law_limited [] (wDat (vVar 5) (wDat (vOp dIx (vVar 0) (vC (.int 0))) (wDat (vOp dIx (vVar 0) (vC (.int 1))) (wNil))))) (vCons (vCall w__law_limited [] (wDat (vOp dAdd (vOp dIx (vVar 1) (vC (.int 1))) (vVar 4)) (wDat (vC (.int 0)) (wDat (vOp dSub (vCB bLen (vCons (vOp dIx (vVar 0) (vC (.int 2))) (vNil))) (vC (.int 1))) (wNil))))) (vNil))))))))
noncomputable def w__law_led : VFn := sealed (bodyV 6 3 t__law_led)
theorem wd__law_led : w__law_led = bodyV 6 3 t__law_led := sealed_eq _
noncomputable def e__law_wide_0 : VT :=
  vOp dIx (vFz (vLst (vCons (vC (.int 1)) (vCons (vC (.int 9999)) (vCons (vOp dAdd (vC (.int 1)) (vCall w__law_next [] (wVar 0 (wDat (vC (.int 20)) (wNil))))) (vNil)))))) (vCall w__law_next [] (wVar 0 (wDat (vC (.int 3)) (wNil))))
noncomputable def b__law_wide_1 : VST :=
  vAppend 5 (vTup (vCons (vOp dSub (vCall w__law_next [] (wVar 0 (wDat (vC (.int 65)) (wNil)))) (vC (.int 32))) (vCons (vOp dSub (vCall w__law_next [] (wVar 0 (wDat (vC (.int 31)) (wNil)))) (vC (.int 15))) (vNil))))
noncomputable def t__law_wide : VST :=
  vSeq (vPar 1 2 (vCons (vFz (vLst (vCons (vC (.int 0)) (vCons (vUn dNeg (vC (.int 1))) (vCons (vUn dNeg (vC (.int 32768))) (vCons (vOp dSub (vC (.int 0)) (vCall w__law_next [] (wVar 0 (wDat (vC (.int 99)) (wNil))))) (vNil))))))) (vCons (vFz (vLst (vCons (vC (.int 0)) (vCons (vC (.int 1)) (vCons (vC (.int 32767)) (vCons (vCall w__law_next [] (wVar 0 (wDat (vC (.int 99)) (wNil)))) (vNil))))))) (vNil))))
  (vSeq (vSet 3 (vFz (vLc (iR1 (vCons (vOp dAdd (vC (.int 1)) (vCall w__law_next [] (wVar 0 (wDat (vC (.int 16)) (wNil))))) (vNil))) (gN 4) vYes e__law_wide_0 [4])))
  (vSeq (vSetO 5 (vLst (vNil)))
  (vSeq (vFor (iR1 (vCons (vOp dAdd (vC (.int 2)) (vCall w__law_next [] (wVar 0 (wDat (vC (.int 5)) (wNil))))) (vNil))) (gN 4) b__law_wide_1)
  (vSeq (vSet 6 (vOp dIx (vFz (vLst (vCons (vC (.int 0)) (vCons (vC (.int 2)) (vCons (vC (.int 99)) (vCons (vOp dAdd (vC (.int 2)) (vCall w__law_next [] (wVar 0 (wDat (vC (.int 98)) (wNil))))) (vNil))))))) (vCall w__law_next [] (wVar 0 (wDat (vC (.int 4)) (wNil))))))
  (vFrz 5 (vRet (vTup (vCons (vOp dIx (vVar 1) (vCall w__law_next [] (wVar 0 (wDat (vC (.int 4)) (wNil))))) (vCons (vOp dIx (vVar 2) (vCall w__law_next [] (wVar 0 (wDat (vC (.int 4)) (wNil))))) (vCons (vCB bTuple (vCons (vVar 3) (vNil))) (vCons (vCB bTuple (vCons (vVar 5) (vNil))) (vCons (vVar 6) (vNil)))))))))))))
noncomputable def w__law_wide : VFn := sealed (bodyV 7 1 t__law_wide)
theorem wd__law_wide : w__law_wide = bodyV 7 1 t__law_wide := sealed_eq _
noncomputable def h__law_refused_0 : VST :=
  vSet 4 (vC (.bool true))
noncomputable def y__law_refused_1 : VST :=
  vIfS (vTest (vOp dEq (vVar 0) (vC (.int 0)))) (vDrop (vCall w_led_to [] (wDat (vVar 1) (wDat (vVar 2) (wDat (vVar 3) (wNil)))))) (vDrop (vCall w_change_of [] (wDat (vVar 1) (wDat (vVar 2) (wDat (vVar 3) (wNil))))))
noncomputable def t__law_refused : VST :=
  vSeq (vSet 4 (vC (.bool false)))
  (vSeq (vTry kn y__law_refused_1 [("OutOfPlace", h__law_refused_0)])
  (vRet (vVar 4)))
noncomputable def w__law_refused : VFn := sealed (bodyV 5 4 t__law_refused)
theorem wd__law_refused : w__law_refused = bodyV 5 4 t__law_refused := sealed_eq _
noncomputable def b__law_wrong_right_0 : VST :=
  vIfS (vNot (vTest (vCall w__law_refused [] (wDat (vC (.int 0)) (wDat (vVar 0) (wDat (vVar 3) (wDat (vC (.int 0)) (wNil)))))))) (vRet (vC (.bool false))) (vNext)
noncomputable def b__law_wrong_right_1 : VST :=
  vIfS (vOr (vNot (vTest (vCall w__law_refused [] (wDat (vC (.int 0)) (wDat (vVar 0) (wDat (vVar 1) (wDat (vVar 3) (wNil)))))))) (vNot (vTest (vCall w__law_refused [] (wDat (vC (.int 1)) (wDat (vVar 0) (wDat (vVar 3) (wDat (vC (.int 0)) (wNil))))))))) (vRet (vC (.bool false))) (vNext)
noncomputable def b__law_wrong_right_2 : VST :=
  vIfS (vNot (vTest (vCall w__law_refused [] (wDat (vC (.int 1)) (wDat (vVar 0) (wDat (vC (.int 0)) (wDat (vVar 3) (wNil)))))))) (vRet (vC (.bool false))) (vNext)
noncomputable def t__law_wrong_right : VST :=
  vSeq (vSet 2 (vFz (vLst (vCons (vC .none) (vCons (vC (.int 0)) (vCons (vC (.str "00")) (vCons (vTup (vNil)) (vCons (vSl (vVar 1) (pN) (pS (vC (.int 1)))) (vCons (vOp dAdd (vVar 1) (vTup (vCons (vC (.int 0)) (vNil)))) (vCons (vFz (vCO bList (vCons (vVar 1) (vNil)))) (vCons (vTup (vCons (vOp dSub (vOp dIx (vVar 0) (vC (.int 0))) (vC (.int 1))) (vCons (vC (.int 0)) (vNil)))) (vCons (vTup (vCons (vOp dAdd (vOp dIx (vVar 0) (vC (.int 1))) (vC (.int 1))) (vCons (vC (.int 0)) (vNil)))) (vCons (vTup (vCons (vC (.bool true)) (vCons (vC (.int 0)) (vNil)))) (vNil))))))))))))))
  (vSeq (vFor (iL (vOp dAdd (vVar 2) (vFz (vLst (vCons (vTup (vCons (vC (.int 0)) (vCons (vUn dNeg (vC (.int 1))) (vNil)))) (vCons (vTup (vCons (vC (.int 0)) (vCons (vCB bLen (vCons (vOp dIx (vVar 0) (vC (.int 2))) (vNil))) (vNil)))) (vCons (vTup (vCons (vC (.int 0)) (vCons (vC .none) (vNil)))) (vCons (vTup (vCons (vC (.str "0")) (vCons (vC (.int 0)) (vNil)))) (vCons (vTup (vCons (vFz (vLst (vCons (vC (.int 0)) (vNil)))) (vCons (vC (.int 0)) (vNil)))) (vNil)))))))))) (gN 3) b__law_wrong_right_0)
  (vSeq (vFor (iL (vFz (vLst (vCons (vUn dNeg (vC (.int 1))) (vCons (vCB bLen (vCons (vOp dIx (vVar 0) (vC (.int 3))) (vNil))) (vCons (vC .none) (vCons (vC (.bool true)) (vCons (vC (.str "0")) (vCons (vTup (vCons (vC (.int 0)) (vNil))) (vCons (vFz (vLst (vCons (vC (.int 0)) (vNil)))) (vNil))))))))))) (gN 3) b__law_wrong_right_1)
  (vSeq (vFor (iL (vFz (vLst (vCons (vUn dNeg (vC (.int 1))) (vCons (vCB bLen (vCons (vOp dIx (vVar 0) (vC (.int 2))) (vNil))) (vCons (vC .none) (vCons (vC (.bool true)) (vCons (vC (.str "0")) (vCons (vTup (vCons (vC (.int 0)) (vNil))) (vCons (vFz (vLst (vCons (vC (.int 0)) (vNil)))) (vNil))))))))))) (gN 3) b__law_wrong_right_2)
  (vRet (vC (.bool true))))))
noncomputable def w__law_wrong_right : VFn := sealed (bodyV 4 2 t__law_wrong_right)
theorem wd__law_wrong_right : w__law_wrong_right = bodyV 4 2 t__law_wrong_right := sealed_eq _
noncomputable def b_law_0 : VST :=
  vSeq (vIfS (vTest (vOp dNe (vCB bRepr (vCons (vCall w_led_to [] (wDat (vVar 3) (wDat (vVar 5) (wDat (vVar 6) (wNil))))) (vNil))) (vCB bRepr (vCons (vCall w__law_led [] (wDat (vVar 3) (wDat (vVar 5) (wDat (vVar 6) (wNil))))) (vNil))))) (vRet (vC (.bool false))) (vNext))
  (vSeq (vSet 8 (vCall w__law_parted [] (wDat (vOp dMul (vOp dIx (vVar 7) (vC (.int 0))) (vOp dIx (vOp dIx (vVar 3) (vC (.int 2))) (vOp dIx (vVar 5) (vC (.int 1))))) (wDat (vC (.int 8)) (wNil)))))
  (vIfS (vTest (vOp dNe (vCB bRepr (vCons (vCall w_change_of [] (wDat (vVar 3) (wDat (vVar 6) (wDat (vOp dIx (vVar 5) (vC (.int 1))) (wNil))))) (vNil))) (vCB bRepr (vCons (vVar 8) (vNil))))) (vRet (vC (.bool false))) (vNext)))
noncomputable def b_law_1 : VST :=
  vSeq (vSet 3 (vCall w__law_wide [] (wVar 1 (wNil))))
  (vSeq (vSet 4 (vOp dIx (vFz (vLst (vCons (vOp dIx (vVar 3) (vC (.int 0))) (vCons (vOp dIx (vVar 3) (vC (.int 1))) (vCons (vOp dAdd (vOp dIx (vVar 3) (vC (.int 0))) (vCall w__law_next [] (wVar 1 (wDat (vOp dAdd (vOp dSub (vOp dIx (vVar 3) (vC (.int 1))) (vOp dIx (vVar 3) (vC (.int 0)))) (vC (.int 1))) (wNil))))) (vNil)))))) (vCall w__law_next [] (wVar 1 (wDat (vC (.int 3)) (wNil))))))
  (vSeq (vSet 5 (vTup (vCons (vVar 4) (vCons (vCall w__law_next [] (wVar 1 (wDat (vCB bLen (vCons (vOp dIx (vVar 3) (vC (.int 2))) (vNil))) (wNil)))) (vNil)))))
  (vSeq (vFor (iET (vCons (vOp dIx (vVar 3) (vC (.int 3))) (vNil))) (gT 2 (gsC (gN 6) (gsC (gN 7) (gsN)))) b_law_0)
  (vIfS (vNot (vTest (vCall w__law_wrong_right [] (wDat (vVar 3) (wDat (vVar 5) (wNil)))))) (vRet (vC (.bool false))) (vNext)))))
noncomputable def t_law : VST :=
  vSeq (vFor (iR1 (vCons (vOp dAdd (vC (.int 2)) (vCB bMin2 (vCons (vLenS 0) (vCons (vC (.int 4)) (vNil))))) (vNil))) (gN 2) b_law_1)
  (vRet (vC (.bool true)))
section
variable {P : Program} {w : World} {K : PySem.W.Frag} {mg : Str → Option Value} {base : Heap}
theorem okBegun (T : Tx K mg) : ∃ fd, FnG P w K mg base 1 (He.ga K "_law_begun") fd ["script"] (spBegun K) ∧ Binds K fd ["script"] [] ∧ PySem.W.keepIn K (.ref (He.ga K "_law_begun")) = true ∧ mg "_law_begun" = some (.ref (He.ga K "_law_begun")) := by
  obtain ⟨fd, F⟩ := T.d__law_begun
  have S := sc__law_begun
  refine ⟨fd, fnG_of (k := 0) F S (fun vs H Q E h => ?_) (fun cdv A outer s H vs Q E hg hr h => ?_), F.bindsN fun _ _ _ _ _ _ us hl => match us, hl with | [_], _ => rfl, F.kp, T.g__law_begun⟩
  · obtain ⟨a, ns, rfl, _⟩ := h
    rfl
  · obtain ⟨a, ns, rfl, hs, hl, k⟩ := h
    refine ⟨_, pss_one (ps_ret (pe_disp (pps_cons pe_str (pe_callTy call_list_of rfl T.b_list (by decide +kernel) (pa_cons (pv 0) pa_nil)) (pps_cons pe_str (pe_lc (own := [("cell", 1)]) rfl S.nd (pi_list (pv 0))
      (blkOk_by (own := [("cell", 1)]) (N := nm__law_begun) (sc := defScope s__law_begun) (by decide +kernel)) (fun _ _ _ _ _ => pg_name (i := 1) S.nd rfl (Or.inl rfl)) (fun _ _ _ _ _ => pts_one (pt_cmpR op_ge (pv 1) (pe_op op_pow pe_int pe_int) (nomark _))) (fun _ _ _ _ _ => pv 1))
      (pps_cons pe_str pe_int pps_nil))) (by rfl) (by rfl) (fun z => by cases z) (by decide))), ?_⟩
    intro p hp
    have s1 : Same H (L2.upd H p (.dK [])) := same_upd hp
    refine ⟨_, rfl, a, _, rfl, .inl (s1.seq hs), fun lc hlc => ?_⟩
    have s2 := same_upd (o := .lst (ns.map V.int)) hlc
    refine ⟨_, rfl, a, rfl, ⟨_, (s1.trans s2).seq hs⟩, fun ll hll => ?_⟩
    have s3 : ∀ xs : List V, Same (L2.upd (L2.upd H p (.dK [])) lc (.lst (ns.map V.int))) (L2.upd (L2.upd (L2.upd H p (.dK [])) lc (.lst (ns.map V.int))) ll (.lst xs)) := fun xs => same_upd hll
    refine lc_list (K := K) (a := a) (xs := ns.map V.int) (fun i H' => ∃ ms : List Int, ms.length ≤ i ∧ H' = L2.upd (L2.upd (L2.upd H p (.dK [])) lc (.lst (ns.map V.int))) ll (.lst (ms.map V.int))) ⟨[], Nat.le_refl _, rfl⟩ ?_ ?_ ?_
    · rintro i H' _ ⟨ms, _, rfl⟩
      exact ((s1.trans s2).trans (s3 _)).seq hs
    · rintro i x H' hi ⟨ms, hm, rfl⟩
      obtain ⟨u, rfl⟩ : ∃ u, x = V.int u := by
        rw [List.getElem?_map] at hi
        cases e : ns[i]? with
        | none => rw [e] at hi; cases hi
        | some u => rw [e] at hi; exact ⟨u, (Option.some.inj hi).symm⟩
      have hi63 : i < 63 := by
        have q := (List.getElem?_eq_some_iff.mp hi).1
        rw [List.length_map] at q
        omega
      refine ⟨rfl, _, rfl, _, _, rfl, rfl, ⟨by decide, by decide, by decide⟩, _, _, rfl, rfl, _, rfl, ?_⟩
      refine ite2 (fun _ => ?_) (fun _ => ⟨ms, by omega, rfl⟩)
      refine ⟨_, rfl, _, upd_same, ?_, ms ++ [u], by simp; omega, by rw [upd_upd, List.map_append]; rfl⟩
      rw [List.length_map]
      exact Nat.lt_of_le_of_lt hm (Nat.lt_of_lt_of_le hi63 (by decide))
    · rintro H' ⟨ms, hm, rfl⟩
      rw [List.length_map] at hm
      have e1 : lc ≠ p := fun z => by subst z; rw [upd_same] at hlc; cases hlc
      have e2 : ll ≠ p := fun z => by subst z; rw [upd_ne e1.symm, upd_same] at hll; cases hll
      have e3 : ll ≠ lc := fun z => by subst z; rw [upd_same] at hll; cases hll
      have hlc0 : H lc = none := by rw [upd_ne e1] at hlc; exact hlc
      have hll0 : H ll = none := by rw [upd_ne e3, upd_ne e2] at hll; exact hll
      refine ⟨by rw [upd_ne e2.symm, upd_ne e1.symm, upd_same], mKvs lc ll 0, rfl, (by show 3 ≤ 15; decide), ?_⟩
      rw [m_merge]
      have sf : Same H (L2.upd (L2.upd (L2.upd (L2.upd H p (.dK [])) lc (.lst (ns.map V.int))) ll (.lst (ms.map V.int))) p (.dK (mKvs lc ll 0))) := fun b o e => by
        rw [upd_ne (ne_of_none e hp)]
        exact ((s1.trans s2).trans (s3 _)) _ _ e
      refine k p _ sf ⟨sf, hp, lc, ll, ns, ms, 0, hlc0, hll0, e3.symm, upd_same, ?_, ?_, Int.le_refl _, Int.le_refl _, hl, by omega⟩ hp
      · rw [upd_ne e1, upd_ne e3.symm, upd_same]
      · rw [upd_ne e2, upd_same]
theorem okNext (T : Tx K mg) : Ok P w K mg base 1 "_law_next" ["m", "many"] w__law_next := by
  obtain ⟨fd, F⟩ := T.d__law_next
  have S := sc__law_next
  refine ⟨fd, fnG_of (k := 0) F S (fun vs H Q E h => ?_) (fun cdv A outer s H vs Q E hg hr h => ?_), F.bindsN fun _ _ _ _ _ _ us hl => match us, hl with | [_, _], _ => rfl, F.kp, T.g__law_next⟩
  · obtain ⟨C, n, ws, Q0, E0, e0, io, r, h, _⟩ := h
    match ws, r, h with
    | [.tok, .dat (.int many)], r, _ => rw [r.length]; rfl
  · obtain ⟨C, n, ws, Q0, E0, e0, io, r, h, hq, he⟩ := h
    match ws, vs, r, h with
    | [.tok, .dat (.int many)], [v1, v2], ⟨⟨m, em, e1⟩, r2, _⟩, ⟨h1, h2, h3, h4⟩ =>
      subst e1
      cases r2
      subst e0
      have hu1 := hu_of hr
      have hu := hr.units
      have M0 : Mach m n C.O0 C.H0 := by
        have := io.good
        rw [em] at this
        exact this
      -- what is handed back
      have fin : ∀ (H' : Hp) (x : Int), Mach m (n + 1) C.O0 H' → (∀ a, H' a = none → C.H0 a = none) → 0 ≤ x → x < many → Q (.int x) H' := fun H' x M d x0 x1 =>
        hq (.dat (.int x)) (n + 1) (h4 x x0 x1) (.int x) C.G0 C.O0 H' ⟨by rw [em]; exact M, io.go, io.g0, io.o0, io.oh, io.nO, io.nG, d⟩ (.int x)
      have up1 : ∀ {H' : Hp}, Mach m n C.O0 H' → Mach m (n + 1) C.O0 H' := fun M => by
        obtain ⟨q1, q2, lc, ll, cs, ls, z, a1, a2, a3, a4, a5, a6, a7, a8, a9⟩ := M
        exact ⟨q1, q2, lc, ll, cs, ls, z, a1, a2, a3, a4, a5, a6, a7, by omega, a9⟩
      have left := fun (X : Cx) => @pe_dget X
      refine ⟨_, pss_cons (ps_while (passes_of (K := fun e s2 => L2.CX P w outer C.H0 s E e s2) rfl)
          (PW.pt (pw_and (pt_cmpR (op_neD hu) (pe_dget hu1 (pv 0) pe_str (fun _ _ => rfl)) (pe_lst pa_nil) (nomark _))
            (pw_and1 (pt_cmpR op_eq (pe_ix ix_list (pe_dget hu1 (pv 0) pe_str (fun _ _ => rfl)) pe_int (fun _ _ => rfl)) pe_int (nomark _)))))
          (pss_one (ps_dput hu1 (pv 0) pe_str (pe_slice sl_list (pe_dget hu1 (pv 0) pe_str (fun _ _ => rfl)) (po_some pe_int) po_none) rfl)))
        (pss_cons (ps_if (pt_cmpR (op_neD hu) (pe_dget hu1 (pv 0) pe_str (fun _ _ => rfl)) (pe_lst pa_nil) (nomark _))
          (pss_cons (ps_set (i := 2) S.nd rfl (Or.inl rfl) (pe_callTy call_int1 rfl T.b_int (by decide +kernel) (pa_cons (pe_ix ix_list (pe_dget hu1 (pv 0) pe_str (fun _ _ => rfl)) pe_int (fun _ _ => rfl)) pa_nil)))
            (pss_cons (ps_asg (pe_op op_fdiv (pv 2) (pv 1)) (pg_sub (pe_dget hu1 (pv 0) pe_str (fun _ _ => rfl)) pe_int set_list))
              (pss_one (ps_ret (pe_op op_mod (pv 2) (pv 1)))))) pss_nil)
        (pss_cons (ps_set (i := 3) S.nd rfl (Or.inl rfl) (pe_op op_add (pe_dget hu1 (pv 0) pe_str (fun _ _ => rfl)) pe_int))
        (pss_cons (ps_dput hu1 (pv 0) pe_str (pv 3) rfl)
        (pss_cons (ps_set (i := 4) S.nd rfl (Or.inl rfl) (pe_ifExp (pt_cmpR (op_neD hu) (pe_dget hu1 (pv 0) pe_str (fun _ _ => rfl)) (pe_lst pa_nil) (nomark _))
            (pe_ix ix_list (pe_dget hu1 (pv 0) pe_str (fun _ _ => rfl)) (pe_op op_mod (pe_callTy call_int1 rfl T.b_int (by decide +kernel) (pa_cons (pv 3) pa_nil)) (pe_callB call_len_seq rfl T.b_len (by decide +kernel) (pa_cons (pe_dget hu1 (pv 0) pe_str (fun _ _ => rfl)) pa_nil))) (fun _ _ => rfl)) pe_int))
        (pss_cons (ps_set (i := 5) S.nd rfl (Or.inl rfl) (pe_op op_mul (pe_callTy call_int1 rfl T.b_int (by decide +kernel) (pa_cons (pe_op op_add (pe_op op_add (pe_op op_mod (pe_callTy call_int1 rfl T.b_int (by decide +kernel) (pa_cons (pv 4) pa_nil)) pe_int) (pe_op op_mul pe_int (pv 3))) (pe_op op_mul (pe_op op_mul pe_int (pv 3)) (pv 3))) pa_nil)) pe_int))
        (pss_cons (ps_set (i := 5) S.nd rfl (Or.inl rfl) (pe_op op_mul (pe_callTy call_int1 rfl T.b_int (by decide +kernel) (pa_cons (pe_op op_add (pe_op op_mod (pe_callTy call_int1 rfl T.b_int (by decide +kernel) (pa_cons (pv 5) pa_nil)) pe_int) (pe_op op_mul pe_int (pv 3))) pa_nil)) pe_int))
        (pss_one (ps_ret (pe_op op_mod (pe_callTy call_int1 rfl T.b_int (by decide +kernel) (pa_cons (pe_op op_fdiv (pe_op op_mod (pe_callTy call_int1 rfl T.b_int (by decide +kernel) (pa_cons (pv 5) pa_nil)) pe_int) pe_int) pa_nil)) (pv 1)))))))))), ?_⟩
      obtain ⟨lc, ll0, cs, ls0, z, M1⟩ := M0.mk'
      refine seq_by (fun σ' H' => σ' = L2.start nm__law_next [V.ref m, V.int many] ∧ ∃ ll ls, MK m n C.O0 H' lc ll cs ls z ∧ ∀ a, H' a = none → C.H0 a = none) ?_ (fun N hN => ?_)
      rotate_left
      · refine ⟨fun k σ' H' => σ' = _ ∧ ∃ ll ls, MK m n C.O0 H' lc ll cs ls z ∧ ls.length = k ∧ ∀ a, H' a = none → C.H0 a = none, ⟨ls0.length, rfl, ll0, ls0, M1, rfl, fun _ h => h⟩, ?_⟩
        rintro k σ' H' ⟨rfl, ll, ls, M, rfl, dm⟩
        refine ⟨_, rfl, _, _, rfl, M.gl, by decide, fun p hp => ?_⟩
        have Mp := M.garb (o := .lst []) hp
        have dp := dom_upd (p := p) (o := .lst []) dm
        refine ne_nil Mp.hl upd_same (fun hne => ⟨_, rfl, ?_⟩) (fun he => ⟨_, rfl, ?_⟩)
        · obtain ⟨x, xs, rfl⟩ : ∃ x xs, ls = x :: xs := by
            cases ls with
            | nil => exact absurd rfl hne
            | cons x xs => exact ⟨x, xs, rfl⟩
          refine ⟨_, rfl, _, _, rfl, Mp.gl, _, _, _, _, rfl, rfl, SqL.of Mp.hl, atI_ints (j := 0) rfl, rfl, _, rfl, ?_⟩
          refine ite2 (fun _ => ?_) (fun _ => hN _ _ ⟨rfl, _, _, Mp, dp⟩)
          refine ⟨fun σ' H' => σ' = L2.start nm__law_next [V.ref m, V.int many] ∧ ∃ ll, MK m n C.O0 H' lc ll cs xs z ∧ ∀ a, H' a = none → C.H0 a = none, ?_, ?_⟩
          · rintro σ' H' ⟨rfl, l2, M2, d2⟩
            exact ⟨xs.length, by simp, rfl, l2, xs, M2, rfl, d2⟩
          · refine ⟨_, rfl, _, _, rfl, Mp.gl, _, rfl, _, _, rfl, SqL.of Mp.hl, fun l hl => ?_⟩
            rw [cut1_ints]
            have Ml := Mp.garb (o := .lst (((x :: xs).drop 1).map V.int)) hl
            have hl2 : C.O0 l = none := by
              cases e : C.O0 l with
              | none => rfl
              | some o => have := Mp.same _ _ e; rw [hl] at this; cases this
            have q := Ml.pl (l := l) (ms := (x :: xs).drop 1) upd_same hl2 (ne_of_none Mp.hc hl) (by have := M.nl; simp at this ⊢; omega)
            exact ⟨_, rfl, _, _, rfl, q.1, rfl, l, q.2, dom_upd (dom_upd dp)⟩
        · exact hN _ _ ⟨rfl, _, _, Mp, dp⟩
      · rintro σ' H' ⟨rfl, ll, ls, M, dm⟩
        refine seq_by (fun σ' H' => σ' = L2.start nm__law_next [V.ref m, V.int many] ∧ ∃ ll ls, MK m n C.O0 H' lc ll cs ls z ∧ ∀ a, H' a = none → C.H0 a = none) ?_ (fun N hN => ?_)
        rotate_left
        · refine ⟨_, rfl, _, _, rfl, M.gl, by decide, fun p hp => ?_⟩
          have Mp := M.garb (o := .lst []) hp
          have dp := dom_upd (p := p) (o := .lst []) dm
          refine ne_nil Mp.hl upd_same (fun hne => ⟨_, rfl, ?_⟩) (fun he => ⟨_, rfl, ?_⟩)
          · obtain ⟨x, xs, rfl⟩ : ∃ x xs, ls = x :: xs := by
              cases ls with
              | nil => exact absurd rfl hne
              | cons x xs => exact ⟨x, xs, rfl⟩
            refine ⟨_, rfl, _, _, rfl, Mp.gl, _, _, _, _, rfl, rfl, SqL.of Mp.hl, atI_ints (j := 0) rfl, .inl ⟨_, rfl, ?_⟩⟩
            refine ⟨_, rfl, _, rfl, _, _, rfl, rfl, ⟨h1, h2⟩, _, rfl, _, _, rfl, Mp.gl, _, _, _, 0, rfl, rfl, Mp.hl, ixN0 (by simp), ?_⟩
            refine ⟨_, rfl, _, rfl, _, _, rfl, rfl, h1, ?_⟩
            have q := Mp.ph (ms := (x / many) :: xs) (by have := M.nl; simp at this ⊢; omega)
            exact fin _ _ (up1 q.mach) (dom_upd dp) (Int.emod_nonneg _ (by omega)) (Int.emod_lt_of_pos _ h1)
          · exact hN _ _ ⟨rfl, _, _, Mp, dp⟩
        · rintro σ' H' ⟨rfl, ll, ls, M, dm⟩
          have hk : (0 : Int) ≤ z + 1 := by have := M.z0; omega
          have hk2 : z + 1 ≤ ((n + 1 : Nat) : Int) := by have := M.z1; omega
          have hk3 : z + 1 < 2 ^ 64 := by have := M.z1; omega
          refine ⟨_, rfl, _, _, rfl, M.ga, _, _, rfl, rfl, ?_⟩
          have q := M.pa (y := z + 1) (n' := n + 1) hk hk2
          refine ⟨_, rfl, _, rfl, _, _, rfl, q.1, ?_⟩
          have M2 := q.2
          have d2 := dom_upd (p := m) (o := .dK (mKvs lc ll (z + 1))) dm
          generalize L2.upd H' m (.dK (mKvs lc ll (z + 1))) = H2 at M2 d2
          dsimp only
          refine seq_by (fun σ' H' => ∃ c : Int, σ' = List.set (List.set (L2.start nm__law_next [V.ref m, V.int many]) 3 (some (.int (z + 1)))) 4 (some (.int c)) ∧ Mach m (n + 1) C.O0 H' ∧ ∀ a, H' a = none → C.H0 a = none) ?_ (fun N hN => ?_)
          rotate_left
          · refine ⟨_, rfl, _, _, rfl, M2.gc, by decide, fun p hp => ?_⟩
            have Mp := M2.garb (o := .lst []) hp
            have dp := dom_upd (p := p) (o := .lst []) d2
            refine ne_nil Mp.hc upd_same (fun hne => ⟨_, rfl, ?_⟩) (fun he => ⟨_, rfl, ?_⟩)
            · have hlen : 0 < cs.length := List.length_pos_iff.mpr hne
              have hr0 : 0 ≤ (z + 1) % (cs.length : Int) := Int.emod_nonneg _ (by omega)
              have hr1 : (z + 1) % (cs.length : Int) < cs.length := Int.emod_lt_of_pos _ (by omega)
              obtain ⟨j, hj⟩ : ∃ j : Nat, (z + 1) % (cs.length : Int) = (j : Int) := ⟨((z + 1) % (cs.length : Int)).toNat, (Int.toNat_of_nonneg hr0).symm⟩
              have hjl : j < cs.length := by omega
              refine ⟨_, rfl, _, _, rfl, Mp.gc, _, rfl, .inl ⟨_, rfl, _, rfl, _, _, rfl, Mp.gc, _, _, rfl, .inl (SqL.of Mp.hc), _, _, rfl, rfl, ?_, ?_⟩⟩
              · rw [List.length_map]; omega
              refine ⟨_, _, _, .int cs[j], rfl, rfl, SqL.of Mp.hc, ?_, ?_⟩
              · rw [List.length_map, hj]
                exact atI_ints (List.getElem?_eq_getElem hjl)
              · exact hN _ _ ⟨cs[j], rfl, Mp.mach, dp⟩
            · exact hN _ _ ⟨3, rfl, Mp.mach, dp⟩
          · rintro σ' H' ⟨c, rfl, M3, d3⟩
            have z29 : (0 : Int) < 2147483629 := by decide
            have z30 : (0 : Int) < 2147483647 := by decide
            have z31 : (0 : Int) < 2147483587 := by decide
            have z11 : (0 : Int) < 11 ∧ (11 : Int) < 1073741824 := by decide
            refine ⟨_, rfl, .inl ⟨_, rfl, _, _, rfl, rfl, z29, _, rfl, _, _, rfl, rfl, .inl (by decide), _, _, rfl, rfl, _, rfl, _, _, rfl, rfl, .inl (by decide), _, rfl, _, _, rfl, rfl, .inr ⟨by omega, hk3⟩, _, _, rfl, rfl, .inl ⟨_, rfl, _, _, rfl, rfl, .inr (by decide), ?_⟩⟩⟩
            refine ⟨_, rfl, .inl ⟨_, rfl, _, _, rfl, rfl, z30, _, rfl, _, _, rfl, rfl, .inl (by decide), _, _, rfl, rfl, .inl ⟨_, rfl, _, _, rfl, rfl, .inr (by decide), ?_⟩⟩⟩
            refine ⟨_, rfl, .inl ⟨_, rfl, _, _, rfl, rfl, z31, _, _, rfl, rfl, z11, .inl ⟨_, rfl, _, rfl, _, _, rfl, rfl, h1, ?_⟩⟩⟩
            exact fin _ _ M3 d3 (Int.emod_nonneg _ (by omega)) (Int.emod_lt_of_pos _ h1)
theorem rz_OutOfPlace (T : Tx K mg) : RzC P w K mg base "OutOfPlace" ["text"] := by
  obtain ⟨fd, F⟩ := T.d_OutOfPlace
  have S := sci_OutOfPlace
  refine rz_of T.z_OutOfPlace T.g_OutOfPlace (by decide) (F.ok (k := 0) S (fun vs H Q E h => ?_) (fun cdv A outer s H vs Q E hr h => ?_)) (F.bindsN fun _ _ _ _ _ _ us hl => match us, hl with | [_, _], _ => rfl)
  · obtain ⟨a, y, rfl, rd⟩ := init1_read h
    rfl
  · obtain ⟨a, y, rfl, rd⟩ := init1_read h
    exact ⟨_, pss_one (ps_ost (pv 0) (pv 1)), rd _ rfl rfl _ fun _ _ q => q⟩
theorem ok_is_whole (T : Tx K mg) : Ok P w K mg base 1 "is_whole" ["value", "least", "most"] w_is_whole := by
  rw [wd_is_whole]
  obtain ⟨fd, F⟩ := T.d_is_whole
  have S := sc_is_whole
  refine ⟨fd, fnV F S fun cdv A outer s H E hg hr => ?_, F.bindsN fun _ _ _ _ _ _ us hl => match us, hl with | [_, _, _], _ => rfl, F.kp, T.g_is_whole⟩
  · have hG : (cxOf (L2.CX P w) P w K mg base nm_is_whole "is_whole" (defScope s_is_whole) (He.ga K "is_whole") cdv A outer s H E).A.guards = some [] := hg
    have hu := hr.units
    have tk := takes_of (X := cxOf (L2.CX P w) P w K mg base nm_is_whole "is_whole" (defScope s_is_whole) (He.ga K "is_whole") cdv A outer s H E) (E := E) rfl rfl rfl rfl
    have hp := passes_of (X := cxOf (L2.CX P w) P w K mg base nm_is_whole "is_whole" (defScope s_is_whole) (He.ga K "is_whole") cdv A outer s H E) (K := fun e s2 => L2.CX P w outer H s E e s2) rfl
    exact (vs_one (vs_ret (ve_and (ve_isi rfl T.b_isinstance rfl T.b_int (by decide +kernel) T.k_int (ve_var 0)) (ve_and (ve_not (ve_isi rfl T.b_isinstance rfl T.b_bool (by decide +kernel) T.k_bool (ve_var 0))) (ve_one (ve_chain o_le o_le (ve_var 1) (ve_var 0) (ve_var 2)))))))
theorem ok_cd_is_move (T : Tx K mg) (C_is_whole : Ok P w K mg base 1 "is_whole" ["value", "least", "most"] w_is_whole) : Ok P w K mg base 2 "cd_is_move" ["move"] w_cd_is_move := by
  rw [wd_cd_is_move]
  obtain ⟨fd, F⟩ := T.d_cd_is_move
  have S := sc_cd_is_move
  refine ⟨fd, fnV F S fun cdv A outer s H E hg hr => ?_, F.bindsN fun _ _ _ _ _ _ us hl => match us, hl with | [_], _ => rfl, F.kp, T.g_cd_is_move⟩
  · have hG : (cxOf (L2.CX P w) P w K mg base nm_cd_is_move "cd_is_move" (defScope s_cd_is_move) (He.ga K "cd_is_move") cdv A outer s H E).A.guards = some [] := hg
    have hu := hr.units
    have tk := takes_of (X := cxOf (L2.CX P w) P w K mg base nm_cd_is_move "cd_is_move" (defScope s_cd_is_move) (He.ga K "cd_is_move") cdv A outer s H E) (E := E) rfl rfl rfl rfl
    have hp := passes_of (X := cxOf (L2.CX P w) P w K mg base nm_cd_is_move "cd_is_move" (defScope s_cd_is_move) (He.ga K "cd_is_move") cdv A outer s H E) (K := fun e s2 => L2.CX P w outer H s E e s2) rfl
    exact (vs_one (vs_ret (ve_and (ve_isi rfl T.b_isinstance rfl T.b_tuple (by decide +kernel) T.k_tuple (ve_var 0)) (ve_and (ve_cmp (o_eq hu) (ve_callB c_len rfl T.b_len (by decide +kernel) (va_cons (ve_var 0) va_nil)) ve_int) (ve_and (ve_ok C_is_whole hG (hr.mono (by decide)) tk rfl (wa_dat (ve_ix (ve_var 0) ve_int) (wa_dat (ve_neg ve_int) (wa_dat ve_int wa_nil)))) (ve_one (ve_ok C_is_whole hG (hr.mono (by decide)) tk rfl (wa_dat (ve_ix (ve_var 0) ve_int) (wa_dat (ve_neg ve_int) (wa_dat ve_int wa_nil))))))))))
theorem ok_cd_row_fault (T : Tx K mg) (C_cd_is_move : Ok P w K mg base 2 "cd_is_move" ["move"] w_cd_is_move) (C_is_whole : Ok P w K mg base 1 "is_whole" ["value", "least", "most"] w_is_whole) : Ok P w K mg base 3 "cd_row_fault" ["part", "row", "least", "most"] w_cd_row_fault := by
  rw [wd_cd_row_fault]
  obtain ⟨fd, F⟩ := T.d_cd_row_fault
  have S := sc_cd_row_fault
  refine ⟨fd, fnV F S fun cdv A outer s H E hg hr => ?_, F.bindsN fun _ _ _ _ _ _ us hl => match us, hl with | [_, _, _, _], _ => rfl, F.kp, T.g_cd_row_fault⟩
  · have hG : (cxOf (L2.CX P w) P w K mg base nm_cd_row_fault "cd_row_fault" (defScope s_cd_row_fault) (He.ga K "cd_row_fault") cdv A outer s H E).A.guards = some [] := hg
    have hu := hr.units
    have tk := takes_of (X := cxOf (L2.CX P w) P w K mg base nm_cd_row_fault "cd_row_fault" (defScope s_cd_row_fault) (He.ga K "cd_row_fault") cdv A outer s H E) (E := E) rfl rfl rfl rfl
    have hp := passes_of (X := cxOf (L2.CX P w) P w K mg base nm_cd_row_fault "cd_row_fault" (defScope s_cd_row_fault) (He.ga K "cd_row_fault") cdv A outer s H E) (K := fun e s2 => L2.CX P w outer H s E e s2) rfl
    exact (vs_cons (vs_if (vt_w (vw_or (vt_not (vt_val (ve_isi rfl T.b_isinstance rfl T.b_tuple (by decide +kernel) T.k_tuple (ve_var 1)))) (vw_or1 (vt_not (vt_chain o_le o_le (ve_var 2) (ve_callB c_len rfl T.b_len (by decide +kernel) (va_cons (ve_var 1) va_nil)) (ve_var 3)))))) (vs_one (vs_ret (ve_tup (va_cons (ve_var 0) (va_cons ve_non va_nil))))) vs_nil)
      (vs_cons (vs_for hp rfl (vi_enumT rfl T.b_enumerate (va_cons (ve_var 1) va_nil)) (vg_tup rfl (vgs_cons (vg_name (i := 4) S.nd rfl (by first | exact Or.inl rfl | exact Or.inr rfl)) (vgs_cons (vg_name (i := 5) S.nd rfl (by first | exact Or.inl rfl | exact Or.inr rfl)) vgs_nil))) (vs_one (vs_if (vt_not (vt_if (vt_cmp (o_eq hu) (ve_var 0) ve_str) (vt_val (ve_ok C_is_whole hG (hr.mono (by decide)) tk rfl (wa_dat (ve_var 5) (wa_dat ve_int (wa_dat ve_int wa_nil))))) (vt_val (ve_ok C_cd_is_move hG (hr.mono (by decide)) tk rfl (wa_dat (ve_var 5) wa_nil))))) (vs_one (vs_ret (ve_tup (va_cons (ve_var 0) (va_cons (ve_var 4) va_nil))))) vs_nil)))
      (vs_one (vs_ret ve_non))))
theorem ok_coder_fault (T : Tx K mg) (C_cd_row_fault : Ok P w K mg base 3 "cd_row_fault" ["part", "row", "least", "most"] w_cd_row_fault) (C_is_whole : Ok P w K mg base 1 "is_whole" ["value", "least", "most"] w_is_whole) : Ok P w K mg base 4 "coder_fault" ["thing"] w_coder_fault := by
  rw [wd_coder_fault]
  obtain ⟨fd, F⟩ := T.d_coder_fault
  have S := sc_coder_fault
  refine ⟨fd, fnV F S fun cdv A outer s H E hg hr => ?_, F.bindsN fun _ _ _ _ _ _ us hl => match us, hl with | [_], _ => rfl, F.kp, T.g_coder_fault⟩
  · have hG : (cxOf (L2.CX P w) P w K mg base nm_coder_fault "coder_fault" (defScope s_coder_fault) (He.ga K "coder_fault") cdv A outer s H E).A.guards = some [] := hg
    have hu := hr.units
    have tk := takes_of (X := cxOf (L2.CX P w) P w K mg base nm_coder_fault "coder_fault" (defScope s_coder_fault) (He.ga K "coder_fault") cdv A outer s H E) (E := E) rfl rfl rfl rfl
    have hp := passes_of (X := cxOf (L2.CX P w) P w K mg base nm_coder_fault "coder_fault" (defScope s_coder_fault) (He.ga K "coder_fault") cdv A outer s H E) (K := fun e s2 => L2.CX P w outer H s E e s2) rfl
    exact (vs_cons (vs_if (vt_w (vw_or (vt_not (vt_val (ve_isi rfl T.b_isinstance rfl T.b_tuple (by decide +kernel) T.k_tuple (ve_var 0)))) (vw_or1 (vt_cmp (o_ne hu) (ve_callB c_len rfl T.b_len (by decide +kernel) (va_cons (ve_var 0) va_nil)) ve_int)))) (vs_one (vs_ret (ve_tup (va_cons ve_str (va_cons ve_non va_nil))))) vs_nil)
      (vs_cons (vs_asg (ve_var 0) (vg_tup rfl (vgs_cons (vg_name (i := 1) S.nd rfl (by first | exact Or.inl rfl | exact Or.inr rfl)) (vgs_cons (vg_name (i := 2) S.nd rfl (by first | exact Or.inl rfl | exact Or.inr rfl)) (vgs_cons (vg_name (i := 3) S.nd rfl (by first | exact Or.inl rfl | exact Or.inr rfl)) (vgs_cons (vg_name (i := 4) S.nd rfl (by first | exact Or.inl rfl | exact Or.inr rfl)) (vgs_cons (vg_name (i := 5) S.nd rfl (by first | exact Or.inl rfl | exact Or.inr rfl)) vgs_nil)))))))
      (vs_cons (vs_if (vt_not (vt_val (ve_ok C_is_whole hG (hr.mono (by decide)) tk rfl (wa_dat (ve_var 1) (wa_dat (ve_neg ve_int) (wa_dat ve_int wa_nil)))))) (vs_one (vs_ret (ve_tup (va_cons ve_str (va_cons ve_non va_nil))))) vs_nil)
      (vs_cons (vs_if (vt_not (vt_val (ve_ok C_is_whole hG (hr.mono (by decide)) tk rfl (wa_dat (ve_var 2) (wa_dat ve_int (wa_dat ve_int wa_nil)))))) (vs_one (vs_ret (ve_tup (va_cons ve_str (va_cons ve_non va_nil))))) vs_nil)
      (vs_cons (vs_set (i := 6) S.nd rfl (by first | exact Or.inl rfl | exact Or.inr rfl) (ve_ok C_cd_row_fault hG (hr.mono (by decide)) tk rfl (wa_dat ve_str (wa_dat (ve_var 3) (wa_dat ve_int (wa_dat (ve_gint rfl T.c_MOST_STEPS) wa_nil))))))
      (vs_cons (vs_if (vt_cmp o_is (ve_var 6) ve_non) (vs_one (vs_set (i := 6) S.nd rfl (by first | exact Or.inl rfl | exact Or.inr rfl) (ve_ok C_cd_row_fault hG (hr.mono (by decide)) tk rfl (wa_dat ve_str (wa_dat (ve_var 4) (wa_dat ve_int (wa_dat (ve_gint rfl T.c_MOST_MOVES) wa_nil))))))) vs_nil)
      (vs_cons (vs_if (vt_w (vw_and (vt_cmp o_is (ve_var 6) ve_non) (vw_and (vt_not (vt_val (ve_ok C_is_whole hG (hr.mono (by decide)) tk rfl (wa_dat (ve_var 5) (wa_dat ve_int (wa_dat ve_int wa_nil)))))) (vw_and1 (vt_not (vt_val (ve_ok C_is_whole hG (hr.mono (by decide)) tk rfl (wa_dat (ve_var 5) (wa_dat ve_int (wa_dat ve_int wa_nil)))))))))) (vs_one (vs_set (i := 6) S.nd rfl (by first | exact Or.inl rfl | exact Or.inr rfl) (ve_tup (va_cons ve_str (va_cons ve_non va_nil))))) vs_nil)
      (vs_one (vs_ret (ve_var 6))))))))))
theorem ok_need_coder (T : Tx K mg) (C_coder_fault : Ok P w K mg base 4 "coder_fault" ["thing"] w_coder_fault) : Ok P w K mg base 5 "need_coder" ["thing"] w_need_coder := by
  rw [wd_need_coder]
  obtain ⟨fd, F⟩ := T.d_need_coder
  have S := sc_need_coder
  refine ⟨fd, fnV F S fun cdv A outer s H E hg hr => ?_, F.bindsN fun _ _ _ _ _ _ us hl => match us, hl with | [_], _ => rfl, F.kp, T.g_need_coder⟩
  · have hG : (cxOf (L2.CX P w) P w K mg base nm_need_coder "need_coder" (defScope s_need_coder) (He.ga K "need_coder") cdv A outer s H E).A.guards = some [] := hg
    have hu := hr.units
    have tk := takes_of (X := cxOf (L2.CX P w) P w K mg base nm_need_coder "need_coder" (defScope s_need_coder) (He.ga K "need_coder") cdv A outer s H E) (E := E) rfl rfl rfl rfl
    have hp := passes_of (X := cxOf (L2.CX P w) P w K mg base nm_need_coder "need_coder" (defScope s_need_coder) (He.ga K "need_coder") cdv A outer s H E) (K := fun e s2 => L2.CX P w outer H s E e s2) rfl
    exact (vs_cons (vs_set (i := 1) S.nd rfl (by first | exact Or.inl rfl | exact Or.inr rfl) (ve_ok C_coder_fault hG (hr.mono (by decide)) tk rfl (wa_dat (ve_var 0) wa_nil)))
      (vs_cons (vs_if (vt_cmp o_isnot (ve_var 1) ve_non) (vs_one vs_never) vs_nil)
      (vs_one (vs_ret (ve_var 0)))))
theorem ok_is_state (T : Tx K mg) (C_is_whole : Ok P w K mg base 1 "is_whole" ["value", "least", "most"] w_is_whole) : Ok P w K mg base 2 "is_state" ["coder", "thing"] w_is_state := by
  rw [wd_is_state]
  obtain ⟨fd, F⟩ := T.d_is_state
  have S := sc_is_state
  refine ⟨fd, fnV F S fun cdv A outer s H E hg hr => ?_, F.bindsN fun _ _ _ _ _ _ us hl => match us, hl with | [_, _], _ => rfl, F.kp, T.g_is_state⟩
  · have hG : (cxOf (L2.CX P w) P w K mg base nm_is_state "is_state" (defScope s_is_state) (He.ga K "is_state") cdv A outer s H E).A.guards = some [] := hg
    have hu := hr.units
    have tk := takes_of (X := cxOf (L2.CX P w) P w K mg base nm_is_state "is_state" (defScope s_is_state) (He.ga K "is_state") cdv A outer s H E) (E := E) rfl rfl rfl rfl
    have hp := passes_of (X := cxOf (L2.CX P w) P w K mg base nm_is_state "is_state" (defScope s_is_state) (He.ga K "is_state") cdv A outer s H E) (K := fun e s2 => L2.CX P w outer H s E e s2) rfl
    exact (vs_cons (vs_if (vt_w (vw_or (vt_not (vt_val (ve_isi rfl T.b_isinstance rfl T.b_tuple (by decide +kernel) T.k_tuple (ve_var 1)))) (vw_or1 (vt_cmp (o_ne hu) (ve_callB c_len rfl T.b_len (by decide +kernel) (va_cons (ve_var 1) va_nil)) ve_int)))) (vs_one (vs_ret ve_bl)) vs_nil)
      (vs_one (vs_ret (ve_and (ve_ok C_is_whole hG (hr.mono (by decide)) tk rfl (wa_dat (ve_ix (ve_var 1) ve_int) (wa_dat (ve_ix (ve_var 0) ve_int) (wa_dat (ve_ix (ve_var 0) ve_int) wa_nil)))) (ve_one (ve_ok C_is_whole hG (hr.mono (by decide)) tk rfl (wa_dat (ve_ix (ve_var 1) ve_int) (wa_dat ve_int (wa_dat (ve_op o_sub (ve_callB c_len rfl T.b_len (by decide +kernel) (va_cons (ve_ix (ve_var 0) ve_int) va_nil)) ve_int) wa_nil)))))))))
theorem ok_need_state (T : Tx K mg) (C_is_state : Ok P w K mg base 2 "is_state" ["coder", "thing"] w_is_state) (Z_OutOfPlace : RzC P w K mg base "OutOfPlace" ["text"]) : Ok P w K mg base 3 "need_state" ["coder", "thing"] w_need_state := by
  rw [wd_need_state]
  obtain ⟨fd, F⟩ := T.d_need_state
  have S := sc_need_state
  refine ⟨fd, fnV F S fun cdv A outer s H E hg hr => ?_, F.bindsN fun _ _ _ _ _ _ us hl => match us, hl with | [_, _], _ => rfl, F.kp, T.g_need_state⟩
  · have hG : (cxOf (L2.CX P w) P w K mg base nm_need_state "need_state" (defScope s_need_state) (He.ga K "need_state") cdv A outer s H E).A.guards = some [] := hg
    have hu := hr.units
    have tk := takes_of (X := cxOf (L2.CX P w) P w K mg base nm_need_state "need_state" (defScope s_need_state) (He.ga K "need_state") cdv A outer s H E) (E := E) rfl rfl rfl rfl
    have hp := passes_of (X := cxOf (L2.CX P w) P w K mg base nm_need_state "need_state" (defScope s_need_state) (He.ga K "need_state") cdv A outer s H E) (K := fun e s2 => L2.CX P w outer H s E e s2) rfl
    exact (vs_one (vs_if (vt_not (vt_val (ve_ok C_is_state hG (hr.mono (by decide)) tk rfl (wa_dat (ve_var 0) (wa_dat (ve_var 1) wa_nil))))) (vs_one (vs_raise rfl tk Z_OutOfPlace (hr.mono (by decide)) passes0 rfl (va_cons ve_str va_nil))) vs_nil))
theorem ok_need_place (T : Tx K mg) (C_is_whole : Ok P w K mg base 1 "is_whole" ["value", "least", "most"] w_is_whole) (Z_OutOfPlace : RzC P w K mg base "OutOfPlace" ["text"]) : Ok P w K mg base 3 "need_place" ["coder", "thing"] w_need_place := by
  rw [wd_need_place]
  obtain ⟨fd, F⟩ := T.d_need_place
  have S := sc_need_place
  refine ⟨fd, fnV F S fun cdv A outer s H E hg hr => ?_, F.bindsN fun _ _ _ _ _ _ us hl => match us, hl with | [_, _], _ => rfl, F.kp, T.g_need_place⟩
  · have hG : (cxOf (L2.CX P w) P w K mg base nm_need_place "need_place" (defScope s_need_place) (He.ga K "need_place") cdv A outer s H E).A.guards = some [] := hg
    have hu := hr.units
    have tk := takes_of (X := cxOf (L2.CX P w) P w K mg base nm_need_place "need_place" (defScope s_need_place) (He.ga K "need_place") cdv A outer s H E) (E := E) rfl rfl rfl rfl
    have hp := passes_of (X := cxOf (L2.CX P w) P w K mg base nm_need_place "need_place" (defScope s_need_place) (He.ga K "need_place") cdv A outer s H E) (K := fun e s2 => L2.CX P w outer H s E e s2) rfl
    exact (vs_one (vs_if (vt_not (vt_val (ve_ok C_is_whole hG (hr.mono (by decide)) tk rfl (wa_dat (ve_var 1) (wa_dat ve_int (wa_dat (ve_op o_sub (ve_callB c_len rfl T.b_len (by decide +kernel) (va_cons (ve_ix (ve_var 0) ve_int) va_nil)) ve_int) wa_nil)))))) (vs_one (vs_raise rfl tk Z_OutOfPlace (hr.mono (by decide)) passes0 rfl (va_cons ve_str va_nil))) vs_nil))
theorem ok_is_code (T : Tx K mg) (C_is_whole : Ok P w K mg base 1 "is_whole" ["value", "least", "most"] w_is_whole) : Ok P w K mg base 2 "is_code" ["coder", "thing"] w_is_code := by
  rw [wd_is_code]
  obtain ⟨fd, F⟩ := T.d_is_code
  have S := sc_is_code
  refine ⟨fd, fnV F S fun cdv A outer s H E hg hr => ?_, F.bindsN fun _ _ _ _ _ _ us hl => match us, hl with | [_, _], _ => rfl, F.kp, T.g_is_code⟩
  · have hG : (cxOf (L2.CX P w) P w K mg base nm_is_code "is_code" (defScope s_is_code) (He.ga K "is_code") cdv A outer s H E).A.guards = some [] := hg
    have hu := hr.units
    have tk := takes_of (X := cxOf (L2.CX P w) P w K mg base nm_is_code "is_code" (defScope s_is_code) (He.ga K "is_code") cdv A outer s H E) (E := E) rfl rfl rfl rfl
    have hp := passes_of (X := cxOf (L2.CX P w) P w K mg base nm_is_code "is_code" (defScope s_is_code) (He.ga K "is_code") cdv A outer s H E) (K := fun e s2 => L2.CX P w outer H s E e s2) rfl
    exact (vs_one (vs_ret (ve_ok C_is_whole hG (hr.mono (by decide)) tk rfl (wa_dat (ve_var 1) (wa_dat ve_int (wa_dat (ve_op o_sub (ve_callB c_len rfl T.b_len (by decide +kernel) (va_cons (ve_ix (ve_var 0) ve_int) va_nil)) ve_int) wa_nil))))))
theorem ok_need_code (T : Tx K mg) (C_is_code : Ok P w K mg base 2 "is_code" ["coder", "thing"] w_is_code) (Z_OutOfPlace : RzC P w K mg base "OutOfPlace" ["text"]) : Ok P w K mg base 3 "need_code" ["coder", "thing"] w_need_code := by
  rw [wd_need_code]
  obtain ⟨fd, F⟩ := T.d_need_code
  have S := sc_need_code
  refine ⟨fd, fnV F S fun cdv A outer s H E hg hr => ?_, F.bindsN fun _ _ _ _ _ _ us hl => match us, hl with | [_, _], _ => rfl, F.kp, T.g_need_code⟩
  · have hG : (cxOf (L2.CX P w) P w K mg base nm_need_code "need_code" (defScope s_need_code) (He.ga K "need_code") cdv A outer s H E).A.guards = some [] := hg
    have hu := hr.units
    have tk := takes_of (X := cxOf (L2.CX P w) P w K mg base nm_need_code "need_code" (defScope s_need_code) (He.ga K "need_code") cdv A outer s H E) (E := E) rfl rfl rfl rfl
    have hp := passes_of (X := cxOf (L2.CX P w) P w K mg base nm_need_code "need_code" (defScope s_need_code) (He.ga K "need_code") cdv A outer s H E) (K := fun e s2 => L2.CX P w outer H s E e s2) rfl
    exact (vs_one (vs_if (vt_not (vt_val (ve_ok C_is_code hG (hr.mono (by decide)) tk rfl (wa_dat (ve_var 0) (wa_dat (ve_var 1) wa_nil))))) (vs_one (vs_raise rfl tk Z_OutOfPlace (hr.mono (by decide)) passes0 rfl (va_cons ve_str va_nil))) vs_nil))
theorem ok_divided (T : Tx K mg) : Ok P w K mg base 1 "divided" ["number", "by"] w_divided := by
  rw [wd_divided]
  obtain ⟨fd, F⟩ := T.d_divided
  have S := sc_divided
  refine ⟨fd, fnV F S fun cdv A outer s H E hg hr => ?_, F.bindsN fun _ _ _ _ _ _ us hl => match us, hl with | [_, _], _ => rfl, F.kp, T.g_divided⟩
  · have hG : (cxOf (L2.CX P w) P w K mg base nm_divided "divided" (defScope s_divided) (He.ga K "divided") cdv A outer s H E).A.guards = some [] := hg
    have hu := hr.units
    have tk := takes_of (X := cxOf (L2.CX P w) P w K mg base nm_divided "divided" (defScope s_divided) (He.ga K "divided") cdv A outer s H E) (E := E) rfl rfl rfl rfl
    have hp := passes_of (X := cxOf (L2.CX P w) P w K mg base nm_divided "divided" (defScope s_divided) (He.ga K "divided") cdv A outer s H E) (K := fun e s2 => L2.CX P w outer H s E e s2) rfl
    exact (vs_one (vs_ret (ve_if (vt_cmp o_ge (ve_var 0) ve_int) (ve_op o_div (ve_var 0) (ve_var 1)) (ve_neg (ve_op o_div (ve_neg (ve_var 0)) (ve_var 1))))))
theorem ok_moved_by (T : Tx K mg) (C_divided : Ok P w K mg base 1 "divided" ["number", "by"] w_divided) : Ok P w K mg base 2 "moved_by" ["coder", "code", "place"] w_moved_by := by
  rw [wd_moved_by]
  obtain ⟨fd, F⟩ := T.d_moved_by
  have S := sc_moved_by
  refine ⟨fd, fnV F S fun cdv A outer s H E hg hr => ?_, F.bindsN fun _ _ _ _ _ _ us hl => match us, hl with | [_, _, _], _ => rfl, F.kp, T.g_moved_by⟩
  · have hG : (cxOf (L2.CX P w) P w K mg base nm_moved_by "moved_by" (defScope s_moved_by) (He.ga K "moved_by") cdv A outer s H E).A.guards = some [] := hg
    have hu := hr.units
    have tk := takes_of (X := cxOf (L2.CX P w) P w K mg base nm_moved_by "moved_by" (defScope s_moved_by) (He.ga K "moved_by") cdv A outer s H E) (E := E) rfl rfl rfl rfl
    have hp := passes_of (X := cxOf (L2.CX P w) P w K mg base nm_moved_by "moved_by" (defScope s_moved_by) (He.ga K "moved_by") cdv A outer s H E) (K := fun e s2 => L2.CX P w outer H s E e s2) rfl
    exact (vs_one (vs_ret (ve_ok C_divided hG (hr.mono (by decide)) tk rfl (wa_dat (ve_op o_mul (ve_ix (ve_ix (ve_ix (ve_var 0) ve_int) (ve_var 1)) ve_int) (ve_ix (ve_ix (ve_var 0) ve_int) (ve_var 2))) (wa_dat ve_int wa_nil)))))
theorem ok_change_of (T : Tx K mg) (C_moved_by : Ok P w K mg base 2 "moved_by" ["coder", "code", "place"] w_moved_by) (C_need_code : Ok P w K mg base 3 "need_code" ["coder", "thing"] w_need_code) (C_need_coder : Ok P w K mg base 5 "need_coder" ["thing"] w_need_coder) (C_need_place : Ok P w K mg base 3 "need_place" ["coder", "thing"] w_need_place) : Ok P w K mg base 6 "change_of" ["coder", "code", "place"] w_change_of := by
  rw [wd_change_of]
  obtain ⟨fd, F⟩ := T.d_change_of
  have S := sc_change_of
  refine ⟨fd, fnV F S fun cdv A outer s H E hg hr => ?_, F.bindsN fun _ _ _ _ _ _ us hl => match us, hl with | [_, _, _], _ => rfl, F.kp, T.g_change_of⟩
  · have hG : (cxOf (L2.CX P w) P w K mg base nm_change_of "change_of" (defScope s_change_of) (He.ga K "change_of") cdv A outer s H E).A.guards = some [] := hg
    have hu := hr.units
    have tk := takes_of (X := cxOf (L2.CX P w) P w K mg base nm_change_of "change_of" (defScope s_change_of) (He.ga K "change_of") cdv A outer s H E) (E := E) rfl rfl rfl rfl
    have hp := passes_of (X := cxOf (L2.CX P w) P w K mg base nm_change_of "change_of" (defScope s_change_of) (He.ga K "change_of") cdv A outer s H E) (K := fun e s2 => L2.CX P w outer H s E e s2) rfl
    exact (vs_cons (vs_expr (ve_ok C_need_coder hG (hr.mono (by decide)) tk rfl (wa_dat (ve_var 0) wa_nil)))
      (vs_cons (vs_expr (ve_ok C_need_code hG (hr.mono (by decide)) tk rfl (wa_dat (ve_var 0) (wa_dat (ve_var 1) wa_nil))))
      (vs_cons (vs_expr (ve_ok C_need_place hG (hr.mono (by decide)) tk rfl (wa_dat (ve_var 0) (wa_dat (ve_var 2) wa_nil))))
      (vs_one (vs_ret (ve_ok C_moved_by hG (hr.mono (by decide)) tk rfl (wa_dat (ve_var 0) (wa_dat (ve_var 1) (wa_dat (ve_var 2) wa_nil)))))))))
theorem ok_next_state (T : Tx K mg) (C_divided : Ok P w K mg base 1 "divided" ["number", "by"] w_divided) (C_moved_by : Ok P w K mg base 2 "moved_by" ["coder", "code", "place"] w_moved_by) : Ok P w K mg base 3 "next_state" ["coder", "state", "code"] w_next_state := by
  rw [wd_next_state]
  obtain ⟨fd, F⟩ := T.d_next_state
  have S := sc_next_state
  refine ⟨fd, fnV F S fun cdv A outer s H E hg hr => ?_, F.bindsN fun _ _ _ _ _ _ us hl => match us, hl with | [_, _, _], _ => rfl, F.kp, T.g_next_state⟩
  · have hG : (cxOf (L2.CX P w) P w K mg base nm_next_state "next_state" (defScope s_next_state) (He.ga K "next_state") cdv A outer s H E).A.guards = some [] := hg
    have hu := hr.units
    have tk := takes_of (X := cxOf (L2.CX P w) P w K mg base nm_next_state "next_state" (defScope s_next_state) (He.ga K "next_state") cdv A outer s H E) (E := E) rfl rfl rfl rfl
    have hp := passes_of (X := cxOf (L2.CX P w) P w K mg base nm_next_state "next_state" (defScope s_next_state) (He.ga K "next_state") cdv A outer s H E) (K := fun e s2 => L2.CX P w outer H s E e s2) rfl
    exact (vs_cons (vs_asg (ve_var 0) (vg_tup rfl (vgs_cons (vg_name (i := 3) S.nd rfl (by first | exact Or.inl rfl | exact Or.inr rfl)) (vgs_cons (vg_name (i := 4) S.nd rfl (by first | exact Or.inl rfl | exact Or.inr rfl)) (vgs_cons (vg_name (i := 5) S.nd rfl (by first | exact Or.inl rfl | exact Or.inr rfl)) (vgs_cons (vg_name (i := 6) S.nd rfl (by first | exact Or.inl rfl | exact Or.inr rfl)) (vgs_cons (vg_name (i := 7) S.nd rfl (by first | exact Or.inl rfl | exact Or.inr rfl)) vgs_nil)))))))
      (vs_cons (vs_asg (ve_var 1) (vg_tup rfl (vgs_cons (vg_name (i := 8) S.nd rfl (by first | exact Or.inl rfl | exact Or.inr rfl)) (vgs_cons (vg_name (i := 9) S.nd rfl (by first | exact Or.inl rfl | exact Or.inr rfl)) vgs_nil))))
      (vs_cons (vs_set (i := 10) S.nd rfl (by first | exact Or.inl rfl | exact Or.inr rfl) (ve_if (vt_cmp (o_eq hu) (ve_var 7) ve_int) (ve_var 8) (ve_op o_sub (ve_var 8) (ve_ok C_divided hG (hr.mono (by decide)) tk rfl (wa_dat (ve_var 8) (wa_dat (ve_var 7) wa_nil))))))
      (vs_cons (vs_set (i := 11) S.nd rfl (by first | exact Or.inl rfl | exact Or.inr rfl) (ve_op o_add (ve_var 9) (ve_ix (ve_ix (ve_var 6) (ve_var 2)) ve_int)))
      (vs_one (vs_ret (ve_tup (va_cons (ve_callB (c_min2 rfl) rfl T.b_min (by decide +kernel) (va_cons (ve_var 4) (va_cons (ve_callB (c_max2 rfl) rfl T.b_max (by decide +kernel) (va_cons (ve_var 3) (va_cons (ve_op o_add (ve_var 10) (ve_ok C_moved_by hG (hr.mono (by decide)) tk rfl (wa_dat (ve_var 0) (wa_dat (ve_var 2) (wa_dat (ve_var 9) wa_nil))))) va_nil))) va_nil))) (va_cons (ve_callB (c_min2 rfl) rfl T.b_min (by decide +kernel) (va_cons (ve_op o_sub (ve_callB c_len rfl T.b_len (by decide +kernel) (va_cons (ve_var 5) va_nil)) ve_int) (va_cons (ve_callB (c_max2 rfl) rfl T.b_max (by decide +kernel) (va_cons ve_int (va_cons (ve_var 11) va_nil))) va_nil))) va_nil)))))))))
theorem ok_led_to (T : Tx K mg) (C_need_code : Ok P w K mg base 3 "need_code" ["coder", "thing"] w_need_code) (C_need_coder : Ok P w K mg base 5 "need_coder" ["thing"] w_need_coder) (C_need_state : Ok P w K mg base 3 "need_state" ["coder", "thing"] w_need_state) (C_next_state : Ok P w K mg base 3 "next_state" ["coder", "state", "code"] w_next_state) : Ok P w K mg base 6 "led_to" ["coder", "state", "code"] w_led_to := by
  rw [wd_led_to]
  obtain ⟨fd, F⟩ := T.d_led_to
  have S := sc_led_to
  refine ⟨fd, fnV F S fun cdv A outer s H E hg hr => ?_, F.bindsN fun _ _ _ _ _ _ us hl => match us, hl with | [_, _, _], _ => rfl, F.kp, T.g_led_to⟩
  · have hG : (cxOf (L2.CX P w) P w K mg base nm_led_to "led_to" (defScope s_led_to) (He.ga K "led_to") cdv A outer s H E).A.guards = some [] := hg
    have hu := hr.units
    have tk := takes_of (X := cxOf (L2.CX P w) P w K mg base nm_led_to "led_to" (defScope s_led_to) (He.ga K "led_to") cdv A outer s H E) (E := E) rfl rfl rfl rfl
    have hp := passes_of (X := cxOf (L2.CX P w) P w K mg base nm_led_to "led_to" (defScope s_led_to) (He.ga K "led_to") cdv A outer s H E) (K := fun e s2 => L2.CX P w outer H s E e s2) rfl
    exact (vs_cons (vs_expr (ve_ok C_need_coder hG (hr.mono (by decide)) tk rfl (wa_dat (ve_var 0) wa_nil)))
      (vs_cons (vs_expr (ve_ok C_need_state hG (hr.mono (by decide)) tk rfl (wa_dat (ve_var 0) (wa_dat (ve_var 1) wa_nil))))
      (vs_cons (vs_expr (ve_ok C_need_code hG (hr.mono (by decide)) tk rfl (wa_dat (ve_var 0) (wa_dat (ve_var 2) wa_nil))))
      (vs_one (vs_ret (ve_ok C_next_state hG (hr.mono (by decide)) tk rfl (wa_dat (ve_var 0) (wa_dat (ve_var 1) (wa_dat (ve_var 2) wa_nil)))))))))
theorem ok__law_parted (T : Tx K mg) : Ok P w K mg base 1 "_law_parted" ["number", "by"] w__law_parted := by
  rw [wd__law_parted]
  obtain ⟨fd, F⟩ := T.d__law_parted
  have S := sc__law_parted
  refine ⟨fd, fnV F S fun cdv A outer s H E hg hr => ?_, F.bindsN fun _ _ _ _ _ _ us hl => match us, hl with | [_, _], _ => rfl, F.kp, T.g__law_parted⟩
  · have hG : (cxOf (L2.CX P w) P w K mg base nm__law_parted "_law_parted" (defScope s__law_parted) (He.ga K "_law_parted") cdv A outer s H E).A.guards = some [] := hg
    have hu := hr.units
    have tk := takes_of (X := cxOf (L2.CX P w) P w K mg base nm__law_parted "_law_parted" (defScope s__law_parted) (He.ga K "_law_parted") cdv A outer s H E) (E := E) rfl rfl rfl rfl
    have hp := passes_of (X := cxOf (L2.CX P w) P w K mg base nm__law_parted "_law_parted" (defScope s__law_parted) (He.ga K "_law_parted") cdv A outer s H E) (K := fun e s2 => L2.CX P w outer H s E e s2) rfl
    exact (vs_one (vs_ret (ve_if (vt_cmp o_ge (ve_var 0) ve_int) (ve_op o_div (ve_var 0) (ve_var 1)) (ve_op o_sub ve_int (ve_op o_div (ve_op o_sub ve_int (ve_var 0)) (ve_var 1))))))
theorem ok__law_limited (T : Tx K mg) : Ok P w K mg base 1 "_law_limited" ["number", "least", "most"] w__law_limited := by
  rw [wd__law_limited]
  obtain ⟨fd, F⟩ := T.d__law_limited
  have S := sc__law_limited
  refine ⟨fd, fnV F S fun cdv A outer s H E hg hr => ?_, F.bindsN fun _ _ _ _ _ _ us hl => match us, hl with | [_, _, _], _ => rfl, F.kp, T.g__law_limited⟩
  · have hG : (cxOf (L2.CX P w) P w K mg base nm__law_limited "_law_limited" (defScope s__law_limited) (He.ga K "_law_limited") cdv A outer s H E).A.guards = some [] := hg
    have hu := hr.units
    have tk := takes_of (X := cxOf (L2.CX P w) P w K mg base nm__law_limited "_law_limited" (defScope s__law_limited) (He.ga K "_law_limited") cdv A outer s H E) (E := E) rfl rfl rfl rfl
    have hp := passes_of (X := cxOf (L2.CX P w) P w K mg base nm__law_limited "_law_limited" (defScope s__law_limited) (He.ga K "_law_limited") cdv A outer s H E) (K := fun e s2 => L2.CX P w outer H s E e s2) rfl
    exact (vs_one (vs_ret (ve_if (vt_cmp o_lt (ve_var 0) (ve_var 1)) (ve_var 1) (ve_if (vt_cmp o_gt (ve_var 0) (ve_var 2)) (ve_var 2) (ve_var 0)))))
theorem ok__law_led (T : Tx K mg) (C__law_limited : Ok P w K mg base 1 "_law_limited" ["number", "least", "most"] w__law_limited) (C__law_parted : Ok P w K mg base 1 "_law_parted" ["number", "by"] w__law_parted) : Ok P w K mg base 2 "_law_led" ["coder", "here", "code"] w__law_led := by
  rw [wd__law_led]
  obtain ⟨fd, F⟩ := T.d__law_led
  have S := sc__law_led
  refine ⟨fd, fnV F S fun cdv A outer s H E hg hr => ?_, F.bindsN fun _ _ _ _ _ _ us hl => match us, hl with | [_, _, _], _ => rfl, F.kp, T.g__law_led⟩
  · have hG : (cxOf (L2.CX P w) P w K mg base nm__law_led "_law_led" (defScope s__law_led) (He.ga K "_law_led") cdv A outer s H E).A.guards = some [] := hg
    have hu := hr.units
    have tk := takes_of (X := cxOf (L2.CX P w) P w K mg base nm__law_led "_law_led" (defScope s__law_led) (He.ga K "_law_led") cdv A outer s H E) (E := E) rfl rfl rfl rfl
    have hp := passes_of (X := cxOf (L2.CX P w) P w K mg base nm__law_led "_law_led" (defScope s__law_led) (He.ga K "_law_led") cdv A outer s H E) (K := fun e s2 => L2.CX P w outer H s E e s2) rfl
    exact (vs_cons (vs_asg (ve_ix (ve_ix (ve_var 0) ve_int) (ve_var 2)) (vg_tup rfl (vgs_cons (vg_name (i := 3) S.nd rfl (by first | exact Or.inl rfl | exact Or.inr rfl)) (vgs_cons (vg_name (i := 4) S.nd rfl (by first | exact Or.inl rfl | exact Or.inr rfl)) vgs_nil))))
      (vs_cons (vs_set (i := 5) S.nd rfl (by first | exact Or.inl rfl | exact Or.inr rfl) (ve_ix (ve_var 1) ve_int))
      (vs_cons (vs_if (vt_cmp (o_ne hu) (ve_ix (ve_var 0) ve_int) ve_int) (vs_one (vs_set (i := 5) S.nd rfl (by first | exact Or.inl rfl | exact Or.inr rfl) (ve_op o_sub (ve_var 5) (ve_ok C__law_parted hG (hr.mono (by decide)) tk rfl (wa_dat (ve_var 5) (wa_dat (ve_ix (ve_var 0) ve_int) wa_nil)))))) vs_nil)
      (vs_cons (vs_set (i := 5) S.nd rfl (by first | exact Or.inl rfl | exact Or.inr rfl) (ve_op o_add (ve_var 5) (ve_ok C__law_parted hG (hr.mono (by decide)) tk rfl (wa_dat (ve_op o_mul (ve_var 3) (ve_ix (ve_ix (ve_var 0) ve_int) (ve_ix (ve_var 1) ve_int))) (wa_dat ve_int wa_nil)))))
      (vs_one (vs_ret (ve_tup (va_cons (ve_ok C__law_limited hG (hr.mono (by decide)) tk rfl (wa_dat (ve_var 5) (wa_dat (ve_ix (ve_var 0) ve_int) (wa_dat (ve_ix (ve_var 0) ve_int) wa_nil)))) (va_cons (ve_ok C__law_limited hG (hr.mono (by decide)) tk rfl (wa_dat (ve_op o_add (ve_ix (ve_var 1) ve_int) (ve_var 4)) (wa_dat ve_int (wa_dat (ve_op o_sub (ve_callB c_len rfl T.b_len (by decide +kernel) (va_cons (ve_ix (ve_var 0) ve_int) va_nil)) ve_int) wa_nil)))) va_nil)))))))))
theorem ok__law_wide (T : Tx K mg) (C__law_next : Ok P w K mg base 1 "_law_next" ["m", "many"] w__law_next) : Ok P w K mg base 2 "_law_wide" ["m"] w__law_wide := by
  rw [wd__law_wide]
  obtain ⟨fd, F⟩ := T.d__law_wide
  have S := sc__law_wide
  refine ⟨fd, fnV F S fun cdv A outer s H E hg hr => ?_, F.bindsN fun _ _ _ _ _ _ us hl => match us, hl with | [_], _ => rfl, F.kp, T.g__law_wide⟩
  · have hG : (cxOf (L2.CX P w) P w K mg base nm__law_wide "_law_wide" (defScope s__law_wide) (He.ga K "_law_wide") cdv A outer s H E).A.guards = some [] := hg
    have hu := hr.units
    have tk := takes_of (X := cxOf (L2.CX P w) P w K mg base nm__law_wide "_law_wide" (defScope s__law_wide) (He.ga K "_law_wide") cdv A outer s H E) (E := E) rfl rfl rfl rfl
    have hp := passes_of (X := cxOf (L2.CX P w) P w K mg base nm__law_wide "_law_wide" (defScope s__law_wide) (He.ga K "_law_wide") cdv A outer s H E) (K := fun e s2 => L2.CX P w outer H s E e s2) rfl
    exact (vs_cons (vs_par (i := 1) (j := 2) rfl S.nd rfl rfl (by decide) rfl rfl (va_cons (ve_fz (vo_lst (va_cons ve_int (va_cons (ve_neg ve_int) (va_cons (ve_neg ve_int) (va_cons (ve_op o_sub ve_int (ve_ok C__law_next hG (hr.mono (by decide)) tk rfl (wa_var 0 (wa_dat ve_int wa_nil)))) va_nil)))))) (va_cons (ve_fz (vo_lst (va_cons ve_int (va_cons ve_int (va_cons ve_int (va_cons (ve_ok C__law_next hG (hr.mono (by decide)) tk rfl (wa_var 0 (wa_dat ve_int wa_nil))) va_nil)))))) va_nil)) rfl)
      (vs_cons (vs_setLc (i := 3) (own := [("k", 4)]) rfl S.nd rfl rfl (sw_true rfl rfl rfl (by decide +kernel)) (vi_range1 rfl T.b_range (va_cons (ve_op o_add ve_int (ve_ok C__law_next hG (hr.mono (by decide)) tk rfl (wa_var 0 (wa_dat ve_int wa_nil)))) va_nil)) (blkOk_by (own := [("k", 4)]) (N := nm__law_wide) (sc := defScope s__law_wide) (by decide +kernel)) (fun _ _ _ _ _ => pg_name (i := 4) S.nd rfl (Or.inl rfl)) (pair_name 4) (fun _ _ _ _ _ => vpts_nil) (fun _ _ _ _ _ => (ve_ix (ve_fz (vo_lst (va_cons ve_int (va_cons ve_int (va_cons (ve_op o_add ve_int (ve_ok C__law_next hG (hr.mono (by decide)) takes0 rfl (wa_var 0 (wa_dat ve_int wa_nil)))) va_nil))))) (ve_ok C__law_next hG (hr.mono (by decide)) takes0 rfl (wa_var 0 (wa_dat ve_int wa_nil))))))
      (vs_cons (vs_setO (i := 5) S.nd rfl (by first | exact Or.inl rfl | exact Or.inr rfl) (vo_lst va_nil))
      (vs_cons (vs_for hp rfl (vi_range1 rfl T.b_range (va_cons (ve_op o_add ve_int (ve_ok C__law_next hG (hr.mono (by decide)) tk rfl (wa_var 0 (wa_dat ve_int wa_nil)))) va_nil)) (vg_name (i := 4) S.nd rfl (by first | exact Or.inl rfl | exact Or.inr rfl)) (vs_one (vs_append (pe_bm PySem.F.plainAttrs_list PySem.F.slot_list_append PySem.F.type_list_append mt_append (pv 5) (pa_cons (ve_tup (va_cons (ve_op o_sub (ve_ok C__law_next hG (hr.mono (by decide)) tk rfl (wa_var 0 (wa_dat ve_int wa_nil))) ve_int) (va_cons (ve_op o_sub (ve_ok C__law_next hG (hr.mono (by decide)) tk rfl (wa_var 0 (wa_dat ve_int wa_nil))) ve_int) va_nil))) pa_nil)))))
      (vs_cons (vs_set (i := 6) S.nd rfl (by first | exact Or.inl rfl | exact Or.inr rfl) (ve_ix (ve_fz (vo_lst (va_cons ve_int (va_cons ve_int (va_cons ve_int (va_cons (ve_op o_add ve_int (ve_ok C__law_next hG (hr.mono (by decide)) tk rfl (wa_var 0 (wa_dat ve_int wa_nil)))) va_nil)))))) (ve_ok C__law_next hG (hr.mono (by decide)) tk rfl (wa_var 0 (wa_dat ve_int wa_nil)))))
      (vs_one (vs_frz 5 (vs_ret (ve_tup (va_cons (ve_ix (ve_var 1) (ve_ok C__law_next hG (hr.mono (by decide)) tk rfl (wa_var 0 (wa_dat ve_int wa_nil)))) (va_cons (ve_ix (ve_var 2) (ve_ok C__law_next hG (hr.mono (by decide)) tk rfl (wa_var 0 (wa_dat ve_int wa_nil)))) (va_cons (ve_callTy c_tuple rfl T.b_tuple (by decide +kernel) (va_cons (ve_var 3) va_nil)) (va_cons (ve_callTy c_tuple rfl T.b_tuple (by decide +kernel) (va_cons (ve_var 5) va_nil)) (va_cons (ve_var 6) va_nil))))))))))))))
theorem ok__law_refused (T : Tx K mg) (C_change_of : Ok P w K mg base 6 "change_of" ["coder", "code", "place"] w_change_of) (C_led_to : Ok P w K mg base 6 "led_to" ["coder", "state", "code"] w_led_to) : Ok P w K mg base 7 "_law_refused" ["way", "coder", "x", "y"] w__law_refused := by
  rw [wd__law_refused]
  obtain ⟨fd, F⟩ := T.d__law_refused
  have S := sc__law_refused
  refine ⟨fd, fnV F S fun cdv A outer s H E hg hr => ?_, F.bindsN fun _ _ _ _ _ _ us hl => match us, hl with | [_, _, _, _], _ => rfl, F.kp, T.g__law_refused⟩
  · have hG : (cxOf (L2.CX P w) P w K mg base nm__law_refused "_law_refused" (defScope s__law_refused) (He.ga K "_law_refused") cdv A outer s H E).A.guards = some [] := hg
    have hu := hr.units
    have tk := takes_of (X := cxOf (L2.CX P w) P w K mg base nm__law_refused "_law_refused" (defScope s__law_refused) (He.ga K "_law_refused") cdv A outer s H E) (E := E) rfl rfl rfl rfl
    have hp := passes_of (X := cxOf (L2.CX P w) P w K mg base nm__law_refused "_law_refused" (defScope s__law_refused) (He.ga K "_law_refused") cdv A outer s H E) (K := fun e s2 => L2.CX P w outer H s E e s2) rfl
    exact (vs_cons (vs_set (i := 4) S.nd rfl (by first | exact Or.inl rfl | exact Or.inr rfl) ve_bl)
      (vs_cons (vs_try rfl rfl tk T.kx (by decide) (fun W2 pn2 xe2 tk2 hp => (vs_one (vs_if (vt_cmp (o_eq hu) (ve_var 0) ve_int) (vs_one (vs_expr (ve_ok C_led_to hG (hr.mono (by decide)) tk2 rfl (wa_dat (ve_var 1) (wa_dat (ve_var 2) (wa_dat (ve_var 3) wa_nil)))))) (vs_one (vs_expr (ve_ok C_change_of hG (hr.mono (by decide)) tk2 rfl (wa_dat (ve_var 1) (wa_dat (ve_var 2) (wa_dat (ve_var 3) wa_nil))))))))) (HdsV.cons ⟨rfl, by decide, Or.inl T.g_OutOfPlace⟩ (fun a2 oe2 pn2 => (vs_one (vs_set (i := 4) S.nd rfl (by first | exact Or.inl rfl | exact Or.inr rfl) ve_bl))) HdsV.nil))
      (vs_one (vs_ret (ve_var 4)))))
theorem ok__law_wrong_right (T : Tx K mg) (C__law_refused : Ok P w K mg base 7 "_law_refused" ["way", "coder", "x", "y"] w__law_refused) : Ok P w K mg base 8 "_law_wrong_right" ["coder", "here"] w__law_wrong_right := by
  rw [wd__law_wrong_right]
  obtain ⟨fd, F⟩ := T.d__law_wrong_right
  have S := sc__law_wrong_right
  refine ⟨fd, fnV F S fun cdv A outer s H E hg hr => ?_, F.bindsN fun _ _ _ _ _ _ us hl => match us, hl with | [_, _], _ => rfl, F.kp, T.g__law_wrong_right⟩
  · have hG : (cxOf (L2.CX P w) P w K mg base nm__law_wrong_right "_law_wrong_right" (defScope s__law_wrong_right) (He.ga K "_law_wrong_right") cdv A outer s H E).A.guards = some [] := hg
    have hu := hr.units
    have tk := takes_of (X := cxOf (L2.CX P w) P w K mg base nm__law_wrong_right "_law_wrong_right" (defScope s__law_wrong_right) (He.ga K "_law_wrong_right") cdv A outer s H E) (E := E) rfl rfl rfl rfl
    have hp := passes_of (X := cxOf (L2.CX P w) P w K mg base nm__law_wrong_right "_law_wrong_right" (defScope s__law_wrong_right) (He.ga K "_law_wrong_right") cdv A outer s H E) (K := fun e s2 => L2.CX P w outer H s E e s2) rfl
    exact (vs_cons (vs_set (i := 2) S.nd rfl (by first | exact Or.inl rfl | exact Or.inr rfl) (ve_fz (vo_lst (va_cons ve_non (va_cons ve_int (va_cons ve_str (va_cons (ve_tup va_nil) (va_cons (ve_slice (ve_var 1) vp_none (vp_some ve_int)) (va_cons (ve_op o_add (ve_var 1) (ve_tup (va_cons ve_int va_nil))) (va_cons (ve_fz (vo_callTy c_list rfl T.b_list (by decide +kernel) (va_cons (ve_var 1) va_nil))) (va_cons (ve_tup (va_cons (ve_op o_sub (ve_ix (ve_var 0) ve_int) ve_int) (va_cons ve_int va_nil))) (va_cons (ve_tup (va_cons (ve_op o_add (ve_ix (ve_var 0) ve_int) ve_int) (va_cons ve_int va_nil))) (va_cons (ve_tup (va_cons ve_bl (va_cons ve_int va_nil))) va_nil)))))))))))))
      (vs_cons (vs_for hp rfl (vi_lst (ve_op o_add (ve_var 2) (ve_fz (vo_lst (va_cons (ve_tup (va_cons ve_int (va_cons (ve_neg ve_int) va_nil))) (va_cons (ve_tup (va_cons ve_int (va_cons (ve_callB c_len rfl T.b_len (by decide +kernel) (va_cons (ve_ix (ve_var 0) ve_int) va_nil)) va_nil))) (va_cons (ve_tup (va_cons ve_int (va_cons ve_non va_nil))) (va_cons (ve_tup (va_cons ve_str (va_cons ve_int va_nil))) (va_cons (ve_tup (va_cons (ve_fz (vo_lst (va_cons ve_int va_nil))) (va_cons ve_int va_nil))) va_nil))))))))) (vg_name (i := 3) S.nd rfl (by first | exact Or.inl rfl | exact Or.inr rfl)) (vs_one (vs_if (vt_not (vt_val (ve_ok C__law_refused hG (hr.mono (by decide)) tk rfl (wa_dat ve_int (wa_dat (ve_var 0) (wa_dat (ve_var 3) (wa_dat ve_int wa_nil))))))) (vs_one (vs_ret ve_bl)) vs_nil)))
      (vs_cons (vs_for hp rfl (vi_lst (ve_fz (vo_lst (va_cons (ve_neg ve_int) (va_cons (ve_callB c_len rfl T.b_len (by decide +kernel) (va_cons (ve_ix (ve_var 0) ve_int) va_nil)) (va_cons ve_non (va_cons ve_bl (va_cons ve_str (va_cons (ve_tup (va_cons ve_int va_nil)) (va_cons (ve_fz (vo_lst (va_cons ve_int va_nil))) va_nil)))))))))) (vg_name (i := 3) S.nd rfl (by first | exact Or.inl rfl | exact Or.inr rfl)) (vs_one (vs_if (vt_w (vw_or (vt_not (vt_val (ve_ok C__law_refused hG (hr.mono (by decide)) tk rfl (wa_dat ve_int (wa_dat (ve_var 0) (wa_dat (ve_var 1) (wa_dat (ve_var 3) wa_nil))))))) (vw_or1 (vt_not (vt_val (ve_ok C__law_refused hG (hr.mono (by decide)) tk rfl (wa_dat ve_int (wa_dat (ve_var 0) (wa_dat (ve_var 3) (wa_dat ve_int wa_nil)))))))))) (vs_one (vs_ret ve_bl)) vs_nil)))
      (vs_cons (vs_for hp rfl (vi_lst (ve_fz (vo_lst (va_cons (ve_neg ve_int) (va_cons (ve_callB c_len rfl T.b_len (by decide +kernel) (va_cons (ve_ix (ve_var 0) ve_int) va_nil)) (va_cons ve_non (va_cons ve_bl (va_cons ve_str (va_cons (ve_tup (va_cons ve_int va_nil)) (va_cons (ve_fz (vo_lst (va_cons ve_int va_nil))) va_nil)))))))))) (vg_name (i := 3) S.nd rfl (by first | exact Or.inl rfl | exact Or.inr rfl)) (vs_one (vs_if (vt_not (vt_val (ve_ok C__law_refused hG (hr.mono (by decide)) tk rfl (wa_dat ve_int (wa_dat (ve_var 0) (wa_dat ve_int (wa_dat (ve_var 3) wa_nil))))))) (vs_one (vs_ret ve_bl)) vs_nil)))
      (vs_one (vs_ret ve_bl))))))
theorem ok_law (T : Tx K mg) {fd : FuncData} (F : FunD K "law" "law" (defArgs s_law) (defBody s_law) (defScope s_law) [] [] (He.ga K "law") fd) (C__law_led : Ok P w K mg base 2 "_law_led" ["coder", "here", "code"] w__law_led) (C__law_next : Ok P w K mg base 1 "_law_next" ["m", "many"] w__law_next) (C__law_parted : Ok P w K mg base 1 "_law_parted" ["number", "by"] w__law_parted) (C__law_wide : Ok P w K mg base 2 "_law_wide" ["m"] w__law_wide) (C__law_wrong_right : Ok P w K mg base 8 "_law_wrong_right" ["coder", "here"] w__law_wrong_right) (C_change_of : Ok P w K mg base 6 "change_of" ["coder", "code", "place"] w_change_of) (C_led_to : Ok P w K mg base 6 "led_to" ["coder", "state", "code"] w_led_to) (ht : ∀ ns : List Int, ns.length ≤ 63 → t_law lawEnd ((startE 9 [.scr ns]).set 1 (some .tok)) 0) : FnG P w K mg base 10 (He.ga K "law") fd ["script"] (spLaw K) := by
  obtain ⟨fdB, FB, bB, kB, gB⟩ := okBegun (P := P) (w := w) (base := base) T
  have S := sc_law
  refine lawG (k := 9) F S (by decide) (fun cdv A outer s H E hg hr => ?_) (fun cdv A outer s H E hg hr => ?_) ht
  · have hG : (cxOf (L2.CX P w) P w K mg base nm_law "law" (defScope s_law) (He.ga K "law") cdv A outer s H E).A.guards = some [] := hg
    have tk := takes_of (X := cxOf (L2.CX P w) P w K mg base nm_law "law" (defScope s_law) (He.ga K "law") cdv A outer s H E) (E := E) rfl rfl rfl rfl
    exact ps_set (i := 1) S.nd rfl (by first | exact Or.inl rfl | exact Or.inr rfl) (pe_callG FB hG (hr.mono (by decide)) tk rfl gB kB bB .nil (pa_cons (pv 0) pa_nil))
  · have hG : (cxOf (L2.CX P w) P w K mg base nm_law "law" (defScope s_law) (He.ga K "law") cdv A outer s H E).A.guards = some [] := hg
    have hu := hr.units
    have tk := takes_of (X := cxOf (L2.CX P w) P w K mg base nm_law "law" (defScope s_law) (He.ga K "law") cdv A outer s H E) (E := E) rfl rfl rfl rfl
    have hp := passes_of (X := cxOf (L2.CX P w) P w K mg base nm_law "law" (defScope s_law) (He.ga K "law") cdv A outer s H E) (K := fun e s2 => L2.CX P w outer H s E e s2) rfl
    exact (vs_cons (vs_for hp rfl (vi_range1 rfl T.b_range (va_cons (ve_op o_add ve_int (ve_callB (c_min2 rfl) rfl T.b_min (by decide +kernel) (va_cons (ve_lenS (k := 0) rfl T.b_len (by decide +kernel)) (va_cons ve_int va_nil)))) va_nil)) (vg_name (i := 2) S.nd rfl (by first | exact Or.inl rfl | exact Or.inr rfl)) (vs_cons (vs_set (i := 3) S.nd rfl (by first | exact Or.inl rfl | exact Or.inr rfl) (ve_ok C__law_wide hG (hr.mono (by decide)) tk rfl (wa_var 1 wa_nil)))
      (vs_cons (vs_set (i := 4) S.nd rfl (by first | exact Or.inl rfl | exact Or.inr rfl) (ve_ix (ve_fz (vo_lst (va_cons (ve_ix (ve_var 3) ve_int) (va_cons (ve_ix (ve_var 3) ve_int) (va_cons (ve_op o_add (ve_ix (ve_var 3) ve_int) (ve_ok C__law_next hG (hr.mono (by decide)) tk rfl (wa_var 1 (wa_dat (ve_op o_add (ve_op o_sub (ve_ix (ve_var 3) ve_int) (ve_ix (ve_var 3) ve_int)) ve_int) wa_nil)))) va_nil))))) (ve_ok C__law_next hG (hr.mono (by decide)) tk rfl (wa_var 1 (wa_dat ve_int wa_nil)))))
      (vs_cons (vs_set (i := 5) S.nd rfl (by first | exact Or.inl rfl | exact Or.inr rfl) (ve_tup (va_cons (ve_var 4) (va_cons (ve_ok C__law_next hG (hr.mono (by decide)) tk rfl (wa_var 1 (wa_dat (ve_callB c_len rfl T.b_len (by decide +kernel) (va_cons (ve_ix (ve_var 3) ve_int) va_nil)) wa_nil))) va_nil))))
      (vs_cons (vs_for hp rfl (vi_enumT rfl T.b_enumerate (va_cons (ve_ix (ve_var 3) ve_int) va_nil)) (vg_tup rfl (vgs_cons (vg_name (i := 6) S.nd rfl (by first | exact Or.inl rfl | exact Or.inr rfl)) (vgs_cons (vg_name (i := 7) S.nd rfl (by first | exact Or.inl rfl | exact Or.inr rfl)) vgs_nil))) (vs_cons (vs_if (vt_cmp (o_ne hu) (ve_callB (c_repr hG hu) rfl T.b_repr (by decide +kernel) (va_cons (ve_ok C_led_to hG (hr.mono (by decide)) tk rfl (wa_dat (ve_var 3) (wa_dat (ve_var 5) (wa_dat (ve_var 6) wa_nil)))) va_nil)) (ve_callB (c_repr hG hu) rfl T.b_repr (by decide +kernel) (va_cons (ve_ok C__law_led hG (hr.mono (by decide)) tk rfl (wa_dat (ve_var 3) (wa_dat (ve_var 5) (wa_dat (ve_var 6) wa_nil)))) va_nil))) (vs_one (vs_ret ve_bl)) vs_nil)
      (vs_cons (vs_set (i := 8) S.nd rfl (by first | exact Or.inl rfl | exact Or.inr rfl) (ve_ok C__law_parted hG (hr.mono (by decide)) tk rfl (wa_dat (ve_op o_mul (ve_ix (ve_var 7) ve_int) (ve_ix (ve_ix (ve_var 3) ve_int) (ve_ix (ve_var 5) ve_int))) (wa_dat ve_int wa_nil))))
      (vs_one (vs_if (vt_cmp (o_ne hu) (ve_callB (c_repr hG hu) rfl T.b_repr (by decide +kernel) (va_cons (ve_ok C_change_of hG (hr.mono (by decide)) tk rfl (wa_dat (ve_var 3) (wa_dat (ve_var 6) (wa_dat (ve_ix (ve_var 5) ve_int) wa_nil)))) va_nil)) (ve_callB (c_repr hG hu) rfl T.b_repr (by decide +kernel) (va_cons (ve_var 8) va_nil))) (vs_one (vs_ret ve_bl)) vs_nil)))))
      (vs_one (vs_if (vt_not (vt_val (ve_ok C__law_wrong_right hG (hr.mono (by decide)) tk rfl (wa_dat (ve_var 3) (wa_dat (ve_var 5) wa_nil))))) (vs_one (vs_ret ve_bl)) vs_nil)))))))
      (vs_one (vs_ret ve_bl)))
end
theorem all_ok {P : Program} {w : World} {K : PySem.W.Frag} {mg : Str → Option Value} {base : Heap} (T : Tx K mg) {fd : FuncData} (F : FunD K "law" "law" (defArgs s_law) (defBody s_law) (defScope s_law) [] [] (He.ga K "law") fd) (ht : ∀ ns : List Int, ns.length ≤ 63 → t_law lawEnd ((startE 9 [.scr ns]).set 1 (some .tok)) 0) : FnG P w K mg base 10 (He.ga K "law") fd ["script"] (spLaw K) := by
  have C__law_next := okNext (P := P) (w := w) (base := base) T
  have Z_OutOfPlace := rz_OutOfPlace (P := P) (w := w) (base := base) T
  have C_is_whole := ok_is_whole (P := P) (w := w) (base := base) T
  have C_cd_is_move := ok_cd_is_move (P := P) (w := w) (base := base) T C_is_whole
  have C_cd_row_fault := ok_cd_row_fault (P := P) (w := w) (base := base) T C_cd_is_move C_is_whole
  have C_coder_fault := ok_coder_fault (P := P) (w := w) (base := base) T C_cd_row_fault C_is_whole
  have C_need_coder := ok_need_coder (P := P) (w := w) (base := base) T C_coder_fault
  have C_is_state := ok_is_state (P := P) (w := w) (base := base) T C_is_whole
  have C_need_state := ok_need_state (P := P) (w := w) (base := base) T C_is_state Z_OutOfPlace
  have C_need_place := ok_need_place (P := P) (w := w) (base := base) T C_is_whole Z_OutOfPlace
  have C_is_code := ok_is_code (P := P) (w := w) (base := base) T C_is_whole
  have C_need_code := ok_need_code (P := P) (w := w) (base := base) T C_is_code Z_OutOfPlace
  have C_divided := ok_divided (P := P) (w := w) (base := base) T
  have C_moved_by := ok_moved_by (P := P) (w := w) (base := base) T C_divided
  have C_change_of := ok_change_of (P := P) (w := w) (base := base) T C_moved_by C_need_code C_need_coder C_need_place
  have C_next_state := ok_next_state (P := P) (w := w) (base := base) T C_divided C_moved_by
  have C_led_to := ok_led_to (P := P) (w := w) (base := base) T C_need_code C_need_coder C_need_state C_next_state
  have C__law_parted := ok__law_parted (P := P) (w := w) (base := base) T
  have C__law_limited := ok__law_limited (P := P) (w := w) (base := base) T
  have C__law_led := ok__law_led (P := P) (w := w) (base := base) T C__law_limited C__law_parted
  have C__law_wide := ok__law_wide (P := P) (w := w) (base := base) T C__law_next
  have C__law_refused := ok__law_refused (P := P) (w := w) (base := base) T C_change_of C_led_to
  have C__law_wrong_right := ok__law_wrong_right (P := P) (w := w) (base := base) T C__law_refused
  exact ok_law T F C__law_led C__law_next C__law_parted C__law_wide C__law_wrong_right C_change_of C_led_to ht
/-! ### the head -/
def e_is_whole : He.DefD := ⟨("is_whole", none), "is_whole", "is_whole", defArgs s_is_whole, defBody s_is_whole, defScope s_is_whole, [], []⟩
def e_cd_is_move : He.DefD := ⟨("cd_is_move", none), "cd_is_move", "cd_is_move", defArgs s_cd_is_move, defBody s_cd_is_move, defScope s_cd_is_move, [], []⟩
def e_cd_row_fault : He.DefD := ⟨("cd_row_fault", none), "cd_row_fault", "cd_row_fault", defArgs s_cd_row_fault, defBody s_cd_row_fault, defScope s_cd_row_fault, [], []⟩
def e_coder_fault : He.DefD := ⟨("coder_fault", none), "coder_fault", "coder_fault", defArgs s_coder_fault, defBody s_coder_fault, defScope s_coder_fault, [], []⟩
def e_need_coder : He.DefD := ⟨("need_coder", none), "need_coder", "need_coder", defArgs s_need_coder, defBody s_need_coder, defScope s_need_coder, [], []⟩
def e_is_state : He.DefD := ⟨("is_state", none), "is_state", "is_state", defArgs s_is_state, defBody s_is_state, defScope s_is_state, [], []⟩
def e_need_state : He.DefD := ⟨("need_state", none), "need_state", "need_state", defArgs s_need_state, defBody s_need_state, defScope s_need_state, [], []⟩
def e_need_place : He.DefD := ⟨("need_place", none), "need_place", "need_place", defArgs s_need_place, defBody s_need_place, defScope s_need_place, [], []⟩
def e_is_code : He.DefD := ⟨("is_code", none), "is_code", "is_code", defArgs s_is_code, defBody s_is_code, defScope s_is_code, [], []⟩
def e_need_code : He.DefD := ⟨("need_code", none), "need_code", "need_code", defArgs s_need_code, defBody s_need_code, defScope s_need_code, [], []⟩
def e_divided : He.DefD := ⟨("divided", none), "divided", "divided", defArgs s_divided, defBody s_divided, defScope s_divided, [], []⟩
def e_moved_by : He.DefD := ⟨("moved_by", none), "moved_by", "moved_by", defArgs s_moved_by, defBody s_moved_by, defScope s_moved_by, [], []⟩
def e_change_of : He.DefD := ⟨("change_of", none), "change_of", "change_of", defArgs s_change_of, defBody s_change_of, defScope s_change_of, [], []⟩
def e_next_state : He.DefD := ⟨("next_state", none), "next_state", "next_state", defArgs s_next_state, defBody s_next_state, defScope s_next_state, [], []⟩
def e_led_to : He.DefD := ⟨("led_to", none), "led_to", "led_to", defArgs s_led_to, defBody s_led_to, defScope s_led_to, [], []⟩
def e__law_begun : He.DefD := ⟨("_law_begun", none), "_law_begun", "_law_begun", defArgs s__law_begun, defBody s__law_begun, defScope s__law_begun, [], []⟩
def e__law_next : He.DefD := ⟨("_law_next", none), "_law_next", "_law_next", defArgs s__law_next, defBody s__law_next, defScope s__law_next, [], []⟩
def e__law_parted : He.DefD := ⟨("_law_parted", none), "_law_parted", "_law_parted", defArgs s__law_parted, defBody s__law_parted, defScope s__law_parted, [], []⟩
def e__law_limited : He.DefD := ⟨("_law_limited", none), "_law_limited", "_law_limited", defArgs s__law_limited, defBody s__law_limited, defScope s__law_limited, [], []⟩
def e__law_led : He.DefD := ⟨("_law_led", none), "_law_led", "_law_led", defArgs s__law_led, defBody s__law_led, defScope s__law_led, [], []⟩
def e__law_wide : He.DefD := ⟨("_law_wide", none), "_law_wide", "_law_wide", defArgs s__law_wide, defBody s__law_wide, defScope s__law_wide, [], []⟩
def e__law_refused : He.DefD := ⟨("_law_refused", none), "_law_refused", "_law_refused", defArgs s__law_refused, defBody s__law_refused, defScope s__law_refused, [], []⟩
def e__law_wrong_right : He.DefD := ⟨("_law_wrong_right", none), "_law_wrong_right", "_law_wrong_right", defArgs s__law_wrong_right, defBody s__law_wrong_right, defScope s__law_wrong_right, [], []⟩
def e_law : He.DefD := ⟨("law", none), "law", "law", defArgs s_law, defBody s_law, defScope s_law, [], []⟩
def e_OutOfPlace : He.DefD := ⟨("OutOfPlace", some "__init__"), "__init__", "OutOfPlace.__init__", defArgs i_OutOfPlace, defBody i_OutOfPlace, defScope i_OutOfPlace, [], []⟩
def fn : List He.DefD := [e_is_whole, e_cd_is_move, e_cd_row_fault, e_coder_fault, e_need_coder, e_is_state, e_need_state, e_need_place, e_is_code, e_need_code, e_divided, e_moved_by, e_change_of, e_next_state, e_led_to, e__law_begun, e__law_next, e__law_parted, e__law_limited, e__law_led, e__law_wide, e__law_refused, e__law_wrong_right, e_law, e_OutOfPlace]
def fa : List He.Fa := [.glo "is_whole", .glo "cd_is_move", .glo "cd_row_fault", .glo "coder_fault", .glo "need_coder", .glo "is_state", .glo "need_state", .glo "need_place", .glo "is_code", .glo "need_code", .glo "divided", .glo "moved_by", .glo "change_of", .glo "next_state", .glo "led_to", .glo "_law_begun", .glo "_law_next", .glo "_law_parted", .glo "_law_limited", .glo "_law_led", .glo "_law_wide", .glo "_law_refused", .glo "_law_wrong_right", .glo "law", .glo "OutOfPlace", .free "bool", .free "enumerate", .free "int", .free "isinstance", .free "len", .free "list", .free "max", .free "min", .free "range", .free "repr", .free "tuple", .int "MOST_STEPS" 16, .int "MOST_MOVES" 16]
def ex (K : PySem.W.Frag) : Bool := kitB K "bool" && (kitB K "int" && (kitB K "tuple" && (rzB K "OutOfPlace" ["text"] && (knB K kn))))
abbrev R : PySem.W.OpenRow := PySem.W.OpenLaw.row PySem.Challenge.rw_stepsound_k04_whole_steps
abbrev hk : PySem.W.Hook := hookX 4 fa fn ex
abbrev ob : PySem.W.SharedT → He.AlD × Bool := obX 4 fa fn ex
def names : List PySem.Str := ([("BadCoder" : PySem.Str), ("OutOfPlace" : PySem.Str), ("MOST_STEPS" : PySem.Str), ("MOST_MOVES" : PySem.Str), ("is_whole" : PySem.Str), ("cd_is_move" : PySem.Str), ("cd_row_fault" : PySem.Str), ("coder_fault" : PySem.Str), ("need_coder" : PySem.Str), ("is_state" : PySem.Str), ("need_state" : PySem.Str), ("need_place" : PySem.Str), ("is_code" : PySem.Str), ("need_code" : PySem.Str), ("divided" : PySem.Str), ("moved_by" : PySem.Str), ("change_of" : PySem.Str), ("next_state" : PySem.Str), ("led_to" : PySem.Str), ("_law_begun" : PySem.Str)] : List PySem.Str) ++ ([("_law_next" : PySem.Str), ("_law_parted" : PySem.Str), ("_law_limited" : PySem.Str), ("_law_led" : PySem.Str), ("_law_wide" : PySem.Str), ("_law_refused" : PySem.Str), ("_law_wrong_right" : PySem.Str)] : List PySem.Str)
theorem run (w : World) : HandSHeadRun.RunEq R (PySem.W.view R.prog [30]) hk ob 6000 names w := by
  intro os
  kernel_rfl
theorem tx {K : PySem.W.Frag} {h : Heap} {mg : Str → Option Value} (X : K.In h) (G : h.Ns mainGlobals mg) (c : He.SaysD fa fn K) (x : ex K = true) : Tx K mg := by
  unfold ex at x
  obtain ⟨x0, x⟩ := He.ba x
  obtain ⟨x1, x⟩ := He.ba x
  obtain ⟨x2, x⟩ := He.ba x
  obtain ⟨x3, x⟩ := He.ba x
  have x4 := x
  constructor
  · exact c.def_ 0 (d := e_is_whole) rfl
  · exact He.glo_ok X G (c.fact 0 (f := .glo "is_whole") rfl)
  · exact c.def_ 1 (d := e_cd_is_move) rfl
  · exact He.glo_ok X G (c.fact 1 (f := .glo "cd_is_move") rfl)
  · exact c.def_ 2 (d := e_cd_row_fault) rfl
  · exact He.glo_ok X G (c.fact 2 (f := .glo "cd_row_fault") rfl)
  · exact c.def_ 3 (d := e_coder_fault) rfl
  · exact He.glo_ok X G (c.fact 3 (f := .glo "coder_fault") rfl)
  · exact c.def_ 4 (d := e_need_coder) rfl
  · exact He.glo_ok X G (c.fact 4 (f := .glo "need_coder") rfl)
  · exact c.def_ 5 (d := e_is_state) rfl
  · exact He.glo_ok X G (c.fact 5 (f := .glo "is_state") rfl)
  · exact c.def_ 6 (d := e_need_state) rfl
  · exact He.glo_ok X G (c.fact 6 (f := .glo "need_state") rfl)
  · exact c.def_ 7 (d := e_need_place) rfl
  · exact He.glo_ok X G (c.fact 7 (f := .glo "need_place") rfl)
  · exact c.def_ 8 (d := e_is_code) rfl
  · exact He.glo_ok X G (c.fact 8 (f := .glo "is_code") rfl)
  · exact c.def_ 9 (d := e_need_code) rfl
  · exact He.glo_ok X G (c.fact 9 (f := .glo "need_code") rfl)
  · exact c.def_ 10 (d := e_divided) rfl
  · exact He.glo_ok X G (c.fact 10 (f := .glo "divided") rfl)
  · exact c.def_ 11 (d := e_moved_by) rfl
  · exact He.glo_ok X G (c.fact 11 (f := .glo "moved_by") rfl)
  · exact c.def_ 12 (d := e_change_of) rfl
  · exact He.glo_ok X G (c.fact 12 (f := .glo "change_of") rfl)
  · exact c.def_ 13 (d := e_next_state) rfl
  · exact He.glo_ok X G (c.fact 13 (f := .glo "next_state") rfl)
  · exact c.def_ 14 (d := e_led_to) rfl
  · exact He.glo_ok X G (c.fact 14 (f := .glo "led_to") rfl)
  · exact c.def_ 15 (d := e__law_begun) rfl
  · exact He.glo_ok X G (c.fact 15 (f := .glo "_law_begun") rfl)
  · exact c.def_ 16 (d := e__law_next) rfl
  · exact He.glo_ok X G (c.fact 16 (f := .glo "_law_next") rfl)
  · exact c.def_ 17 (d := e__law_parted) rfl
  · exact He.glo_ok X G (c.fact 17 (f := .glo "_law_parted") rfl)
  · exact c.def_ 18 (d := e__law_limited) rfl
  · exact He.glo_ok X G (c.fact 18 (f := .glo "_law_limited") rfl)
  · exact c.def_ 19 (d := e__law_led) rfl
  · exact He.glo_ok X G (c.fact 19 (f := .glo "_law_led") rfl)
  · exact c.def_ 20 (d := e__law_wide) rfl
  · exact He.glo_ok X G (c.fact 20 (f := .glo "_law_wide") rfl)
  · exact c.def_ 21 (d := e__law_refused) rfl
  · exact He.glo_ok X G (c.fact 21 (f := .glo "_law_refused") rfl)
  · exact c.def_ 22 (d := e__law_wrong_right) rfl
  · exact He.glo_ok X G (c.fact 22 (f := .glo "_law_wrong_right") rfl)
  · exact c.def_ 23 (d := e_law) rfl
  · exact He.glo_ok X G (c.fact 23 (f := .glo "law") rfl)
  · exact He.glo_ok X G (c.fact 24 (f := .glo "OutOfPlace") rfl)
  · exact x3
  · exact c.def_ 24 (d := e_OutOfPlace) rfl
  · exact knB_ok x4
  · exact He.free_ok X G (c.fact 25 (f := .free "bool") rfl)
  · exact He.free_ok X G (c.fact 26 (f := .free "enumerate") rfl)
  · exact He.free_ok X G (c.fact 27 (f := .free "int") rfl)
  · exact He.free_ok X G (c.fact 28 (f := .free "isinstance") rfl)
  · exact He.free_ok X G (c.fact 29 (f := .free "len") rfl)
  · exact He.free_ok X G (c.fact 30 (f := .free "list") rfl)
  · exact He.free_ok X G (c.fact 31 (f := .free "max") rfl)
  · exact He.free_ok X G (c.fact 32 (f := .free "min") rfl)
  · exact He.free_ok X G (c.fact 33 (f := .free "range") rfl)
  · exact He.free_ok X G (c.fact 34 (f := .free "repr") rfl)
  · exact He.free_ok X G (c.fact 35 (f := .free "tuple") rfl)
  · exact He.int_ok X G (c.fact 36 (f := .int "MOST_STEPS" 16) rfl)
  · exact He.int_ok X G (c.fact 37 (f := .int "MOST_MOVES" 16) rfl)
  · exact kitB_ok x0
  · exact kitB_ok x1
  · exact kitB_ok x2
end LW


set_option maxRecDepth 100000
set_option maxHeartbeats 1000000
namespace LW
open PySem PySem.Spec PyProof.Rows L2 VL
/-! ### the plain side -/
abbrev WK := VL.W → Nat → Prop
def inR (a v b : Int) : Bool := decide (a ≤ v) && decide (v ≤ b)
theorem q_whole (v a b : Int) (n : Nat) (Q : WK) (E : XW) : w_is_whole [.dat (.int v), .dat (.int a), .dat (.int b)] n Q E ↔ Q (.dat (.bool (inR a v b))) n := by
  simp only [wd_is_whole, t_is_whole, inR, bodyV, startE, vSeq, vNext, vIfS, vRet, vRetN, vRetV, vSet, vSetO, vDrop, vAsg, gT, gsC, gsN, gN, vPar, vVar, vC, vOp, vUn, dNeg, vTest, isB, vAnd, vOr, vNot, vAndV, vOrV, vNotV, vIf, vIfT, vChain, vNil, vCons, vTup, vLst, vFz, vCall, vCallO, vCallS, rOf, wNil, wDat, wVar, vCB, vCO, dAdd, dSub, dMul, dDiv, dMod, dLt, dLe, dGt, dGe, dIs, dIsNot, isNoneD, dIx, vIsi, isi_int, isi_intb, isi_tup, dEqI, dNeI, at0, at1, at2, at3, at4, bLen, bMin2, bMax2, bAbs, bInt, bTuple, vFor, iT, iL, iET, iEL, itemsT, itemsL, iR1, iR2, rng1, rng2, vSl, dSl, pN, pS, vFrz, vAppend, vIxO, vLenO, vLenS, vYes, vLc, noOwn, wipeE, gN, Int.reduceEq, decide_true, decide_false, eq_self, Int.reduceNeg, Int.cast_ofNat_Int, reduceCtorEq, List.length_cons, List.length_nil, List.map_cons, List.map_nil, List.replicate, List.cons_append, List.nil_append, List.append_nil, List.getElem?_cons_zero, List.getElem?_cons_succ, List.set_cons_zero, List.set_cons_succ, Nat.reduceAdd, Nat.reduceSub, Nat.reduceEqDiff, Nat.zero_add, true_and, and_true, Bool.not_true, Bool.not_false, Bool.true_and, Bool.and_true, Bool.false_and, Bool.or_false, Bool.false_or, Bool.or_true, Bool.true_or, if_true, if_false, Bool.false_eq_true, ↓reduceIte]
  cases decide (a ≤ v) <;> simp
def mvD (p : Int × Int) : Dt := .tuple [.int p.1, .int p.2]
def stD (p : Int × Int) : Dt := .tuple [.int p.1, .int p.2]
theorem q_move (p : Int × Int) (n : Nat) (Q : WK) (E : XW) : w_cd_is_move [.dat (mvD p)] n Q E ↔ Q (.dat (.bool (inR (-32) p.1 32 && inR (-15) p.2 15))) n := by
  simp only [wd_cd_is_move, t_cd_is_move, mvD, q_whole, bodyV, startE, vSeq, vNext, vIfS, vRet, vRetN, vRetV, vSet, vSetO, vDrop, vAsg, gT, gsC, gsN, gN, vPar, vVar, vC, vOp, vUn, dNeg, vTest, isB, vAnd, vOr, vNot, vAndV, vOrV, vNotV, vIf, vIfT, vChain, vNil, vCons, vTup, vLst, vFz, vCall, vCallO, vCallS, rOf, wNil, wDat, wVar, vCB, vCO, dAdd, dSub, dMul, dDiv, dMod, dLt, dLe, dGt, dGe, dIs, dIsNot, isNoneD, dIx, vIsi, isi_int, isi_intb, isi_tup, dEqI, dNeI, at0, at1, at2, at3, at4, bLen, bMin2, bMax2, bAbs, bInt, bTuple, vFor, iT, iL, iET, iEL, itemsT, itemsL, iR1, iR2, rng1, rng2, vSl, dSl, pN, pS, vFrz, vAppend, vIxO, vLenO, vLenS, vYes, vLc, noOwn, wipeE, gN, Int.reduceEq, decide_true, decide_false, eq_self, Int.reduceNeg, Int.cast_ofNat_Int, reduceCtorEq, List.length_cons, List.length_nil, List.map_cons, List.map_nil, List.replicate, List.cons_append, List.nil_append, List.append_nil, List.getElem?_cons_zero, List.getElem?_cons_succ, List.set_cons_zero, List.set_cons_succ, Nat.reduceAdd, Nat.reduceSub, Nat.reduceEqDiff, Nat.zero_add, true_and, and_true, Bool.not_true, Bool.not_false, Bool.true_and, Bool.and_true, Bool.false_and, Bool.or_false, Bool.false_or, Bool.or_true, Bool.true_or, if_true, if_false, Bool.false_eq_true, ↓reduceIte]
  cases inR (-32) p.1 32 <;> simp
structure Cd where
  low : Int
  high : Int
  steps : List Int
  moves : List (Int × Int)
  fade : Int
def Cd.d (c : Cd) : Dt := .tuple [.int c.low, .int c.high, .tuple (c.steps.map .int), .tuple (c.moves.map mvD), .int c.fade]
structure Cd.Ok (c : Cd) : Prop where
  l0 : -32768 ≤ c.low
  l1 : c.low ≤ 0
  h0 : 0 ≤ c.high
  h1 : c.high ≤ 32767
  s0 : 1 ≤ c.steps.length
  s1 : c.steps.length ≤ 16
  sv : ∀ s ∈ c.steps, 1 ≤ s ∧ s ≤ 9999
  m0 : 2 ≤ c.moves.length
  m1 : c.moves.length ≤ 16
  mv : ∀ p ∈ c.moves, -32 ≤ p.1 ∧ p.1 ≤ 32 ∧ -15 ≤ p.2 ∧ p.2 ≤ 15
  f : c.fade = 0 ∨ 2 ≤ c.fade ∧ c.fade ≤ 99
theorem q_steps_loop (V : VN) (x2 x3 : Option VL.W) (r : Option VL.W) (n : Nat) : ∀ (ds : List Dt) (x4 x5 : Option VL.W), (∀ d ∈ ds, ∃ k s : Int, d = .tuple [.int k, .int s] ∧ 1 ≤ s ∧ s ≤ 9999) → (∀ x4 x5, V.nx [some (.dat (.str "steps")), r, x2, x3, x4, x5] n) →
    vLoop (gT 2 (gsC (gN 4) (gsC (gN 5) gsN))) b_cd_row_fault_0 V ds [some (.dat (.str "steps")), r, x2, x3, x4, x5] n
  | [], x4, x5, _, h => h _ _
  | d :: ds, x4, x5, hd, h => by
    obtain ⟨k, s, rfl, h1, h2⟩ := hd d (by simp)
    have ih := q_steps_loop V x2 x3 r n ds (some (.dat (.int k))) (some (.dat (.int s))) (fun d hd' => hd d (by simp [hd'])) h
    rw [loop_cons]
    generalize vLoop (gT 2 (gsC (gN 4) (gsC (gN 5) gsN))) b_cd_row_fault_0 V ds = L at ih ⊢
    have e : inR 1 s 9999 = true := by simp [inR, h1, h2]
    have e2 : ((Str.ofString "steps") == (Str.ofString "steps")) = true := by decide +kernel
    simp only [b_cd_row_fault_0, q_whole, e, dEqS, e2, bodyV, startE, vSeq, vNext, vIfS, vRet, vRetN, vRetV, vSet, vSetO, vDrop, vAsg, gT, gsC, gsN, gN, vPar, vVar, vC, vOp, vUn, dNeg, vTest, isB, vAnd, vOr, vNot, vAndV, vOrV, vNotV, vIf, vIfT, vChain, vNil, vCons, vTup, vLst, vFz, vCall, vCallO, vCallS, rOf, wNil, wDat, wVar, vCB, vCO, dAdd, dSub, dMul, dDiv, dMod, dLt, dLe, dGt, dGe, dIs, dIsNot, isNoneD, dIx, vIsi, isi_int, isi_intb, isi_tup, dEqI, dNeI, at0, at1, at2, at3, at4, bLen, bMin2, bMax2, bAbs, bInt, bTuple, vFor, iT, iL, iET, iEL, itemsT, itemsL, iR1, iR2, rng1, rng2, vSl, dSl, pN, pS, vFrz, vAppend, vIxO, vLenO, vLenS, vYes, vLc, noOwn, wipeE, gN, Int.reduceEq, decide_true, decide_false, eq_self, Int.reduceNeg, Int.cast_ofNat_Int, reduceCtorEq, List.length_cons, List.length_nil, List.map_cons, List.map_nil, List.replicate, List.cons_append, List.nil_append, List.append_nil, List.getElem?_cons_zero, List.getElem?_cons_succ, List.set_cons_zero, List.set_cons_succ, Nat.reduceAdd, Nat.reduceSub, Nat.reduceEqDiff, Nat.zero_add, true_and, and_true, Bool.not_true, Bool.not_false, Bool.true_and, Bool.and_true, Bool.false_and, Bool.or_false, Bool.false_or, Bool.or_true, Bool.true_or, if_true, if_false, Bool.false_eq_true, ↓reduceIte]
    exact ih
theorem q_moves_loop (V : VN) (x2 x3 : Option VL.W) (r : Option VL.W) (n : Nat) : ∀ (ds : List Dt) (x4 x5 : Option VL.W), (∀ d ∈ ds, ∃ (k : Int) (p : Int × Int), d = .tuple [.int k, mvD p] ∧ -32 ≤ p.1 ∧ p.1 ≤ 32 ∧ -15 ≤ p.2 ∧ p.2 ≤ 15) → (∀ x4 x5, V.nx [some (.dat (.str "moves")), r, x2, x3, x4, x5] n) →
    vLoop (gT 2 (gsC (gN 4) (gsC (gN 5) gsN))) b_cd_row_fault_0 V ds [some (.dat (.str "moves")), r, x2, x3, x4, x5] n
  | [], x4, x5, _, h => h _ _
  | d :: ds, x4, x5, hd, h => by
    obtain ⟨k, p, rfl, h1, h2, h3, h4⟩ := hd d (by simp)
    have ih := q_moves_loop V x2 x3 r n ds (some (.dat (.int k))) (some (.dat (mvD p))) (fun d hd' => hd d (by simp [hd'])) h
    rw [loop_cons]
    generalize vLoop (gT 2 (gsC (gN 4) (gsC (gN 5) gsN))) b_cd_row_fault_0 V ds = L at ih ⊢
    have e : (inR (-32) p.1 32 && inR (-15) p.2 15) = true := by simp [inR, h1, h2, h3, h4]
    have e2 : ((Str.ofString "moves") == (Str.ofString "steps")) = false := by decide +kernel
    simp only [b_cd_row_fault_0, q_move, e, dEqS, e2, bodyV, startE, vSeq, vNext, vIfS, vRet, vRetN, vRetV, vSet, vSetO, vDrop, vAsg, gT, gsC, gsN, gN, vPar, vVar, vC, vOp, vUn, dNeg, vTest, isB, vAnd, vOr, vNot, vAndV, vOrV, vNotV, vIf, vIfT, vChain, vNil, vCons, vTup, vLst, vFz, vCall, vCallO, vCallS, rOf, wNil, wDat, wVar, vCB, vCO, dAdd, dSub, dMul, dDiv, dMod, dLt, dLe, dGt, dGe, dIs, dIsNot, isNoneD, dIx, vIsi, isi_int, isi_intb, isi_tup, dEqI, dNeI, at0, at1, at2, at3, at4, bLen, bMin2, bMax2, bAbs, bInt, bTuple, vFor, iT, iL, iET, iEL, itemsT, itemsL, iR1, iR2, rng1, rng2, vSl, dSl, pN, pS, vFrz, vAppend, vIxO, vLenO, vLenS, vYes, vLc, noOwn, wipeE, gN, Int.reduceEq, decide_true, decide_false, eq_self, Int.reduceNeg, Int.cast_ofNat_Int, reduceCtorEq, List.length_cons, List.length_nil, List.map_cons, List.map_nil, List.replicate, List.cons_append, List.nil_append, List.append_nil, List.getElem?_cons_zero, List.getElem?_cons_succ, List.set_cons_zero, List.set_cons_succ, Nat.reduceAdd, Nat.reduceSub, Nat.reduceEqDiff, Nat.zero_add, true_and, and_true, Bool.not_true, Bool.not_false, Bool.true_and, Bool.and_true, Bool.false_and, Bool.or_false, Bool.false_or, Bool.or_true, Bool.true_or, if_true, if_false, Bool.false_eq_true, ↓reduceIte]
    exact ih
theorem q_rowS (xs : List Int) (hl : 1 ≤ xs.length) (hu : xs.length ≤ 16) (hv : ∀ s ∈ xs, 1 ≤ s ∧ s ≤ 9999) (n : Nat) (Q : WK) (E : XW) (q : Q (.dat .none) n) : w_cd_row_fault [.dat (.str "steps"), .dat (.tuple (xs.map .int)), .dat (.int 1), .dat (.int 16)] n Q E := by
  have e1 : decide ((1 : Int) ≤ (xs.length : Int)) = true := decide_eq_true (by omega)
  have e2 : decide ((xs.length : Int) ≤ 16) = true := decide_eq_true (by omega)
  simp only [wd_cd_row_fault, t_cd_row_fault, List.length_map, e1, e2, bodyV, startE, vSeq, vNext, vIfS, vRet, vRetN, vRetV, vSet, vSetO, vDrop, vAsg, gT, gsC, gsN, gN, vPar, vVar, vC, vOp, vUn, dNeg, vTest, isB, vAnd, vOr, vNot, vAndV, vOrV, vNotV, vIf, vIfT, vChain, vNil, vCons, vTup, vLst, vFz, vCall, vCallO, vCallS, rOf, wNil, wDat, wVar, vCB, vCO, dAdd, dSub, dMul, dDiv, dMod, dLt, dLe, dGt, dGe, dIs, dIsNot, isNoneD, dIx, vIsi, isi_int, isi_intb, isi_tup, dEqI, dNeI, at0, at1, at2, at3, at4, bLen, bMin2, bMax2, bAbs, bInt, bTuple, vFor, iT, iL, iET, iEL, itemsT, itemsL, iR1, iR2, rng1, rng2, vSl, dSl, pN, pS, vFrz, vAppend, vIxO, vLenO, vLenS, vYes, vLc, noOwn, wipeE, gN, Int.reduceEq, decide_true, decide_false, eq_self, Int.reduceNeg, Int.cast_ofNat_Int, reduceCtorEq, List.length_cons, List.length_nil, List.map_cons, List.map_nil, List.replicate, List.cons_append, List.nil_append, List.append_nil, List.getElem?_cons_zero, List.getElem?_cons_succ, List.set_cons_zero, List.set_cons_succ, Nat.reduceAdd, Nat.reduceSub, Nat.reduceEqDiff, Nat.zero_add, true_and, and_true, Bool.not_true, Bool.not_false, Bool.true_and, Bool.and_true, Bool.false_and, Bool.or_false, Bool.false_or, Bool.or_true, Bool.true_or, if_true, if_false, Bool.false_eq_true, ↓reduceIte]
  refine q_steps_loop _ _ _ _ _ _ _ _ (fun d hd => ?_) (fun _ _ => q)
  obtain ⟨k, x, hx, rfl⟩ := mem_enumD hd
  obtain ⟨s, hs, rfl⟩ := List.mem_map.mp hx
  exact ⟨k, s, rfl, hv s hs⟩
theorem q_rowM (xs : List (Int × Int)) (hl : 2 ≤ xs.length) (hu : xs.length ≤ 16) (hv : ∀ p ∈ xs, -32 ≤ p.1 ∧ p.1 ≤ 32 ∧ -15 ≤ p.2 ∧ p.2 ≤ 15) (n : Nat) (Q : WK) (E : XW) (q : Q (.dat .none) n) : w_cd_row_fault [.dat (.str "moves"), .dat (.tuple (xs.map mvD)), .dat (.int 2), .dat (.int 16)] n Q E := by
  have e1 : decide ((2 : Int) ≤ (xs.length : Int)) = true := decide_eq_true (by omega)
  have e2 : decide ((xs.length : Int) ≤ 16) = true := decide_eq_true (by omega)
  simp only [wd_cd_row_fault, t_cd_row_fault, List.length_map, e1, e2, bodyV, startE, vSeq, vNext, vIfS, vRet, vRetN, vRetV, vSet, vSetO, vDrop, vAsg, gT, gsC, gsN, gN, vPar, vVar, vC, vOp, vUn, dNeg, vTest, isB, vAnd, vOr, vNot, vAndV, vOrV, vNotV, vIf, vIfT, vChain, vNil, vCons, vTup, vLst, vFz, vCall, vCallO, vCallS, rOf, wNil, wDat, wVar, vCB, vCO, dAdd, dSub, dMul, dDiv, dMod, dLt, dLe, dGt, dGe, dIs, dIsNot, isNoneD, dIx, vIsi, isi_int, isi_intb, isi_tup, dEqI, dNeI, at0, at1, at2, at3, at4, bLen, bMin2, bMax2, bAbs, bInt, bTuple, vFor, iT, iL, iET, iEL, itemsT, itemsL, iR1, iR2, rng1, rng2, vSl, dSl, pN, pS, vFrz, vAppend, vIxO, vLenO, vLenS, vYes, vLc, noOwn, wipeE, gN, Int.reduceEq, decide_true, decide_false, eq_self, Int.reduceNeg, Int.cast_ofNat_Int, reduceCtorEq, List.length_cons, List.length_nil, List.map_cons, List.map_nil, List.replicate, List.cons_append, List.nil_append, List.append_nil, List.getElem?_cons_zero, List.getElem?_cons_succ, List.set_cons_zero, List.set_cons_succ, Nat.reduceAdd, Nat.reduceSub, Nat.reduceEqDiff, Nat.zero_add, true_and, and_true, Bool.not_true, Bool.not_false, Bool.true_and, Bool.and_true, Bool.false_and, Bool.or_false, Bool.false_or, Bool.or_true, Bool.true_or, if_true, if_false, Bool.false_eq_true, ↓reduceIte]
  refine q_moves_loop _ _ _ _ _ _ _ _ (fun d hd => ?_) (fun _ _ => q)
  obtain ⟨k, x, hx, rfl⟩ := mem_enumD hd
  obtain ⟨s, hs, rfl⟩ := List.mem_map.mp hx
  exact ⟨k, s, rfl, hv s hs⟩
theorem q_coder (c : Cd) (h : c.Ok) (n : Nat) (Q : WK) (E : XW) (q : Q (.dat .none) n) : w_coder_fault [.dat c.d] n Q E := by
  have e1 : inR (-32768) c.low 0 = true := by simp [inR, h.l0, h.l1]
  have e2 : inR 0 c.high 32767 = true := by simp [inR, h.h0, h.h1]
  rw [wd_coder_fault]
  refine body_at rfl ?_
  unfold t_coder_fault
  apply seq_at
  · intro N hN; simp only [Cd.d, bodyV, startE, vSeq, vNext, vIfS, vRet, vRetN, vRetV, vSet, vSetO, vDrop, vAsg, gT, gsC, gsN, gN, vPar, vVar, vC, vOp, vUn, dNeg, vTest, isB, vAnd, vOr, vNot, vAndV, vOrV, vNotV, vIf, vIfT, vChain, vNil, vCons, vTup, vLst, vFz, vCall, vCallO, vCallS, rOf, wNil, wDat, wVar, vCB, vCO, dAdd, dSub, dMul, dDiv, dMod, dLt, dLe, dGt, dGe, dIs, dIsNot, isNoneD, dIx, vIsi, isi_int, isi_intb, isi_tup, dEqI, dNeI, at0, at1, at2, at3, at4, bLen, bMin2, bMax2, bAbs, bInt, bTuple, vFor, iT, iL, iET, iEL, itemsT, itemsL, iR1, iR2, rng1, rng2, vSl, dSl, pN, pS, vFrz, vAppend, vIxO, vLenO, vLenS, vYes, vLc, noOwn, wipeE, gN, Int.reduceEq, decide_true, decide_false, eq_self, Int.reduceNeg, Int.cast_ofNat_Int, reduceCtorEq, List.length_cons, List.length_nil, List.map_cons, List.map_nil, List.replicate, List.cons_append, List.nil_append, List.append_nil, List.getElem?_cons_zero, List.getElem?_cons_succ, List.set_cons_zero, List.set_cons_succ, Nat.reduceAdd, Nat.reduceSub, Nat.reduceEqDiff, Nat.zero_add, true_and, and_true, Bool.not_true, Bool.not_false, Bool.true_and, Bool.and_true, Bool.false_and, Bool.or_false, Bool.false_or, Bool.or_true, Bool.true_or, if_true, if_false, Bool.false_eq_true, ↓reduceIte]; exact hN
  apply seq_at
  · intro N hN; simp only [Cd.d, bodyV, startE, vSeq, vNext, vIfS, vRet, vRetN, vRetV, vSet, vSetO, vDrop, vAsg, gT, gsC, gsN, gN, vPar, vVar, vC, vOp, vUn, dNeg, vTest, isB, vAnd, vOr, vNot, vAndV, vOrV, vNotV, vIf, vIfT, vChain, vNil, vCons, vTup, vLst, vFz, vCall, vCallO, vCallS, rOf, wNil, wDat, wVar, vCB, vCO, dAdd, dSub, dMul, dDiv, dMod, dLt, dLe, dGt, dGe, dIs, dIsNot, isNoneD, dIx, vIsi, isi_int, isi_intb, isi_tup, dEqI, dNeI, at0, at1, at2, at3, at4, bLen, bMin2, bMax2, bAbs, bInt, bTuple, vFor, iT, iL, iET, iEL, itemsT, itemsL, iR1, iR2, rng1, rng2, vSl, dSl, pN, pS, vFrz, vAppend, vIxO, vLenO, vLenS, vYes, vLc, noOwn, wipeE, gN, Int.reduceEq, decide_true, decide_false, eq_self, Int.reduceNeg, Int.cast_ofNat_Int, reduceCtorEq, List.length_cons, List.length_nil, List.map_cons, List.map_nil, List.replicate, List.cons_append, List.nil_append, List.append_nil, List.getElem?_cons_zero, List.getElem?_cons_succ, List.set_cons_zero, List.set_cons_succ, Nat.reduceAdd, Nat.reduceSub, Nat.reduceEqDiff, Nat.zero_add, true_and, and_true, Bool.not_true, Bool.not_false, Bool.true_and, Bool.and_true, Bool.false_and, Bool.or_false, Bool.false_or, Bool.or_true, Bool.true_or, if_true, if_false, Bool.false_eq_true, ↓reduceIte]; exact hN
  apply seq_at
  · intro N hN; simp only [q_whole, e1, bodyV, startE, vSeq, vNext, vIfS, vRet, vRetN, vRetV, vSet, vSetO, vDrop, vAsg, gT, gsC, gsN, gN, vPar, vVar, vC, vOp, vUn, dNeg, vTest, isB, vAnd, vOr, vNot, vAndV, vOrV, vNotV, vIf, vIfT, vChain, vNil, vCons, vTup, vLst, vFz, vCall, vCallO, vCallS, rOf, wNil, wDat, wVar, vCB, vCO, dAdd, dSub, dMul, dDiv, dMod, dLt, dLe, dGt, dGe, dIs, dIsNot, isNoneD, dIx, vIsi, isi_int, isi_intb, isi_tup, dEqI, dNeI, at0, at1, at2, at3, at4, bLen, bMin2, bMax2, bAbs, bInt, bTuple, vFor, iT, iL, iET, iEL, itemsT, itemsL, iR1, iR2, rng1, rng2, vSl, dSl, pN, pS, vFrz, vAppend, vIxO, vLenO, vLenS, vYes, vLc, noOwn, wipeE, gN, Int.reduceEq, decide_true, decide_false, eq_self, Int.reduceNeg, Int.cast_ofNat_Int, reduceCtorEq, List.length_cons, List.length_nil, List.map_cons, List.map_nil, List.replicate, List.cons_append, List.nil_append, List.append_nil, List.getElem?_cons_zero, List.getElem?_cons_succ, List.set_cons_zero, List.set_cons_succ, Nat.reduceAdd, Nat.reduceSub, Nat.reduceEqDiff, Nat.zero_add, true_and, and_true, Bool.not_true, Bool.not_false, Bool.true_and, Bool.and_true, Bool.false_and, Bool.or_false, Bool.false_or, Bool.or_true, Bool.true_or, if_true, if_false, Bool.false_eq_true, ↓reduceIte]; exact hN
  apply seq_at
  · intro N hN; simp only [q_whole, e2, bodyV, startE, vSeq, vNext, vIfS, vRet, vRetN, vRetV, vSet, vSetO, vDrop, vAsg, gT, gsC, gsN, gN, vPar, vVar, vC, vOp, vUn, dNeg, vTest, isB, vAnd, vOr, vNot, vAndV, vOrV, vNotV, vIf, vIfT, vChain, vNil, vCons, vTup, vLst, vFz, vCall, vCallO, vCallS, rOf, wNil, wDat, wVar, vCB, vCO, dAdd, dSub, dMul, dDiv, dMod, dLt, dLe, dGt, dGe, dIs, dIsNot, isNoneD, dIx, vIsi, isi_int, isi_intb, isi_tup, dEqI, dNeI, at0, at1, at2, at3, at4, bLen, bMin2, bMax2, bAbs, bInt, bTuple, vFor, iT, iL, iET, iEL, itemsT, itemsL, iR1, iR2, rng1, rng2, vSl, dSl, pN, pS, vFrz, vAppend, vIxO, vLenO, vLenS, vYes, vLc, noOwn, wipeE, gN, Int.reduceEq, decide_true, decide_false, eq_self, Int.reduceNeg, Int.cast_ofNat_Int, reduceCtorEq, List.length_cons, List.length_nil, List.map_cons, List.map_nil, List.replicate, List.cons_append, List.nil_append, List.append_nil, List.getElem?_cons_zero, List.getElem?_cons_succ, List.set_cons_zero, List.set_cons_succ, Nat.reduceAdd, Nat.reduceSub, Nat.reduceEqDiff, Nat.zero_add, true_and, and_true, Bool.not_true, Bool.not_false, Bool.true_and, Bool.and_true, Bool.false_and, Bool.or_false, Bool.false_or, Bool.or_true, Bool.true_or, if_true, if_false, Bool.false_eq_true, ↓reduceIte]; exact hN
  apply seq_at
  · intro N hN; simp only [bodyV, startE, vSeq, vNext, vIfS, vRet, vRetN, vRetV, vSet, vSetO, vDrop, vAsg, gT, gsC, gsN, gN, vPar, vVar, vC, vOp, vUn, dNeg, vTest, isB, vAnd, vOr, vNot, vAndV, vOrV, vNotV, vIf, vIfT, vChain, vNil, vCons, vTup, vLst, vFz, vCall, vCallO, vCallS, rOf, wNil, wDat, wVar, vCB, vCO, dAdd, dSub, dMul, dDiv, dMod, dLt, dLe, dGt, dGe, dIs, dIsNot, isNoneD, dIx, vIsi, isi_int, isi_intb, isi_tup, dEqI, dNeI, at0, at1, at2, at3, at4, bLen, bMin2, bMax2, bAbs, bInt, bTuple, vFor, iT, iL, iET, iEL, itemsT, itemsL, iR1, iR2, rng1, rng2, vSl, dSl, pN, pS, vFrz, vAppend, vIxO, vLenO, vLenS, vYes, vLc, noOwn, wipeE, gN, Int.reduceEq, decide_true, decide_false, eq_self, Int.reduceNeg, Int.cast_ofNat_Int, reduceCtorEq, List.length_cons, List.length_nil, List.map_cons, List.map_nil, List.replicate, List.cons_append, List.nil_append, List.append_nil, List.getElem?_cons_zero, List.getElem?_cons_succ, List.set_cons_zero, List.set_cons_succ, Nat.reduceAdd, Nat.reduceSub, Nat.reduceEqDiff, Nat.zero_add, true_and, and_true, Bool.not_true, Bool.not_false, Bool.true_and, Bool.and_true, Bool.false_and, Bool.or_false, Bool.false_or, Bool.or_true, Bool.true_or, if_true, if_false, Bool.false_eq_true, ↓reduceIte]; refine q_rowS _ h.s0 h.s1 h.sv _ _ _ ?_; simp only [bodyV, startE, vSeq, vNext, vIfS, vRet, vRetN, vRetV, vSet, vSetO, vDrop, vAsg, gT, gsC, gsN, gN, vPar, vVar, vC, vOp, vUn, dNeg, vTest, isB, vAnd, vOr, vNot, vAndV, vOrV, vNotV, vIf, vIfT, vChain, vNil, vCons, vTup, vLst, vFz, vCall, vCallO, vCallS, rOf, wNil, wDat, wVar, vCB, vCO, dAdd, dSub, dMul, dDiv, dMod, dLt, dLe, dGt, dGe, dIs, dIsNot, isNoneD, dIx, vIsi, isi_int, isi_intb, isi_tup, dEqI, dNeI, at0, at1, at2, at3, at4, bLen, bMin2, bMax2, bAbs, bInt, bTuple, vFor, iT, iL, iET, iEL, itemsT, itemsL, iR1, iR2, rng1, rng2, vSl, dSl, pN, pS, vFrz, vAppend, vIxO, vLenO, vLenS, vYes, vLc, noOwn, wipeE, gN, Int.reduceEq, decide_true, decide_false, eq_self, Int.reduceNeg, Int.cast_ofNat_Int, reduceCtorEq, List.length_cons, List.length_nil, List.map_cons, List.map_nil, List.replicate, List.cons_append, List.nil_append, List.append_nil, List.getElem?_cons_zero, List.getElem?_cons_succ, List.set_cons_zero, List.set_cons_succ, Nat.reduceAdd, Nat.reduceSub, Nat.reduceEqDiff, Nat.zero_add, true_and, and_true, Bool.not_true, Bool.not_false, Bool.true_and, Bool.and_true, Bool.false_and, Bool.or_false, Bool.false_or, Bool.or_true, Bool.true_or, if_true, if_false, Bool.false_eq_true, ↓reduceIte]; exact hN
  apply seq_at
  · intro N hN; simp only [bodyV, startE, vSeq, vNext, vIfS, vRet, vRetN, vRetV, vSet, vSetO, vDrop, vAsg, gT, gsC, gsN, gN, vPar, vVar, vC, vOp, vUn, dNeg, vTest, isB, vAnd, vOr, vNot, vAndV, vOrV, vNotV, vIf, vIfT, vChain, vNil, vCons, vTup, vLst, vFz, vCall, vCallO, vCallS, rOf, wNil, wDat, wVar, vCB, vCO, dAdd, dSub, dMul, dDiv, dMod, dLt, dLe, dGt, dGe, dIs, dIsNot, isNoneD, dIx, vIsi, isi_int, isi_intb, isi_tup, dEqI, dNeI, at0, at1, at2, at3, at4, bLen, bMin2, bMax2, bAbs, bInt, bTuple, vFor, iT, iL, iET, iEL, itemsT, itemsL, iR1, iR2, rng1, rng2, vSl, dSl, pN, pS, vFrz, vAppend, vIxO, vLenO, vLenS, vYes, vLc, noOwn, wipeE, gN, Int.reduceEq, decide_true, decide_false, eq_self, Int.reduceNeg, Int.cast_ofNat_Int, reduceCtorEq, List.length_cons, List.length_nil, List.map_cons, List.map_nil, List.replicate, List.cons_append, List.nil_append, List.append_nil, List.getElem?_cons_zero, List.getElem?_cons_succ, List.set_cons_zero, List.set_cons_succ, Nat.reduceAdd, Nat.reduceSub, Nat.reduceEqDiff, Nat.zero_add, true_and, and_true, Bool.not_true, Bool.not_false, Bool.true_and, Bool.and_true, Bool.false_and, Bool.or_false, Bool.false_or, Bool.or_true, Bool.true_or, if_true, if_false, Bool.false_eq_true, ↓reduceIte]; refine q_rowM _ h.m0 h.m1 h.mv _ _ _ ?_; simp only [bodyV, startE, vSeq, vNext, vIfS, vRet, vRetN, vRetV, vSet, vSetO, vDrop, vAsg, gT, gsC, gsN, gN, vPar, vVar, vC, vOp, vUn, dNeg, vTest, isB, vAnd, vOr, vNot, vAndV, vOrV, vNotV, vIf, vIfT, vChain, vNil, vCons, vTup, vLst, vFz, vCall, vCallO, vCallS, rOf, wNil, wDat, wVar, vCB, vCO, dAdd, dSub, dMul, dDiv, dMod, dLt, dLe, dGt, dGe, dIs, dIsNot, isNoneD, dIx, vIsi, isi_int, isi_intb, isi_tup, dEqI, dNeI, at0, at1, at2, at3, at4, bLen, bMin2, bMax2, bAbs, bInt, bTuple, vFor, iT, iL, iET, iEL, itemsT, itemsL, iR1, iR2, rng1, rng2, vSl, dSl, pN, pS, vFrz, vAppend, vIxO, vLenO, vLenS, vYes, vLc, noOwn, wipeE, gN, Int.reduceEq, decide_true, decide_false, eq_self, Int.reduceNeg, Int.cast_ofNat_Int, reduceCtorEq, List.length_cons, List.length_nil, List.map_cons, List.map_nil, List.replicate, List.cons_append, List.nil_append, List.append_nil, List.getElem?_cons_zero, List.getElem?_cons_succ, List.set_cons_zero, List.set_cons_succ, Nat.reduceAdd, Nat.reduceSub, Nat.reduceEqDiff, Nat.zero_add, true_and, and_true, Bool.not_true, Bool.not_false, Bool.true_and, Bool.and_true, Bool.false_and, Bool.or_false, Bool.false_or, Bool.or_true, Bool.true_or, if_true, if_false, Bool.false_eq_true, ↓reduceIte]; exact hN
  apply seq_at
  · intro N hN
    simp only [q_whole, bodyV, startE, vSeq, vNext, vIfS, vRet, vRetN, vRetV, vSet, vSetO, vDrop, vAsg, gT, gsC, gsN, gN, vPar, vVar, vC, vOp, vUn, dNeg, vTest, isB, vAnd, vOr, vNot, vAndV, vOrV, vNotV, vIf, vIfT, vChain, vNil, vCons, vTup, vLst, vFz, vCall, vCallO, vCallS, rOf, wNil, wDat, wVar, vCB, vCO, dAdd, dSub, dMul, dDiv, dMod, dLt, dLe, dGt, dGe, dIs, dIsNot, isNoneD, dIx, vIsi, isi_int, isi_intb, isi_tup, dEqI, dNeI, at0, at1, at2, at3, at4, bLen, bMin2, bMax2, bAbs, bInt, bTuple, vFor, iT, iL, iET, iEL, itemsT, itemsL, iR1, iR2, rng1, rng2, vSl, dSl, pN, pS, vFrz, vAppend, vIxO, vLenO, vLenS, vYes, vLc, noOwn, wipeE, gN, Int.reduceEq, decide_true, decide_false, eq_self, Int.reduceNeg, Int.cast_ofNat_Int, reduceCtorEq, List.length_cons, List.length_nil, List.map_cons, List.map_nil, List.replicate, List.cons_append, List.nil_append, List.append_nil, List.getElem?_cons_zero, List.getElem?_cons_succ, List.set_cons_zero, List.set_cons_succ, Nat.reduceAdd, Nat.reduceSub, Nat.reduceEqDiff, Nat.zero_add, true_and, and_true, Bool.not_true, Bool.not_false, Bool.true_and, Bool.and_true, Bool.false_and, Bool.or_false, Bool.false_or, Bool.or_true, Bool.true_or, if_true, if_false, Bool.false_eq_true, ↓reduceIte]
    rcases h.f with f | ⟨f1, f2⟩
    · have e3 : inR 2 c.fade 99 = false := by simp [inR]; omega
      have e4 : inR 0 c.fade 0 = true := by simp [inR]; omega
      simp only [e3, e4, bodyV, startE, vSeq, vNext, vIfS, vRet, vRetN, vRetV, vSet, vSetO, vDrop, vAsg, gT, gsC, gsN, gN, vPar, vVar, vC, vOp, vUn, dNeg, vTest, isB, vAnd, vOr, vNot, vAndV, vOrV, vNotV, vIf, vIfT, vChain, vNil, vCons, vTup, vLst, vFz, vCall, vCallO, vCallS, rOf, wNil, wDat, wVar, vCB, vCO, dAdd, dSub, dMul, dDiv, dMod, dLt, dLe, dGt, dGe, dIs, dIsNot, isNoneD, dIx, vIsi, isi_int, isi_intb, isi_tup, dEqI, dNeI, at0, at1, at2, at3, at4, bLen, bMin2, bMax2, bAbs, bInt, bTuple, vFor, iT, iL, iET, iEL, itemsT, itemsL, iR1, iR2, rng1, rng2, vSl, dSl, pN, pS, vFrz, vAppend, vIxO, vLenO, vLenS, vYes, vLc, noOwn, wipeE, gN, Int.reduceEq, decide_true, decide_false, eq_self, Int.reduceNeg, Int.cast_ofNat_Int, reduceCtorEq, List.length_cons, List.length_nil, List.map_cons, List.map_nil, List.replicate, List.cons_append, List.nil_append, List.append_nil, List.getElem?_cons_zero, List.getElem?_cons_succ, List.set_cons_zero, List.set_cons_succ, Nat.reduceAdd, Nat.reduceSub, Nat.reduceEqDiff, Nat.zero_add, true_and, and_true, Bool.not_true, Bool.not_false, Bool.true_and, Bool.and_true, Bool.false_and, Bool.or_false, Bool.false_or, Bool.or_true, Bool.true_or, if_true, if_false, Bool.false_eq_true, ↓reduceIte]
      exact hN
    · have e3 : inR 2 c.fade 99 = true := by simp [inR]; omega
      simp only [e3, bodyV, startE, vSeq, vNext, vIfS, vRet, vRetN, vRetV, vSet, vSetO, vDrop, vAsg, gT, gsC, gsN, gN, vPar, vVar, vC, vOp, vUn, dNeg, vTest, isB, vAnd, vOr, vNot, vAndV, vOrV, vNotV, vIf, vIfT, vChain, vNil, vCons, vTup, vLst, vFz, vCall, vCallO, vCallS, rOf, wNil, wDat, wVar, vCB, vCO, dAdd, dSub, dMul, dDiv, dMod, dLt, dLe, dGt, dGe, dIs, dIsNot, isNoneD, dIx, vIsi, isi_int, isi_intb, isi_tup, dEqI, dNeI, at0, at1, at2, at3, at4, bLen, bMin2, bMax2, bAbs, bInt, bTuple, vFor, iT, iL, iET, iEL, itemsT, itemsL, iR1, iR2, rng1, rng2, vSl, dSl, pN, pS, vFrz, vAppend, vIxO, vLenO, vLenS, vYes, vLc, noOwn, wipeE, gN, Int.reduceEq, decide_true, decide_false, eq_self, Int.reduceNeg, Int.cast_ofNat_Int, reduceCtorEq, List.length_cons, List.length_nil, List.map_cons, List.map_nil, List.replicate, List.cons_append, List.nil_append, List.append_nil, List.getElem?_cons_zero, List.getElem?_cons_succ, List.set_cons_zero, List.set_cons_succ, Nat.reduceAdd, Nat.reduceSub, Nat.reduceEqDiff, Nat.zero_add, true_and, and_true, Bool.not_true, Bool.not_false, Bool.true_and, Bool.and_true, Bool.false_and, Bool.or_false, Bool.false_or, Bool.or_true, Bool.true_or, if_true, if_false, Bool.false_eq_true, ↓reduceIte]
      exact hN
  simp only [bodyV, startE, vSeq, vNext, vIfS, vRet, vRetN, vRetV, vSet, vSetO, vDrop, vAsg, gT, gsC, gsN, gN, vPar, vVar, vC, vOp, vUn, dNeg, vTest, isB, vAnd, vOr, vNot, vAndV, vOrV, vNotV, vIf, vIfT, vChain, vNil, vCons, vTup, vLst, vFz, vCall, vCallO, vCallS, rOf, wNil, wDat, wVar, vCB, vCO, dAdd, dSub, dMul, dDiv, dMod, dLt, dLe, dGt, dGe, dIs, dIsNot, isNoneD, dIx, vIsi, isi_int, isi_intb, isi_tup, dEqI, dNeI, at0, at1, at2, at3, at4, bLen, bMin2, bMax2, bAbs, bInt, bTuple, vFor, iT, iL, iET, iEL, itemsT, itemsL, iR1, iR2, rng1, rng2, vSl, dSl, pN, pS, vFrz, vAppend, vIxO, vLenO, vLenS, vYes, vLc, noOwn, wipeE, gN, Int.reduceEq, decide_true, decide_false, eq_self, Int.reduceNeg, Int.cast_ofNat_Int, reduceCtorEq, List.length_cons, List.length_nil, List.map_cons, List.map_nil, List.replicate, List.cons_append, List.nil_append, List.append_nil, List.getElem?_cons_zero, List.getElem?_cons_succ, List.set_cons_zero, List.set_cons_succ, Nat.reduceAdd, Nat.reduceSub, Nat.reduceEqDiff, Nat.zero_add, true_and, and_true, Bool.not_true, Bool.not_false, Bool.true_and, Bool.and_true, Bool.false_and, Bool.or_false, Bool.false_or, Bool.or_true, Bool.true_or, if_true, if_false, Bool.false_eq_true, ↓reduceIte]
  exact q
theorem q_need_coder (c : Cd) (h : c.Ok) (n : Nat) (Q : WK) (E : XW) (q : Q (.dat c.d) n) : w_need_coder [.dat c.d] n Q E := by
  rw [wd_need_coder]
  refine body_at rfl ?_
  unfold t_need_coder
  apply seq_at
  · intro N hN; simp only [bodyV, startE, vSeq, vNext, vIfS, vRet, vRetN, vRetV, vSet, vSetO, vDrop, vAsg, gT, gsC, gsN, gN, vPar, vVar, vC, vOp, vUn, dNeg, vTest, isB, vAnd, vOr, vNot, vAndV, vOrV, vNotV, vIf, vIfT, vChain, vNil, vCons, vTup, vLst, vFz, vCall, vCallO, vCallS, rOf, wNil, wDat, wVar, vCB, vCO, dAdd, dSub, dMul, dDiv, dMod, dLt, dLe, dGt, dGe, dIs, dIsNot, isNoneD, dIx, vIsi, isi_int, isi_intb, isi_tup, dEqI, dNeI, at0, at1, at2, at3, at4, bLen, bMin2, bMax2, bAbs, bInt, bTuple, vFor, iT, iL, iET, iEL, itemsT, itemsL, iR1, iR2, rng1, rng2, vSl, dSl, pN, pS, vFrz, vAppend, vIxO, vLenO, vLenS, vYes, vLc, noOwn, wipeE, gN, Int.reduceEq, decide_true, decide_false, eq_self, Int.reduceNeg, Int.cast_ofNat_Int, reduceCtorEq, List.length_cons, List.length_nil, List.map_cons, List.map_nil, List.replicate, List.cons_append, List.nil_append, List.append_nil, List.getElem?_cons_zero, List.getElem?_cons_succ, List.set_cons_zero, List.set_cons_succ, Nat.reduceAdd, Nat.reduceSub, Nat.reduceEqDiff, Nat.zero_add, true_and, and_true, Bool.not_true, Bool.not_false, Bool.true_and, Bool.and_true, Bool.false_and, Bool.or_false, Bool.false_or, Bool.or_true, Bool.true_or, if_true, if_false, Bool.false_eq_true, ↓reduceIte]; refine q_coder c h _ _ _ ?_; simp only [bodyV, startE, vSeq, vNext, vIfS, vRet, vRetN, vRetV, vSet, vSetO, vDrop, vAsg, gT, gsC, gsN, gN, vPar, vVar, vC, vOp, vUn, dNeg, vTest, isB, vAnd, vOr, vNot, vAndV, vOrV, vNotV, vIf, vIfT, vChain, vNil, vCons, vTup, vLst, vFz, vCall, vCallO, vCallS, rOf, wNil, wDat, wVar, vCB, vCO, dAdd, dSub, dMul, dDiv, dMod, dLt, dLe, dGt, dGe, dIs, dIsNot, isNoneD, dIx, vIsi, isi_int, isi_intb, isi_tup, dEqI, dNeI, at0, at1, at2, at3, at4, bLen, bMin2, bMax2, bAbs, bInt, bTuple, vFor, iT, iL, iET, iEL, itemsT, itemsL, iR1, iR2, rng1, rng2, vSl, dSl, pN, pS, vFrz, vAppend, vIxO, vLenO, vLenS, vYes, vLc, noOwn, wipeE, gN, Int.reduceEq, decide_true, decide_false, eq_self, Int.reduceNeg, Int.cast_ofNat_Int, reduceCtorEq, List.length_cons, List.length_nil, List.map_cons, List.map_nil, List.replicate, List.cons_append, List.nil_append, List.append_nil, List.getElem?_cons_zero, List.getElem?_cons_succ, List.set_cons_zero, List.set_cons_succ, Nat.reduceAdd, Nat.reduceSub, Nat.reduceEqDiff, Nat.zero_add, true_and, and_true, Bool.not_true, Bool.not_false, Bool.true_and, Bool.and_true, Bool.false_and, Bool.or_false, Bool.false_or, Bool.or_true, Bool.true_or, if_true, if_false, Bool.false_eq_true, ↓reduceIte]; exact hN
  simp only [bodyV, startE, vSeq, vNext, vIfS, vRet, vRetN, vRetV, vSet, vSetO, vDrop, vAsg, gT, gsC, gsN, gN, vPar, vVar, vC, vOp, vUn, dNeg, vTest, isB, vAnd, vOr, vNot, vAndV, vOrV, vNotV, vIf, vIfT, vChain, vNil, vCons, vTup, vLst, vFz, vCall, vCallO, vCallS, rOf, wNil, wDat, wVar, vCB, vCO, dAdd, dSub, dMul, dDiv, dMod, dLt, dLe, dGt, dGe, dIs, dIsNot, isNoneD, dIx, vIsi, isi_int, isi_intb, isi_tup, dEqI, dNeI, at0, at1, at2, at3, at4, bLen, bMin2, bMax2, bAbs, bInt, bTuple, vFor, iT, iL, iET, iEL, itemsT, itemsL, iR1, iR2, rng1, rng2, vSl, dSl, pN, pS, vFrz, vAppend, vIxO, vLenO, vLenS, vYes, vLc, noOwn, wipeE, gN, Int.reduceEq, decide_true, decide_false, eq_self, Int.reduceNeg, Int.cast_ofNat_Int, reduceCtorEq, List.length_cons, List.length_nil, List.map_cons, List.map_nil, List.replicate, List.cons_append, List.nil_append, List.append_nil, List.getElem?_cons_zero, List.getElem?_cons_succ, List.set_cons_zero, List.set_cons_succ, Nat.reduceAdd, Nat.reduceSub, Nat.reduceEqDiff, Nat.zero_add, true_and, and_true, Bool.not_true, Bool.not_false, Bool.true_and, Bool.and_true, Bool.false_and, Bool.or_false, Bool.false_or, Bool.or_true, Bool.true_or, if_true, if_false, Bool.false_eq_true, ↓reduceIte]
  exact q
def Cd.St (c : Cd) (s : Int × Int) : Prop := c.low ≤ s.1 ∧ s.1 ≤ c.high ∧ 0 ≤ s.2 ∧ s.2 < c.steps.length
theorem q_is_state (c : Cd) (s : Int × Int) (h : c.St s) (n : Nat) (Q : WK) (E : XW) (q : Q (.dat (.bool true)) n) : w_is_state [.dat c.d, .dat (stD s)] n Q E := by
  have e1 : inR c.low s.1 c.high = true := by simp [inR, h.1, h.2.1]
  have e2 : inR 0 s.2 (c.steps.length - 1) = true := by have := h.2.2.1; have := h.2.2.2; simp [inR]; omega
  rw [wd_is_state]
  refine body_at rfl ?_
  unfold t_is_state
  apply seq_at
  · intro N hN; simp only [stD, bodyV, startE, vSeq, vNext, vIfS, vRet, vRetN, vRetV, vSet, vSetO, vDrop, vAsg, gT, gsC, gsN, gN, vPar, vVar, vC, vOp, vUn, dNeg, vTest, isB, vAnd, vOr, vNot, vAndV, vOrV, vNotV, vIf, vIfT, vChain, vNil, vCons, vTup, vLst, vFz, vCall, vCallO, vCallS, rOf, wNil, wDat, wVar, vCB, vCO, dAdd, dSub, dMul, dDiv, dMod, dLt, dLe, dGt, dGe, dIs, dIsNot, isNoneD, dIx, vIsi, isi_int, isi_intb, isi_tup, dEqI, dNeI, at0, at1, at2, at3, at4, bLen, bMin2, bMax2, bAbs, bInt, bTuple, vFor, iT, iL, iET, iEL, itemsT, itemsL, iR1, iR2, rng1, rng2, vSl, dSl, pN, pS, vFrz, vAppend, vIxO, vLenO, vLenS, vYes, vLc, noOwn, wipeE, gN, Int.reduceEq, decide_true, decide_false, eq_self, Int.reduceNeg, Int.cast_ofNat_Int, reduceCtorEq, List.length_cons, List.length_nil, List.map_cons, List.map_nil, List.replicate, List.cons_append, List.nil_append, List.append_nil, List.getElem?_cons_zero, List.getElem?_cons_succ, List.set_cons_zero, List.set_cons_succ, Nat.reduceAdd, Nat.reduceSub, Nat.reduceEqDiff, Nat.zero_add, true_and, and_true, Bool.not_true, Bool.not_false, Bool.true_and, Bool.and_true, Bool.false_and, Bool.or_false, Bool.false_or, Bool.or_true, Bool.true_or, if_true, if_false, Bool.false_eq_true, ↓reduceIte]; exact hN
  simp only [Cd.d, q_whole, e1, e2, List.length_map, bodyV, startE, vSeq, vNext, vIfS, vRet, vRetN, vRetV, vSet, vSetO, vDrop, vAsg, gT, gsC, gsN, gN, vPar, vVar, vC, vOp, vUn, dNeg, vTest, isB, vAnd, vOr, vNot, vAndV, vOrV, vNotV, vIf, vIfT, vChain, vNil, vCons, vTup, vLst, vFz, vCall, vCallO, vCallS, rOf, wNil, wDat, wVar, vCB, vCO, dAdd, dSub, dMul, dDiv, dMod, dLt, dLe, dGt, dGe, dIs, dIsNot, isNoneD, dIx, vIsi, isi_int, isi_intb, isi_tup, dEqI, dNeI, at0, at1, at2, at3, at4, bLen, bMin2, bMax2, bAbs, bInt, bTuple, vFor, iT, iL, iET, iEL, itemsT, itemsL, iR1, iR2, rng1, rng2, vSl, dSl, pN, pS, vFrz, vAppend, vIxO, vLenO, vLenS, vYes, vLc, noOwn, wipeE, gN, Int.reduceEq, decide_true, decide_false, eq_self, Int.reduceNeg, Int.cast_ofNat_Int, reduceCtorEq, List.length_cons, List.length_nil, List.map_cons, List.map_nil, List.replicate, List.cons_append, List.nil_append, List.append_nil, List.getElem?_cons_zero, List.getElem?_cons_succ, List.set_cons_zero, List.set_cons_succ, Nat.reduceAdd, Nat.reduceSub, Nat.reduceEqDiff, Nat.zero_add, true_and, and_true, Bool.not_true, Bool.not_false, Bool.true_and, Bool.and_true, Bool.false_and, Bool.or_false, Bool.false_or, Bool.or_true, Bool.true_or, if_true, if_false, Bool.false_eq_true, ↓reduceIte]
  exact q
theorem q_need_state (c : Cd) (s : Int × Int) (h : c.St s) (n : Nat) (Q : WK) (E : XW) (q : Q (.dat .none) n) : w_need_state [.dat c.d, .dat (stD s)] n Q E := by
  rw [wd_need_state]
  refine body_at rfl ?_
  unfold t_need_state
  simp only [bodyV, startE, vSeq, vNext, vIfS, vRet, vRetN, vRetV, vSet, vSetO, vDrop, vAsg, gT, gsC, gsN, gN, vPar, vVar, vC, vOp, vUn, dNeg, vTest, isB, vAnd, vOr, vNot, vAndV, vOrV, vNotV, vIf, vIfT, vChain, vNil, vCons, vTup, vLst, vFz, vCall, vCallO, vCallS, rOf, wNil, wDat, wVar, vCB, vCO, dAdd, dSub, dMul, dDiv, dMod, dLt, dLe, dGt, dGe, dIs, dIsNot, isNoneD, dIx, vIsi, isi_int, isi_intb, isi_tup, dEqI, dNeI, at0, at1, at2, at3, at4, bLen, bMin2, bMax2, bAbs, bInt, bTuple, vFor, iT, iL, iET, iEL, itemsT, itemsL, iR1, iR2, rng1, rng2, vSl, dSl, pN, pS, vFrz, vAppend, vIxO, vLenO, vLenS, vYes, vLc, noOwn, wipeE, gN, Int.reduceEq, decide_true, decide_false, eq_self, Int.reduceNeg, Int.cast_ofNat_Int, reduceCtorEq, List.length_cons, List.length_nil, List.map_cons, List.map_nil, List.replicate, List.cons_append, List.nil_append, List.append_nil, List.getElem?_cons_zero, List.getElem?_cons_succ, List.set_cons_zero, List.set_cons_succ, Nat.reduceAdd, Nat.reduceSub, Nat.reduceEqDiff, Nat.zero_add, true_and, and_true, Bool.not_true, Bool.not_false, Bool.true_and, Bool.and_true, Bool.false_and, Bool.or_false, Bool.false_or, Bool.or_true, Bool.true_or, if_true, if_false, Bool.false_eq_true, ↓reduceIte]
  refine q_is_state c s h _ _ _ ?_
  simp only [bodyV, startE, vSeq, vNext, vIfS, vRet, vRetN, vRetV, vSet, vSetO, vDrop, vAsg, gT, gsC, gsN, gN, vPar, vVar, vC, vOp, vUn, dNeg, vTest, isB, vAnd, vOr, vNot, vAndV, vOrV, vNotV, vIf, vIfT, vChain, vNil, vCons, vTup, vLst, vFz, vCall, vCallO, vCallS, rOf, wNil, wDat, wVar, vCB, vCO, dAdd, dSub, dMul, dDiv, dMod, dLt, dLe, dGt, dGe, dIs, dIsNot, isNoneD, dIx, vIsi, isi_int, isi_intb, isi_tup, dEqI, dNeI, at0, at1, at2, at3, at4, bLen, bMin2, bMax2, bAbs, bInt, bTuple, vFor, iT, iL, iET, iEL, itemsT, itemsL, iR1, iR2, rng1, rng2, vSl, dSl, pN, pS, vFrz, vAppend, vIxO, vLenO, vLenS, vYes, vLc, noOwn, wipeE, gN, Int.reduceEq, decide_true, decide_false, eq_self, Int.reduceNeg, Int.cast_ofNat_Int, reduceCtorEq, List.length_cons, List.length_nil, List.map_cons, List.map_nil, List.replicate, List.cons_append, List.nil_append, List.append_nil, List.getElem?_cons_zero, List.getElem?_cons_succ, List.set_cons_zero, List.set_cons_succ, Nat.reduceAdd, Nat.reduceSub, Nat.reduceEqDiff, Nat.zero_add, true_and, and_true, Bool.not_true, Bool.not_false, Bool.true_and, Bool.and_true, Bool.false_and, Bool.or_false, Bool.false_or, Bool.or_true, Bool.true_or, if_true, if_false, Bool.false_eq_true, ↓reduceIte]
  exact q
/-! rows -/
def Cd.Row (c : Cd) (r : List Int) : Prop := ∀ k ∈ r, 0 ≤ k ∧ k < c.moves.length
theorem q_is_code (c : Cd) (k : Int) (n : Nat) (Q : WK) (E : XW) : w_is_code [.dat c.d, .dat (.int k)] n Q E ↔ Q (.dat (.bool (inR 0 k (c.moves.length - 1)))) n := by
  simp only [wd_is_code, t_is_code, Cd.d, q_whole, List.length_map, bodyV, startE, vSeq, vNext, vIfS, vRet, vRetN, vRetV, vSet, vSetO, vDrop, vAsg, gT, gsC, gsN, gN, vPar, vVar, vC, vOp, vUn, dNeg, vTest, isB, vAnd, vOr, vNot, vAndV, vOrV, vNotV, vIf, vIfT, vChain, vNil, vCons, vTup, vLst, vFz, vCall, vCallO, vCallS, rOf, wNil, wDat, wVar, vCB, vCO, dAdd, dSub, dMul, dDiv, dMod, dLt, dLe, dGt, dGe, dIs, dIsNot, isNoneD, dIx, vIsi, isi_int, isi_intb, isi_tup, dEqI, dNeI, at0, at1, at2, at3, at4, bLen, bMin2, bMax2, bAbs, bInt, bTuple, vFor, iT, iL, iET, iEL, itemsT, itemsL, iR1, iR2, rng1, rng2, vSl, dSl, pN, pS, vFrz, vAppend, vIxO, vLenO, vLenS, vYes, vLc, noOwn, wipeE, gN, Int.reduceEq, decide_true, decide_false, eq_self, Int.reduceNeg, Int.cast_ofNat_Int, reduceCtorEq, List.length_cons, List.length_nil, List.map_cons, List.map_nil, List.replicate, List.cons_append, List.nil_append, List.append_nil, List.getElem?_cons_zero, List.getElem?_cons_succ, List.set_cons_zero, List.set_cons_succ, Nat.reduceAdd, Nat.reduceSub, Nat.reduceEqDiff, Nat.zero_add, true_and, and_true, Bool.not_true, Bool.not_false, Bool.true_and, Bool.and_true, Bool.false_and, Bool.or_false, Bool.false_or, Bool.or_true, Bool.true_or, if_true, if_false, Bool.false_eq_true, ↓reduceIte]
def dv (a b : Int) : Int := if 0 ≤ a then a / b else -(-a / b)
def mn (i j : Int) : Int := if j < i then j else i
def mx (i j : Int) : Int := if j > i then j else i
theorem q_divided (a b : Int) (h0 : 0 < b) (h1 : b < 1073741824) (n : Nat) (Q : WK) (E : XW) : w_divided [.dat (.int a), .dat (.int b)] n Q E ↔ Q (.dat (.int (dv a b))) n := by
  have e : ∀ x, CDiv x b := fun x => ⟨h0, h1⟩
  simp only [wd_divided, t_divided, e, dv, decide_eq_true_eq, bodyV, startE, vSeq, vNext, vIfS, vRet, vRetN, vRetV, vSet, vSetO, vDrop, vAsg, gT, gsC, gsN, gN, vPar, vVar, vC, vOp, vUn, dNeg, vTest, isB, vAnd, vOr, vNot, vAndV, vOrV, vNotV, vIf, vIfT, vChain, vNil, vCons, vTup, vLst, vFz, vCall, vCallO, vCallS, rOf, wNil, wDat, wVar, vCB, vCO, dAdd, dSub, dMul, dDiv, dMod, dLt, dLe, dGt, dGe, dIs, dIsNot, isNoneD, dIx, vIsi, isi_int, isi_intb, isi_tup, dEqI, dNeI, at0, at1, at2, at3, at4, bLen, bMin2, bMax2, bAbs, bInt, bTuple, vFor, iT, iL, iET, iEL, itemsT, itemsL, iR1, iR2, rng1, rng2, vSl, dSl, pN, pS, vFrz, vAppend, vIxO, vLenO, vLenS, vYes, vLc, noOwn, wipeE, gN, Int.reduceEq, decide_true, decide_false, eq_self, Int.reduceNeg, Int.cast_ofNat_Int, reduceCtorEq, List.length_cons, List.length_nil, List.map_cons, List.map_nil, List.replicate, List.cons_append, List.nil_append, List.append_nil, List.getElem?_cons_zero, List.getElem?_cons_succ, List.set_cons_zero, List.set_cons_succ, Nat.reduceAdd, Nat.reduceSub, Nat.reduceEqDiff, Nat.zero_add, true_and, and_true, Bool.not_true, Bool.not_false, Bool.true_and, Bool.and_true, Bool.false_and, Bool.or_false, Bool.false_or, Bool.or_true, Bool.true_or, if_true, if_false, Bool.false_eq_true, ↓reduceIte]
  by_cases h : 0 ≤ a
  · rw [if_pos h, if_pos h]
  · rw [if_neg h, if_neg h]
theorem q_moved (c : Cd) (h : c.Ok) (k p : Int) (hk0 : 0 ≤ k) (hk1 : k < c.moves.length) (hp0 : 0 ≤ p) (hp1 : p < c.steps.length) (n : Nat) (Q : WK) (E : XW) : w_moved_by [.dat c.d, .dat (.int k), .dat (.int p)] n Q E ↔ Q (.dat (.int (dv ((nth c.moves k).1 * nth c.steps p) 8))) n := by
  have m := h.mv _ (nth_mem hk0 hk1)
  have e : CMul (nth c.moves k).1 (nth c.steps p) := .inl ⟨by omega, by omega⟩
  simp only [wd_moved_by, t_moved_by, Cd.d, atI_map (f := mvD) hk0 hk1, atI_map (f := PyData.int) hp0 hp1, mvD, e, q_divided _ 8 (by decide) (by decide), bodyV, startE, vSeq, vNext, vIfS, vRet, vRetN, vRetV, vSet, vSetO, vDrop, vAsg, gT, gsC, gsN, gN, vPar, vVar, vC, vOp, vUn, dNeg, vTest, isB, vAnd, vOr, vNot, vAndV, vOrV, vNotV, vIf, vIfT, vChain, vNil, vCons, vTup, vLst, vFz, vCall, vCallO, vCallS, rOf, wNil, wDat, wVar, vCB, vCO, dAdd, dSub, dMul, dDiv, dMod, dLt, dLe, dGt, dGe, dIs, dIsNot, isNoneD, dIx, vIsi, isi_int, isi_intb, isi_tup, dEqI, dNeI, at0, at1, at2, at3, at4, bLen, bMin2, bMax2, bAbs, bInt, bTuple, vFor, iT, iL, iET, iEL, itemsT, itemsL, iR1, iR2, rng1, rng2, vSl, dSl, pN, pS, vFrz, vAppend, vIxO, vLenO, vLenS, vYes, vLc, noOwn, wipeE, gN, Int.reduceEq, decide_true, decide_false, eq_self, Int.reduceNeg, Int.cast_ofNat_Int, reduceCtorEq, List.length_cons, List.length_nil, List.map_cons, List.map_nil, List.replicate, List.cons_append, List.nil_append, List.append_nil, List.getElem?_cons_zero, List.getElem?_cons_succ, List.set_cons_zero, List.set_cons_succ, Nat.reduceAdd, Nat.reduceSub, Nat.reduceEqDiff, Nat.zero_add, true_and, and_true, Bool.not_true, Bool.not_false, Bool.true_and, Bool.and_true, Bool.false_and, Bool.or_false, Bool.false_or, Bool.or_true, Bool.true_or, if_true, if_false, Bool.false_eq_true, ↓reduceIte]
def Cd.fa (c : Cd) (v : Int) : Int := if c.fade = 0 then v else v - dv v c.fade
def Cd.nx (c : Cd) (s : Int × Int) (k : Int) : Int × Int :=
  (mn c.high (mx c.low (c.fa s.1 + dv ((nth c.moves k).1 * nth c.steps s.2) 8)), mn (c.steps.length - 1) (mx 0 (s.2 + (nth c.moves k).2)))
theorem Cd.nx_st {c : Cd} (h : c.Ok) (s : Int × Int) (k : Int) : c.St (c.nx s k) := by
  have := h.l1; have := h.h0; have := h.s0
  unfold Cd.nx Cd.St
  generalize c.fa s.1 + dv ((nth c.moves k).1 * nth c.steps s.2) 8 = x
  generalize s.2 + (nth c.moves k).2 = y
  refine ⟨?_, ?_, ?_, ?_⟩ <;> simp only [mn, mx] <;> split <;> split <;> omega
theorem q_next (c : Cd) (h : c.Ok) (s : Int × Int) (hs : c.St s) (k : Int) (hk0 : 0 ≤ k) (hk1 : k < c.moves.length) (n : Nat) (Q : WK) (E : XW) (q : Q (.dat (stD (c.nx s k))) n) : w_next_state [.dat c.d, .dat (stD s), .dat (.int k)] n Q E := by
  rw [wd_next_state]
  refine body_at rfl ?_
  unfold t_next_state
  apply seq_at
  · intro N hN; simp only [Cd.d, bodyV, startE, vSeq, vNext, vIfS, vRet, vRetN, vRetV, vSet, vSetO, vDrop, vAsg, gT, gsC, gsN, gN, vPar, vVar, vC, vOp, vUn, dNeg, vTest, isB, vAnd, vOr, vNot, vAndV, vOrV, vNotV, vIf, vIfT, vChain, vNil, vCons, vTup, vLst, vFz, vCall, vCallO, vCallS, rOf, wNil, wDat, wVar, vCB, vCO, dAdd, dSub, dMul, dDiv, dMod, dLt, dLe, dGt, dGe, dIs, dIsNot, isNoneD, dIx, vIsi, isi_int, isi_intb, isi_tup, dEqI, dNeI, at0, at1, at2, at3, at4, bLen, bMin2, bMax2, bAbs, bInt, bTuple, vFor, iT, iL, iET, iEL, itemsT, itemsL, iR1, iR2, rng1, rng2, vSl, dSl, pN, pS, vFrz, vAppend, vIxO, vLenO, vLenS, vYes, vLc, noOwn, wipeE, gN, Int.reduceEq, decide_true, decide_false, eq_self, Int.reduceNeg, Int.cast_ofNat_Int, reduceCtorEq, List.length_cons, List.length_nil, List.map_cons, List.map_nil, List.replicate, List.cons_append, List.nil_append, List.append_nil, List.getElem?_cons_zero, List.getElem?_cons_succ, List.set_cons_zero, List.set_cons_succ, Nat.reduceAdd, Nat.reduceSub, Nat.reduceEqDiff, Nat.zero_add, true_and, and_true, Bool.not_true, Bool.not_false, Bool.true_and, Bool.and_true, Bool.false_and, Bool.or_false, Bool.false_or, Bool.or_true, Bool.true_or, if_true, if_false, Bool.false_eq_true, ↓reduceIte]; exact hN
  apply seq_at
  · intro N hN; simp only [stD, bodyV, startE, vSeq, vNext, vIfS, vRet, vRetN, vRetV, vSet, vSetO, vDrop, vAsg, gT, gsC, gsN, gN, vPar, vVar, vC, vOp, vUn, dNeg, vTest, isB, vAnd, vOr, vNot, vAndV, vOrV, vNotV, vIf, vIfT, vChain, vNil, vCons, vTup, vLst, vFz, vCall, vCallO, vCallS, rOf, wNil, wDat, wVar, vCB, vCO, dAdd, dSub, dMul, dDiv, dMod, dLt, dLe, dGt, dGe, dIs, dIsNot, isNoneD, dIx, vIsi, isi_int, isi_intb, isi_tup, dEqI, dNeI, at0, at1, at2, at3, at4, bLen, bMin2, bMax2, bAbs, bInt, bTuple, vFor, iT, iL, iET, iEL, itemsT, itemsL, iR1, iR2, rng1, rng2, vSl, dSl, pN, pS, vFrz, vAppend, vIxO, vLenO, vLenS, vYes, vLc, noOwn, wipeE, gN, Int.reduceEq, decide_true, decide_false, eq_self, Int.reduceNeg, Int.cast_ofNat_Int, reduceCtorEq, List.length_cons, List.length_nil, List.map_cons, List.map_nil, List.replicate, List.cons_append, List.nil_append, List.append_nil, List.getElem?_cons_zero, List.getElem?_cons_succ, List.set_cons_zero, List.set_cons_succ, Nat.reduceAdd, Nat.reduceSub, Nat.reduceEqDiff, Nat.zero_add, true_and, and_true, Bool.not_true, Bool.not_false, Bool.true_and, Bool.and_true, Bool.false_and, Bool.or_false, Bool.false_or, Bool.or_true, Bool.true_or, if_true, if_false, Bool.false_eq_true, ↓reduceIte]; exact hN
  refine seq_at (ρ' := [some (.dat c.d), some (.dat (stD s)), some (.dat (.int k)), some (.dat (.int c.low)), some (.dat (.int c.high)), some (.dat (.tuple (c.steps.map .int))), some (.dat (.tuple (c.moves.map mvD))), some (.dat (.int c.fade)), some (.dat (.int s.1)), some (.dat (.int s.2)), some (.dat (.int (c.fa s.1))), none]) (n' := n) ?_ ?_
  · intro N hN
    simp only [bodyV, startE, vSeq, vNext, vIfS, vRet, vRetN, vRetV, vSet, vSetO, vDrop, vAsg, gT, gsC, gsN, gN, vPar, vVar, vC, vOp, vUn, dNeg, vTest, isB, vAnd, vOr, vNot, vAndV, vOrV, vNotV, vIf, vIfT, vChain, vNil, vCons, vTup, vLst, vFz, vCall, vCallO, vCallS, rOf, wNil, wDat, wVar, vCB, vCO, dAdd, dSub, dMul, dDiv, dMod, dLt, dLe, dGt, dGe, dIs, dIsNot, isNoneD, dIx, vIsi, isi_int, isi_intb, isi_tup, dEqI, dNeI, at0, at1, at2, at3, at4, bLen, bMin2, bMax2, bAbs, bInt, bTuple, vFor, iT, iL, iET, iEL, itemsT, itemsL, iR1, iR2, rng1, rng2, vSl, dSl, pN, pS, vFrz, vAppend, vIxO, vLenO, vLenS, vYes, vLc, noOwn, wipeE, gN, Int.reduceEq, decide_true, decide_false, eq_self, Int.reduceNeg, Int.cast_ofNat_Int, reduceCtorEq, List.length_cons, List.length_nil, List.map_cons, List.map_nil, List.replicate, List.cons_append, List.nil_append, List.append_nil, List.getElem?_cons_zero, List.getElem?_cons_succ, List.set_cons_zero, List.set_cons_succ, Nat.reduceAdd, Nat.reduceSub, Nat.reduceEqDiff, Nat.zero_add, true_and, and_true, Bool.not_true, Bool.not_false, Bool.true_and, Bool.and_true, Bool.false_and, Bool.or_false, Bool.false_or, Bool.or_true, Bool.true_or, if_true, if_false, Bool.false_eq_true, ↓reduceIte]
    unfold Cd.fa at hN
    rcases h.f with f | ⟨f1, f2⟩
    · have e : decide (c.fade = 0) = true := decide_eq_true f
      rw [if_pos f] at hN
      simp only [e, bodyV, startE, vSeq, vNext, vIfS, vRet, vRetN, vRetV, vSet, vSetO, vDrop, vAsg, gT, gsC, gsN, gN, vPar, vVar, vC, vOp, vUn, dNeg, vTest, isB, vAnd, vOr, vNot, vAndV, vOrV, vNotV, vIf, vIfT, vChain, vNil, vCons, vTup, vLst, vFz, vCall, vCallO, vCallS, rOf, wNil, wDat, wVar, vCB, vCO, dAdd, dSub, dMul, dDiv, dMod, dLt, dLe, dGt, dGe, dIs, dIsNot, isNoneD, dIx, vIsi, isi_int, isi_intb, isi_tup, dEqI, dNeI, at0, at1, at2, at3, at4, bLen, bMin2, bMax2, bAbs, bInt, bTuple, vFor, iT, iL, iET, iEL, itemsT, itemsL, iR1, iR2, rng1, rng2, vSl, dSl, pN, pS, vFrz, vAppend, vIxO, vLenO, vLenS, vYes, vLc, noOwn, wipeE, gN, Int.reduceEq, decide_true, decide_false, eq_self, Int.reduceNeg, Int.cast_ofNat_Int, reduceCtorEq, List.length_cons, List.length_nil, List.map_cons, List.map_nil, List.replicate, List.cons_append, List.nil_append, List.append_nil, List.getElem?_cons_zero, List.getElem?_cons_succ, List.set_cons_zero, List.set_cons_succ, Nat.reduceAdd, Nat.reduceSub, Nat.reduceEqDiff, Nat.zero_add, true_and, and_true, Bool.not_true, Bool.not_false, Bool.true_and, Bool.and_true, Bool.false_and, Bool.or_false, Bool.false_or, Bool.or_true, Bool.true_or, if_true, if_false, Bool.false_eq_true, ↓reduceIte]
      exact hN
    · have e : decide (c.fade = 0) = false := decide_eq_false (by omega)
      rw [if_neg (by omega)] at hN
      simp only [e, q_divided _ c.fade (by omega) (by omega), bodyV, startE, vSeq, vNext, vIfS, vRet, vRetN, vRetV, vSet, vSetO, vDrop, vAsg, gT, gsC, gsN, gN, vPar, vVar, vC, vOp, vUn, dNeg, vTest, isB, vAnd, vOr, vNot, vAndV, vOrV, vNotV, vIf, vIfT, vChain, vNil, vCons, vTup, vLst, vFz, vCall, vCallO, vCallS, rOf, wNil, wDat, wVar, vCB, vCO, dAdd, dSub, dMul, dDiv, dMod, dLt, dLe, dGt, dGe, dIs, dIsNot, isNoneD, dIx, vIsi, isi_int, isi_intb, isi_tup, dEqI, dNeI, at0, at1, at2, at3, at4, bLen, bMin2, bMax2, bAbs, bInt, bTuple, vFor, iT, iL, iET, iEL, itemsT, itemsL, iR1, iR2, rng1, rng2, vSl, dSl, pN, pS, vFrz, vAppend, vIxO, vLenO, vLenS, vYes, vLc, noOwn, wipeE, gN, Int.reduceEq, decide_true, decide_false, eq_self, Int.reduceNeg, Int.cast_ofNat_Int, reduceCtorEq, List.length_cons, List.length_nil, List.map_cons, List.map_nil, List.replicate, List.cons_append, List.nil_append, List.append_nil, List.getElem?_cons_zero, List.getElem?_cons_succ, List.set_cons_zero, List.set_cons_succ, Nat.reduceAdd, Nat.reduceSub, Nat.reduceEqDiff, Nat.zero_add, true_and, and_true, Bool.not_true, Bool.not_false, Bool.true_and, Bool.and_true, Bool.false_and, Bool.or_false, Bool.false_or, Bool.or_true, Bool.true_or, if_true, if_false, Bool.false_eq_true, ↓reduceIte]
      exact hN
  apply seq_at
  · intro N hN; simp only [atI_map (f := mvD) hk0 hk1, mvD, bodyV, startE, vSeq, vNext, vIfS, vRet, vRetN, vRetV, vSet, vSetO, vDrop, vAsg, gT, gsC, gsN, gN, vPar, vVar, vC, vOp, vUn, dNeg, vTest, isB, vAnd, vOr, vNot, vAndV, vOrV, vNotV, vIf, vIfT, vChain, vNil, vCons, vTup, vLst, vFz, vCall, vCallO, vCallS, rOf, wNil, wDat, wVar, vCB, vCO, dAdd, dSub, dMul, dDiv, dMod, dLt, dLe, dGt, dGe, dIs, dIsNot, isNoneD, dIx, vIsi, isi_int, isi_intb, isi_tup, dEqI, dNeI, at0, at1, at2, at3, at4, bLen, bMin2, bMax2, bAbs, bInt, bTuple, vFor, iT, iL, iET, iEL, itemsT, itemsL, iR1, iR2, rng1, rng2, vSl, dSl, pN, pS, vFrz, vAppend, vIxO, vLenO, vLenS, vYes, vLc, noOwn, wipeE, gN, Int.reduceEq, decide_true, decide_false, eq_self, Int.reduceNeg, Int.cast_ofNat_Int, reduceCtorEq, List.length_cons, List.length_nil, List.map_cons, List.map_nil, List.replicate, List.cons_append, List.nil_append, List.append_nil, List.getElem?_cons_zero, List.getElem?_cons_succ, List.set_cons_zero, List.set_cons_succ, Nat.reduceAdd, Nat.reduceSub, Nat.reduceEqDiff, Nat.zero_add, true_and, and_true, Bool.not_true, Bool.not_false, Bool.true_and, Bool.and_true, Bool.false_and, Bool.or_false, Bool.false_or, Bool.or_true, Bool.true_or, if_true, if_false, Bool.false_eq_true, ↓reduceIte]; exact hN
  have z : (2 : Nat) ≤ sizeLine := by decide
  simp only [q_moved c h k s.2 hk0 hk1 hs.2.2.1 hs.2.2.2, List.length_map, z, bodyV, startE, vSeq, vNext, vIfS, vRet, vRetN, vRetV, vSet, vSetO, vDrop, vAsg, gT, gsC, gsN, gN, vPar, vVar, vC, vOp, vUn, dNeg, vTest, isB, vAnd, vOr, vNot, vAndV, vOrV, vNotV, vIf, vIfT, vChain, vNil, vCons, vTup, vLst, vFz, vCall, vCallO, vCallS, rOf, wNil, wDat, wVar, vCB, vCO, dAdd, dSub, dMul, dDiv, dMod, dLt, dLe, dGt, dGe, dIs, dIsNot, isNoneD, dIx, vIsi, isi_int, isi_intb, isi_tup, dEqI, dNeI, at0, at1, at2, at3, at4, bLen, bMin2, bMax2, bAbs, bInt, bTuple, vFor, iT, iL, iET, iEL, itemsT, itemsL, iR1, iR2, rng1, rng2, vSl, dSl, pN, pS, vFrz, vAppend, vIxO, vLenO, vLenS, vYes, vLc, noOwn, wipeE, gN, Int.reduceEq, decide_true, decide_false, eq_self, Int.reduceNeg, Int.cast_ofNat_Int, reduceCtorEq, List.length_cons, List.length_nil, List.map_cons, List.map_nil, List.replicate, List.cons_append, List.nil_append, List.append_nil, List.getElem?_cons_zero, List.getElem?_cons_succ, List.set_cons_zero, List.set_cons_succ, Nat.reduceAdd, Nat.reduceSub, Nat.reduceEqDiff, Nat.zero_add, true_and, and_true, Bool.not_true, Bool.not_false, Bool.true_and, Bool.and_true, Bool.false_and, Bool.or_false, Bool.false_or, Bool.or_true, Bool.true_or, if_true, if_false, Bool.false_eq_true, ↓reduceIte]
  exact q
theorem q_parted (a b : Int) (h0 : 0 < b) (h1 : b < 1073741824) (n : Nat) (Q : WK) (E : XW) : w__law_parted [.dat (.int a), .dat (.int b)] n Q E ↔ Q (.dat (.int (dv a b))) n := by
  have e : ∀ x, CDiv x b := fun x => ⟨h0, h1⟩
  simp only [wd__law_parted, t__law_parted, e, dv, decide_eq_true_eq, Int.zero_sub, bodyV, startE, vSeq, vNext, vIfS, vRet, vRetN, vRetV, vSet, vSetO, vDrop, vAsg, gT, gsC, gsN, gN, vPar, vVar, vC, vOp, vUn, dNeg, vTest, isB, vAnd, vOr, vNot, vAndV, vOrV, vNotV, vIf, vIfT, vChain, vNil, vCons, vTup, vLst, vFz, vCall, vCallO, vCallS, rOf, wNil, wDat, wVar, vCB, vCO, dAdd, dSub, dMul, dDiv, dMod, dLt, dLe, dGt, dGe, dIs, dIsNot, isNoneD, dIx, vIsi, isi_int, isi_intb, isi_tup, dEqI, dNeI, at0, at1, at2, at3, at4, bLen, bMin2, bMax2, bAbs, bInt, bTuple, vFor, iT, iL, iET, iEL, itemsT, itemsL, iR1, iR2, rng1, rng2, vSl, dSl, pN, pS, vFrz, vAppend, vIxO, vLenO, vLenS, vYes, vLc, noOwn, wipeE, gN, Int.reduceEq, decide_true, decide_false, eq_self, Int.reduceNeg, Int.cast_ofNat_Int, reduceCtorEq, List.length_cons, List.length_nil, List.map_cons, List.map_nil, List.replicate, List.cons_append, List.nil_append, List.append_nil, List.getElem?_cons_zero, List.getElem?_cons_succ, List.set_cons_zero, List.set_cons_succ, Nat.reduceAdd, Nat.reduceSub, Nat.reduceEqDiff, Nat.zero_add, true_and, and_true, Bool.not_true, Bool.not_false, Bool.true_and, Bool.and_true, Bool.false_and, Bool.or_false, Bool.false_or, Bool.or_true, Bool.true_or, if_true, if_false, Bool.false_eq_true, ↓reduceIte]
  by_cases h : 0 ≤ a
  · rw [if_pos h, if_pos h]
  · rw [if_neg h, if_neg h]
def lim (x a b : Int) : Int := if x < a then a else if b < x then b else x
theorem q_limited (x a b : Int) (n : Nat) (Q : WK) (E : XW) : w__law_limited [.dat (.int x), .dat (.int a), .dat (.int b)] n Q E ↔ Q (.dat (.int (lim x a b))) n := by
  simp only [wd__law_limited, t__law_limited, lim, decide_eq_true_eq, bodyV, startE, vSeq, vNext, vIfS, vRet, vRetN, vRetV, vSet, vSetO, vDrop, vAsg, gT, gsC, gsN, gN, vPar, vVar, vC, vOp, vUn, dNeg, vTest, isB, vAnd, vOr, vNot, vAndV, vOrV, vNotV, vIf, vIfT, vChain, vNil, vCons, vTup, vLst, vFz, vCall, vCallO, vCallS, rOf, wNil, wDat, wVar, vCB, vCO, dAdd, dSub, dMul, dDiv, dMod, dLt, dLe, dGt, dGe, dIs, dIsNot, isNoneD, dIx, vIsi, isi_int, isi_intb, isi_tup, dEqI, dNeI, at0, at1, at2, at3, at4, bLen, bMin2, bMax2, bAbs, bInt, bTuple, vFor, iT, iL, iET, iEL, itemsT, itemsL, iR1, iR2, rng1, rng2, vSl, dSl, pN, pS, vFrz, vAppend, vIxO, vLenO, vLenS, vYes, vLc, noOwn, wipeE, gN, Int.reduceEq, decide_true, decide_false, eq_self, Int.reduceNeg, Int.cast_ofNat_Int, reduceCtorEq, List.length_cons, List.length_nil, List.map_cons, List.map_nil, List.replicate, List.cons_append, List.nil_append, List.append_nil, List.getElem?_cons_zero, List.getElem?_cons_succ, List.set_cons_zero, List.set_cons_succ, Nat.reduceAdd, Nat.reduceSub, Nat.reduceEqDiff, Nat.zero_add, true_and, and_true, Bool.not_true, Bool.not_false, Bool.true_and, Bool.and_true, Bool.false_and, Bool.or_false, Bool.false_or, Bool.or_true, Bool.true_or, if_true, if_false, Bool.false_eq_true, ↓reduceIte]
  by_cases h : x < a
  · rw [if_pos h, if_pos h]
  · rw [if_neg h, if_neg h]
    by_cases h' : b < x
    · rw [if_pos h', if_pos h']
    · rw [if_neg h', if_neg h']
theorem lim_eq {x a b : Int} (h : a ≤ b) : lim x a b = mn b (mx a x) := by
  unfold lim mn mx
  split <;> split <;> (try split) <;> (try split) <;> omega
theorem q_led (c : Cd) (h : c.Ok) (s : Int × Int) (hs : c.St s) (k : Int) (hk0 : 0 ≤ k) (hk1 : k < c.moves.length) (n : Nat) (Q : WK) (E : XW) (q : Q (.dat (stD (c.nx s k))) n) : w__law_led [.dat c.d, .dat (stD s), .dat (.int k)] n Q E := by
  rw [wd__law_led]
  refine body_at rfl ?_
  unfold t__law_led
  apply seq_at
  · intro N hN; simp only [Cd.d, atI_map (f := mvD) hk0 hk1, mvD, bodyV, startE, vSeq, vNext, vIfS, vRet, vRetN, vRetV, vSet, vSetO, vDrop, vAsg, gT, gsC, gsN, gN, vPar, vVar, vC, vOp, vUn, dNeg, vTest, isB, vAnd, vOr, vNot, vAndV, vOrV, vNotV, vIf, vIfT, vChain, vNil, vCons, vTup, vLst, vFz, vCall, vCallO, vCallS, rOf, wNil, wDat, wVar, vCB, vCO, dAdd, dSub, dMul, dDiv, dMod, dLt, dLe, dGt, dGe, dIs, dIsNot, isNoneD, dIx, vIsi, isi_int, isi_intb, isi_tup, dEqI, dNeI, at0, at1, at2, at3, at4, bLen, bMin2, bMax2, bAbs, bInt, bTuple, vFor, iT, iL, iET, iEL, itemsT, itemsL, iR1, iR2, rng1, rng2, vSl, dSl, pN, pS, vFrz, vAppend, vIxO, vLenO, vLenS, vYes, vLc, noOwn, wipeE, gN, Int.reduceEq, decide_true, decide_false, eq_self, Int.reduceNeg, Int.cast_ofNat_Int, reduceCtorEq, List.length_cons, List.length_nil, List.map_cons, List.map_nil, List.replicate, List.cons_append, List.nil_append, List.append_nil, List.getElem?_cons_zero, List.getElem?_cons_succ, List.set_cons_zero, List.set_cons_succ, Nat.reduceAdd, Nat.reduceSub, Nat.reduceEqDiff, Nat.zero_add, true_and, and_true, Bool.not_true, Bool.not_false, Bool.true_and, Bool.and_true, Bool.false_and, Bool.or_false, Bool.false_or, Bool.or_true, Bool.true_or, if_true, if_false, Bool.false_eq_true, ↓reduceIte]; exact hN
  apply seq_at
  · intro N hN; simp only [stD, bodyV, startE, vSeq, vNext, vIfS, vRet, vRetN, vRetV, vSet, vSetO, vDrop, vAsg, gT, gsC, gsN, gN, vPar, vVar, vC, vOp, vUn, dNeg, vTest, isB, vAnd, vOr, vNot, vAndV, vOrV, vNotV, vIf, vIfT, vChain, vNil, vCons, vTup, vLst, vFz, vCall, vCallO, vCallS, rOf, wNil, wDat, wVar, vCB, vCO, dAdd, dSub, dMul, dDiv, dMod, dLt, dLe, dGt, dGe, dIs, dIsNot, isNoneD, dIx, vIsi, isi_int, isi_intb, isi_tup, dEqI, dNeI, at0, at1, at2, at3, at4, bLen, bMin2, bMax2, bAbs, bInt, bTuple, vFor, iT, iL, iET, iEL, itemsT, itemsL, iR1, iR2, rng1, rng2, vSl, dSl, pN, pS, vFrz, vAppend, vIxO, vLenO, vLenS, vYes, vLc, noOwn, wipeE, gN, Int.reduceEq, decide_true, decide_false, eq_self, Int.reduceNeg, Int.cast_ofNat_Int, reduceCtorEq, List.length_cons, List.length_nil, List.map_cons, List.map_nil, List.replicate, List.cons_append, List.nil_append, List.append_nil, List.getElem?_cons_zero, List.getElem?_cons_succ, List.set_cons_zero, List.set_cons_succ, Nat.reduceAdd, Nat.reduceSub, Nat.reduceEqDiff, Nat.zero_add, true_and, and_true, Bool.not_true, Bool.not_false, Bool.true_and, Bool.and_true, Bool.false_and, Bool.or_false, Bool.false_or, Bool.or_true, Bool.true_or, if_true, if_false, Bool.false_eq_true, ↓reduceIte]; exact hN
  refine seq_at (ρ' := [some (.dat c.d), some (.dat (stD s)), some (.dat (.int k)), some (.dat (.int (nth c.moves k).1)), some (.dat (.int (nth c.moves k).2)), some (.dat (.int (c.fa s.1)))]) (n' := n) ?_ ?_
  · intro N hN
    simp only [bodyV, startE, vSeq, vNext, vIfS, vRet, vRetN, vRetV, vSet, vSetO, vDrop, vAsg, gT, gsC, gsN, gN, vPar, vVar, vC, vOp, vUn, dNeg, vTest, isB, vAnd, vOr, vNot, vAndV, vOrV, vNotV, vIf, vIfT, vChain, vNil, vCons, vTup, vLst, vFz, vCall, vCallO, vCallS, rOf, wNil, wDat, wVar, vCB, vCO, dAdd, dSub, dMul, dDiv, dMod, dLt, dLe, dGt, dGe, dIs, dIsNot, isNoneD, dIx, vIsi, isi_int, isi_intb, isi_tup, dEqI, dNeI, at0, at1, at2, at3, at4, bLen, bMin2, bMax2, bAbs, bInt, bTuple, vFor, iT, iL, iET, iEL, itemsT, itemsL, iR1, iR2, rng1, rng2, vSl, dSl, pN, pS, vFrz, vAppend, vIxO, vLenO, vLenS, vYes, vLc, noOwn, wipeE, gN, Int.reduceEq, decide_true, decide_false, eq_self, Int.reduceNeg, Int.cast_ofNat_Int, reduceCtorEq, List.length_cons, List.length_nil, List.map_cons, List.map_nil, List.replicate, List.cons_append, List.nil_append, List.append_nil, List.getElem?_cons_zero, List.getElem?_cons_succ, List.set_cons_zero, List.set_cons_succ, Nat.reduceAdd, Nat.reduceSub, Nat.reduceEqDiff, Nat.zero_add, true_and, and_true, Bool.not_true, Bool.not_false, Bool.true_and, Bool.and_true, Bool.false_and, Bool.or_false, Bool.false_or, Bool.or_true, Bool.true_or, if_true, if_false, Bool.false_eq_true, ↓reduceIte]
    unfold Cd.fa at hN
    rcases h.f with f | ⟨f1, f2⟩
    · have e : decide (c.fade = 0) = true := decide_eq_true f
      rw [if_pos f] at hN
      simp only [e, bodyV, startE, vSeq, vNext, vIfS, vRet, vRetN, vRetV, vSet, vSetO, vDrop, vAsg, gT, gsC, gsN, gN, vPar, vVar, vC, vOp, vUn, dNeg, vTest, isB, vAnd, vOr, vNot, vAndV, vOrV, vNotV, vIf, vIfT, vChain, vNil, vCons, vTup, vLst, vFz, vCall, vCallO, vCallS, rOf, wNil, wDat, wVar, vCB, vCO, dAdd, dSub, dMul, dDiv, dMod, dLt, dLe, dGt, dGe, dIs, dIsNot, isNoneD, dIx, vIsi, isi_int, isi_intb, isi_tup, dEqI, dNeI, at0, at1, at2, at3, at4, bLen, bMin2, bMax2, bAbs, bInt, bTuple, vFor, iT, iL, iET, iEL, itemsT, itemsL, iR1, iR2, rng1, rng2, vSl, dSl, pN, pS, vFrz, vAppend, vIxO, vLenO, vLenS, vYes, vLc, noOwn, wipeE, gN, Int.reduceEq, decide_true, decide_false, eq_self, Int.reduceNeg, Int.cast_ofNat_Int, reduceCtorEq, List.length_cons, List.length_nil, List.map_cons, List.map_nil, List.replicate, List.cons_append, List.nil_append, List.append_nil, List.getElem?_cons_zero, List.getElem?_cons_succ, List.set_cons_zero, List.set_cons_succ, Nat.reduceAdd, Nat.reduceSub, Nat.reduceEqDiff, Nat.zero_add, true_and, and_true, Bool.not_true, Bool.not_false, Bool.true_and, Bool.and_true, Bool.false_and, Bool.or_false, Bool.false_or, Bool.or_true, Bool.true_or, if_true, if_false, Bool.false_eq_true, ↓reduceIte]
      exact hN
    · have e : decide (c.fade = 0) = false := decide_eq_false (by omega)
      rw [if_neg (by omega)] at hN
      simp only [e, q_parted _ c.fade (by omega) (by omega), bodyV, startE, vSeq, vNext, vIfS, vRet, vRetN, vRetV, vSet, vSetO, vDrop, vAsg, gT, gsC, gsN, gN, vPar, vVar, vC, vOp, vUn, dNeg, vTest, isB, vAnd, vOr, vNot, vAndV, vOrV, vNotV, vIf, vIfT, vChain, vNil, vCons, vTup, vLst, vFz, vCall, vCallO, vCallS, rOf, wNil, wDat, wVar, vCB, vCO, dAdd, dSub, dMul, dDiv, dMod, dLt, dLe, dGt, dGe, dIs, dIsNot, isNoneD, dIx, vIsi, isi_int, isi_intb, isi_tup, dEqI, dNeI, at0, at1, at2, at3, at4, bLen, bMin2, bMax2, bAbs, bInt, bTuple, vFor, iT, iL, iET, iEL, itemsT, itemsL, iR1, iR2, rng1, rng2, vSl, dSl, pN, pS, vFrz, vAppend, vIxO, vLenO, vLenS, vYes, vLc, noOwn, wipeE, gN, Int.reduceEq, decide_true, decide_false, eq_self, Int.reduceNeg, Int.cast_ofNat_Int, reduceCtorEq, List.length_cons, List.length_nil, List.map_cons, List.map_nil, List.replicate, List.cons_append, List.nil_append, List.append_nil, List.getElem?_cons_zero, List.getElem?_cons_succ, List.set_cons_zero, List.set_cons_succ, Nat.reduceAdd, Nat.reduceSub, Nat.reduceEqDiff, Nat.zero_add, true_and, and_true, Bool.not_true, Bool.not_false, Bool.true_and, Bool.and_true, Bool.false_and, Bool.or_false, Bool.false_or, Bool.or_true, Bool.true_or, if_true, if_false, Bool.false_eq_true, ↓reduceIte]
      exact hN
  have m := h.mv _ (nth_mem hk0 hk1)
  have e : CMul (nth c.moves k).1 (nth c.steps s.2) := .inl ⟨by omega, by omega⟩
  apply seq_at
  · intro N hN; simp only [Cd.d, stD, atI_map (f := PyData.int) hs.2.2.1 hs.2.2.2, e, q_parted _ 8 (by decide) (by decide), bodyV, startE, vSeq, vNext, vIfS, vRet, vRetN, vRetV, vSet, vSetO, vDrop, vAsg, gT, gsC, gsN, gN, vPar, vVar, vC, vOp, vUn, dNeg, vTest, isB, vAnd, vOr, vNot, vAndV, vOrV, vNotV, vIf, vIfT, vChain, vNil, vCons, vTup, vLst, vFz, vCall, vCallO, vCallS, rOf, wNil, wDat, wVar, vCB, vCO, dAdd, dSub, dMul, dDiv, dMod, dLt, dLe, dGt, dGe, dIs, dIsNot, isNoneD, dIx, vIsi, isi_int, isi_intb, isi_tup, dEqI, dNeI, at0, at1, at2, at3, at4, bLen, bMin2, bMax2, bAbs, bInt, bTuple, vFor, iT, iL, iET, iEL, itemsT, itemsL, iR1, iR2, rng1, rng2, vSl, dSl, pN, pS, vFrz, vAppend, vIxO, vLenO, vLenS, vYes, vLc, noOwn, wipeE, gN, Int.reduceEq, decide_true, decide_false, eq_self, Int.reduceNeg, Int.cast_ofNat_Int, reduceCtorEq, List.length_cons, List.length_nil, List.map_cons, List.map_nil, List.replicate, List.cons_append, List.nil_append, List.append_nil, List.getElem?_cons_zero, List.getElem?_cons_succ, List.set_cons_zero, List.set_cons_succ, Nat.reduceAdd, Nat.reduceSub, Nat.reduceEqDiff, Nat.zero_add, true_and, and_true, Bool.not_true, Bool.not_false, Bool.true_and, Bool.and_true, Bool.false_and, Bool.or_false, Bool.false_or, Bool.or_true, Bool.true_or, if_true, if_false, Bool.false_eq_true, ↓reduceIte]; exact hN
  have z : (2 : Nat) ≤ sizeLine := by decide
  simp only [Cd.d, stD, q_limited, List.length_map, z, bodyV, startE, vSeq, vNext, vIfS, vRet, vRetN, vRetV, vSet, vSetO, vDrop, vAsg, gT, gsC, gsN, gN, vPar, vVar, vC, vOp, vUn, dNeg, vTest, isB, vAnd, vOr, vNot, vAndV, vOrV, vNotV, vIf, vIfT, vChain, vNil, vCons, vTup, vLst, vFz, vCall, vCallO, vCallS, rOf, wNil, wDat, wVar, vCB, vCO, dAdd, dSub, dMul, dDiv, dMod, dLt, dLe, dGt, dGe, dIs, dIsNot, isNoneD, dIx, vIsi, isi_int, isi_intb, isi_tup, dEqI, dNeI, at0, at1, at2, at3, at4, bLen, bMin2, bMax2, bAbs, bInt, bTuple, vFor, iT, iL, iET, iEL, itemsT, itemsL, iR1, iR2, rng1, rng2, vSl, dSl, pN, pS, vFrz, vAppend, vIxO, vLenO, vLenS, vYes, vLc, noOwn, wipeE, gN, Int.reduceEq, decide_true, decide_false, eq_self, Int.reduceNeg, Int.cast_ofNat_Int, reduceCtorEq, List.length_cons, List.length_nil, List.map_cons, List.map_nil, List.replicate, List.cons_append, List.nil_append, List.append_nil, List.getElem?_cons_zero, List.getElem?_cons_succ, List.set_cons_zero, List.set_cons_succ, Nat.reduceAdd, Nat.reduceSub, Nat.reduceEqDiff, Nat.zero_add, true_and, and_true, Bool.not_true, Bool.not_false, Bool.true_and, Bool.and_true, Bool.false_and, Bool.or_false, Bool.false_or, Bool.or_true, Bool.true_or, if_true, if_false, Bool.false_eq_true, ↓reduceIte]
  rw [lim_eq (by have := h.l1; have := h.h0; omega), lim_eq (by have := h.s0; omega)]
  exact q
theorem q_draw {many : Int} {n : Nat} {Q : WK} {E : XW} (h0 : 0 < many) (h1 : many < 1073741824) (h2 : n < 1000000000000) (q : ∀ r, 0 ≤ r → r < many → Q (.dat (.int r)) (n + 1)) : w__law_next [.tok, .dat (.int many)] n Q E := ⟨h0, h1, h2, q⟩
theorem sh_int {c : Cd} (h : c.Ok) {s : Int × Int} (hs : c.St s) : s.1.natAbs < 10 ^ 12 ∧ s.2.natAbs < 10 ^ 12 := by
  have := h.l0; have := h.h1; have := h.s1; have := hs.1; have := hs.2.1; have := hs.2.2.1; have := hs.2.2.2
  exact ⟨by omega, by omega⟩
theorem sh_st {c : Cd} (h : c.Ok) {s : Int × Int} (hs : c.St s) : Sh 82 1 (stD s) := Sh.tup (.cons (Sh.int (sh_int h hs).1) (.cons (Sh.int (sh_int h hs).2) .nil))
/-! ### things of any kind -/
def wh (d : Dt) (a b : Int) : Bool := match d with
  | .int v => inR a v b
  | _ => false
theorem q_wholeA (d : Dt) (a b : Int) (n : Nat) (Q : WK) (E : XW) : w_is_whole [.dat d, .dat (.int a), .dat (.int b)] n Q E ↔ Q (.dat (.bool (wh d a b))) n := by
  cases d with
  | int v => exact q_whole v a b n Q E
  | bool v =>
    have e1 : isiD "int" (.bool v) = true := rfl
    have e2 : isiD "bool" (.bool v) = true := rfl
    simp only [wd_is_whole, t_is_whole, wh, e1, e2, bodyV, startE, vSeq, vNext, vIfS, vRet, vRetN, vRetV, vSet, vSetO, vDrop, vAsg, gT, gsC, gsN, gN, vPar, vVar, vC, vOp, vUn, dNeg, vTest, isB, vAnd, vOr, vNot, vAndV, vOrV, vNotV, vIf, vIfT, vChain, vNil, vCons, vTup, vLst, vFz, vCall, vCallO, vCallS, rOf, wNil, wDat, wVar, vCB, vCO, dAdd, dSub, dMul, dDiv, dMod, dLt, dLe, dGt, dGe, dIs, dIsNot, isNoneD, dIx, vIsi, isi_int, isi_intb, isi_tup, dEqI, dNeI, at0, at1, at2, at3, at4, bLen, bMin2, bMax2, bAbs, bInt, bTuple, vFor, iT, iL, iET, iEL, itemsT, itemsL, iR1, iR2, rng1, rng2, vSl, dSl, pN, pS, vFrz, vAppend, vIxO, vLenO, vLenS, vYes, vLc, noOwn, wipeE, gN, Int.reduceEq, decide_true, decide_false, eq_self, Int.reduceNeg, Int.cast_ofNat_Int, reduceCtorEq, List.length_cons, List.length_nil, List.map_cons, List.map_nil, List.replicate, List.cons_append, List.nil_append, List.append_nil, List.getElem?_cons_zero, List.getElem?_cons_succ, List.set_cons_zero, List.set_cons_succ, Nat.reduceAdd, Nat.reduceSub, Nat.reduceEqDiff, Nat.zero_add, true_and, and_true, Bool.not_true, Bool.not_false, Bool.true_and, Bool.and_true, Bool.false_and, Bool.or_false, Bool.false_or, Bool.or_true, Bool.true_or, if_true, if_false, Bool.false_eq_true, ↓reduceIte]
  | none =>
    have e1 : isiD "int" .none = false := rfl
    simp only [wd_is_whole, t_is_whole, wh, e1, bodyV, startE, vSeq, vNext, vIfS, vRet, vRetN, vRetV, vSet, vSetO, vDrop, vAsg, gT, gsC, gsN, gN, vPar, vVar, vC, vOp, vUn, dNeg, vTest, isB, vAnd, vOr, vNot, vAndV, vOrV, vNotV, vIf, vIfT, vChain, vNil, vCons, vTup, vLst, vFz, vCall, vCallO, vCallS, rOf, wNil, wDat, wVar, vCB, vCO, dAdd, dSub, dMul, dDiv, dMod, dLt, dLe, dGt, dGe, dIs, dIsNot, isNoneD, dIx, vIsi, isi_int, isi_intb, isi_tup, dEqI, dNeI, at0, at1, at2, at3, at4, bLen, bMin2, bMax2, bAbs, bInt, bTuple, vFor, iT, iL, iET, iEL, itemsT, itemsL, iR1, iR2, rng1, rng2, vSl, dSl, pN, pS, vFrz, vAppend, vIxO, vLenO, vLenS, vYes, vLc, noOwn, wipeE, gN, Int.reduceEq, decide_true, decide_false, eq_self, Int.reduceNeg, Int.cast_ofNat_Int, reduceCtorEq, List.length_cons, List.length_nil, List.map_cons, List.map_nil, List.replicate, List.cons_append, List.nil_append, List.append_nil, List.getElem?_cons_zero, List.getElem?_cons_succ, List.set_cons_zero, List.set_cons_succ, Nat.reduceAdd, Nat.reduceSub, Nat.reduceEqDiff, Nat.zero_add, true_and, and_true, Bool.not_true, Bool.not_false, Bool.true_and, Bool.and_true, Bool.false_and, Bool.or_false, Bool.false_or, Bool.or_true, Bool.true_or, if_true, if_false, Bool.false_eq_true, ↓reduceIte]
  | str x =>
    have e1 : isiD "int" (.str x) = false := rfl
    simp only [wd_is_whole, t_is_whole, wh, e1, bodyV, startE, vSeq, vNext, vIfS, vRet, vRetN, vRetV, vSet, vSetO, vDrop, vAsg, gT, gsC, gsN, gN, vPar, vVar, vC, vOp, vUn, dNeg, vTest, isB, vAnd, vOr, vNot, vAndV, vOrV, vNotV, vIf, vIfT, vChain, vNil, vCons, vTup, vLst, vFz, vCall, vCallO, vCallS, rOf, wNil, wDat, wVar, vCB, vCO, dAdd, dSub, dMul, dDiv, dMod, dLt, dLe, dGt, dGe, dIs, dIsNot, isNoneD, dIx, vIsi, isi_int, isi_intb, isi_tup, dEqI, dNeI, at0, at1, at2, at3, at4, bLen, bMin2, bMax2, bAbs, bInt, bTuple, vFor, iT, iL, iET, iEL, itemsT, itemsL, iR1, iR2, rng1, rng2, vSl, dSl, pN, pS, vFrz, vAppend, vIxO, vLenO, vLenS, vYes, vLc, noOwn, wipeE, gN, Int.reduceEq, decide_true, decide_false, eq_self, Int.reduceNeg, Int.cast_ofNat_Int, reduceCtorEq, List.length_cons, List.length_nil, List.map_cons, List.map_nil, List.replicate, List.cons_append, List.nil_append, List.append_nil, List.getElem?_cons_zero, List.getElem?_cons_succ, List.set_cons_zero, List.set_cons_succ, Nat.reduceAdd, Nat.reduceSub, Nat.reduceEqDiff, Nat.zero_add, true_and, and_true, Bool.not_true, Bool.not_false, Bool.true_and, Bool.and_true, Bool.false_and, Bool.or_false, Bool.false_or, Bool.or_true, Bool.true_or, if_true, if_false, Bool.false_eq_true, ↓reduceIte]
  | list x =>
    have e1 : isiD "int" (.list x) = false := rfl
    simp only [wd_is_whole, t_is_whole, wh, e1, bodyV, startE, vSeq, vNext, vIfS, vRet, vRetN, vRetV, vSet, vSetO, vDrop, vAsg, gT, gsC, gsN, gN, vPar, vVar, vC, vOp, vUn, dNeg, vTest, isB, vAnd, vOr, vNot, vAndV, vOrV, vNotV, vIf, vIfT, vChain, vNil, vCons, vTup, vLst, vFz, vCall, vCallO, vCallS, rOf, wNil, wDat, wVar, vCB, vCO, dAdd, dSub, dMul, dDiv, dMod, dLt, dLe, dGt, dGe, dIs, dIsNot, isNoneD, dIx, vIsi, isi_int, isi_intb, isi_tup, dEqI, dNeI, at0, at1, at2, at3, at4, bLen, bMin2, bMax2, bAbs, bInt, bTuple, vFor, iT, iL, iET, iEL, itemsT, itemsL, iR1, iR2, rng1, rng2, vSl, dSl, pN, pS, vFrz, vAppend, vIxO, vLenO, vLenS, vYes, vLc, noOwn, wipeE, gN, Int.reduceEq, decide_true, decide_false, eq_self, Int.reduceNeg, Int.cast_ofNat_Int, reduceCtorEq, List.length_cons, List.length_nil, List.map_cons, List.map_nil, List.replicate, List.cons_append, List.nil_append, List.append_nil, List.getElem?_cons_zero, List.getElem?_cons_succ, List.set_cons_zero, List.set_cons_succ, Nat.reduceAdd, Nat.reduceSub, Nat.reduceEqDiff, Nat.zero_add, true_and, and_true, Bool.not_true, Bool.not_false, Bool.true_and, Bool.and_true, Bool.false_and, Bool.or_false, Bool.false_or, Bool.or_true, Bool.true_or, if_true, if_false, Bool.false_eq_true, ↓reduceIte]
  | tuple x =>
    have e1 : isiD "int" (.tuple x) = false := rfl
    simp only [wd_is_whole, t_is_whole, wh, e1, bodyV, startE, vSeq, vNext, vIfS, vRet, vRetN, vRetV, vSet, vSetO, vDrop, vAsg, gT, gsC, gsN, gN, vPar, vVar, vC, vOp, vUn, dNeg, vTest, isB, vAnd, vOr, vNot, vAndV, vOrV, vNotV, vIf, vIfT, vChain, vNil, vCons, vTup, vLst, vFz, vCall, vCallO, vCallS, rOf, wNil, wDat, wVar, vCB, vCO, dAdd, dSub, dMul, dDiv, dMod, dLt, dLe, dGt, dGe, dIs, dIsNot, isNoneD, dIx, vIsi, isi_int, isi_intb, isi_tup, dEqI, dNeI, at0, at1, at2, at3, at4, bLen, bMin2, bMax2, bAbs, bInt, bTuple, vFor, iT, iL, iET, iEL, itemsT, itemsL, iR1, iR2, rng1, rng2, vSl, dSl, pN, pS, vFrz, vAppend, vIxO, vLenO, vLenS, vYes, vLc, noOwn, wipeE, gN, Int.reduceEq, decide_true, decide_false, eq_self, Int.reduceNeg, Int.cast_ofNat_Int, reduceCtorEq, List.length_cons, List.length_nil, List.map_cons, List.map_nil, List.replicate, List.cons_append, List.nil_append, List.append_nil, List.getElem?_cons_zero, List.getElem?_cons_succ, List.set_cons_zero, List.set_cons_succ, Nat.reduceAdd, Nat.reduceSub, Nat.reduceEqDiff, Nat.zero_add, true_and, and_true, Bool.not_true, Bool.not_false, Bool.true_and, Bool.and_true, Bool.false_and, Bool.or_false, Bool.false_or, Bool.or_true, Bool.true_or, if_true, if_false, Bool.false_eq_true, ↓reduceIte]
  | dict x =>
    have e1 : isiD "int" (.dict x) = false := rfl
    simp only [wd_is_whole, t_is_whole, wh, e1, bodyV, startE, vSeq, vNext, vIfS, vRet, vRetN, vRetV, vSet, vSetO, vDrop, vAsg, gT, gsC, gsN, gN, vPar, vVar, vC, vOp, vUn, dNeg, vTest, isB, vAnd, vOr, vNot, vAndV, vOrV, vNotV, vIf, vIfT, vChain, vNil, vCons, vTup, vLst, vFz, vCall, vCallO, vCallS, rOf, wNil, wDat, wVar, vCB, vCO, dAdd, dSub, dMul, dDiv, dMod, dLt, dLe, dGt, dGe, dIs, dIsNot, isNoneD, dIx, vIsi, isi_int, isi_intb, isi_tup, dEqI, dNeI, at0, at1, at2, at3, at4, bLen, bMin2, bMax2, bAbs, bInt, bTuple, vFor, iT, iL, iET, iEL, itemsT, itemsL, iR1, iR2, rng1, rng2, vSl, dSl, pN, pS, vFrz, vAppend, vIxO, vLenO, vLenS, vYes, vLc, noOwn, wipeE, gN, Int.reduceEq, decide_true, decide_false, eq_self, Int.reduceNeg, Int.cast_ofNat_Int, reduceCtorEq, List.length_cons, List.length_nil, List.map_cons, List.map_nil, List.replicate, List.cons_append, List.nil_append, List.append_nil, List.getElem?_cons_zero, List.getElem?_cons_succ, List.set_cons_zero, List.set_cons_succ, Nat.reduceAdd, Nat.reduceSub, Nat.reduceEqDiff, Nat.zero_add, true_and, and_true, Bool.not_true, Bool.not_false, Bool.true_and, Bool.and_true, Bool.false_and, Bool.or_false, Bool.false_or, Bool.or_true, Bool.true_or, if_true, if_false, Bool.false_eq_true, ↓reduceIte]
def stB (c : Cd) (d : Dt) : Bool := match d with
  | .tuple [x, y] => wh x c.low c.high && wh y 0 (c.steps.length - 1)
  | _ => false
def isT : Dt → Bool
  | .tuple _ => true
  | _ => false
theorem isi_T (d : Dt) : isiD "tuple" d = isT d := by cases d <;> rfl
theorem q_stateA (c : Cd) (d : Dt) (n : Nat) (Q : WK) (E : XW) (q : Q (.dat (.bool (stB c d))) n) : w_is_state [.dat c.d, .dat d] n Q E := by
  rw [wd_is_state]
  refine body_at rfl ?_
  unfold t_is_state
  by_cases h : isT d = true
  · cases d with
    | tuple xs =>
      match xs, q with
      | [], q => simp only [bodyV, startE, vSeq, vNext, vIfS, vRet, vRetN, vRetV, vSet, vSetO, vDrop, vAsg, gT, gsC, gsN, gN, vPar, vVar, vC, vOp, vUn, dNeg, vTest, isB, vAnd, vOr, vNot, vAndV, vOrV, vNotV, vIf, vIfT, vChain, vNil, vCons, vTup, vLst, vFz, vCall, vCallO, vCallS, rOf, wNil, wDat, wVar, vCB, vCO, dAdd, dSub, dMul, dDiv, dMod, dLt, dLe, dGt, dGe, dIs, dIsNot, isNoneD, dIx, vIsi, isi_int, isi_intb, isi_tup, dEqI, dNeI, at0, at1, at2, at3, at4, bLen, bMin2, bMax2, bAbs, bInt, bTuple, vFor, iT, iL, iET, iEL, itemsT, itemsL, iR1, iR2, rng1, rng2, vSl, dSl, pN, pS, vFrz, vAppend, vIxO, vLenO, vLenS, vYes, vLc, noOwn, wipeE, gN, Int.reduceEq, decide_true, decide_false, eq_self, Int.reduceNeg, Int.cast_ofNat_Int, reduceCtorEq, List.length_cons, List.length_nil, List.map_cons, List.map_nil, List.replicate, List.cons_append, List.nil_append, List.append_nil, List.getElem?_cons_zero, List.getElem?_cons_succ, List.set_cons_zero, List.set_cons_succ, Nat.reduceAdd, Nat.reduceSub, Nat.reduceEqDiff, Nat.zero_add, true_and, and_true, Bool.not_true, Bool.not_false, Bool.true_and, Bool.and_true, Bool.false_and, Bool.or_false, Bool.false_or, Bool.or_true, Bool.true_or, if_true, if_false, Bool.false_eq_true, ↓reduceIte]; exact q
      | [x], q => simp only [bodyV, startE, vSeq, vNext, vIfS, vRet, vRetN, vRetV, vSet, vSetO, vDrop, vAsg, gT, gsC, gsN, gN, vPar, vVar, vC, vOp, vUn, dNeg, vTest, isB, vAnd, vOr, vNot, vAndV, vOrV, vNotV, vIf, vIfT, vChain, vNil, vCons, vTup, vLst, vFz, vCall, vCallO, vCallS, rOf, wNil, wDat, wVar, vCB, vCO, dAdd, dSub, dMul, dDiv, dMod, dLt, dLe, dGt, dGe, dIs, dIsNot, isNoneD, dIx, vIsi, isi_int, isi_intb, isi_tup, dEqI, dNeI, at0, at1, at2, at3, at4, bLen, bMin2, bMax2, bAbs, bInt, bTuple, vFor, iT, iL, iET, iEL, itemsT, itemsL, iR1, iR2, rng1, rng2, vSl, dSl, pN, pS, vFrz, vAppend, vIxO, vLenO, vLenS, vYes, vLc, noOwn, wipeE, gN, Int.reduceEq, decide_true, decide_false, eq_self, Int.reduceNeg, Int.cast_ofNat_Int, reduceCtorEq, List.length_cons, List.length_nil, List.map_cons, List.map_nil, List.replicate, List.cons_append, List.nil_append, List.append_nil, List.getElem?_cons_zero, List.getElem?_cons_succ, List.set_cons_zero, List.set_cons_succ, Nat.reduceAdd, Nat.reduceSub, Nat.reduceEqDiff, Nat.zero_add, true_and, and_true, Bool.not_true, Bool.not_false, Bool.true_and, Bool.and_true, Bool.false_and, Bool.or_false, Bool.false_or, Bool.or_true, Bool.true_or, if_true, if_false, Bool.false_eq_true, ↓reduceIte]; exact q
      | [x, y], q =>
        apply seq_at
        · intro N hN; simp only [bodyV, startE, vSeq, vNext, vIfS, vRet, vRetN, vRetV, vSet, vSetO, vDrop, vAsg, gT, gsC, gsN, gN, vPar, vVar, vC, vOp, vUn, dNeg, vTest, isB, vAnd, vOr, vNot, vAndV, vOrV, vNotV, vIf, vIfT, vChain, vNil, vCons, vTup, vLst, vFz, vCall, vCallO, vCallS, rOf, wNil, wDat, wVar, vCB, vCO, dAdd, dSub, dMul, dDiv, dMod, dLt, dLe, dGt, dGe, dIs, dIsNot, isNoneD, dIx, vIsi, isi_int, isi_intb, isi_tup, dEqI, dNeI, at0, at1, at2, at3, at4, bLen, bMin2, bMax2, bAbs, bInt, bTuple, vFor, iT, iL, iET, iEL, itemsT, itemsL, iR1, iR2, rng1, rng2, vSl, dSl, pN, pS, vFrz, vAppend, vIxO, vLenO, vLenS, vYes, vLc, noOwn, wipeE, gN, Int.reduceEq, decide_true, decide_false, eq_self, Int.reduceNeg, Int.cast_ofNat_Int, reduceCtorEq, List.length_cons, List.length_nil, List.map_cons, List.map_nil, List.replicate, List.cons_append, List.nil_append, List.append_nil, List.getElem?_cons_zero, List.getElem?_cons_succ, List.set_cons_zero, List.set_cons_succ, Nat.reduceAdd, Nat.reduceSub, Nat.reduceEqDiff, Nat.zero_add, true_and, and_true, Bool.not_true, Bool.not_false, Bool.true_and, Bool.and_true, Bool.false_and, Bool.or_false, Bool.false_or, Bool.or_true, Bool.true_or, if_true, if_false, Bool.false_eq_true, ↓reduceIte]; exact hN
        simp only [Cd.d, q_wholeA, List.length_map, bodyV, startE, vSeq, vNext, vIfS, vRet, vRetN, vRetV, vSet, vSetO, vDrop, vAsg, gT, gsC, gsN, gN, vPar, vVar, vC, vOp, vUn, dNeg, vTest, isB, vAnd, vOr, vNot, vAndV, vOrV, vNotV, vIf, vIfT, vChain, vNil, vCons, vTup, vLst, vFz, vCall, vCallO, vCallS, rOf, wNil, wDat, wVar, vCB, vCO, dAdd, dSub, dMul, dDiv, dMod, dLt, dLe, dGt, dGe, dIs, dIsNot, isNoneD, dIx, vIsi, isi_int, isi_intb, isi_tup, dEqI, dNeI, at0, at1, at2, at3, at4, bLen, bMin2, bMax2, bAbs, bInt, bTuple, vFor, iT, iL, iET, iEL, itemsT, itemsL, iR1, iR2, rng1, rng2, vSl, dSl, pN, pS, vFrz, vAppend, vIxO, vLenO, vLenS, vYes, vLc, noOwn, wipeE, gN, Int.reduceEq, decide_true, decide_false, eq_self, Int.reduceNeg, Int.cast_ofNat_Int, reduceCtorEq, List.length_cons, List.length_nil, List.map_cons, List.map_nil, List.replicate, List.cons_append, List.nil_append, List.append_nil, List.getElem?_cons_zero, List.getElem?_cons_succ, List.set_cons_zero, List.set_cons_succ, Nat.reduceAdd, Nat.reduceSub, Nat.reduceEqDiff, Nat.zero_add, true_and, and_true, Bool.not_true, Bool.not_false, Bool.true_and, Bool.and_true, Bool.false_and, Bool.or_false, Bool.false_or, Bool.or_true, Bool.true_or, if_true, if_false, Bool.false_eq_true, ↓reduceIte]
        have q' : Q (.dat (.bool (wh x c.low c.high && wh y 0 (c.steps.length - 1)))) n := q
        cases h1 : wh x c.low c.high with
        | true => rw [h1] at q'; simpa using q'
        | false => rw [h1] at q'; simpa using q'
      | x :: y :: z :: l, q =>
        have e : decide (((l.length + 1 + 1 + 1 : Nat) : Int) = 2) = false := decide_eq_false (by omega)
        simp only [e, bodyV, startE, vSeq, vNext, vIfS, vRet, vRetN, vRetV, vSet, vSetO, vDrop, vAsg, gT, gsC, gsN, gN, vPar, vVar, vC, vOp, vUn, dNeg, vTest, isB, vAnd, vOr, vNot, vAndV, vOrV, vNotV, vIf, vIfT, vChain, vNil, vCons, vTup, vLst, vFz, vCall, vCallO, vCallS, rOf, wNil, wDat, wVar, vCB, vCO, dAdd, dSub, dMul, dDiv, dMod, dLt, dLe, dGt, dGe, dIs, dIsNot, isNoneD, dIx, vIsi, isi_int, isi_intb, isi_tup, dEqI, dNeI, at0, at1, at2, at3, at4, bLen, bMin2, bMax2, bAbs, bInt, bTuple, vFor, iT, iL, iET, iEL, itemsT, itemsL, iR1, iR2, rng1, rng2, vSl, dSl, pN, pS, vFrz, vAppend, vIxO, vLenO, vLenS, vYes, vLc, noOwn, wipeE, gN, Int.reduceEq, decide_true, decide_false, eq_self, Int.reduceNeg, Int.cast_ofNat_Int, reduceCtorEq, List.length_cons, List.length_nil, List.map_cons, List.map_nil, List.replicate, List.cons_append, List.nil_append, List.append_nil, List.getElem?_cons_zero, List.getElem?_cons_succ, List.set_cons_zero, List.set_cons_succ, Nat.reduceAdd, Nat.reduceSub, Nat.reduceEqDiff, Nat.zero_add, true_and, and_true, Bool.not_true, Bool.not_false, Bool.true_and, Bool.and_true, Bool.false_and, Bool.or_false, Bool.false_or, Bool.or_true, Bool.true_or, if_true, if_false, Bool.false_eq_true, ↓reduceIte]
        exact q
    | _ => cases h
  · rw [Bool.not_eq_true] at h
    have e : stB c d = false := by
      cases d with
      | tuple xs => cases h
      | _ => rfl
    rw [e] at q
    simp only [vIsi, isi_T, h, vSeq, vIfS, vOr, vNot, vTest, vVar, isB, startE, vRet, vC, List.length_cons, List.length_nil, List.map_cons, List.map_nil, List.replicate, List.cons_append, List.nil_append, List.append_nil, List.getElem?_cons_zero, List.getElem?_cons_succ, Nat.zero_add, Nat.reduceAdd, Nat.reduceSub, Bool.not_false, if_true, ↓reduceIte]
    exact q
/-- refused -/
def Oop (E : XW) (n : Nat) : Prop := ∀ z : String, E (mkX "OutOfPlace" ["text"] [.str z]) n
theorem q_needS (c : Cd) (d : Dt) (h : stB c d = false) (n : Nat) (Q : WK) (E : XW) (q : Oop E n) : w_need_state [.dat c.d, .dat d] n Q E := by
  rw [wd_need_state]
  refine body_at rfl ?_
  unfold t_need_state
  simp only [bodyV, startE, vSeq, vNext, vIfS, vRet, vRetN, vRetV, vSet, vSetO, vDrop, vAsg, gT, gsC, gsN, gN, vPar, vVar, vC, vOp, vUn, dNeg, vTest, isB, vAnd, vOr, vNot, vAndV, vOrV, vNotV, vIf, vIfT, vChain, vNil, vCons, vTup, vLst, vFz, vCall, vCallO, vCallS, rOf, wNil, wDat, wVar, vCB, vCO, dAdd, dSub, dMul, dDiv, dMod, dLt, dLe, dGt, dGe, dIs, dIsNot, isNoneD, dIx, vIsi, isi_int, isi_intb, isi_tup, dEqI, dNeI, at0, at1, at2, at3, at4, bLen, bMin2, bMax2, bAbs, bInt, bTuple, vFor, iT, iL, iET, iEL, itemsT, itemsL, iR1, iR2, rng1, rng2, vSl, dSl, pN, pS, vFrz, vAppend, vIxO, vLenO, vLenS, vYes, vLc, noOwn, wipeE, gN, Int.reduceEq, decide_true, decide_false, eq_self, Int.reduceNeg, Int.cast_ofNat_Int, reduceCtorEq, List.length_cons, List.length_nil, List.map_cons, List.map_nil, List.replicate, List.cons_append, List.nil_append, List.append_nil, List.getElem?_cons_zero, List.getElem?_cons_succ, List.set_cons_zero, List.set_cons_succ, Nat.reduceAdd, Nat.reduceSub, Nat.reduceEqDiff, Nat.zero_add, true_and, and_true, Bool.not_true, Bool.not_false, Bool.true_and, Bool.and_true, Bool.false_and, Bool.or_false, Bool.false_or, Bool.or_true, Bool.true_or, if_true, if_false, Bool.false_eq_true, ↓reduceIte]
  refine q_stateA c d _ _ _ ?_
  rw [h]
  have z : (1 : Nat) ≤ 1000 := by decide
  simp only [vRaise, z, bodyV, startE, vSeq, vNext, vIfS, vRet, vRetN, vRetV, vSet, vSetO, vDrop, vAsg, gT, gsC, gsN, gN, vPar, vVar, vC, vOp, vUn, dNeg, vTest, isB, vAnd, vOr, vNot, vAndV, vOrV, vNotV, vIf, vIfT, vChain, vNil, vCons, vTup, vLst, vFz, vCall, vCallO, vCallS, rOf, wNil, wDat, wVar, vCB, vCO, dAdd, dSub, dMul, dDiv, dMod, dLt, dLe, dGt, dGe, dIs, dIsNot, isNoneD, dIx, vIsi, isi_int, isi_intb, isi_tup, dEqI, dNeI, at0, at1, at2, at3, at4, bLen, bMin2, bMax2, bAbs, bInt, bTuple, vFor, iT, iL, iET, iEL, itemsT, itemsL, iR1, iR2, rng1, rng2, vSl, dSl, pN, pS, vFrz, vAppend, vIxO, vLenO, vLenS, vYes, vLc, noOwn, wipeE, gN, Int.reduceEq, decide_true, decide_false, eq_self, Int.reduceNeg, Int.cast_ofNat_Int, reduceCtorEq, List.length_cons, List.length_nil, List.map_cons, List.map_nil, List.replicate, List.cons_append, List.nil_append, List.append_nil, List.getElem?_cons_zero, List.getElem?_cons_succ, List.set_cons_zero, List.set_cons_succ, Nat.reduceAdd, Nat.reduceSub, Nat.reduceEqDiff, Nat.zero_add, true_and, and_true, Bool.not_true, Bool.not_false, Bool.true_and, Bool.and_true, Bool.false_and, Bool.or_false, Bool.false_or, Bool.or_true, Bool.true_or, if_true, if_false, Bool.false_eq_true, ↓reduceIte]
  exact q _
theorem q_codeA (c : Cd) (d : Dt) (n : Nat) (Q : WK) (E : XW) : w_is_code [.dat c.d, .dat d] n Q E ↔ Q (.dat (.bool (wh d 0 (c.moves.length - 1)))) n := by
  simp only [wd_is_code, t_is_code, Cd.d, q_wholeA, List.length_map, bodyV, startE, vSeq, vNext, vIfS, vRet, vRetN, vRetV, vSet, vSetO, vDrop, vAsg, gT, gsC, gsN, gN, vPar, vVar, vC, vOp, vUn, dNeg, vTest, isB, vAnd, vOr, vNot, vAndV, vOrV, vNotV, vIf, vIfT, vChain, vNil, vCons, vTup, vLst, vFz, vCall, vCallO, vCallS, rOf, wNil, wDat, wVar, vCB, vCO, dAdd, dSub, dMul, dDiv, dMod, dLt, dLe, dGt, dGe, dIs, dIsNot, isNoneD, dIx, vIsi, isi_int, isi_intb, isi_tup, dEqI, dNeI, at0, at1, at2, at3, at4, bLen, bMin2, bMax2, bAbs, bInt, bTuple, vFor, iT, iL, iET, iEL, itemsT, itemsL, iR1, iR2, rng1, rng2, vSl, dSl, pN, pS, vFrz, vAppend, vIxO, vLenO, vLenS, vYes, vLc, noOwn, wipeE, gN, Int.reduceEq, decide_true, decide_false, eq_self, Int.reduceNeg, Int.cast_ofNat_Int, reduceCtorEq, List.length_cons, List.length_nil, List.map_cons, List.map_nil, List.replicate, List.cons_append, List.nil_append, List.append_nil, List.getElem?_cons_zero, List.getElem?_cons_succ, List.set_cons_zero, List.set_cons_succ, Nat.reduceAdd, Nat.reduceSub, Nat.reduceEqDiff, Nat.zero_add, true_and, and_true, Bool.not_true, Bool.not_false, Bool.true_and, Bool.and_true, Bool.false_and, Bool.or_false, Bool.false_or, Bool.or_true, Bool.true_or, if_true, if_false, Bool.false_eq_true, ↓reduceIte]
theorem q_needC (c : Cd) (d : Dt) (h : wh d 0 (c.moves.length - 1) = false) (n : Nat) (Q : WK) (E : XW) (q : Oop E n) : w_need_code [.dat c.d, .dat d] n Q E := by
  rw [wd_need_code]
  refine body_at rfl ?_
  unfold t_need_code
  have z : (1 : Nat) ≤ 1000 := by decide
  simp only [q_codeA, h, vRaise, z, bodyV, startE, vSeq, vNext, vIfS, vRet, vRetN, vRetV, vSet, vSetO, vDrop, vAsg, gT, gsC, gsN, gN, vPar, vVar, vC, vOp, vUn, dNeg, vTest, isB, vAnd, vOr, vNot, vAndV, vOrV, vNotV, vIf, vIfT, vChain, vNil, vCons, vTup, vLst, vFz, vCall, vCallO, vCallS, rOf, wNil, wDat, wVar, vCB, vCO, dAdd, dSub, dMul, dDiv, dMod, dLt, dLe, dGt, dGe, dIs, dIsNot, isNoneD, dIx, vIsi, isi_int, isi_intb, isi_tup, dEqI, dNeI, at0, at1, at2, at3, at4, bLen, bMin2, bMax2, bAbs, bInt, bTuple, vFor, iT, iL, iET, iEL, itemsT, itemsL, iR1, iR2, rng1, rng2, vSl, dSl, pN, pS, vFrz, vAppend, vIxO, vLenO, vLenS, vYes, vLc, noOwn, wipeE, gN, Int.reduceEq, decide_true, decide_false, eq_self, Int.reduceNeg, Int.cast_ofNat_Int, reduceCtorEq, List.length_cons, List.length_nil, List.map_cons, List.map_nil, List.replicate, List.cons_append, List.nil_append, List.append_nil, List.getElem?_cons_zero, List.getElem?_cons_succ, List.set_cons_zero, List.set_cons_succ, Nat.reduceAdd, Nat.reduceSub, Nat.reduceEqDiff, Nat.zero_add, true_and, and_true, Bool.not_true, Bool.not_false, Bool.true_and, Bool.and_true, Bool.false_and, Bool.or_false, Bool.false_or, Bool.or_true, Bool.true_or, if_true, if_false, Bool.false_eq_true, ↓reduceIte]
  exact q _
theorem q_needP (c : Cd) (d : Dt) (h : wh d 0 (c.steps.length - 1) = false) (n : Nat) (Q : WK) (E : XW) (q : Oop E n) : w_need_place [.dat c.d, .dat d] n Q E := by
  rw [wd_need_place]
  refine body_at rfl ?_
  unfold t_need_place
  have z : (1 : Nat) ≤ 1000 := by decide
  simp only [Cd.d, q_wholeA, List.length_map, h, vRaise, z, bodyV, startE, vSeq, vNext, vIfS, vRet, vRetN, vRetV, vSet, vSetO, vDrop, vAsg, gT, gsC, gsN, gN, vPar, vVar, vC, vOp, vUn, dNeg, vTest, isB, vAnd, vOr, vNot, vAndV, vOrV, vNotV, vIf, vIfT, vChain, vNil, vCons, vTup, vLst, vFz, vCall, vCallO, vCallS, rOf, wNil, wDat, wVar, vCB, vCO, dAdd, dSub, dMul, dDiv, dMod, dLt, dLe, dGt, dGe, dIs, dIsNot, isNoneD, dIx, vIsi, isi_int, isi_intb, isi_tup, dEqI, dNeI, at0, at1, at2, at3, at4, bLen, bMin2, bMax2, bAbs, bInt, bTuple, vFor, iT, iL, iET, iEL, itemsT, itemsL, iR1, iR2, rng1, rng2, vSl, dSl, pN, pS, vFrz, vAppend, vIxO, vLenO, vLenS, vYes, vLc, noOwn, wipeE, gN, Int.reduceEq, decide_true, decide_false, eq_self, Int.reduceNeg, Int.cast_ofNat_Int, reduceCtorEq, List.length_cons, List.length_nil, List.map_cons, List.map_nil, List.replicate, List.cons_append, List.nil_append, List.append_nil, List.getElem?_cons_zero, List.getElem?_cons_succ, List.set_cons_zero, List.set_cons_succ, Nat.reduceAdd, Nat.reduceSub, Nat.reduceEqDiff, Nat.zero_add, true_and, and_true, Bool.not_true, Bool.not_false, Bool.true_and, Bool.and_true, Bool.false_and, Bool.or_false, Bool.false_or, Bool.or_true, Bool.true_or, if_true, if_false, Bool.false_eq_true, ↓reduceIte]
  exact q _

theorem q_needCg (c : Cd) (k : Int) (h0 : 0 ≤ k) (h1 : k < c.moves.length) (n : Nat) (Q : WK) (E : XW) (q : Q (.dat .none) n) : w_need_code [.dat c.d, .dat (.int k)] n Q E := by
  have e : wh (.int k) 0 (c.moves.length - 1) = true := by simp [wh, inR]; omega
  rw [wd_need_code]
  refine body_at rfl ?_
  unfold t_need_code
  simp only [q_codeA, e, bodyV, startE, vSeq, vNext, vIfS, vRet, vRetN, vRetV, vSet, vSetO, vDrop, vAsg, gT, gsC, gsN, gN, vPar, vVar, vC, vOp, vUn, dNeg, vTest, isB, vAnd, vOr, vNot, vAndV, vOrV, vNotV, vIf, vIfT, vChain, vNil, vCons, vTup, vLst, vFz, vCall, vCallO, vCallS, rOf, wNil, wDat, wVar, vCB, vCO, dAdd, dSub, dMul, dDiv, dMod, dLt, dLe, dGt, dGe, dIs, dIsNot, isNoneD, dIx, vIsi, isi_int, isi_intb, isi_tup, dEqI, dNeI, at0, at1, at2, at3, at4, bLen, bMin2, bMax2, bAbs, bInt, bTuple, vFor, iT, iL, iET, iEL, itemsT, itemsL, iR1, iR2, rng1, rng2, vSl, dSl, pN, pS, vFrz, vAppend, vIxO, vLenO, vLenS, vYes, vLc, noOwn, wipeE, gN, Int.reduceEq, decide_true, decide_false, eq_self, Int.reduceNeg, Int.cast_ofNat_Int, reduceCtorEq, List.length_cons, List.length_nil, List.map_cons, List.map_nil, List.replicate, List.cons_append, List.nil_append, List.append_nil, List.getElem?_cons_zero, List.getElem?_cons_succ, List.set_cons_zero, List.set_cons_succ, Nat.reduceAdd, Nat.reduceSub, Nat.reduceEqDiff, Nat.zero_add, true_and, and_true, Bool.not_true, Bool.not_false, Bool.true_and, Bool.and_true, Bool.false_and, Bool.or_false, Bool.false_or, Bool.or_true, Bool.true_or, if_true, if_false, Bool.false_eq_true, ↓reduceIte]
  exact q
theorem q_needPg (c : Cd) (p : Int) (h0 : 0 ≤ p) (h1 : p < c.steps.length) (n : Nat) (Q : WK) (E : XW) (q : Q (.dat .none) n) : w_need_place [.dat c.d, .dat (.int p)] n Q E := by
  have e : wh (.int p) 0 (c.steps.length - 1) = true := by simp [wh, inR]; omega
  rw [wd_need_place]
  refine body_at rfl ?_
  unfold t_need_place
  simp only [Cd.d, q_wholeA, e, List.length_map, bodyV, startE, vSeq, vNext, vIfS, vRet, vRetN, vRetV, vSet, vSetO, vDrop, vAsg, gT, gsC, gsN, gN, vPar, vVar, vC, vOp, vUn, dNeg, vTest, isB, vAnd, vOr, vNot, vAndV, vOrV, vNotV, vIf, vIfT, vChain, vNil, vCons, vTup, vLst, vFz, vCall, vCallO, vCallS, rOf, wNil, wDat, wVar, vCB, vCO, dAdd, dSub, dMul, dDiv, dMod, dLt, dLe, dGt, dGe, dIs, dIsNot, isNoneD, dIx, vIsi, isi_int, isi_intb, isi_tup, dEqI, dNeI, at0, at1, at2, at3, at4, bLen, bMin2, bMax2, bAbs, bInt, bTuple, vFor, iT, iL, iET, iEL, itemsT, itemsL, iR1, iR2, rng1, rng2, vSl, dSl, pN, pS, vFrz, vAppend, vIxO, vLenO, vLenS, vYes, vLc, noOwn, wipeE, gN, Int.reduceEq, decide_true, decide_false, eq_self, Int.reduceNeg, Int.cast_ofNat_Int, reduceCtorEq, List.length_cons, List.length_nil, List.map_cons, List.map_nil, List.replicate, List.cons_append, List.nil_append, List.append_nil, List.getElem?_cons_zero, List.getElem?_cons_succ, List.set_cons_zero, List.set_cons_succ, Nat.reduceAdd, Nat.reduceSub, Nat.reduceEqDiff, Nat.zero_add, true_and, and_true, Bool.not_true, Bool.not_false, Bool.true_and, Bool.and_true, Bool.false_and, Bool.or_false, Bool.false_or, Bool.or_true, Bool.true_or, if_true, if_false, Bool.false_eq_true, ↓reduceIte]
  exact q
theorem q_led_to (c : Cd) (h : c.Ok) (s : Int × Int) (hs : c.St s) (k : Int) (hk0 : 0 ≤ k) (hk1 : k < c.moves.length) (n : Nat) (Q : WK) (E : XW) (q : Q (.dat (stD (c.nx s k))) n) : w_led_to [.dat c.d, .dat (stD s), .dat (.int k)] n Q E := by
  rw [wd_led_to]
  refine body_at rfl ?_
  unfold t_led_to
  apply seq_at
  · intro N hN; simp only [bodyV, startE, vSeq, vNext, vIfS, vRet, vRetN, vRetV, vSet, vSetO, vDrop, vAsg, gT, gsC, gsN, gN, vPar, vVar, vC, vOp, vUn, dNeg, vTest, isB, vAnd, vOr, vNot, vAndV, vOrV, vNotV, vIf, vIfT, vChain, vNil, vCons, vTup, vLst, vFz, vCall, vCallO, vCallS, rOf, wNil, wDat, wVar, vCB, vCO, dAdd, dSub, dMul, dDiv, dMod, dLt, dLe, dGt, dGe, dIs, dIsNot, isNoneD, dIx, vIsi, isi_int, isi_intb, isi_tup, dEqI, dNeI, at0, at1, at2, at3, at4, bLen, bMin2, bMax2, bAbs, bInt, bTuple, vFor, iT, iL, iET, iEL, itemsT, itemsL, iR1, iR2, rng1, rng2, vSl, dSl, pN, pS, vFrz, vAppend, vIxO, vLenO, vLenS, vYes, vLc, noOwn, wipeE, gN, Int.reduceEq, decide_true, decide_false, eq_self, Int.reduceNeg, Int.cast_ofNat_Int, reduceCtorEq, List.length_cons, List.length_nil, List.map_cons, List.map_nil, List.replicate, List.cons_append, List.nil_append, List.append_nil, List.getElem?_cons_zero, List.getElem?_cons_succ, List.set_cons_zero, List.set_cons_succ, Nat.reduceAdd, Nat.reduceSub, Nat.reduceEqDiff, Nat.zero_add, true_and, and_true, Bool.not_true, Bool.not_false, Bool.true_and, Bool.and_true, Bool.false_and, Bool.or_false, Bool.false_or, Bool.or_true, Bool.true_or, if_true, if_false, Bool.false_eq_true, ↓reduceIte]; refine q_need_coder c h _ _ _ ?_; simp only [bodyV, startE, vSeq, vNext, vIfS, vRet, vRetN, vRetV, vSet, vSetO, vDrop, vAsg, gT, gsC, gsN, gN, vPar, vVar, vC, vOp, vUn, dNeg, vTest, isB, vAnd, vOr, vNot, vAndV, vOrV, vNotV, vIf, vIfT, vChain, vNil, vCons, vTup, vLst, vFz, vCall, vCallO, vCallS, rOf, wNil, wDat, wVar, vCB, vCO, dAdd, dSub, dMul, dDiv, dMod, dLt, dLe, dGt, dGe, dIs, dIsNot, isNoneD, dIx, vIsi, isi_int, isi_intb, isi_tup, dEqI, dNeI, at0, at1, at2, at3, at4, bLen, bMin2, bMax2, bAbs, bInt, bTuple, vFor, iT, iL, iET, iEL, itemsT, itemsL, iR1, iR2, rng1, rng2, vSl, dSl, pN, pS, vFrz, vAppend, vIxO, vLenO, vLenS, vYes, vLc, noOwn, wipeE, gN, Int.reduceEq, decide_true, decide_false, eq_self, Int.reduceNeg, Int.cast_ofNat_Int, reduceCtorEq, List.length_cons, List.length_nil, List.map_cons, List.map_nil, List.replicate, List.cons_append, List.nil_append, List.append_nil, List.getElem?_cons_zero, List.getElem?_cons_succ, List.set_cons_zero, List.set_cons_succ, Nat.reduceAdd, Nat.reduceSub, Nat.reduceEqDiff, Nat.zero_add, true_and, and_true, Bool.not_true, Bool.not_false, Bool.true_and, Bool.and_true, Bool.false_and, Bool.or_false, Bool.false_or, Bool.or_true, Bool.true_or, if_true, if_false, Bool.false_eq_true, ↓reduceIte]; exact hN
  apply seq_at
  · intro N hN; simp only [bodyV, startE, vSeq, vNext, vIfS, vRet, vRetN, vRetV, vSet, vSetO, vDrop, vAsg, gT, gsC, gsN, gN, vPar, vVar, vC, vOp, vUn, dNeg, vTest, isB, vAnd, vOr, vNot, vAndV, vOrV, vNotV, vIf, vIfT, vChain, vNil, vCons, vTup, vLst, vFz, vCall, vCallO, vCallS, rOf, wNil, wDat, wVar, vCB, vCO, dAdd, dSub, dMul, dDiv, dMod, dLt, dLe, dGt, dGe, dIs, dIsNot, isNoneD, dIx, vIsi, isi_int, isi_intb, isi_tup, dEqI, dNeI, at0, at1, at2, at3, at4, bLen, bMin2, bMax2, bAbs, bInt, bTuple, vFor, iT, iL, iET, iEL, itemsT, itemsL, iR1, iR2, rng1, rng2, vSl, dSl, pN, pS, vFrz, vAppend, vIxO, vLenO, vLenS, vYes, vLc, noOwn, wipeE, gN, Int.reduceEq, decide_true, decide_false, eq_self, Int.reduceNeg, Int.cast_ofNat_Int, reduceCtorEq, List.length_cons, List.length_nil, List.map_cons, List.map_nil, List.replicate, List.cons_append, List.nil_append, List.append_nil, List.getElem?_cons_zero, List.getElem?_cons_succ, List.set_cons_zero, List.set_cons_succ, Nat.reduceAdd, Nat.reduceSub, Nat.reduceEqDiff, Nat.zero_add, true_and, and_true, Bool.not_true, Bool.not_false, Bool.true_and, Bool.and_true, Bool.false_and, Bool.or_false, Bool.false_or, Bool.or_true, Bool.true_or, if_true, if_false, Bool.false_eq_true, ↓reduceIte]; refine q_need_state c s hs _ _ _ ?_; simp only [bodyV, startE, vSeq, vNext, vIfS, vRet, vRetN, vRetV, vSet, vSetO, vDrop, vAsg, gT, gsC, gsN, gN, vPar, vVar, vC, vOp, vUn, dNeg, vTest, isB, vAnd, vOr, vNot, vAndV, vOrV, vNotV, vIf, vIfT, vChain, vNil, vCons, vTup, vLst, vFz, vCall, vCallO, vCallS, rOf, wNil, wDat, wVar, vCB, vCO, dAdd, dSub, dMul, dDiv, dMod, dLt, dLe, dGt, dGe, dIs, dIsNot, isNoneD, dIx, vIsi, isi_int, isi_intb, isi_tup, dEqI, dNeI, at0, at1, at2, at3, at4, bLen, bMin2, bMax2, bAbs, bInt, bTuple, vFor, iT, iL, iET, iEL, itemsT, itemsL, iR1, iR2, rng1, rng2, vSl, dSl, pN, pS, vFrz, vAppend, vIxO, vLenO, vLenS, vYes, vLc, noOwn, wipeE, gN, Int.reduceEq, decide_true, decide_false, eq_self, Int.reduceNeg, Int.cast_ofNat_Int, reduceCtorEq, List.length_cons, List.length_nil, List.map_cons, List.map_nil, List.replicate, List.cons_append, List.nil_append, List.append_nil, List.getElem?_cons_zero, List.getElem?_cons_succ, List.set_cons_zero, List.set_cons_succ, Nat.reduceAdd, Nat.reduceSub, Nat.reduceEqDiff, Nat.zero_add, true_and, and_true, Bool.not_true, Bool.not_false, Bool.true_and, Bool.and_true, Bool.false_and, Bool.or_false, Bool.false_or, Bool.or_true, Bool.true_or, if_true, if_false, Bool.false_eq_true, ↓reduceIte]; exact hN
  apply seq_at
  · intro N hN; simp only [bodyV, startE, vSeq, vNext, vIfS, vRet, vRetN, vRetV, vSet, vSetO, vDrop, vAsg, gT, gsC, gsN, gN, vPar, vVar, vC, vOp, vUn, dNeg, vTest, isB, vAnd, vOr, vNot, vAndV, vOrV, vNotV, vIf, vIfT, vChain, vNil, vCons, vTup, vLst, vFz, vCall, vCallO, vCallS, rOf, wNil, wDat, wVar, vCB, vCO, dAdd, dSub, dMul, dDiv, dMod, dLt, dLe, dGt, dGe, dIs, dIsNot, isNoneD, dIx, vIsi, isi_int, isi_intb, isi_tup, dEqI, dNeI, at0, at1, at2, at3, at4, bLen, bMin2, bMax2, bAbs, bInt, bTuple, vFor, iT, iL, iET, iEL, itemsT, itemsL, iR1, iR2, rng1, rng2, vSl, dSl, pN, pS, vFrz, vAppend, vIxO, vLenO, vLenS, vYes, vLc, noOwn, wipeE, gN, Int.reduceEq, decide_true, decide_false, eq_self, Int.reduceNeg, Int.cast_ofNat_Int, reduceCtorEq, List.length_cons, List.length_nil, List.map_cons, List.map_nil, List.replicate, List.cons_append, List.nil_append, List.append_nil, List.getElem?_cons_zero, List.getElem?_cons_succ, List.set_cons_zero, List.set_cons_succ, Nat.reduceAdd, Nat.reduceSub, Nat.reduceEqDiff, Nat.zero_add, true_and, and_true, Bool.not_true, Bool.not_false, Bool.true_and, Bool.and_true, Bool.false_and, Bool.or_false, Bool.false_or, Bool.or_true, Bool.true_or, if_true, if_false, Bool.false_eq_true, ↓reduceIte]; refine q_needCg c k hk0 hk1 _ _ _ ?_; simp only [bodyV, startE, vSeq, vNext, vIfS, vRet, vRetN, vRetV, vSet, vSetO, vDrop, vAsg, gT, gsC, gsN, gN, vPar, vVar, vC, vOp, vUn, dNeg, vTest, isB, vAnd, vOr, vNot, vAndV, vOrV, vNotV, vIf, vIfT, vChain, vNil, vCons, vTup, vLst, vFz, vCall, vCallO, vCallS, rOf, wNil, wDat, wVar, vCB, vCO, dAdd, dSub, dMul, dDiv, dMod, dLt, dLe, dGt, dGe, dIs, dIsNot, isNoneD, dIx, vIsi, isi_int, isi_intb, isi_tup, dEqI, dNeI, at0, at1, at2, at3, at4, bLen, bMin2, bMax2, bAbs, bInt, bTuple, vFor, iT, iL, iET, iEL, itemsT, itemsL, iR1, iR2, rng1, rng2, vSl, dSl, pN, pS, vFrz, vAppend, vIxO, vLenO, vLenS, vYes, vLc, noOwn, wipeE, gN, Int.reduceEq, decide_true, decide_false, eq_self, Int.reduceNeg, Int.cast_ofNat_Int, reduceCtorEq, List.length_cons, List.length_nil, List.map_cons, List.map_nil, List.replicate, List.cons_append, List.nil_append, List.append_nil, List.getElem?_cons_zero, List.getElem?_cons_succ, List.set_cons_zero, List.set_cons_succ, Nat.reduceAdd, Nat.reduceSub, Nat.reduceEqDiff, Nat.zero_add, true_and, and_true, Bool.not_true, Bool.not_false, Bool.true_and, Bool.and_true, Bool.false_and, Bool.or_false, Bool.false_or, Bool.or_true, Bool.true_or, if_true, if_false, Bool.false_eq_true, ↓reduceIte]; exact hN
  simp only [bodyV, startE, vSeq, vNext, vIfS, vRet, vRetN, vRetV, vSet, vSetO, vDrop, vAsg, gT, gsC, gsN, gN, vPar, vVar, vC, vOp, vUn, dNeg, vTest, isB, vAnd, vOr, vNot, vAndV, vOrV, vNotV, vIf, vIfT, vChain, vNil, vCons, vTup, vLst, vFz, vCall, vCallO, vCallS, rOf, wNil, wDat, wVar, vCB, vCO, dAdd, dSub, dMul, dDiv, dMod, dLt, dLe, dGt, dGe, dIs, dIsNot, isNoneD, dIx, vIsi, isi_int, isi_intb, isi_tup, dEqI, dNeI, at0, at1, at2, at3, at4, bLen, bMin2, bMax2, bAbs, bInt, bTuple, vFor, iT, iL, iET, iEL, itemsT, itemsL, iR1, iR2, rng1, rng2, vSl, dSl, pN, pS, vFrz, vAppend, vIxO, vLenO, vLenS, vYes, vLc, noOwn, wipeE, gN, Int.reduceEq, decide_true, decide_false, eq_self, Int.reduceNeg, Int.cast_ofNat_Int, reduceCtorEq, List.length_cons, List.length_nil, List.map_cons, List.map_nil, List.replicate, List.cons_append, List.nil_append, List.append_nil, List.getElem?_cons_zero, List.getElem?_cons_succ, List.set_cons_zero, List.set_cons_succ, Nat.reduceAdd, Nat.reduceSub, Nat.reduceEqDiff, Nat.zero_add, true_and, and_true, Bool.not_true, Bool.not_false, Bool.true_and, Bool.and_true, Bool.false_and, Bool.or_false, Bool.false_or, Bool.or_true, Bool.true_or, if_true, if_false, Bool.false_eq_true, ↓reduceIte]
  refine q_next c h s hs k hk0 hk1 _ _ _ ?_
  simp only [bodyV, startE, vSeq, vNext, vIfS, vRet, vRetN, vRetV, vSet, vSetO, vDrop, vAsg, gT, gsC, gsN, gN, vPar, vVar, vC, vOp, vUn, dNeg, vTest, isB, vAnd, vOr, vNot, vAndV, vOrV, vNotV, vIf, vIfT, vChain, vNil, vCons, vTup, vLst, vFz, vCall, vCallO, vCallS, rOf, wNil, wDat, wVar, vCB, vCO, dAdd, dSub, dMul, dDiv, dMod, dLt, dLe, dGt, dGe, dIs, dIsNot, isNoneD, dIx, vIsi, isi_int, isi_intb, isi_tup, dEqI, dNeI, at0, at1, at2, at3, at4, bLen, bMin2, bMax2, bAbs, bInt, bTuple, vFor, iT, iL, iET, iEL, itemsT, itemsL, iR1, iR2, rng1, rng2, vSl, dSl, pN, pS, vFrz, vAppend, vIxO, vLenO, vLenS, vYes, vLc, noOwn, wipeE, gN, Int.reduceEq, decide_true, decide_false, eq_self, Int.reduceNeg, Int.cast_ofNat_Int, reduceCtorEq, List.length_cons, List.length_nil, List.map_cons, List.map_nil, List.replicate, List.cons_append, List.nil_append, List.append_nil, List.getElem?_cons_zero, List.getElem?_cons_succ, List.set_cons_zero, List.set_cons_succ, Nat.reduceAdd, Nat.reduceSub, Nat.reduceEqDiff, Nat.zero_add, true_and, and_true, Bool.not_true, Bool.not_false, Bool.true_and, Bool.and_true, Bool.false_and, Bool.or_false, Bool.false_or, Bool.or_true, Bool.true_or, if_true, if_false, Bool.false_eq_true, ↓reduceIte]
  exact q
theorem q_led_st (c : Cd) (h : c.Ok) (d e : Dt) (hd : stB c d = false) (n : Nat) (Q : WK) (E : XW) (q : Oop E n) : w_led_to [.dat c.d, .dat d, .dat e] n Q E := by
  rw [wd_led_to]
  refine body_at rfl ?_
  unfold t_led_to
  apply seq_at
  · intro N hN; simp only [bodyV, startE, vSeq, vNext, vIfS, vRet, vRetN, vRetV, vSet, vSetO, vDrop, vAsg, gT, gsC, gsN, gN, vPar, vVar, vC, vOp, vUn, dNeg, vTest, isB, vAnd, vOr, vNot, vAndV, vOrV, vNotV, vIf, vIfT, vChain, vNil, vCons, vTup, vLst, vFz, vCall, vCallO, vCallS, rOf, wNil, wDat, wVar, vCB, vCO, dAdd, dSub, dMul, dDiv, dMod, dLt, dLe, dGt, dGe, dIs, dIsNot, isNoneD, dIx, vIsi, isi_int, isi_intb, isi_tup, dEqI, dNeI, at0, at1, at2, at3, at4, bLen, bMin2, bMax2, bAbs, bInt, bTuple, vFor, iT, iL, iET, iEL, itemsT, itemsL, iR1, iR2, rng1, rng2, vSl, dSl, pN, pS, vFrz, vAppend, vIxO, vLenO, vLenS, vYes, vLc, noOwn, wipeE, gN, Int.reduceEq, decide_true, decide_false, eq_self, Int.reduceNeg, Int.cast_ofNat_Int, reduceCtorEq, List.length_cons, List.length_nil, List.map_cons, List.map_nil, List.replicate, List.cons_append, List.nil_append, List.append_nil, List.getElem?_cons_zero, List.getElem?_cons_succ, List.set_cons_zero, List.set_cons_succ, Nat.reduceAdd, Nat.reduceSub, Nat.reduceEqDiff, Nat.zero_add, true_and, and_true, Bool.not_true, Bool.not_false, Bool.true_and, Bool.and_true, Bool.false_and, Bool.or_false, Bool.false_or, Bool.or_true, Bool.true_or, if_true, if_false, Bool.false_eq_true, ↓reduceIte]; refine q_need_coder c h _ _ _ ?_; simp only [bodyV, startE, vSeq, vNext, vIfS, vRet, vRetN, vRetV, vSet, vSetO, vDrop, vAsg, gT, gsC, gsN, gN, vPar, vVar, vC, vOp, vUn, dNeg, vTest, isB, vAnd, vOr, vNot, vAndV, vOrV, vNotV, vIf, vIfT, vChain, vNil, vCons, vTup, vLst, vFz, vCall, vCallO, vCallS, rOf, wNil, wDat, wVar, vCB, vCO, dAdd, dSub, dMul, dDiv, dMod, dLt, dLe, dGt, dGe, dIs, dIsNot, isNoneD, dIx, vIsi, isi_int, isi_intb, isi_tup, dEqI, dNeI, at0, at1, at2, at3, at4, bLen, bMin2, bMax2, bAbs, bInt, bTuple, vFor, iT, iL, iET, iEL, itemsT, itemsL, iR1, iR2, rng1, rng2, vSl, dSl, pN, pS, vFrz, vAppend, vIxO, vLenO, vLenS, vYes, vLc, noOwn, wipeE, gN, Int.reduceEq, decide_true, decide_false, eq_self, Int.reduceNeg, Int.cast_ofNat_Int, reduceCtorEq, List.length_cons, List.length_nil, List.map_cons, List.map_nil, List.replicate, List.cons_append, List.nil_append, List.append_nil, List.getElem?_cons_zero, List.getElem?_cons_succ, List.set_cons_zero, List.set_cons_succ, Nat.reduceAdd, Nat.reduceSub, Nat.reduceEqDiff, Nat.zero_add, true_and, and_true, Bool.not_true, Bool.not_false, Bool.true_and, Bool.and_true, Bool.false_and, Bool.or_false, Bool.false_or, Bool.or_true, Bool.true_or, if_true, if_false, Bool.false_eq_true, ↓reduceIte]; exact hN
  simp only [vSeq, vDrop, vCall, wDat, wNil, vVar, List.getElem?_cons_zero, List.getElem?_cons_succ, List.append_nil]
  exact q_needS c d hd _ _ _ q
theorem q_led_cd (c : Cd) (h : c.Ok) (s : Int × Int) (hs : c.St s) (e : Dt) (he : wh e 0 (c.moves.length - 1) = false) (n : Nat) (Q : WK) (E : XW) (q : Oop E n) : w_led_to [.dat c.d, .dat (stD s), .dat e] n Q E := by
  rw [wd_led_to]
  refine body_at rfl ?_
  unfold t_led_to
  apply seq_at
  · intro N hN; simp only [bodyV, startE, vSeq, vNext, vIfS, vRet, vRetN, vRetV, vSet, vSetO, vDrop, vAsg, gT, gsC, gsN, gN, vPar, vVar, vC, vOp, vUn, dNeg, vTest, isB, vAnd, vOr, vNot, vAndV, vOrV, vNotV, vIf, vIfT, vChain, vNil, vCons, vTup, vLst, vFz, vCall, vCallO, vCallS, rOf, wNil, wDat, wVar, vCB, vCO, dAdd, dSub, dMul, dDiv, dMod, dLt, dLe, dGt, dGe, dIs, dIsNot, isNoneD, dIx, vIsi, isi_int, isi_intb, isi_tup, dEqI, dNeI, at0, at1, at2, at3, at4, bLen, bMin2, bMax2, bAbs, bInt, bTuple, vFor, iT, iL, iET, iEL, itemsT, itemsL, iR1, iR2, rng1, rng2, vSl, dSl, pN, pS, vFrz, vAppend, vIxO, vLenO, vLenS, vYes, vLc, noOwn, wipeE, gN, Int.reduceEq, decide_true, decide_false, eq_self, Int.reduceNeg, Int.cast_ofNat_Int, reduceCtorEq, List.length_cons, List.length_nil, List.map_cons, List.map_nil, List.replicate, List.cons_append, List.nil_append, List.append_nil, List.getElem?_cons_zero, List.getElem?_cons_succ, List.set_cons_zero, List.set_cons_succ, Nat.reduceAdd, Nat.reduceSub, Nat.reduceEqDiff, Nat.zero_add, true_and, and_true, Bool.not_true, Bool.not_false, Bool.true_and, Bool.and_true, Bool.false_and, Bool.or_false, Bool.false_or, Bool.or_true, Bool.true_or, if_true, if_false, Bool.false_eq_true, ↓reduceIte]; refine q_need_coder c h _ _ _ ?_; simp only [bodyV, startE, vSeq, vNext, vIfS, vRet, vRetN, vRetV, vSet, vSetO, vDrop, vAsg, gT, gsC, gsN, gN, vPar, vVar, vC, vOp, vUn, dNeg, vTest, isB, vAnd, vOr, vNot, vAndV, vOrV, vNotV, vIf, vIfT, vChain, vNil, vCons, vTup, vLst, vFz, vCall, vCallO, vCallS, rOf, wNil, wDat, wVar, vCB, vCO, dAdd, dSub, dMul, dDiv, dMod, dLt, dLe, dGt, dGe, dIs, dIsNot, isNoneD, dIx, vIsi, isi_int, isi_intb, isi_tup, dEqI, dNeI, at0, at1, at2, at3, at4, bLen, bMin2, bMax2, bAbs, bInt, bTuple, vFor, iT, iL, iET, iEL, itemsT, itemsL, iR1, iR2, rng1, rng2, vSl, dSl, pN, pS, vFrz, vAppend, vIxO, vLenO, vLenS, vYes, vLc, noOwn, wipeE, gN, Int.reduceEq, decide_true, decide_false, eq_self, Int.reduceNeg, Int.cast_ofNat_Int, reduceCtorEq, List.length_cons, List.length_nil, List.map_cons, List.map_nil, List.replicate, List.cons_append, List.nil_append, List.append_nil, List.getElem?_cons_zero, List.getElem?_cons_succ, List.set_cons_zero, List.set_cons_succ, Nat.reduceAdd, Nat.reduceSub, Nat.reduceEqDiff, Nat.zero_add, true_and, and_true, Bool.not_true, Bool.not_false, Bool.true_and, Bool.and_true, Bool.false_and, Bool.or_false, Bool.false_or, Bool.or_true, Bool.true_or, if_true, if_false, Bool.false_eq_true, ↓reduceIte]; exact hN
  apply seq_at
  · intro N hN; simp only [bodyV, startE, vSeq, vNext, vIfS, vRet, vRetN, vRetV, vSet, vSetO, vDrop, vAsg, gT, gsC, gsN, gN, vPar, vVar, vC, vOp, vUn, dNeg, vTest, isB, vAnd, vOr, vNot, vAndV, vOrV, vNotV, vIf, vIfT, vChain, vNil, vCons, vTup, vLst, vFz, vCall, vCallO, vCallS, rOf, wNil, wDat, wVar, vCB, vCO, dAdd, dSub, dMul, dDiv, dMod, dLt, dLe, dGt, dGe, dIs, dIsNot, isNoneD, dIx, vIsi, isi_int, isi_intb, isi_tup, dEqI, dNeI, at0, at1, at2, at3, at4, bLen, bMin2, bMax2, bAbs, bInt, bTuple, vFor, iT, iL, iET, iEL, itemsT, itemsL, iR1, iR2, rng1, rng2, vSl, dSl, pN, pS, vFrz, vAppend, vIxO, vLenO, vLenS, vYes, vLc, noOwn, wipeE, gN, Int.reduceEq, decide_true, decide_false, eq_self, Int.reduceNeg, Int.cast_ofNat_Int, reduceCtorEq, List.length_cons, List.length_nil, List.map_cons, List.map_nil, List.replicate, List.cons_append, List.nil_append, List.append_nil, List.getElem?_cons_zero, List.getElem?_cons_succ, List.set_cons_zero, List.set_cons_succ, Nat.reduceAdd, Nat.reduceSub, Nat.reduceEqDiff, Nat.zero_add, true_and, and_true, Bool.not_true, Bool.not_false, Bool.true_and, Bool.and_true, Bool.false_and, Bool.or_false, Bool.false_or, Bool.or_true, Bool.true_or, if_true, if_false, Bool.false_eq_true, ↓reduceIte]; refine q_need_state c s hs _ _ _ ?_; simp only [bodyV, startE, vSeq, vNext, vIfS, vRet, vRetN, vRetV, vSet, vSetO, vDrop, vAsg, gT, gsC, gsN, gN, vPar, vVar, vC, vOp, vUn, dNeg, vTest, isB, vAnd, vOr, vNot, vAndV, vOrV, vNotV, vIf, vIfT, vChain, vNil, vCons, vTup, vLst, vFz, vCall, vCallO, vCallS, rOf, wNil, wDat, wVar, vCB, vCO, dAdd, dSub, dMul, dDiv, dMod, dLt, dLe, dGt, dGe, dIs, dIsNot, isNoneD, dIx, vIsi, isi_int, isi_intb, isi_tup, dEqI, dNeI, at0, at1, at2, at3, at4, bLen, bMin2, bMax2, bAbs, bInt, bTuple, vFor, iT, iL, iET, iEL, itemsT, itemsL, iR1, iR2, rng1, rng2, vSl, dSl, pN, pS, vFrz, vAppend, vIxO, vLenO, vLenS, vYes, vLc, noOwn, wipeE, gN, Int.reduceEq, decide_true, decide_false, eq_self, Int.reduceNeg, Int.cast_ofNat_Int, reduceCtorEq, List.length_cons, List.length_nil, List.map_cons, List.map_nil, List.replicate, List.cons_append, List.nil_append, List.append_nil, List.getElem?_cons_zero, List.getElem?_cons_succ, List.set_cons_zero, List.set_cons_succ, Nat.reduceAdd, Nat.reduceSub, Nat.reduceEqDiff, Nat.zero_add, true_and, and_true, Bool.not_true, Bool.not_false, Bool.true_and, Bool.and_true, Bool.false_and, Bool.or_false, Bool.false_or, Bool.or_true, Bool.true_or, if_true, if_false, Bool.false_eq_true, ↓reduceIte]; exact hN
  simp only [vSeq, vDrop, vCall, wDat, wNil, vVar, List.getElem?_cons_zero, List.getElem?_cons_succ, List.append_nil]
  exact q_needC c e he _ _ _ q

end LW


set_option maxRecDepth 100000
set_option maxHeartbeats 1000000
namespace LW
open PySem PySem.Spec PyProof.Rows L2 VL
theorem q_change (c : Cd) (h : c.Ok) (k p : Int) (hk0 : 0 ≤ k) (hk1 : k < c.moves.length) (hp0 : 0 ≤ p) (hp1 : p < c.steps.length) (n : Nat) (Q : WK) (E : XW) (q : Q (.dat (.int (dv ((nth c.moves k).1 * nth c.steps p) 8))) n) : w_change_of [.dat c.d, .dat (.int k), .dat (.int p)] n Q E := by
  rw [wd_change_of]
  refine body_at rfl ?_
  unfold t_change_of
  apply seq_at
  · intro N hN; simp only [bodyV, startE, vSeq, vNext, vIfS, vRet, vRetN, vRetV, vSet, vSetO, vDrop, vAsg, gT, gsC, gsN, gN, vPar, vVar, vC, vOp, vUn, dNeg, vTest, isB, vAnd, vOr, vNot, vAndV, vOrV, vNotV, vIf, vIfT, vChain, vNil, vCons, vTup, vLst, vFz, vCall, vCallO, vCallS, rOf, wNil, wDat, wVar, vCB, vCO, dAdd, dSub, dMul, dDiv, dMod, dLt, dLe, dGt, dGe, dIs, dIsNot, isNoneD, dIx, vIsi, isi_int, isi_intb, isi_tup, dEqI, dNeI, at0, at1, at2, at3, at4, bLen, bMin2, bMax2, bAbs, bInt, bTuple, vFor, iT, iL, iET, iEL, itemsT, itemsL, iR1, iR2, rng1, rng2, vSl, dSl, pN, pS, vFrz, vAppend, vIxO, vLenO, vLenS, vYes, vLc, noOwn, wipeE, gN, Int.reduceEq, decide_true, decide_false, eq_self, Int.reduceNeg, Int.cast_ofNat_Int, reduceCtorEq, List.length_cons, List.length_nil, List.map_cons, List.map_nil, List.replicate, List.cons_append, List.nil_append, List.append_nil, List.getElem?_cons_zero, List.getElem?_cons_succ, List.set_cons_zero, List.set_cons_succ, Nat.reduceAdd, Nat.reduceSub, Nat.reduceEqDiff, Nat.zero_add, true_and, and_true, Bool.not_true, Bool.not_false, Bool.true_and, Bool.and_true, Bool.false_and, Bool.or_false, Bool.false_or, Bool.or_true, Bool.true_or, if_true, if_false, Bool.false_eq_true, ↓reduceIte]; refine q_need_coder c h _ _ _ ?_; simp only [bodyV, startE, vSeq, vNext, vIfS, vRet, vRetN, vRetV, vSet, vSetO, vDrop, vAsg, gT, gsC, gsN, gN, vPar, vVar, vC, vOp, vUn, dNeg, vTest, isB, vAnd, vOr, vNot, vAndV, vOrV, vNotV, vIf, vIfT, vChain, vNil, vCons, vTup, vLst, vFz, vCall, vCallO, vCallS, rOf, wNil, wDat, wVar, vCB, vCO, dAdd, dSub, dMul, dDiv, dMod, dLt, dLe, dGt, dGe, dIs, dIsNot, isNoneD, dIx, vIsi, isi_int, isi_intb, isi_tup, dEqI, dNeI, at0, at1, at2, at3, at4, bLen, bMin2, bMax2, bAbs, bInt, bTuple, vFor, iT, iL, iET, iEL, itemsT, itemsL, iR1, iR2, rng1, rng2, vSl, dSl, pN, pS, vFrz, vAppend, vIxO, vLenO, vLenS, vYes, vLc, noOwn, wipeE, gN, Int.reduceEq, decide_true, decide_false, eq_self, Int.reduceNeg, Int.cast_ofNat_Int, reduceCtorEq, List.length_cons, List.length_nil, List.map_cons, List.map_nil, List.replicate, List.cons_append, List.nil_append, List.append_nil, List.getElem?_cons_zero, List.getElem?_cons_succ, List.set_cons_zero, List.set_cons_succ, Nat.reduceAdd, Nat.reduceSub, Nat.reduceEqDiff, Nat.zero_add, true_and, and_true, Bool.not_true, Bool.not_false, Bool.true_and, Bool.and_true, Bool.false_and, Bool.or_false, Bool.false_or, Bool.or_true, Bool.true_or, if_true, if_false, Bool.false_eq_true, ↓reduceIte]; exact hN
  apply seq_at
  · intro N hN; simp only [bodyV, startE, vSeq, vNext, vIfS, vRet, vRetN, vRetV, vSet, vSetO, vDrop, vAsg, gT, gsC, gsN, gN, vPar, vVar, vC, vOp, vUn, dNeg, vTest, isB, vAnd, vOr, vNot, vAndV, vOrV, vNotV, vIf, vIfT, vChain, vNil, vCons, vTup, vLst, vFz, vCall, vCallO, vCallS, rOf, wNil, wDat, wVar, vCB, vCO, dAdd, dSub, dMul, dDiv, dMod, dLt, dLe, dGt, dGe, dIs, dIsNot, isNoneD, dIx, vIsi, isi_int, isi_intb, isi_tup, dEqI, dNeI, at0, at1, at2, at3, at4, bLen, bMin2, bMax2, bAbs, bInt, bTuple, vFor, iT, iL, iET, iEL, itemsT, itemsL, iR1, iR2, rng1, rng2, vSl, dSl, pN, pS, vFrz, vAppend, vIxO, vLenO, vLenS, vYes, vLc, noOwn, wipeE, gN, Int.reduceEq, decide_true, decide_false, eq_self, Int.reduceNeg, Int.cast_ofNat_Int, reduceCtorEq, List.length_cons, List.length_nil, List.map_cons, List.map_nil, List.replicate, List.cons_append, List.nil_append, List.append_nil, List.getElem?_cons_zero, List.getElem?_cons_succ, List.set_cons_zero, List.set_cons_succ, Nat.reduceAdd, Nat.reduceSub, Nat.reduceEqDiff, Nat.zero_add, true_and, and_true, Bool.not_true, Bool.not_false, Bool.true_and, Bool.and_true, Bool.false_and, Bool.or_false, Bool.false_or, Bool.or_true, Bool.true_or, if_true, if_false, Bool.false_eq_true, ↓reduceIte]; refine q_needCg c k hk0 hk1 _ _ _ ?_; simp only [bodyV, startE, vSeq, vNext, vIfS, vRet, vRetN, vRetV, vSet, vSetO, vDrop, vAsg, gT, gsC, gsN, gN, vPar, vVar, vC, vOp, vUn, dNeg, vTest, isB, vAnd, vOr, vNot, vAndV, vOrV, vNotV, vIf, vIfT, vChain, vNil, vCons, vTup, vLst, vFz, vCall, vCallO, vCallS, rOf, wNil, wDat, wVar, vCB, vCO, dAdd, dSub, dMul, dDiv, dMod, dLt, dLe, dGt, dGe, dIs, dIsNot, isNoneD, dIx, vIsi, isi_int, isi_intb, isi_tup, dEqI, dNeI, at0, at1, at2, at3, at4, bLen, bMin2, bMax2, bAbs, bInt, bTuple, vFor, iT, iL, iET, iEL, itemsT, itemsL, iR1, iR2, rng1, rng2, vSl, dSl, pN, pS, vFrz, vAppend, vIxO, vLenO, vLenS, vYes, vLc, noOwn, wipeE, gN, Int.reduceEq, decide_true, decide_false, eq_self, Int.reduceNeg, Int.cast_ofNat_Int, reduceCtorEq, List.length_cons, List.length_nil, List.map_cons, List.map_nil, List.replicate, List.cons_append, List.nil_append, List.append_nil, List.getElem?_cons_zero, List.getElem?_cons_succ, List.set_cons_zero, List.set_cons_succ, Nat.reduceAdd, Nat.reduceSub, Nat.reduceEqDiff, Nat.zero_add, true_and, and_true, Bool.not_true, Bool.not_false, Bool.true_and, Bool.and_true, Bool.false_and, Bool.or_false, Bool.false_or, Bool.or_true, Bool.true_or, if_true, if_false, Bool.false_eq_true, ↓reduceIte]; exact hN
  apply seq_at
  · intro N hN; simp only [bodyV, startE, vSeq, vNext, vIfS, vRet, vRetN, vRetV, vSet, vSetO, vDrop, vAsg, gT, gsC, gsN, gN, vPar, vVar, vC, vOp, vUn, dNeg, vTest, isB, vAnd, vOr, vNot, vAndV, vOrV, vNotV, vIf, vIfT, vChain, vNil, vCons, vTup, vLst, vFz, vCall, vCallO, vCallS, rOf, wNil, wDat, wVar, vCB, vCO, dAdd, dSub, dMul, dDiv, dMod, dLt, dLe, dGt, dGe, dIs, dIsNot, isNoneD, dIx, vIsi, isi_int, isi_intb, isi_tup, dEqI, dNeI, at0, at1, at2, at3, at4, bLen, bMin2, bMax2, bAbs, bInt, bTuple, vFor, iT, iL, iET, iEL, itemsT, itemsL, iR1, iR2, rng1, rng2, vSl, dSl, pN, pS, vFrz, vAppend, vIxO, vLenO, vLenS, vYes, vLc, noOwn, wipeE, gN, Int.reduceEq, decide_true, decide_false, eq_self, Int.reduceNeg, Int.cast_ofNat_Int, reduceCtorEq, List.length_cons, List.length_nil, List.map_cons, List.map_nil, List.replicate, List.cons_append, List.nil_append, List.append_nil, List.getElem?_cons_zero, List.getElem?_cons_succ, List.set_cons_zero, List.set_cons_succ, Nat.reduceAdd, Nat.reduceSub, Nat.reduceEqDiff, Nat.zero_add, true_and, and_true, Bool.not_true, Bool.not_false, Bool.true_and, Bool.and_true, Bool.false_and, Bool.or_false, Bool.false_or, Bool.or_true, Bool.true_or, if_true, if_false, Bool.false_eq_true, ↓reduceIte]; refine q_needPg c p hp0 hp1 _ _ _ ?_; simp only [bodyV, startE, vSeq, vNext, vIfS, vRet, vRetN, vRetV, vSet, vSetO, vDrop, vAsg, gT, gsC, gsN, gN, vPar, vVar, vC, vOp, vUn, dNeg, vTest, isB, vAnd, vOr, vNot, vAndV, vOrV, vNotV, vIf, vIfT, vChain, vNil, vCons, vTup, vLst, vFz, vCall, vCallO, vCallS, rOf, wNil, wDat, wVar, vCB, vCO, dAdd, dSub, dMul, dDiv, dMod, dLt, dLe, dGt, dGe, dIs, dIsNot, isNoneD, dIx, vIsi, isi_int, isi_intb, isi_tup, dEqI, dNeI, at0, at1, at2, at3, at4, bLen, bMin2, bMax2, bAbs, bInt, bTuple, vFor, iT, iL, iET, iEL, itemsT, itemsL, iR1, iR2, rng1, rng2, vSl, dSl, pN, pS, vFrz, vAppend, vIxO, vLenO, vLenS, vYes, vLc, noOwn, wipeE, gN, Int.reduceEq, decide_true, decide_false, eq_self, Int.reduceNeg, Int.cast_ofNat_Int, reduceCtorEq, List.length_cons, List.length_nil, List.map_cons, List.map_nil, List.replicate, List.cons_append, List.nil_append, List.append_nil, List.getElem?_cons_zero, List.getElem?_cons_succ, List.set_cons_zero, List.set_cons_succ, Nat.reduceAdd, Nat.reduceSub, Nat.reduceEqDiff, Nat.zero_add, true_and, and_true, Bool.not_true, Bool.not_false, Bool.true_and, Bool.and_true, Bool.false_and, Bool.or_false, Bool.false_or, Bool.or_true, Bool.true_or, if_true, if_false, Bool.false_eq_true, ↓reduceIte]; exact hN
  simp only [q_moved c h k p hk0 hk1 hp0 hp1, bodyV, startE, vSeq, vNext, vIfS, vRet, vRetN, vRetV, vSet, vSetO, vDrop, vAsg, gT, gsC, gsN, gN, vPar, vVar, vC, vOp, vUn, dNeg, vTest, isB, vAnd, vOr, vNot, vAndV, vOrV, vNotV, vIf, vIfT, vChain, vNil, vCons, vTup, vLst, vFz, vCall, vCallO, vCallS, rOf, wNil, wDat, wVar, vCB, vCO, dAdd, dSub, dMul, dDiv, dMod, dLt, dLe, dGt, dGe, dIs, dIsNot, isNoneD, dIx, vIsi, isi_int, isi_intb, isi_tup, dEqI, dNeI, at0, at1, at2, at3, at4, bLen, bMin2, bMax2, bAbs, bInt, bTuple, vFor, iT, iL, iET, iEL, itemsT, itemsL, iR1, iR2, rng1, rng2, vSl, dSl, pN, pS, vFrz, vAppend, vIxO, vLenO, vLenS, vYes, vLc, noOwn, wipeE, gN, Int.reduceEq, decide_true, decide_false, eq_self, Int.reduceNeg, Int.cast_ofNat_Int, reduceCtorEq, List.length_cons, List.length_nil, List.map_cons, List.map_nil, List.replicate, List.cons_append, List.nil_append, List.append_nil, List.getElem?_cons_zero, List.getElem?_cons_succ, List.set_cons_zero, List.set_cons_succ, Nat.reduceAdd, Nat.reduceSub, Nat.reduceEqDiff, Nat.zero_add, true_and, and_true, Bool.not_true, Bool.not_false, Bool.true_and, Bool.and_true, Bool.false_and, Bool.or_false, Bool.false_or, Bool.or_true, Bool.true_or, if_true, if_false, Bool.false_eq_true, ↓reduceIte]
  exact q
theorem q_ch_cd (c : Cd) (h : c.Ok) (d e : Dt) (hd : wh d 0 (c.moves.length - 1) = false) (n : Nat) (Q : WK) (E : XW) (q : Oop E n) : w_change_of [.dat c.d, .dat d, .dat e] n Q E := by
  rw [wd_change_of]
  refine body_at rfl ?_
  unfold t_change_of
  apply seq_at
  · intro N hN; simp only [bodyV, startE, vSeq, vNext, vIfS, vRet, vRetN, vRetV, vSet, vSetO, vDrop, vAsg, gT, gsC, gsN, gN, vPar, vVar, vC, vOp, vUn, dNeg, vTest, isB, vAnd, vOr, vNot, vAndV, vOrV, vNotV, vIf, vIfT, vChain, vNil, vCons, vTup, vLst, vFz, vCall, vCallO, vCallS, rOf, wNil, wDat, wVar, vCB, vCO, dAdd, dSub, dMul, dDiv, dMod, dLt, dLe, dGt, dGe, dIs, dIsNot, isNoneD, dIx, vIsi, isi_int, isi_intb, isi_tup, dEqI, dNeI, at0, at1, at2, at3, at4, bLen, bMin2, bMax2, bAbs, bInt, bTuple, vFor, iT, iL, iET, iEL, itemsT, itemsL, iR1, iR2, rng1, rng2, vSl, dSl, pN, pS, vFrz, vAppend, vIxO, vLenO, vLenS, vYes, vLc, noOwn, wipeE, gN, Int.reduceEq, decide_true, decide_false, eq_self, Int.reduceNeg, Int.cast_ofNat_Int, reduceCtorEq, List.length_cons, List.length_nil, List.map_cons, List.map_nil, List.replicate, List.cons_append, List.nil_append, List.append_nil, List.getElem?_cons_zero, List.getElem?_cons_succ, List.set_cons_zero, List.set_cons_succ, Nat.reduceAdd, Nat.reduceSub, Nat.reduceEqDiff, Nat.zero_add, true_and, and_true, Bool.not_true, Bool.not_false, Bool.true_and, Bool.and_true, Bool.false_and, Bool.or_false, Bool.false_or, Bool.or_true, Bool.true_or, if_true, if_false, Bool.false_eq_true, ↓reduceIte]; refine q_need_coder c h _ _ _ ?_; simp only [bodyV, startE, vSeq, vNext, vIfS, vRet, vRetN, vRetV, vSet, vSetO, vDrop, vAsg, gT, gsC, gsN, gN, vPar, vVar, vC, vOp, vUn, dNeg, vTest, isB, vAnd, vOr, vNot, vAndV, vOrV, vNotV, vIf, vIfT, vChain, vNil, vCons, vTup, vLst, vFz, vCall, vCallO, vCallS, rOf, wNil, wDat, wVar, vCB, vCO, dAdd, dSub, dMul, dDiv, dMod, dLt, dLe, dGt, dGe, dIs, dIsNot, isNoneD, dIx, vIsi, isi_int, isi_intb, isi_tup, dEqI, dNeI, at0, at1, at2, at3, at4, bLen, bMin2, bMax2, bAbs, bInt, bTuple, vFor, iT, iL, iET, iEL, itemsT, itemsL, iR1, iR2, rng1, rng2, vSl, dSl, pN, pS, vFrz, vAppend, vIxO, vLenO, vLenS, vYes, vLc, noOwn, wipeE, gN, Int.reduceEq, decide_true, decide_false, eq_self, Int.reduceNeg, Int.cast_ofNat_Int, reduceCtorEq, List.length_cons, List.length_nil, List.map_cons, List.map_nil, List.replicate, List.cons_append, List.nil_append, List.append_nil, List.getElem?_cons_zero, List.getElem?_cons_succ, List.set_cons_zero, List.set_cons_succ, Nat.reduceAdd, Nat.reduceSub, Nat.reduceEqDiff, Nat.zero_add, true_and, and_true, Bool.not_true, Bool.not_false, Bool.true_and, Bool.and_true, Bool.false_and, Bool.or_false, Bool.false_or, Bool.or_true, Bool.true_or, if_true, if_false, Bool.false_eq_true, ↓reduceIte]; exact hN
  simp only [vSeq, vDrop, vCall, wDat, wNil, vVar, List.getElem?_cons_zero, List.getElem?_cons_succ, List.append_nil]
  exact q_needC c d hd _ _ _ q
theorem q_ch_pl (c : Cd) (h : c.Ok) (k : Int) (hk0 : 0 ≤ k) (hk1 : k < c.moves.length) (e : Dt) (he : wh e 0 (c.steps.length - 1) = false) (n : Nat) (Q : WK) (E : XW) (q : Oop E n) : w_change_of [.dat c.d, .dat (.int k), .dat e] n Q E := by
  rw [wd_change_of]
  refine body_at rfl ?_
  unfold t_change_of
  apply seq_at
  · intro N hN; simp only [bodyV, startE, vSeq, vNext, vIfS, vRet, vRetN, vRetV, vSet, vSetO, vDrop, vAsg, gT, gsC, gsN, gN, vPar, vVar, vC, vOp, vUn, dNeg, vTest, isB, vAnd, vOr, vNot, vAndV, vOrV, vNotV, vIf, vIfT, vChain, vNil, vCons, vTup, vLst, vFz, vCall, vCallO, vCallS, rOf, wNil, wDat, wVar, vCB, vCO, dAdd, dSub, dMul, dDiv, dMod, dLt, dLe, dGt, dGe, dIs, dIsNot, isNoneD, dIx, vIsi, isi_int, isi_intb, isi_tup, dEqI, dNeI, at0, at1, at2, at3, at4, bLen, bMin2, bMax2, bAbs, bInt, bTuple, vFor, iT, iL, iET, iEL, itemsT, itemsL, iR1, iR2, rng1, rng2, vSl, dSl, pN, pS, vFrz, vAppend, vIxO, vLenO, vLenS, vYes, vLc, noOwn, wipeE, gN, Int.reduceEq, decide_true, decide_false, eq_self, Int.reduceNeg, Int.cast_ofNat_Int, reduceCtorEq, List.length_cons, List.length_nil, List.map_cons, List.map_nil, List.replicate, List.cons_append, List.nil_append, List.append_nil, List.getElem?_cons_zero, List.getElem?_cons_succ, List.set_cons_zero, List.set_cons_succ, Nat.reduceAdd, Nat.reduceSub, Nat.reduceEqDiff, Nat.zero_add, true_and, and_true, Bool.not_true, Bool.not_false, Bool.true_and, Bool.and_true, Bool.false_and, Bool.or_false, Bool.false_or, Bool.or_true, Bool.true_or, if_true, if_false, Bool.false_eq_true, ↓reduceIte]; refine q_need_coder c h _ _ _ ?_; simp only [bodyV, startE, vSeq, vNext, vIfS, vRet, vRetN, vRetV, vSet, vSetO, vDrop, vAsg, gT, gsC, gsN, gN, vPar, vVar, vC, vOp, vUn, dNeg, vTest, isB, vAnd, vOr, vNot, vAndV, vOrV, vNotV, vIf, vIfT, vChain, vNil, vCons, vTup, vLst, vFz, vCall, vCallO, vCallS, rOf, wNil, wDat, wVar, vCB, vCO, dAdd, dSub, dMul, dDiv, dMod, dLt, dLe, dGt, dGe, dIs, dIsNot, isNoneD, dIx, vIsi, isi_int, isi_intb, isi_tup, dEqI, dNeI, at0, at1, at2, at3, at4, bLen, bMin2, bMax2, bAbs, bInt, bTuple, vFor, iT, iL, iET, iEL, itemsT, itemsL, iR1, iR2, rng1, rng2, vSl, dSl, pN, pS, vFrz, vAppend, vIxO, vLenO, vLenS, vYes, vLc, noOwn, wipeE, gN, Int.reduceEq, decide_true, decide_false, eq_self, Int.reduceNeg, Int.cast_ofNat_Int, reduceCtorEq, List.length_cons, List.length_nil, List.map_cons, List.map_nil, List.replicate, List.cons_append, List.nil_append, List.append_nil, List.getElem?_cons_zero, List.getElem?_cons_succ, List.set_cons_zero, List.set_cons_succ, Nat.reduceAdd, Nat.reduceSub, Nat.reduceEqDiff, Nat.zero_add, true_and, and_true, Bool.not_true, Bool.not_false, Bool.true_and, Bool.and_true, Bool.false_and, Bool.or_false, Bool.false_or, Bool.or_true, Bool.true_or, if_true, if_false, Bool.false_eq_true, ↓reduceIte]; exact hN
  apply seq_at
  · intro N hN; simp only [bodyV, startE, vSeq, vNext, vIfS, vRet, vRetN, vRetV, vSet, vSetO, vDrop, vAsg, gT, gsC, gsN, gN, vPar, vVar, vC, vOp, vUn, dNeg, vTest, isB, vAnd, vOr, vNot, vAndV, vOrV, vNotV, vIf, vIfT, vChain, vNil, vCons, vTup, vLst, vFz, vCall, vCallO, vCallS, rOf, wNil, wDat, wVar, vCB, vCO, dAdd, dSub, dMul, dDiv, dMod, dLt, dLe, dGt, dGe, dIs, dIsNot, isNoneD, dIx, vIsi, isi_int, isi_intb, isi_tup, dEqI, dNeI, at0, at1, at2, at3, at4, bLen, bMin2, bMax2, bAbs, bInt, bTuple, vFor, iT, iL, iET, iEL, itemsT, itemsL, iR1, iR2, rng1, rng2, vSl, dSl, pN, pS, vFrz, vAppend, vIxO, vLenO, vLenS, vYes, vLc, noOwn, wipeE, gN, Int.reduceEq, decide_true, decide_false, eq_self, Int.reduceNeg, Int.cast_ofNat_Int, reduceCtorEq, List.length_cons, List.length_nil, List.map_cons, List.map_nil, List.replicate, List.cons_append, List.nil_append, List.append_nil, List.getElem?_cons_zero, List.getElem?_cons_succ, List.set_cons_zero, List.set_cons_succ, Nat.reduceAdd, Nat.reduceSub, Nat.reduceEqDiff, Nat.zero_add, true_and, and_true, Bool.not_true, Bool.not_false, Bool.true_and, Bool.and_true, Bool.false_and, Bool.or_false, Bool.false_or, Bool.or_true, Bool.true_or, if_true, if_false, Bool.false_eq_true, ↓reduceIte]; refine q_needCg c k hk0 hk1 _ _ _ ?_; simp only [bodyV, startE, vSeq, vNext, vIfS, vRet, vRetN, vRetV, vSet, vSetO, vDrop, vAsg, gT, gsC, gsN, gN, vPar, vVar, vC, vOp, vUn, dNeg, vTest, isB, vAnd, vOr, vNot, vAndV, vOrV, vNotV, vIf, vIfT, vChain, vNil, vCons, vTup, vLst, vFz, vCall, vCallO, vCallS, rOf, wNil, wDat, wVar, vCB, vCO, dAdd, dSub, dMul, dDiv, dMod, dLt, dLe, dGt, dGe, dIs, dIsNot, isNoneD, dIx, vIsi, isi_int, isi_intb, isi_tup, dEqI, dNeI, at0, at1, at2, at3, at4, bLen, bMin2, bMax2, bAbs, bInt, bTuple, vFor, iT, iL, iET, iEL, itemsT, itemsL, iR1, iR2, rng1, rng2, vSl, dSl, pN, pS, vFrz, vAppend, vIxO, vLenO, vLenS, vYes, vLc, noOwn, wipeE, gN, Int.reduceEq, decide_true, decide_false, eq_self, Int.reduceNeg, Int.cast_ofNat_Int, reduceCtorEq, List.length_cons, List.length_nil, List.map_cons, List.map_nil, List.replicate, List.cons_append, List.nil_append, List.append_nil, List.getElem?_cons_zero, List.getElem?_cons_succ, List.set_cons_zero, List.set_cons_succ, Nat.reduceAdd, Nat.reduceSub, Nat.reduceEqDiff, Nat.zero_add, true_and, and_true, Bool.not_true, Bool.not_false, Bool.true_and, Bool.and_true, Bool.false_and, Bool.or_false, Bool.false_or, Bool.or_true, Bool.true_or, if_true, if_false, Bool.false_eq_true, ↓reduceIte]; exact hN
  simp only [vSeq, vDrop, vCall, wDat, wNil, vVar, List.getElem?_cons_zero, List.getElem?_cons_succ, List.append_nil]
  exact q_needP c e he _ _ _ q
theorem q_refused (way : Int) (hw : way = 0 ∨ way = 1) (x y z : Dt) (n : Nat) (Q : WK) (E : XW) (q : Q (.dat (.bool true)) n)
    (h0 : way = 0 → ∀ (Q : WK) (E : XW), Oop E n → w_led_to [.dat x, .dat y, .dat z] n Q E) (h1 : way = 1 → ∀ (Q : WK) (E : XW), Oop E n → w_change_of [.dat x, .dat y, .dat z] n Q E) : w__law_refused [.dat (.int way), .dat x, .dat y, .dat z] n Q E := by
  rw [wd__law_refused]
  refine body_at rfl ?_
  unfold t__law_refused
  apply seq_at
  · intro N hN; simp only [bodyV, startE, vSeq, vNext, vIfS, vRet, vRetN, vRetV, vSet, vSetO, vDrop, vAsg, gT, gsC, gsN, gN, vPar, vVar, vC, vOp, vUn, dNeg, vTest, isB, vAnd, vOr, vNot, vAndV, vOrV, vNotV, vIf, vIfT, vChain, vNil, vCons, vTup, vLst, vFz, vCall, vCallO, vCallS, rOf, wNil, wDat, wVar, vCB, vCO, dAdd, dSub, dMul, dDiv, dMod, dLt, dLe, dGt, dGe, dIs, dIsNot, isNoneD, dIx, vIsi, isi_int, isi_intb, isi_tup, dEqI, dNeI, at0, at1, at2, at3, at4, bLen, bMin2, bMax2, bAbs, bInt, bTuple, vFor, iT, iL, iET, iEL, itemsT, itemsL, iR1, iR2, rng1, rng2, vSl, dSl, pN, pS, vFrz, vAppend, vIxO, vLenO, vLenS, vYes, vLc, noOwn, wipeE, gN, Int.reduceEq, decide_true, decide_false, eq_self, Int.reduceNeg, Int.cast_ofNat_Int, reduceCtorEq, List.length_cons, List.length_nil, List.map_cons, List.map_nil, List.replicate, List.cons_append, List.nil_append, List.append_nil, List.getElem?_cons_zero, List.getElem?_cons_succ, List.set_cons_zero, List.set_cons_succ, Nat.reduceAdd, Nat.reduceSub, Nat.reduceEqDiff, Nat.zero_add, true_and, and_true, Bool.not_true, Bool.not_false, Bool.true_and, Bool.and_true, Bool.false_and, Bool.or_false, Bool.false_or, Bool.or_true, Bool.true_or, if_true, if_false, Bool.false_eq_true, ↓reduceIte]; exact hN
  refine seq_at (n' := n) (ρ' := [some (.dat (.int way)), some (.dat x), some (.dat y), some (.dat z), some (.dat (.bool true))]) ?_ ?_
  · intro N hN
    unfold vTry y__law_refused_1
    have kx : ∀ t : String, (mkX "OutOfPlace" ["text"] [.str t]).name ∈ kn := fun t => List.mem_singleton.mpr rfl
    have hx : ∀ (V : VN) (t : String) (ρ : Nv) (n : Nat), hdl V [("OutOfPlace", h__law_refused_0)] (mkX "OutOfPlace" ["text"] [.str t]) ρ n = h__law_refused_0 V ρ n := fun V t ρ n => by
      unfold hdl
      exact if_pos rfl
    rcases hw with rfl | rfl
    · simp only [bodyV, startE, vSeq, vNext, vIfS, vRet, vRetN, vRetV, vSet, vSetO, vDrop, vAsg, gT, gsC, gsN, gN, vPar, vVar, vC, vOp, vUn, dNeg, vTest, isB, vAnd, vOr, vNot, vAndV, vOrV, vNotV, vIf, vIfT, vChain, vNil, vCons, vTup, vLst, vFz, vCall, vCallO, vCallS, rOf, wNil, wDat, wVar, vCB, vCO, dAdd, dSub, dMul, dDiv, dMod, dLt, dLe, dGt, dGe, dIs, dIsNot, isNoneD, dIx, vIsi, isi_int, isi_intb, isi_tup, dEqI, dNeI, at0, at1, at2, at3, at4, bLen, bMin2, bMax2, bAbs, bInt, bTuple, vFor, iT, iL, iET, iEL, itemsT, itemsL, iR1, iR2, rng1, rng2, vSl, dSl, pN, pS, vFrz, vAppend, vIxO, vLenO, vLenS, vYes, vLc, noOwn, wipeE, gN, Int.reduceEq, decide_true, decide_false, eq_self, Int.reduceNeg, Int.cast_ofNat_Int, reduceCtorEq, List.length_cons, List.length_nil, List.map_cons, List.map_nil, List.replicate, List.cons_append, List.nil_append, List.append_nil, List.getElem?_cons_zero, List.getElem?_cons_succ, List.set_cons_zero, List.set_cons_succ, Nat.reduceAdd, Nat.reduceSub, Nat.reduceEqDiff, Nat.zero_add, true_and, and_true, Bool.not_true, Bool.not_false, Bool.true_and, Bool.and_true, Bool.false_and, Bool.or_false, Bool.false_or, Bool.or_true, Bool.true_or, if_true, if_false, Bool.false_eq_true, ↓reduceIte]
      refine h0 rfl _ _ (fun t => ⟨kx t, ?_⟩)
      rw [hx]
      simp only [h__law_refused_0, bodyV, startE, vSeq, vNext, vIfS, vRet, vRetN, vRetV, vSet, vSetO, vDrop, vAsg, gT, gsC, gsN, gN, vPar, vVar, vC, vOp, vUn, dNeg, vTest, isB, vAnd, vOr, vNot, vAndV, vOrV, vNotV, vIf, vIfT, vChain, vNil, vCons, vTup, vLst, vFz, vCall, vCallO, vCallS, rOf, wNil, wDat, wVar, vCB, vCO, dAdd, dSub, dMul, dDiv, dMod, dLt, dLe, dGt, dGe, dIs, dIsNot, isNoneD, dIx, vIsi, isi_int, isi_intb, isi_tup, dEqI, dNeI, at0, at1, at2, at3, at4, bLen, bMin2, bMax2, bAbs, bInt, bTuple, vFor, iT, iL, iET, iEL, itemsT, itemsL, iR1, iR2, rng1, rng2, vSl, dSl, pN, pS, vFrz, vAppend, vIxO, vLenO, vLenS, vYes, vLc, noOwn, wipeE, gN, Int.reduceEq, decide_true, decide_false, eq_self, Int.reduceNeg, Int.cast_ofNat_Int, reduceCtorEq, List.length_cons, List.length_nil, List.map_cons, List.map_nil, List.replicate, List.cons_append, List.nil_append, List.append_nil, List.getElem?_cons_zero, List.getElem?_cons_succ, List.set_cons_zero, List.set_cons_succ, Nat.reduceAdd, Nat.reduceSub, Nat.reduceEqDiff, Nat.zero_add, true_and, and_true, Bool.not_true, Bool.not_false, Bool.true_and, Bool.and_true, Bool.false_and, Bool.or_false, Bool.false_or, Bool.or_true, Bool.true_or, if_true, if_false, Bool.false_eq_true, ↓reduceIte]
      exact hN
    · have e : decide ((1 : Int) = 0) = false := rfl
      simp only [e, bodyV, startE, vSeq, vNext, vIfS, vRet, vRetN, vRetV, vSet, vSetO, vDrop, vAsg, gT, gsC, gsN, gN, vPar, vVar, vC, vOp, vUn, dNeg, vTest, isB, vAnd, vOr, vNot, vAndV, vOrV, vNotV, vIf, vIfT, vChain, vNil, vCons, vTup, vLst, vFz, vCall, vCallO, vCallS, rOf, wNil, wDat, wVar, vCB, vCO, dAdd, dSub, dMul, dDiv, dMod, dLt, dLe, dGt, dGe, dIs, dIsNot, isNoneD, dIx, vIsi, isi_int, isi_intb, isi_tup, dEqI, dNeI, at0, at1, at2, at3, at4, bLen, bMin2, bMax2, bAbs, bInt, bTuple, vFor, iT, iL, iET, iEL, itemsT, itemsL, iR1, iR2, rng1, rng2, vSl, dSl, pN, pS, vFrz, vAppend, vIxO, vLenO, vLenS, vYes, vLc, noOwn, wipeE, gN, Int.reduceEq, decide_true, decide_false, eq_self, Int.reduceNeg, Int.cast_ofNat_Int, reduceCtorEq, List.length_cons, List.length_nil, List.map_cons, List.map_nil, List.replicate, List.cons_append, List.nil_append, List.append_nil, List.getElem?_cons_zero, List.getElem?_cons_succ, List.set_cons_zero, List.set_cons_succ, Nat.reduceAdd, Nat.reduceSub, Nat.reduceEqDiff, Nat.zero_add, true_and, and_true, Bool.not_true, Bool.not_false, Bool.true_and, Bool.and_true, Bool.false_and, Bool.or_false, Bool.false_or, Bool.or_true, Bool.true_or, if_true, if_false, Bool.false_eq_true, ↓reduceIte]
      refine h1 rfl _ _ (fun t => ⟨kx t, ?_⟩)
      rw [hx]
      simp only [h__law_refused_0, bodyV, startE, vSeq, vNext, vIfS, vRet, vRetN, vRetV, vSet, vSetO, vDrop, vAsg, gT, gsC, gsN, gN, vPar, vVar, vC, vOp, vUn, dNeg, vTest, isB, vAnd, vOr, vNot, vAndV, vOrV, vNotV, vIf, vIfT, vChain, vNil, vCons, vTup, vLst, vFz, vCall, vCallO, vCallS, rOf, wNil, wDat, wVar, vCB, vCO, dAdd, dSub, dMul, dDiv, dMod, dLt, dLe, dGt, dGe, dIs, dIsNot, isNoneD, dIx, vIsi, isi_int, isi_intb, isi_tup, dEqI, dNeI, at0, at1, at2, at3, at4, bLen, bMin2, bMax2, bAbs, bInt, bTuple, vFor, iT, iL, iET, iEL, itemsT, itemsL, iR1, iR2, rng1, rng2, vSl, dSl, pN, pS, vFrz, vAppend, vIxO, vLenO, vLenS, vYes, vLc, noOwn, wipeE, gN, Int.reduceEq, decide_true, decide_false, eq_self, Int.reduceNeg, Int.cast_ofNat_Int, reduceCtorEq, List.length_cons, List.length_nil, List.map_cons, List.map_nil, List.replicate, List.cons_append, List.nil_append, List.append_nil, List.getElem?_cons_zero, List.getElem?_cons_succ, List.set_cons_zero, List.set_cons_succ, Nat.reduceAdd, Nat.reduceSub, Nat.reduceEqDiff, Nat.zero_add, true_and, and_true, Bool.not_true, Bool.not_false, Bool.true_and, Bool.and_true, Bool.false_and, Bool.or_false, Bool.false_or, Bool.or_true, Bool.true_or, if_true, if_false, Bool.false_eq_true, ↓reduceIte]
      exact hN
  simp only [bodyV, startE, vSeq, vNext, vIfS, vRet, vRetN, vRetV, vSet, vSetO, vDrop, vAsg, gT, gsC, gsN, gN, vPar, vVar, vC, vOp, vUn, dNeg, vTest, isB, vAnd, vOr, vNot, vAndV, vOrV, vNotV, vIf, vIfT, vChain, vNil, vCons, vTup, vLst, vFz, vCall, vCallO, vCallS, rOf, wNil, wDat, wVar, vCB, vCO, dAdd, dSub, dMul, dDiv, dMod, dLt, dLe, dGt, dGe, dIs, dIsNot, isNoneD, dIx, vIsi, isi_int, isi_intb, isi_tup, dEqI, dNeI, at0, at1, at2, at3, at4, bLen, bMin2, bMax2, bAbs, bInt, bTuple, vFor, iT, iL, iET, iEL, itemsT, itemsL, iR1, iR2, rng1, rng2, vSl, dSl, pN, pS, vFrz, vAppend, vIxO, vLenO, vLenS, vYes, vLc, noOwn, wipeE, gN, Int.reduceEq, decide_true, decide_false, eq_self, Int.reduceNeg, Int.cast_ofNat_Int, reduceCtorEq, List.length_cons, List.length_nil, List.map_cons, List.map_nil, List.replicate, List.cons_append, List.nil_append, List.append_nil, List.getElem?_cons_zero, List.getElem?_cons_succ, List.set_cons_zero, List.set_cons_succ, Nat.reduceAdd, Nat.reduceSub, Nat.reduceEqDiff, Nat.zero_add, true_and, and_true, Bool.not_true, Bool.not_false, Bool.true_and, Bool.and_true, Bool.false_and, Bool.or_false, Bool.false_or, Bool.or_true, Bool.true_or, if_true, if_false, Bool.false_eq_true, ↓reduceIte]
  exact q
theorem q_w0 (c : Cd) (h : c.Ok) (V : VN) (x1 x2 : Option VL.W) (n : Nat) : ∀ (ds : List Dt) (x3 : Option VL.W), (∀ d ∈ ds, stB c d = false) → (∀ x3, V.nx [some (.dat c.d), x1, x2, x3] n) → vLoop (gN 3) b__law_wrong_right_0 V ds [some (.dat c.d), x1, x2, x3] n
  | [], x3, _, q => q _
  | d :: ds, x3, hd, q => by
    have ih := q_w0 c h V x1 x2 n ds (some (.dat d)) (fun y hy => hd y (List.mem_cons_of_mem _ hy)) q
    rw [loop_cons]
    generalize vLoop (gN 3) b__law_wrong_right_0 V ds = L at ih ⊢
    simp only [b__law_wrong_right_0, bodyV, startE, vSeq, vNext, vIfS, vRet, vRetN, vRetV, vSet, vSetO, vDrop, vAsg, gT, gsC, gsN, gN, vPar, vVar, vC, vOp, vUn, dNeg, vTest, isB, vAnd, vOr, vNot, vAndV, vOrV, vNotV, vIf, vIfT, vChain, vNil, vCons, vTup, vLst, vFz, vCall, vCallO, vCallS, rOf, wNil, wDat, wVar, vCB, vCO, dAdd, dSub, dMul, dDiv, dMod, dLt, dLe, dGt, dGe, dIs, dIsNot, isNoneD, dIx, vIsi, isi_int, isi_intb, isi_tup, dEqI, dNeI, at0, at1, at2, at3, at4, bLen, bMin2, bMax2, bAbs, bInt, bTuple, vFor, iT, iL, iET, iEL, itemsT, itemsL, iR1, iR2, rng1, rng2, vSl, dSl, pN, pS, vFrz, vAppend, vIxO, vLenO, vLenS, vYes, vLc, noOwn, wipeE, gN, Int.reduceEq, decide_true, decide_false, eq_self, Int.reduceNeg, Int.cast_ofNat_Int, reduceCtorEq, List.length_cons, List.length_nil, List.map_cons, List.map_nil, List.replicate, List.cons_append, List.nil_append, List.append_nil, List.getElem?_cons_zero, List.getElem?_cons_succ, List.set_cons_zero, List.set_cons_succ, Nat.reduceAdd, Nat.reduceSub, Nat.reduceEqDiff, Nat.zero_add, true_and, and_true, Bool.not_true, Bool.not_false, Bool.true_and, Bool.and_true, Bool.false_and, Bool.or_false, Bool.false_or, Bool.or_true, Bool.true_or, if_true, if_false, Bool.false_eq_true, ↓reduceIte]
    refine q_refused 0 (.inl rfl) _ _ _ _ _ _ ?_ (fun _ Q E q => q_led_st c h d _ (hd d (by simp)) _ _ _ q) (fun e => by cases e)
    simp only [bodyV, startE, vSeq, vNext, vIfS, vRet, vRetN, vRetV, vSet, vSetO, vDrop, vAsg, gT, gsC, gsN, gN, vPar, vVar, vC, vOp, vUn, dNeg, vTest, isB, vAnd, vOr, vNot, vAndV, vOrV, vNotV, vIf, vIfT, vChain, vNil, vCons, vTup, vLst, vFz, vCall, vCallO, vCallS, rOf, wNil, wDat, wVar, vCB, vCO, dAdd, dSub, dMul, dDiv, dMod, dLt, dLe, dGt, dGe, dIs, dIsNot, isNoneD, dIx, vIsi, isi_int, isi_intb, isi_tup, dEqI, dNeI, at0, at1, at2, at3, at4, bLen, bMin2, bMax2, bAbs, bInt, bTuple, vFor, iT, iL, iET, iEL, itemsT, itemsL, iR1, iR2, rng1, rng2, vSl, dSl, pN, pS, vFrz, vAppend, vIxO, vLenO, vLenS, vYes, vLc, noOwn, wipeE, gN, Int.reduceEq, decide_true, decide_false, eq_self, Int.reduceNeg, Int.cast_ofNat_Int, reduceCtorEq, List.length_cons, List.length_nil, List.map_cons, List.map_nil, List.replicate, List.cons_append, List.nil_append, List.append_nil, List.getElem?_cons_zero, List.getElem?_cons_succ, List.set_cons_zero, List.set_cons_succ, Nat.reduceAdd, Nat.reduceSub, Nat.reduceEqDiff, Nat.zero_add, true_and, and_true, Bool.not_true, Bool.not_false, Bool.true_and, Bool.and_true, Bool.false_and, Bool.or_false, Bool.false_or, Bool.or_true, Bool.true_or, if_true, if_false, Bool.false_eq_true, ↓reduceIte]
    exact ih
theorem q_w1 (c : Cd) (h : c.Ok) (s : Int × Int) (hs : c.St s) (V : VN) (x2 : Option VL.W) (n : Nat) : ∀ (ds : List Dt) (x3 : Option VL.W), (∀ d ∈ ds, wh d 0 (c.moves.length - 1) = false) → (∀ x3, V.nx [some (.dat c.d), some (.dat (stD s)), x2, x3] n) → vLoop (gN 3) b__law_wrong_right_1 V ds [some (.dat c.d), some (.dat (stD s)), x2, x3] n
  | [], x3, _, q => q _
  | d :: ds, x3, hd, q => by
    have ih := q_w1 c h s hs V x2 n ds (some (.dat d)) (fun y hy => hd y (List.mem_cons_of_mem _ hy)) q
    rw [loop_cons]
    generalize vLoop (gN 3) b__law_wrong_right_1 V ds = L at ih ⊢
    simp only [b__law_wrong_right_1, bodyV, startE, vSeq, vNext, vIfS, vRet, vRetN, vRetV, vSet, vSetO, vDrop, vAsg, gT, gsC, gsN, gN, vPar, vVar, vC, vOp, vUn, dNeg, vTest, isB, vAnd, vOr, vNot, vAndV, vOrV, vNotV, vIf, vIfT, vChain, vNil, vCons, vTup, vLst, vFz, vCall, vCallO, vCallS, rOf, wNil, wDat, wVar, vCB, vCO, dAdd, dSub, dMul, dDiv, dMod, dLt, dLe, dGt, dGe, dIs, dIsNot, isNoneD, dIx, vIsi, isi_int, isi_intb, isi_tup, dEqI, dNeI, at0, at1, at2, at3, at4, bLen, bMin2, bMax2, bAbs, bInt, bTuple, vFor, iT, iL, iET, iEL, itemsT, itemsL, iR1, iR2, rng1, rng2, vSl, dSl, pN, pS, vFrz, vAppend, vIxO, vLenO, vLenS, vYes, vLc, noOwn, wipeE, gN, Int.reduceEq, decide_true, decide_false, eq_self, Int.reduceNeg, Int.cast_ofNat_Int, reduceCtorEq, List.length_cons, List.length_nil, List.map_cons, List.map_nil, List.replicate, List.cons_append, List.nil_append, List.append_nil, List.getElem?_cons_zero, List.getElem?_cons_succ, List.set_cons_zero, List.set_cons_succ, Nat.reduceAdd, Nat.reduceSub, Nat.reduceEqDiff, Nat.zero_add, true_and, and_true, Bool.not_true, Bool.not_false, Bool.true_and, Bool.and_true, Bool.false_and, Bool.or_false, Bool.false_or, Bool.or_true, Bool.true_or, if_true, if_false, Bool.false_eq_true, ↓reduceIte]
    refine q_refused 0 (.inl rfl) _ _ _ _ _ _ ?_ (fun _ Q E q => q_led_cd c h s hs d (hd d (by simp)) _ _ _ q) (fun e => by cases e)
    simp only [bodyV, startE, vSeq, vNext, vIfS, vRet, vRetN, vRetV, vSet, vSetO, vDrop, vAsg, gT, gsC, gsN, gN, vPar, vVar, vC, vOp, vUn, dNeg, vTest, isB, vAnd, vOr, vNot, vAndV, vOrV, vNotV, vIf, vIfT, vChain, vNil, vCons, vTup, vLst, vFz, vCall, vCallO, vCallS, rOf, wNil, wDat, wVar, vCB, vCO, dAdd, dSub, dMul, dDiv, dMod, dLt, dLe, dGt, dGe, dIs, dIsNot, isNoneD, dIx, vIsi, isi_int, isi_intb, isi_tup, dEqI, dNeI, at0, at1, at2, at3, at4, bLen, bMin2, bMax2, bAbs, bInt, bTuple, vFor, iT, iL, iET, iEL, itemsT, itemsL, iR1, iR2, rng1, rng2, vSl, dSl, pN, pS, vFrz, vAppend, vIxO, vLenO, vLenS, vYes, vLc, noOwn, wipeE, gN, Int.reduceEq, decide_true, decide_false, eq_self, Int.reduceNeg, Int.cast_ofNat_Int, reduceCtorEq, List.length_cons, List.length_nil, List.map_cons, List.map_nil, List.replicate, List.cons_append, List.nil_append, List.append_nil, List.getElem?_cons_zero, List.getElem?_cons_succ, List.set_cons_zero, List.set_cons_succ, Nat.reduceAdd, Nat.reduceSub, Nat.reduceEqDiff, Nat.zero_add, true_and, and_true, Bool.not_true, Bool.not_false, Bool.true_and, Bool.and_true, Bool.false_and, Bool.or_false, Bool.false_or, Bool.or_true, Bool.true_or, if_true, if_false, Bool.false_eq_true, ↓reduceIte]
    refine q_refused 1 (.inr rfl) _ _ _ _ _ _ ?_ (fun e => by cases e) (fun _ Q E q => q_ch_cd c h d _ (hd d (by simp)) _ _ _ q)
    simp only [bodyV, startE, vSeq, vNext, vIfS, vRet, vRetN, vRetV, vSet, vSetO, vDrop, vAsg, gT, gsC, gsN, gN, vPar, vVar, vC, vOp, vUn, dNeg, vTest, isB, vAnd, vOr, vNot, vAndV, vOrV, vNotV, vIf, vIfT, vChain, vNil, vCons, vTup, vLst, vFz, vCall, vCallO, vCallS, rOf, wNil, wDat, wVar, vCB, vCO, dAdd, dSub, dMul, dDiv, dMod, dLt, dLe, dGt, dGe, dIs, dIsNot, isNoneD, dIx, vIsi, isi_int, isi_intb, isi_tup, dEqI, dNeI, at0, at1, at2, at3, at4, bLen, bMin2, bMax2, bAbs, bInt, bTuple, vFor, iT, iL, iET, iEL, itemsT, itemsL, iR1, iR2, rng1, rng2, vSl, dSl, pN, pS, vFrz, vAppend, vIxO, vLenO, vLenS, vYes, vLc, noOwn, wipeE, gN, Int.reduceEq, decide_true, decide_false, eq_self, Int.reduceNeg, Int.cast_ofNat_Int, reduceCtorEq, List.length_cons, List.length_nil, List.map_cons, List.map_nil, List.replicate, List.cons_append, List.nil_append, List.append_nil, List.getElem?_cons_zero, List.getElem?_cons_succ, List.set_cons_zero, List.set_cons_succ, Nat.reduceAdd, Nat.reduceSub, Nat.reduceEqDiff, Nat.zero_add, true_and, and_true, Bool.not_true, Bool.not_false, Bool.true_and, Bool.and_true, Bool.false_and, Bool.or_false, Bool.false_or, Bool.or_true, Bool.true_or, if_true, if_false, Bool.false_eq_true, ↓reduceIte]
    exact ih
theorem q_w2 (c : Cd) (h : c.Ok) (V : VN) (x1 x2 : Option VL.W) (n : Nat) : ∀ (ds : List Dt) (x3 : Option VL.W), (∀ d ∈ ds, wh d 0 (c.steps.length - 1) = false) → (∀ x3, V.nx [some (.dat c.d), x1, x2, x3] n) → vLoop (gN 3) b__law_wrong_right_2 V ds [some (.dat c.d), x1, x2, x3] n
  | [], x3, _, q => q _
  | d :: ds, x3, hd, q => by
    have ih := q_w2 c h V x1 x2 n ds (some (.dat d)) (fun y hy => hd y (List.mem_cons_of_mem _ hy)) q
    rw [loop_cons]
    generalize vLoop (gN 3) b__law_wrong_right_2 V ds = L at ih ⊢
    simp only [b__law_wrong_right_2, bodyV, startE, vSeq, vNext, vIfS, vRet, vRetN, vRetV, vSet, vSetO, vDrop, vAsg, gT, gsC, gsN, gN, vPar, vVar, vC, vOp, vUn, dNeg, vTest, isB, vAnd, vOr, vNot, vAndV, vOrV, vNotV, vIf, vIfT, vChain, vNil, vCons, vTup, vLst, vFz, vCall, vCallO, vCallS, rOf, wNil, wDat, wVar, vCB, vCO, dAdd, dSub, dMul, dDiv, dMod, dLt, dLe, dGt, dGe, dIs, dIsNot, isNoneD, dIx, vIsi, isi_int, isi_intb, isi_tup, dEqI, dNeI, at0, at1, at2, at3, at4, bLen, bMin2, bMax2, bAbs, bInt, bTuple, vFor, iT, iL, iET, iEL, itemsT, itemsL, iR1, iR2, rng1, rng2, vSl, dSl, pN, pS, vFrz, vAppend, vIxO, vLenO, vLenS, vYes, vLc, noOwn, wipeE, gN, Int.reduceEq, decide_true, decide_false, eq_self, Int.reduceNeg, Int.cast_ofNat_Int, reduceCtorEq, List.length_cons, List.length_nil, List.map_cons, List.map_nil, List.replicate, List.cons_append, List.nil_append, List.append_nil, List.getElem?_cons_zero, List.getElem?_cons_succ, List.set_cons_zero, List.set_cons_succ, Nat.reduceAdd, Nat.reduceSub, Nat.reduceEqDiff, Nat.zero_add, true_and, and_true, Bool.not_true, Bool.not_false, Bool.true_and, Bool.and_true, Bool.false_and, Bool.or_false, Bool.false_or, Bool.or_true, Bool.true_or, if_true, if_false, Bool.false_eq_true, ↓reduceIte]
    refine q_refused 1 (.inr rfl) _ _ _ _ _ _ ?_ (fun e => by cases e) (fun _ Q E q => q_ch_pl c h 0 (Int.le_refl _) (by have := h.m0; omega) d (hd d (by simp)) _ _ _ q)
    simp only [bodyV, startE, vSeq, vNext, vIfS, vRet, vRetN, vRetV, vSet, vSetO, vDrop, vAsg, gT, gsC, gsN, gN, vPar, vVar, vC, vOp, vUn, dNeg, vTest, isB, vAnd, vOr, vNot, vAndV, vOrV, vNotV, vIf, vIfT, vChain, vNil, vCons, vTup, vLst, vFz, vCall, vCallO, vCallS, rOf, wNil, wDat, wVar, vCB, vCO, dAdd, dSub, dMul, dDiv, dMod, dLt, dLe, dGt, dGe, dIs, dIsNot, isNoneD, dIx, vIsi, isi_int, isi_intb, isi_tup, dEqI, dNeI, at0, at1, at2, at3, at4, bLen, bMin2, bMax2, bAbs, bInt, bTuple, vFor, iT, iL, iET, iEL, itemsT, itemsL, iR1, iR2, rng1, rng2, vSl, dSl, pN, pS, vFrz, vAppend, vIxO, vLenO, vLenS, vYes, vLc, noOwn, wipeE, gN, Int.reduceEq, decide_true, decide_false, eq_self, Int.reduceNeg, Int.cast_ofNat_Int, reduceCtorEq, List.length_cons, List.length_nil, List.map_cons, List.map_nil, List.replicate, List.cons_append, List.nil_append, List.append_nil, List.getElem?_cons_zero, List.getElem?_cons_succ, List.set_cons_zero, List.set_cons_succ, Nat.reduceAdd, Nat.reduceSub, Nat.reduceEqDiff, Nat.zero_add, true_and, and_true, Bool.not_true, Bool.not_false, Bool.true_and, Bool.and_true, Bool.false_and, Bool.or_false, Bool.false_or, Bool.or_true, Bool.true_or, if_true, if_false, Bool.false_eq_true, ↓reduceIte]
    exact ih
theorem q_wrong (c : Cd) (h : c.Ok) (s : Int × Int) (hs : c.St s) (n : Nat) (Q : WK) (E : XW) (q : Q (.dat (.bool true)) n) : w__law_wrong_right [.dat c.d, .dat (stD s)] n Q E := by
  rw [wd__law_wrong_right]
  refine body_at rfl ?_
  unfold t__law_wrong_right
  have := h.m0; have := h.s0
  have e3 : c.d = .tuple [.int c.low, .int c.high, .tuple (c.steps.map .int), .tuple (c.moves.map mvD), .int c.fade] := rfl
  have es : stD s = .tuple [.int s.1, .int s.2] := rfl
  have ec : cutD [PyData.int s.1, .int s.2] none (some 1) = [.int s.1] := cut_hi _ 1
  have z : ∀ k : Nat, k ≤ 20 → k ≤ sizeLine := fun k hk => Nat.le_trans hk (by decide)
  have z0 := z 0 (by decide); have z1 := z 1 (by decide); have z2 := z 2 (by decide); have z3 := z 3 (by decide); have z5 := z 5 (by decide); have z7 := z 7 (by decide); have z10 := z 10 (by decide); have z15 := z 15 (by decide)
  refine seq_at (n' := n) (ρ' := [some (.dat c.d), some (.dat (stD s)), some (.dat (.list [.none, .int 0, .str "00", .tuple [], .tuple [.int s.1], .tuple [.int s.1, .int s.2, .int 0], .list [.int s.1, .int s.2], .tuple [.int (c.low - 1), .int 0], .tuple [.int (c.high + 1), .int 0], .tuple [.bool true, .int 0]])), none]) ?_ ?_
  · intro N hN
    simp only [e3, es, ec, bList, z0, z1, z2, z3, z10, bodyV, startE, vSeq, vNext, vIfS, vRet, vRetN, vRetV, vSet, vSetO, vDrop, vAsg, gT, gsC, gsN, gN, vPar, vVar, vC, vOp, vUn, dNeg, vTest, isB, vAnd, vOr, vNot, vAndV, vOrV, vNotV, vIf, vIfT, vChain, vNil, vCons, vTup, vLst, vFz, vCall, vCallO, vCallS, rOf, wNil, wDat, wVar, vCB, vCO, dAdd, dSub, dMul, dDiv, dMod, dLt, dLe, dGt, dGe, dIs, dIsNot, isNoneD, dIx, vIsi, isi_int, isi_intb, isi_tup, dEqI, dNeI, at0, at1, at2, at3, at4, bLen, bMin2, bMax2, bAbs, bInt, bTuple, vFor, iT, iL, iET, iEL, itemsT, itemsL, iR1, iR2, rng1, rng2, vSl, dSl, pN, pS, vFrz, vAppend, vIxO, vLenO, vLenS, vYes, vLc, noOwn, wipeE, gN, Int.reduceEq, decide_true, decide_false, eq_self, Int.reduceNeg, Int.cast_ofNat_Int, reduceCtorEq, List.length_cons, List.length_nil, List.map_cons, List.map_nil, List.replicate, List.cons_append, List.nil_append, List.append_nil, List.getElem?_cons_zero, List.getElem?_cons_succ, List.set_cons_zero, List.set_cons_succ, Nat.reduceAdd, Nat.reduceSub, Nat.reduceEqDiff, Nat.zero_add, true_and, and_true, Bool.not_true, Bool.not_false, Bool.true_and, Bool.and_true, Bool.false_and, Bool.or_false, Bool.false_or, Bool.or_true, Bool.true_or, if_true, if_false, Bool.false_eq_true, ↓reduceIte]
    exact hN
  refine seq_for (n' := n) (ds := [.none, .int 0, .str "00", .tuple [], .tuple [.int s.1], .tuple [.int s.1, .int s.2, .int 0], .list [.int s.1, .int s.2], .tuple [.int (c.low - 1), .int 0], .tuple [.int (c.high + 1), .int 0], .tuple [.bool true, .int 0], .tuple [.int 0, .int (-1)], .tuple [.int 0, .int c.steps.length], .tuple [.int 0, .none], .tuple [.str "0", .int 0], .tuple [.list [.int 0], .int 0]]) (fun N hN => by simp only [e3, List.length_map, z1, z2, z5, z15, bodyV, startE, vSeq, vNext, vIfS, vRet, vRetN, vRetV, vSet, vSetO, vDrop, vAsg, gT, gsC, gsN, gN, vPar, vVar, vC, vOp, vUn, dNeg, vTest, isB, vAnd, vOr, vNot, vAndV, vOrV, vNotV, vIf, vIfT, vChain, vNil, vCons, vTup, vLst, vFz, vCall, vCallO, vCallS, rOf, wNil, wDat, wVar, vCB, vCO, dAdd, dSub, dMul, dDiv, dMod, dLt, dLe, dGt, dGe, dIs, dIsNot, isNoneD, dIx, vIsi, isi_int, isi_intb, isi_tup, dEqI, dNeI, at0, at1, at2, at3, at4, bLen, bMin2, bMax2, bAbs, bInt, bTuple, vFor, iT, iL, iET, iEL, itemsT, itemsL, iR1, iR2, rng1, rng2, vSl, dSl, pN, pS, vFrz, vAppend, vIxO, vLenO, vLenS, vYes, vLc, noOwn, wipeE, gN, Int.reduceEq, decide_true, decide_false, eq_self, Int.reduceNeg, Int.cast_ofNat_Int, reduceCtorEq, List.length_cons, List.length_nil, List.map_cons, List.map_nil, List.replicate, List.cons_append, List.nil_append, List.append_nil, List.getElem?_cons_zero, List.getElem?_cons_succ, List.set_cons_zero, List.set_cons_succ, Nat.reduceAdd, Nat.reduceSub, Nat.reduceEqDiff, Nat.zero_add, true_and, and_true, Bool.not_true, Bool.not_false, Bool.true_and, Bool.and_true, Bool.false_and, Bool.or_false, Bool.false_or, Bool.or_true, Bool.true_or, if_true, if_false, Bool.false_eq_true, ↓reduceIte]; exact hN) ?_
  refine q_w0 c h _ _ _ _ _ _ (fun d hd => ?_) (fun x3 => ?_)
  · simp only [List.mem_cons, List.not_mem_nil, or_false] at hd
    rcases hd with rfl | rfl | rfl | rfl | rfl | rfl | rfl | rfl | rfl | rfl | rfl | rfl | rfl | rfl | rfl <;> simp [stB, wh, inR] <;> omega
  dsimp only
  refine seq_for (n' := n) (ds := [.int (-1), .int c.moves.length, .none, .bool true, .str "0", .tuple [.int 0], .list [.int 0]]) (fun N hN => by simp only [e3, List.length_map, z1, z7, bodyV, startE, vSeq, vNext, vIfS, vRet, vRetN, vRetV, vSet, vSetO, vDrop, vAsg, gT, gsC, gsN, gN, vPar, vVar, vC, vOp, vUn, dNeg, vTest, isB, vAnd, vOr, vNot, vAndV, vOrV, vNotV, vIf, vIfT, vChain, vNil, vCons, vTup, vLst, vFz, vCall, vCallO, vCallS, rOf, wNil, wDat, wVar, vCB, vCO, dAdd, dSub, dMul, dDiv, dMod, dLt, dLe, dGt, dGe, dIs, dIsNot, isNoneD, dIx, vIsi, isi_int, isi_intb, isi_tup, dEqI, dNeI, at0, at1, at2, at3, at4, bLen, bMin2, bMax2, bAbs, bInt, bTuple, vFor, iT, iL, iET, iEL, itemsT, itemsL, iR1, iR2, rng1, rng2, vSl, dSl, pN, pS, vFrz, vAppend, vIxO, vLenO, vLenS, vYes, vLc, noOwn, wipeE, gN, Int.reduceEq, decide_true, decide_false, eq_self, Int.reduceNeg, Int.cast_ofNat_Int, reduceCtorEq, List.length_cons, List.length_nil, List.map_cons, List.map_nil, List.replicate, List.cons_append, List.nil_append, List.append_nil, List.getElem?_cons_zero, List.getElem?_cons_succ, List.set_cons_zero, List.set_cons_succ, Nat.reduceAdd, Nat.reduceSub, Nat.reduceEqDiff, Nat.zero_add, true_and, and_true, Bool.not_true, Bool.not_false, Bool.true_and, Bool.and_true, Bool.false_and, Bool.or_false, Bool.false_or, Bool.or_true, Bool.true_or, if_true, if_false, Bool.false_eq_true, ↓reduceIte]; exact hN) ?_
  refine q_w1 c h s hs _ _ _ _ _ (fun d hd => ?_) (fun x3 => ?_)
  · simp only [List.mem_cons, List.not_mem_nil, or_false] at hd
    rcases hd with rfl | rfl | rfl | rfl | rfl | rfl | rfl <;> simp [wh, inR] <;> omega
  dsimp only
  refine seq_for (n' := n) (ds := [.int (-1), .int c.steps.length, .none, .bool true, .str "0", .tuple [.int 0], .list [.int 0]]) (fun N hN => by simp only [e3, List.length_map, z1, z7, bodyV, startE, vSeq, vNext, vIfS, vRet, vRetN, vRetV, vSet, vSetO, vDrop, vAsg, gT, gsC, gsN, gN, vPar, vVar, vC, vOp, vUn, dNeg, vTest, isB, vAnd, vOr, vNot, vAndV, vOrV, vNotV, vIf, vIfT, vChain, vNil, vCons, vTup, vLst, vFz, vCall, vCallO, vCallS, rOf, wNil, wDat, wVar, vCB, vCO, dAdd, dSub, dMul, dDiv, dMod, dLt, dLe, dGt, dGe, dIs, dIsNot, isNoneD, dIx, vIsi, isi_int, isi_intb, isi_tup, dEqI, dNeI, at0, at1, at2, at3, at4, bLen, bMin2, bMax2, bAbs, bInt, bTuple, vFor, iT, iL, iET, iEL, itemsT, itemsL, iR1, iR2, rng1, rng2, vSl, dSl, pN, pS, vFrz, vAppend, vIxO, vLenO, vLenS, vYes, vLc, noOwn, wipeE, gN, Int.reduceEq, decide_true, decide_false, eq_self, Int.reduceNeg, Int.cast_ofNat_Int, reduceCtorEq, List.length_cons, List.length_nil, List.map_cons, List.map_nil, List.replicate, List.cons_append, List.nil_append, List.append_nil, List.getElem?_cons_zero, List.getElem?_cons_succ, List.set_cons_zero, List.set_cons_succ, Nat.reduceAdd, Nat.reduceSub, Nat.reduceEqDiff, Nat.zero_add, true_and, and_true, Bool.not_true, Bool.not_false, Bool.true_and, Bool.and_true, Bool.false_and, Bool.or_false, Bool.false_or, Bool.or_true, Bool.true_or, if_true, if_false, Bool.false_eq_true, ↓reduceIte]; exact hN) ?_
  refine q_w2 c h _ _ _ _ _ _ (fun d hd => ?_) (fun x3 => ?_)
  · simp only [List.mem_cons, List.not_mem_nil, or_false] at hd
    rcases hd with rfl | rfl | rfl | rfl | rfl | rfl | rfl <;> simp [wh, inR] <;> omega
  simp only [bodyV, startE, vSeq, vNext, vIfS, vRet, vRetN, vRetV, vSet, vSetO, vDrop, vAsg, gT, gsC, gsN, gN, vPar, vVar, vC, vOp, vUn, dNeg, vTest, isB, vAnd, vOr, vNot, vAndV, vOrV, vNotV, vIf, vIfT, vChain, vNil, vCons, vTup, vLst, vFz, vCall, vCallO, vCallS, rOf, wNil, wDat, wVar, vCB, vCO, dAdd, dSub, dMul, dDiv, dMod, dLt, dLe, dGt, dGe, dIs, dIsNot, isNoneD, dIx, vIsi, isi_int, isi_intb, isi_tup, dEqI, dNeI, at0, at1, at2, at3, at4, bLen, bMin2, bMax2, bAbs, bInt, bTuple, vFor, iT, iL, iET, iEL, itemsT, itemsL, iR1, iR2, rng1, rng2, vSl, dSl, pN, pS, vFrz, vAppend, vIxO, vLenO, vLenS, vYes, vLc, noOwn, wipeE, gN, Int.reduceEq, decide_true, decide_false, eq_self, Int.reduceNeg, Int.cast_ofNat_Int, reduceCtorEq, List.length_cons, List.length_nil, List.map_cons, List.map_nil, List.replicate, List.cons_append, List.nil_append, List.append_nil, List.getElem?_cons_zero, List.getElem?_cons_succ, List.set_cons_zero, List.set_cons_succ, Nat.reduceAdd, Nat.reduceSub, Nat.reduceEqDiff, Nat.zero_add, true_and, and_true, Bool.not_true, Bool.not_false, Bool.true_and, Bool.and_true, Bool.false_and, Bool.or_false, Bool.false_or, Bool.or_true, Bool.true_or, if_true, if_false, Bool.false_eq_true, ↓reduceIte]
  exact q
end LW


set_option maxRecDepth 100000
set_option maxHeartbeats 1000000
namespace LW
open PySem PySem.Spec PyProof.Rows L2 VL
theorem pick4 (w x y z r : Int) (r0 : 0 ≤ r) (r1 : r < 4) : ∃ v, (v = w ∨ v = x ∨ v = y ∨ v = z) ∧ atI [PyData.int w, .int x, .int y, .int z] r = some (.int v) := by
  have e : r = 0 ∨ r = 1 ∨ r = 2 ∨ r = 3 := by omega
  rcases e with rfl | rfl | rfl | rfl
  · exact ⟨w, .inl rfl, at0⟩
  · exact ⟨x, .inr (.inl rfl), at1⟩
  · exact ⟨y, .inr (.inr (.inl rfl)), at2⟩
  · exact ⟨z, .inr (.inr (.inr rfl)), at3⟩
theorem pick3 (w x y r : Int) (r0 : 0 ≤ r) (r1 : r < 3) : ∃ v, (v = w ∨ v = x ∨ v = y) ∧ atI [PyData.int w, .int x, .int y] r = some (.int v) := by
  have e : r = 0 ∨ r = 1 ∨ r = 2 := by omega
  rcases e with rfl | rfl | rfl
  · exact ⟨w, .inl rfl, at0⟩
  · exact ⟨x, .inr (.inl rfl), at1⟩
  · exact ⟨y, .inr (.inr rfl), at2⟩
theorem q_wd_steps (x1 x2 x3 x5 x6 : Option VL.W) (Q : List Dt → Nat → Prop) : ∀ (ds acc : List Dt) (n : Nat), acc.length + ds.length ≤ 100 → n + 2 * ds.length ≤ 999999999990 →
    (∀ xs : List Int, xs.length = ds.length → (∀ x ∈ xs, 1 ≤ x ∧ x ≤ 9999) → Q (acc ++ xs.map .int) (n + 2 * ds.length)) → vLcL (gN 4) vYes e__law_wide_0 [some .tok, x1, x2, x3, none, x5, x6] Q ds acc n
  | [], acc, n, _, _, q => by
    rw [lc_nil]
    simpa using q [] rfl (by simp)
  | d :: ds, acc, n, ha, hn, q => by
    rw [lc_cons]
    have ih := fun (y : Int) (hy0 : 1 ≤ y) (hy1 : y ≤ 9999) => q_wd_steps x1 x2 x3 x5 x6 Q ds (acc ++ [.int y]) (n + 1 + 1) (by simp at ha ⊢; omega) (by simp at hn ⊢; omega) (fun xs hx hv => by
      have := q (y :: xs) (by simp [hx]) (fun x hm => by
        rcases List.mem_cons.mp hm with rfl | hm
        · exact ⟨hy0, hy1⟩
        · exact hv x hm)
      simp only [List.map_cons, List.length_cons] at this
      rw [List.append_assoc, List.singleton_append, show n + 1 + 1 + 2 * ds.length = n + 2 * (ds.length + 1) by omega]
      exact this)
    generalize vLcL (gN 4) vYes e__law_wide_0 [some .tok, x1, x2, x3, none, x5, x6] Q ds = L at ih ⊢
    have z : acc.length < sizeLine := Nat.lt_of_le_of_lt (show _ ≤ 100 by omega) (by decide)
    have z3 : (3 : Nat) ≤ sizeLine := by decide
    simp only [e__law_wide_0, z3, bodyV, startE, vSeq, vNext, vIfS, vRet, vRetN, vRetV, vSet, vSetO, vDrop, vAsg, gT, gsC, gsN, gN, vPar, vVar, vC, vOp, vUn, dNeg, vTest, isB, vAnd, vOr, vNot, vAndV, vOrV, vNotV, vIf, vIfT, vChain, vNil, vCons, vTup, vLst, vFz, vCall, vCallO, vCallS, rOf, wNil, wDat, wVar, vCB, vCO, dAdd, dSub, dMul, dDiv, dMod, dLt, dLe, dGt, dGe, dIs, dIsNot, isNoneD, dIx, vIsi, isi_int, isi_intb, isi_tup, dEqI, dNeI, at0, at1, at2, at3, at4, bLen, bMin2, bMax2, bAbs, bInt, bTuple, vFor, iT, iL, iET, iEL, itemsT, itemsL, iR1, iR2, rng1, rng2, vSl, dSl, pN, pS, vFrz, vAppend, vIxO, vLenO, vLenS, vYes, vLc, noOwn, wipeE, gN, Int.reduceEq, decide_true, decide_false, eq_self, Int.reduceNeg, Int.cast_ofNat_Int, reduceCtorEq, List.length_cons, List.length_nil, List.map_cons, List.map_nil, List.replicate, List.cons_append, List.nil_append, List.append_nil, List.getElem?_cons_zero, List.getElem?_cons_succ, List.set_cons_zero, List.set_cons_succ, Nat.reduceAdd, Nat.reduceSub, Nat.reduceEqDiff, Nat.zero_add, true_and, and_true, Bool.not_true, Bool.not_false, Bool.true_and, Bool.and_true, Bool.false_and, Bool.or_false, Bool.false_or, Bool.or_true, Bool.true_or, if_true, if_false, Bool.false_eq_true, ↓reduceIte]
    refine q_draw (by decide) (by decide) (by simp at hn; omega) (fun r r0 r1 => ?_)
    simp only [z3, bodyV, startE, vSeq, vNext, vIfS, vRet, vRetN, vRetV, vSet, vSetO, vDrop, vAsg, gT, gsC, gsN, gN, vPar, vVar, vC, vOp, vUn, dNeg, vTest, isB, vAnd, vOr, vNot, vAndV, vOrV, vNotV, vIf, vIfT, vChain, vNil, vCons, vTup, vLst, vFz, vCall, vCallO, vCallS, rOf, wNil, wDat, wVar, vCB, vCO, dAdd, dSub, dMul, dDiv, dMod, dLt, dLe, dGt, dGe, dIs, dIsNot, isNoneD, dIx, vIsi, isi_int, isi_intb, isi_tup, dEqI, dNeI, at0, at1, at2, at3, at4, bLen, bMin2, bMax2, bAbs, bInt, bTuple, vFor, iT, iL, iET, iEL, itemsT, itemsL, iR1, iR2, rng1, rng2, vSl, dSl, pN, pS, vFrz, vAppend, vIxO, vLenO, vLenS, vYes, vLc, noOwn, wipeE, gN, Int.reduceEq, decide_true, decide_false, eq_self, Int.reduceNeg, Int.cast_ofNat_Int, reduceCtorEq, List.length_cons, List.length_nil, List.map_cons, List.map_nil, List.replicate, List.cons_append, List.nil_append, List.append_nil, List.getElem?_cons_zero, List.getElem?_cons_succ, List.set_cons_zero, List.set_cons_succ, Nat.reduceAdd, Nat.reduceSub, Nat.reduceEqDiff, Nat.zero_add, true_and, and_true, Bool.not_true, Bool.not_false, Bool.true_and, Bool.and_true, Bool.false_and, Bool.or_false, Bool.false_or, Bool.or_true, Bool.true_or, if_true, if_false, Bool.false_eq_true, ↓reduceIte]
    refine q_draw (by decide) (by decide) (by simp at hn; omega) (fun r' r0' r1' => ?_)
    obtain ⟨v, hv, ev⟩ := pick3 1 9999 (1 + r) r' r0' r1'
    simp only [ev, z, bodyV, startE, vSeq, vNext, vIfS, vRet, vRetN, vRetV, vSet, vSetO, vDrop, vAsg, gT, gsC, gsN, gN, vPar, vVar, vC, vOp, vUn, dNeg, vTest, isB, vAnd, vOr, vNot, vAndV, vOrV, vNotV, vIf, vIfT, vChain, vNil, vCons, vTup, vLst, vFz, vCall, vCallO, vCallS, rOf, wNil, wDat, wVar, vCB, vCO, dAdd, dSub, dMul, dDiv, dMod, dLt, dLe, dGt, dGe, dIs, dIsNot, isNoneD, dIx, vIsi, isi_int, isi_intb, isi_tup, dEqI, dNeI, at0, at1, at2, at3, at4, bLen, bMin2, bMax2, bAbs, bInt, bTuple, vFor, iT, iL, iET, iEL, itemsT, itemsL, iR1, iR2, rng1, rng2, vSl, dSl, pN, pS, vFrz, vAppend, vIxO, vLenO, vLenS, vYes, vLc, noOwn, wipeE, gN, Int.reduceEq, decide_true, decide_false, eq_self, Int.reduceNeg, Int.cast_ofNat_Int, reduceCtorEq, List.length_cons, List.length_nil, List.map_cons, List.map_nil, List.replicate, List.cons_append, List.nil_append, List.append_nil, List.getElem?_cons_zero, List.getElem?_cons_succ, List.set_cons_zero, List.set_cons_succ, Nat.reduceAdd, Nat.reduceSub, Nat.reduceEqDiff, Nat.zero_add, true_and, and_true, Bool.not_true, Bool.not_false, Bool.true_and, Bool.and_true, Bool.false_and, Bool.or_false, Bool.false_or, Bool.or_true, Bool.true_or, if_true, if_false, Bool.false_eq_true, ↓reduceIte]
    exact ih v (by omega) (by omega)
theorem q_wd_moves (V : VN) (x1 x2 x3 x6 : Option VL.W) : ∀ (ds acc : List Dt) (n : Nat) (x4 : Option VL.W), acc.length + ds.length ≤ 100 → n + 2 * ds.length ≤ 999999999990 →
    (∀ (ps : List (Int × Int)) x4, ps.length = ds.length → (∀ p ∈ ps, -32 ≤ p.1 ∧ p.1 ≤ 32 ∧ -15 ≤ p.2 ∧ p.2 ≤ 15) → V.nx [some .tok, x1, x2, x3, x4, some (.own (acc ++ ps.map mvD)), x6] (n + 2 * ds.length)) →
    vLoop (gN 4) b__law_wide_1 V ds [some .tok, x1, x2, x3, x4, some (.own acc), x6] n
  | [], acc, n, x4, _, _, q => by
    rw [loop_nil]
    simpa using q [] x4 rfl (by simp)
  | d :: ds, acc, n, x4, ha, hn, q => by
    rw [loop_cons]
    have ih := fun (p : Int × Int) (hp : -32 ≤ p.1 ∧ p.1 ≤ 32 ∧ -15 ≤ p.2 ∧ p.2 ≤ 15) => q_wd_moves V x1 x2 x3 x6 ds (acc ++ [mvD p]) (n + 1 + 1) (some (.dat d)) (by simp at ha ⊢; omega) (by simp at hn ⊢; omega) (fun ps x4 hx hv => by
      have := q (p :: ps) x4 (by simp [hx]) (fun x hm => by
        rcases List.mem_cons.mp hm with rfl | hm
        · exact hp
        · exact hv x hm)
      simp only [List.map_cons, List.length_cons] at this
      rw [List.append_assoc, List.singleton_append, show n + 1 + 1 + 2 * ds.length = n + 2 * (ds.length + 1) by omega]
      exact this)
    generalize vLoop (gN 4) b__law_wide_1 V ds = L at ih ⊢
    have z : acc.length < sizeLine := Nat.lt_of_le_of_lt (show _ ≤ 100 by simp at ha; omega) (by decide)
    have z2 : (2 : Nat) ≤ sizeLine := by decide
    simp only [b__law_wide_1, z, z2, bodyV, startE, vSeq, vNext, vIfS, vRet, vRetN, vRetV, vSet, vSetO, vDrop, vAsg, gT, gsC, gsN, gN, vPar, vVar, vC, vOp, vUn, dNeg, vTest, isB, vAnd, vOr, vNot, vAndV, vOrV, vNotV, vIf, vIfT, vChain, vNil, vCons, vTup, vLst, vFz, vCall, vCallO, vCallS, rOf, wNil, wDat, wVar, vCB, vCO, dAdd, dSub, dMul, dDiv, dMod, dLt, dLe, dGt, dGe, dIs, dIsNot, isNoneD, dIx, vIsi, isi_int, isi_intb, isi_tup, dEqI, dNeI, at0, at1, at2, at3, at4, bLen, bMin2, bMax2, bAbs, bInt, bTuple, vFor, iT, iL, iET, iEL, itemsT, itemsL, iR1, iR2, rng1, rng2, vSl, dSl, pN, pS, vFrz, vAppend, vIxO, vLenO, vLenS, vYes, vLc, noOwn, wipeE, gN, Int.reduceEq, decide_true, decide_false, eq_self, Int.reduceNeg, Int.cast_ofNat_Int, reduceCtorEq, List.length_cons, List.length_nil, List.map_cons, List.map_nil, List.replicate, List.cons_append, List.nil_append, List.append_nil, List.getElem?_cons_zero, List.getElem?_cons_succ, List.set_cons_zero, List.set_cons_succ, Nat.reduceAdd, Nat.reduceSub, Nat.reduceEqDiff, Nat.zero_add, true_and, and_true, Bool.not_true, Bool.not_false, Bool.true_and, Bool.and_true, Bool.false_and, Bool.or_false, Bool.false_or, Bool.or_true, Bool.true_or, if_true, if_false, Bool.false_eq_true, ↓reduceIte]
    refine q_draw (by decide) (by decide) (by simp at hn; omega) (fun r r0 r1 => ?_)
    simp only [bodyV, startE, vSeq, vNext, vIfS, vRet, vRetN, vRetV, vSet, vSetO, vDrop, vAsg, gT, gsC, gsN, gN, vPar, vVar, vC, vOp, vUn, dNeg, vTest, isB, vAnd, vOr, vNot, vAndV, vOrV, vNotV, vIf, vIfT, vChain, vNil, vCons, vTup, vLst, vFz, vCall, vCallO, vCallS, rOf, wNil, wDat, wVar, vCB, vCO, dAdd, dSub, dMul, dDiv, dMod, dLt, dLe, dGt, dGe, dIs, dIsNot, isNoneD, dIx, vIsi, isi_int, isi_intb, isi_tup, dEqI, dNeI, at0, at1, at2, at3, at4, bLen, bMin2, bMax2, bAbs, bInt, bTuple, vFor, iT, iL, iET, iEL, itemsT, itemsL, iR1, iR2, rng1, rng2, vSl, dSl, pN, pS, vFrz, vAppend, vIxO, vLenO, vLenS, vYes, vLc, noOwn, wipeE, gN, Int.reduceEq, decide_true, decide_false, eq_self, Int.reduceNeg, Int.cast_ofNat_Int, reduceCtorEq, List.length_cons, List.length_nil, List.map_cons, List.map_nil, List.replicate, List.cons_append, List.nil_append, List.append_nil, List.getElem?_cons_zero, List.getElem?_cons_succ, List.set_cons_zero, List.set_cons_succ, Nat.reduceAdd, Nat.reduceSub, Nat.reduceEqDiff, Nat.zero_add, true_and, and_true, Bool.not_true, Bool.not_false, Bool.true_and, Bool.and_true, Bool.false_and, Bool.or_false, Bool.false_or, Bool.or_true, Bool.true_or, if_true, if_false, Bool.false_eq_true, ↓reduceIte]
    refine q_draw (by decide) (by decide) (by simp at hn; omega) (fun r' r0' r1' => ?_)
    simp only [bodyV, startE, vSeq, vNext, vIfS, vRet, vRetN, vRetV, vSet, vSetO, vDrop, vAsg, gT, gsC, gsN, gN, vPar, vVar, vC, vOp, vUn, dNeg, vTest, isB, vAnd, vOr, vNot, vAndV, vOrV, vNotV, vIf, vIfT, vChain, vNil, vCons, vTup, vLst, vFz, vCall, vCallO, vCallS, rOf, wNil, wDat, wVar, vCB, vCO, dAdd, dSub, dMul, dDiv, dMod, dLt, dLe, dGt, dGe, dIs, dIsNot, isNoneD, dIx, vIsi, isi_int, isi_intb, isi_tup, dEqI, dNeI, at0, at1, at2, at3, at4, bLen, bMin2, bMax2, bAbs, bInt, bTuple, vFor, iT, iL, iET, iEL, itemsT, itemsL, iR1, iR2, rng1, rng2, vSl, dSl, pN, pS, vFrz, vAppend, vIxO, vLenO, vLenS, vYes, vLc, noOwn, wipeE, gN, Int.reduceEq, decide_true, decide_false, eq_self, Int.reduceNeg, Int.cast_ofNat_Int, reduceCtorEq, List.length_cons, List.length_nil, List.map_cons, List.map_nil, List.replicate, List.cons_append, List.nil_append, List.append_nil, List.getElem?_cons_zero, List.getElem?_cons_succ, List.set_cons_zero, List.set_cons_succ, Nat.reduceAdd, Nat.reduceSub, Nat.reduceEqDiff, Nat.zero_add, true_and, and_true, Bool.not_true, Bool.not_false, Bool.true_and, Bool.and_true, Bool.false_and, Bool.or_false, Bool.false_or, Bool.or_true, Bool.true_or, if_true, if_false, Bool.false_eq_true, ↓reduceIte]
    exact ih (r - 32, r' - 15) ⟨by simp; omega, by simp; omega, by simp; omega, by simp; omega⟩
theorem q_wide (n : Nat) (hn : n ≤ 999999999000) (Q : WK) (E : XW) (q : ∀ (c : Cd) (n' : Nat), c.Ok → n' ≤ n + 80 → Q (.dat c.d) n') : w__law_wide [.tok] n Q E := by
  rw [wd__law_wide]
  refine body_at rfl ?_
  unfold t__law_wide
  have z0 : (0 : Nat) ≤ sizeLine := by decide
  have z4 : (4 : Nat) ≤ sizeLine := by decide
  have z5 : (5 : Nat) ≤ sizeLine := by decide
  refine seq_all (fun ρ' n' => n' = n + 1 + 1 ∧ ∃ a b : Int, -98 ≤ a ∧ a ≤ 0 ∧ 0 ≤ b ∧ b ≤ 98 ∧ ρ' = [some .tok, some (.dat (.list [.int 0, .int (-1), .int (-32768), .int a])), some (.dat (.list [.int 0, .int 1, .int 32767, .int b])), none, none, none, none]) ?_ ?_
  · intro N hN
    simp only [z4, bodyV, startE, vSeq, vNext, vIfS, vRet, vRetN, vRetV, vSet, vSetO, vDrop, vAsg, gT, gsC, gsN, gN, vPar, vVar, vC, vOp, vUn, dNeg, vTest, isB, vAnd, vOr, vNot, vAndV, vOrV, vNotV, vIf, vIfT, vChain, vNil, vCons, vTup, vLst, vFz, vCall, vCallO, vCallS, rOf, wNil, wDat, wVar, vCB, vCO, dAdd, dSub, dMul, dDiv, dMod, dLt, dLe, dGt, dGe, dIs, dIsNot, isNoneD, dIx, vIsi, isi_int, isi_intb, isi_tup, dEqI, dNeI, at0, at1, at2, at3, at4, bLen, bMin2, bMax2, bAbs, bInt, bTuple, vFor, iT, iL, iET, iEL, itemsT, itemsL, iR1, iR2, rng1, rng2, vSl, dSl, pN, pS, vFrz, vAppend, vIxO, vLenO, vLenS, vYes, vLc, noOwn, wipeE, gN, Int.reduceEq, decide_true, decide_false, eq_self, Int.reduceNeg, Int.cast_ofNat_Int, reduceCtorEq, List.length_cons, List.length_nil, List.map_cons, List.map_nil, List.replicate, List.cons_append, List.nil_append, List.append_nil, List.getElem?_cons_zero, List.getElem?_cons_succ, List.set_cons_zero, List.set_cons_succ, Nat.reduceAdd, Nat.reduceSub, Nat.reduceEqDiff, Nat.zero_add, true_and, and_true, Bool.not_true, Bool.not_false, Bool.true_and, Bool.and_true, Bool.false_and, Bool.or_false, Bool.false_or, Bool.or_true, Bool.true_or, if_true, if_false, Bool.false_eq_true, ↓reduceIte]
    refine q_draw (by decide) (by decide) (by omega) (fun r r0 r1 => ?_)
    simp only [z4, bodyV, startE, vSeq, vNext, vIfS, vRet, vRetN, vRetV, vSet, vSetO, vDrop, vAsg, gT, gsC, gsN, gN, vPar, vVar, vC, vOp, vUn, dNeg, vTest, isB, vAnd, vOr, vNot, vAndV, vOrV, vNotV, vIf, vIfT, vChain, vNil, vCons, vTup, vLst, vFz, vCall, vCallO, vCallS, rOf, wNil, wDat, wVar, vCB, vCO, dAdd, dSub, dMul, dDiv, dMod, dLt, dLe, dGt, dGe, dIs, dIsNot, isNoneD, dIx, vIsi, isi_int, isi_intb, isi_tup, dEqI, dNeI, at0, at1, at2, at3, at4, bLen, bMin2, bMax2, bAbs, bInt, bTuple, vFor, iT, iL, iET, iEL, itemsT, itemsL, iR1, iR2, rng1, rng2, vSl, dSl, pN, pS, vFrz, vAppend, vIxO, vLenO, vLenS, vYes, vLc, noOwn, wipeE, gN, Int.reduceEq, decide_true, decide_false, eq_self, Int.reduceNeg, Int.cast_ofNat_Int, reduceCtorEq, List.length_cons, List.length_nil, List.map_cons, List.map_nil, List.replicate, List.cons_append, List.nil_append, List.append_nil, List.getElem?_cons_zero, List.getElem?_cons_succ, List.set_cons_zero, List.set_cons_succ, Nat.reduceAdd, Nat.reduceSub, Nat.reduceEqDiff, Nat.zero_add, true_and, and_true, Bool.not_true, Bool.not_false, Bool.true_and, Bool.and_true, Bool.false_and, Bool.or_false, Bool.false_or, Bool.or_true, Bool.true_or, if_true, if_false, Bool.false_eq_true, ↓reduceIte]
    refine q_draw (by decide) (by decide) (by omega) (fun r' r0' r1' => ?_)
    simp only [z4, bodyV, startE, vSeq, vNext, vIfS, vRet, vRetN, vRetV, vSet, vSetO, vDrop, vAsg, gT, gsC, gsN, gN, vPar, vVar, vC, vOp, vUn, dNeg, vTest, isB, vAnd, vOr, vNot, vAndV, vOrV, vNotV, vIf, vIfT, vChain, vNil, vCons, vTup, vLst, vFz, vCall, vCallO, vCallS, rOf, wNil, wDat, wVar, vCB, vCO, dAdd, dSub, dMul, dDiv, dMod, dLt, dLe, dGt, dGe, dIs, dIsNot, isNoneD, dIx, vIsi, isi_int, isi_intb, isi_tup, dEqI, dNeI, at0, at1, at2, at3, at4, bLen, bMin2, bMax2, bAbs, bInt, bTuple, vFor, iT, iL, iET, iEL, itemsT, itemsL, iR1, iR2, rng1, rng2, vSl, dSl, pN, pS, vFrz, vAppend, vIxO, vLenO, vLenS, vYes, vLc, noOwn, wipeE, gN, Int.reduceEq, decide_true, decide_false, eq_self, Int.reduceNeg, Int.cast_ofNat_Int, reduceCtorEq, List.length_cons, List.length_nil, List.map_cons, List.map_nil, List.replicate, List.cons_append, List.nil_append, List.append_nil, List.getElem?_cons_zero, List.getElem?_cons_succ, List.set_cons_zero, List.set_cons_succ, Nat.reduceAdd, Nat.reduceSub, Nat.reduceEqDiff, Nat.zero_add, true_and, and_true, Bool.not_true, Bool.not_false, Bool.true_and, Bool.and_true, Bool.false_and, Bool.or_false, Bool.false_or, Bool.or_true, Bool.true_or, if_true, if_false, Bool.false_eq_true, ↓reduceIte]
    exact hN _ _ ⟨rfl, 0 - r, r', by omega, by omega, by omega, by omega, rfl⟩
  rintro ρ' n' ⟨rfl, a, b, a0, a1, b0, b1, rfl⟩
  refine seq_all (fun ρ' n' => ∃ xs : List Int, 1 ≤ xs.length ∧ xs.length ≤ 16 ∧ (∀ x ∈ xs, 1 ≤ x ∧ x ≤ 9999) ∧ n' = n + 1 + 1 + 1 + 2 * xs.length ∧ ρ' = [some .tok, some (.dat (.list [.int 0, .int (-1), .int (-32768), .int a])), some (.dat (.list [.int 0, .int 1, .int 32767, .int b])), some (.dat (.list (xs.map .int))), none, none, none]) ?_ ?_
  · intro N hN
    simp only [bodyV, startE, vSeq, vNext, vIfS, vRet, vRetN, vRetV, vSet, vSetO, vDrop, vAsg, gT, gsC, gsN, gN, vPar, vVar, vC, vOp, vUn, dNeg, vTest, isB, vAnd, vOr, vNot, vAndV, vOrV, vNotV, vIf, vIfT, vChain, vNil, vCons, vTup, vLst, vFz, vCall, vCallO, vCallS, rOf, wNil, wDat, wVar, vCB, vCO, dAdd, dSub, dMul, dDiv, dMod, dLt, dLe, dGt, dGe, dIs, dIsNot, isNoneD, dIx, vIsi, isi_int, isi_intb, isi_tup, dEqI, dNeI, at0, at1, at2, at3, at4, bLen, bMin2, bMax2, bAbs, bInt, bTuple, vFor, iT, iL, iET, iEL, itemsT, itemsL, iR1, iR2, rng1, rng2, vSl, dSl, pN, pS, vFrz, vAppend, vIxO, vLenO, vLenS, vYes, vLc, noOwn, wipeE, gN, Int.reduceEq, decide_true, decide_false, eq_self, Int.reduceNeg, Int.cast_ofNat_Int, reduceCtorEq, List.length_cons, List.length_nil, List.map_cons, List.map_nil, List.replicate, List.cons_append, List.nil_append, List.append_nil, List.getElem?_cons_zero, List.getElem?_cons_succ, List.set_cons_zero, List.set_cons_succ, Nat.reduceAdd, Nat.reduceSub, Nat.reduceEqDiff, Nat.zero_add, true_and, and_true, Bool.not_true, Bool.not_false, Bool.true_and, Bool.and_true, Bool.false_and, Bool.or_false, Bool.false_or, Bool.or_true, Bool.true_or, if_true, if_false, Bool.false_eq_true, ↓reduceIte]
    refine q_draw (by decide) (by decide) (by omega) (fun r r0 r1 => ?_)
    simp only [bodyV, startE, vSeq, vNext, vIfS, vRet, vRetN, vRetV, vSet, vSetO, vDrop, vAsg, gT, gsC, gsN, gN, vPar, vVar, vC, vOp, vUn, dNeg, vTest, isB, vAnd, vOr, vNot, vAndV, vOrV, vNotV, vIf, vIfT, vChain, vNil, vCons, vTup, vLst, vFz, vCall, vCallO, vCallS, rOf, wNil, wDat, wVar, vCB, vCO, dAdd, dSub, dMul, dDiv, dMod, dLt, dLe, dGt, dGe, dIs, dIsNot, isNoneD, dIx, vIsi, isi_int, isi_intb, isi_tup, dEqI, dNeI, at0, at1, at2, at3, at4, bLen, bMin2, bMax2, bAbs, bInt, bTuple, vFor, iT, iL, iET, iEL, itemsT, itemsL, iR1, iR2, rng1, rng2, vSl, dSl, pN, pS, vFrz, vAppend, vIxO, vLenO, vLenS, vYes, vLc, noOwn, wipeE, gN, Int.reduceEq, decide_true, decide_false, eq_self, Int.reduceNeg, Int.cast_ofNat_Int, reduceCtorEq, List.length_cons, List.length_nil, List.map_cons, List.map_nil, List.replicate, List.cons_append, List.nil_append, List.append_nil, List.getElem?_cons_zero, List.getElem?_cons_succ, List.set_cons_zero, List.set_cons_succ, Nat.reduceAdd, Nat.reduceSub, Nat.reduceEqDiff, Nat.zero_add, true_and, and_true, Bool.not_true, Bool.not_false, Bool.true_and, Bool.and_true, Bool.false_and, Bool.or_false, Bool.false_or, Bool.or_true, Bool.true_or, if_true, if_false, Bool.false_eq_true, ↓reduceIte]
    refine ⟨by omega, by omega, ?_⟩
    refine q_wd_steps _ _ _ _ _ _ _ _ _ (by rw [rngD_len]; simp; omega) (by rw [rngD_len]; omega) (fun xs hx hv => ?_)
    rw [rngD_len] at hx ⊢
    simp only [bodyV, startE, vSeq, vNext, vIfS, vRet, vRetN, vRetV, vSet, vSetO, vDrop, vAsg, gT, gsC, gsN, gN, vPar, vVar, vC, vOp, vUn, dNeg, vTest, isB, vAnd, vOr, vNot, vAndV, vOrV, vNotV, vIf, vIfT, vChain, vNil, vCons, vTup, vLst, vFz, vCall, vCallO, vCallS, rOf, wNil, wDat, wVar, vCB, vCO, dAdd, dSub, dMul, dDiv, dMod, dLt, dLe, dGt, dGe, dIs, dIsNot, isNoneD, dIx, vIsi, isi_int, isi_intb, isi_tup, dEqI, dNeI, at0, at1, at2, at3, at4, bLen, bMin2, bMax2, bAbs, bInt, bTuple, vFor, iT, iL, iET, iEL, itemsT, itemsL, iR1, iR2, rng1, rng2, vSl, dSl, pN, pS, vFrz, vAppend, vIxO, vLenO, vLenS, vYes, vLc, noOwn, wipeE, gN, Int.reduceEq, decide_true, decide_false, eq_self, Int.reduceNeg, Int.cast_ofNat_Int, reduceCtorEq, List.length_cons, List.length_nil, List.map_cons, List.map_nil, List.replicate, List.cons_append, List.nil_append, List.append_nil, List.getElem?_cons_zero, List.getElem?_cons_succ, List.set_cons_zero, List.set_cons_succ, Nat.reduceAdd, Nat.reduceSub, Nat.reduceEqDiff, Nat.zero_add, true_and, and_true, Bool.not_true, Bool.not_false, Bool.true_and, Bool.and_true, Bool.false_and, Bool.or_false, Bool.false_or, Bool.or_true, Bool.true_or, if_true, if_false, Bool.false_eq_true, ↓reduceIte]
    exact hN _ _ ⟨xs, by omega, by omega, hv, by rw [hx], rfl⟩
  rintro ρ' n' ⟨xs, xl0, xl1, xv, rfl, rfl⟩
  apply seq_at
  · intro N hN; simp only [z0, bodyV, startE, vSeq, vNext, vIfS, vRet, vRetN, vRetV, vSet, vSetO, vDrop, vAsg, gT, gsC, gsN, gN, vPar, vVar, vC, vOp, vUn, dNeg, vTest, isB, vAnd, vOr, vNot, vAndV, vOrV, vNotV, vIf, vIfT, vChain, vNil, vCons, vTup, vLst, vFz, vCall, vCallO, vCallS, rOf, wNil, wDat, wVar, vCB, vCO, dAdd, dSub, dMul, dDiv, dMod, dLt, dLe, dGt, dGe, dIs, dIsNot, isNoneD, dIx, vIsi, isi_int, isi_intb, isi_tup, dEqI, dNeI, at0, at1, at2, at3, at4, bLen, bMin2, bMax2, bAbs, bInt, bTuple, vFor, iT, iL, iET, iEL, itemsT, itemsL, iR1, iR2, rng1, rng2, vSl, dSl, pN, pS, vFrz, vAppend, vIxO, vLenO, vLenS, vYes, vLc, noOwn, wipeE, gN, Int.reduceEq, decide_true, decide_false, eq_self, Int.reduceNeg, Int.cast_ofNat_Int, reduceCtorEq, List.length_cons, List.length_nil, List.map_cons, List.map_nil, List.replicate, List.cons_append, List.nil_append, List.append_nil, List.getElem?_cons_zero, List.getElem?_cons_succ, List.set_cons_zero, List.set_cons_succ, Nat.reduceAdd, Nat.reduceSub, Nat.reduceEqDiff, Nat.zero_add, true_and, and_true, Bool.not_true, Bool.not_false, Bool.true_and, Bool.and_true, Bool.false_and, Bool.or_false, Bool.false_or, Bool.or_true, Bool.true_or, if_true, if_false, Bool.false_eq_true, ↓reduceIte]; exact hN
  refine seq_forA (fun ds n' => 2 ≤ ds.length ∧ ds.length ≤ 16 ∧ n' = n + 1 + 1 + 1 + 2 * xs.length + 1) ?_ ?_
  · intro N hN
    simp only [bodyV, startE, vSeq, vNext, vIfS, vRet, vRetN, vRetV, vSet, vSetO, vDrop, vAsg, gT, gsC, gsN, gN, vPar, vVar, vC, vOp, vUn, dNeg, vTest, isB, vAnd, vOr, vNot, vAndV, vOrV, vNotV, vIf, vIfT, vChain, vNil, vCons, vTup, vLst, vFz, vCall, vCallO, vCallS, rOf, wNil, wDat, wVar, vCB, vCO, dAdd, dSub, dMul, dDiv, dMod, dLt, dLe, dGt, dGe, dIs, dIsNot, isNoneD, dIx, vIsi, isi_int, isi_intb, isi_tup, dEqI, dNeI, at0, at1, at2, at3, at4, bLen, bMin2, bMax2, bAbs, bInt, bTuple, vFor, iT, iL, iET, iEL, itemsT, itemsL, iR1, iR2, rng1, rng2, vSl, dSl, pN, pS, vFrz, vAppend, vIxO, vLenO, vLenS, vYes, vLc, noOwn, wipeE, gN, Int.reduceEq, decide_true, decide_false, eq_self, Int.reduceNeg, Int.cast_ofNat_Int, reduceCtorEq, List.length_cons, List.length_nil, List.map_cons, List.map_nil, List.replicate, List.cons_append, List.nil_append, List.append_nil, List.getElem?_cons_zero, List.getElem?_cons_succ, List.set_cons_zero, List.set_cons_succ, Nat.reduceAdd, Nat.reduceSub, Nat.reduceEqDiff, Nat.zero_add, true_and, and_true, Bool.not_true, Bool.not_false, Bool.true_and, Bool.and_true, Bool.false_and, Bool.or_false, Bool.false_or, Bool.or_true, Bool.true_or, if_true, if_false, Bool.false_eq_true, ↓reduceIte]
    refine q_draw (by decide) (by decide) (by omega) (fun r r0 r1 => ?_)
    simp only [bodyV, startE, vSeq, vNext, vIfS, vRet, vRetN, vRetV, vSet, vSetO, vDrop, vAsg, gT, gsC, gsN, gN, vPar, vVar, vC, vOp, vUn, dNeg, vTest, isB, vAnd, vOr, vNot, vAndV, vOrV, vNotV, vIf, vIfT, vChain, vNil, vCons, vTup, vLst, vFz, vCall, vCallO, vCallS, rOf, wNil, wDat, wVar, vCB, vCO, dAdd, dSub, dMul, dDiv, dMod, dLt, dLe, dGt, dGe, dIs, dIsNot, isNoneD, dIx, vIsi, isi_int, isi_intb, isi_tup, dEqI, dNeI, at0, at1, at2, at3, at4, bLen, bMin2, bMax2, bAbs, bInt, bTuple, vFor, iT, iL, iET, iEL, itemsT, itemsL, iR1, iR2, rng1, rng2, vSl, dSl, pN, pS, vFrz, vAppend, vIxO, vLenO, vLenS, vYes, vLc, noOwn, wipeE, gN, Int.reduceEq, decide_true, decide_false, eq_self, Int.reduceNeg, Int.cast_ofNat_Int, reduceCtorEq, List.length_cons, List.length_nil, List.map_cons, List.map_nil, List.replicate, List.cons_append, List.nil_append, List.append_nil, List.getElem?_cons_zero, List.getElem?_cons_succ, List.set_cons_zero, List.set_cons_succ, Nat.reduceAdd, Nat.reduceSub, Nat.reduceEqDiff, Nat.zero_add, true_and, and_true, Bool.not_true, Bool.not_false, Bool.true_and, Bool.and_true, Bool.false_and, Bool.or_false, Bool.false_or, Bool.or_true, Bool.true_or, if_true, if_false, Bool.false_eq_true, ↓reduceIte]
    exact ⟨by omega, by omega, hN _ _ ⟨by rw [rngD_len]; omega, by rw [rngD_len]; omega, rfl⟩⟩
  rintro ds n' ⟨d0, d1, rfl⟩
  refine q_wd_moves _ _ _ _ _ ds [] _ _ (by simp; omega) (by omega) (fun ps x4 hp hv => ?_)
  simp only [List.nil_append]
  refine seq_all (fun ρ' n' => ∃ fade : Int, (fade = 0 ∨ 2 ≤ fade ∧ fade ≤ 99) ∧ n' = n + 1 + 1 + 1 + 2 * xs.length + 1 + 2 * ds.length + 1 + 1 ∧ ρ' = [some .tok, some (.dat (.list [.int 0, .int (-1), .int (-32768), .int a])), some (.dat (.list [.int 0, .int 1, .int 32767, .int b])), some (.dat (.list (xs.map .int))), x4, some (.own (ps.map mvD)), some (.dat (.int fade))]) ?_ ?_
  · intro N hN
    simp only [z4, bodyV, startE, vSeq, vNext, vIfS, vRet, vRetN, vRetV, vSet, vSetO, vDrop, vAsg, gT, gsC, gsN, gN, vPar, vVar, vC, vOp, vUn, dNeg, vTest, isB, vAnd, vOr, vNot, vAndV, vOrV, vNotV, vIf, vIfT, vChain, vNil, vCons, vTup, vLst, vFz, vCall, vCallO, vCallS, rOf, wNil, wDat, wVar, vCB, vCO, dAdd, dSub, dMul, dDiv, dMod, dLt, dLe, dGt, dGe, dIs, dIsNot, isNoneD, dIx, vIsi, isi_int, isi_intb, isi_tup, dEqI, dNeI, at0, at1, at2, at3, at4, bLen, bMin2, bMax2, bAbs, bInt, bTuple, vFor, iT, iL, iET, iEL, itemsT, itemsL, iR1, iR2, rng1, rng2, vSl, dSl, pN, pS, vFrz, vAppend, vIxO, vLenO, vLenS, vYes, vLc, noOwn, wipeE, gN, Int.reduceEq, decide_true, decide_false, eq_self, Int.reduceNeg, Int.cast_ofNat_Int, reduceCtorEq, List.length_cons, List.length_nil, List.map_cons, List.map_nil, List.replicate, List.cons_append, List.nil_append, List.append_nil, List.getElem?_cons_zero, List.getElem?_cons_succ, List.set_cons_zero, List.set_cons_succ, Nat.reduceAdd, Nat.reduceSub, Nat.reduceEqDiff, Nat.zero_add, true_and, and_true, Bool.not_true, Bool.not_false, Bool.true_and, Bool.and_true, Bool.false_and, Bool.or_false, Bool.false_or, Bool.or_true, Bool.true_or, if_true, if_false, Bool.false_eq_true, ↓reduceIte]
    refine q_draw (by decide) (by decide) (by omega) (fun r r0 r1 => ?_)
    simp only [z4, bodyV, startE, vSeq, vNext, vIfS, vRet, vRetN, vRetV, vSet, vSetO, vDrop, vAsg, gT, gsC, gsN, gN, vPar, vVar, vC, vOp, vUn, dNeg, vTest, isB, vAnd, vOr, vNot, vAndV, vOrV, vNotV, vIf, vIfT, vChain, vNil, vCons, vTup, vLst, vFz, vCall, vCallO, vCallS, rOf, wNil, wDat, wVar, vCB, vCO, dAdd, dSub, dMul, dDiv, dMod, dLt, dLe, dGt, dGe, dIs, dIsNot, isNoneD, dIx, vIsi, isi_int, isi_intb, isi_tup, dEqI, dNeI, at0, at1, at2, at3, at4, bLen, bMin2, bMax2, bAbs, bInt, bTuple, vFor, iT, iL, iET, iEL, itemsT, itemsL, iR1, iR2, rng1, rng2, vSl, dSl, pN, pS, vFrz, vAppend, vIxO, vLenO, vLenS, vYes, vLc, noOwn, wipeE, gN, Int.reduceEq, decide_true, decide_false, eq_self, Int.reduceNeg, Int.cast_ofNat_Int, reduceCtorEq, List.length_cons, List.length_nil, List.map_cons, List.map_nil, List.replicate, List.cons_append, List.nil_append, List.append_nil, List.getElem?_cons_zero, List.getElem?_cons_succ, List.set_cons_zero, List.set_cons_succ, Nat.reduceAdd, Nat.reduceSub, Nat.reduceEqDiff, Nat.zero_add, true_and, and_true, Bool.not_true, Bool.not_false, Bool.true_and, Bool.and_true, Bool.false_and, Bool.or_false, Bool.false_or, Bool.or_true, Bool.true_or, if_true, if_false, Bool.false_eq_true, ↓reduceIte]
    refine q_draw (by decide) (by decide) (by omega) (fun r' r0' r1' => ?_)
    obtain ⟨v, hv', ev⟩ := pick4 0 2 99 (2 + r) r' r0' r1'
    simp only [ev, bodyV, startE, vSeq, vNext, vIfS, vRet, vRetN, vRetV, vSet, vSetO, vDrop, vAsg, gT, gsC, gsN, gN, vPar, vVar, vC, vOp, vUn, dNeg, vTest, isB, vAnd, vOr, vNot, vAndV, vOrV, vNotV, vIf, vIfT, vChain, vNil, vCons, vTup, vLst, vFz, vCall, vCallO, vCallS, rOf, wNil, wDat, wVar, vCB, vCO, dAdd, dSub, dMul, dDiv, dMod, dLt, dLe, dGt, dGe, dIs, dIsNot, isNoneD, dIx, vIsi, isi_int, isi_intb, isi_tup, dEqI, dNeI, at0, at1, at2, at3, at4, bLen, bMin2, bMax2, bAbs, bInt, bTuple, vFor, iT, iL, iET, iEL, itemsT, itemsL, iR1, iR2, rng1, rng2, vSl, dSl, pN, pS, vFrz, vAppend, vIxO, vLenO, vLenS, vYes, vLc, noOwn, wipeE, gN, Int.reduceEq, decide_true, decide_false, eq_self, Int.reduceNeg, Int.cast_ofNat_Int, reduceCtorEq, List.length_cons, List.length_nil, List.map_cons, List.map_nil, List.replicate, List.cons_append, List.nil_append, List.append_nil, List.getElem?_cons_zero, List.getElem?_cons_succ, List.set_cons_zero, List.set_cons_succ, Nat.reduceAdd, Nat.reduceSub, Nat.reduceEqDiff, Nat.zero_add, true_and, and_true, Bool.not_true, Bool.not_false, Bool.true_and, Bool.and_true, Bool.false_and, Bool.or_false, Bool.false_or, Bool.or_true, Bool.true_or, if_true, if_false, Bool.false_eq_true, ↓reduceIte]
    exact hN _ _ ⟨v, by omega, rfl, rfl⟩
  rintro ρ' n' ⟨fade, hf, rfl, rfl⟩
  simp only [z5, bodyV, startE, vSeq, vNext, vIfS, vRet, vRetN, vRetV, vSet, vSetO, vDrop, vAsg, gT, gsC, gsN, gN, vPar, vVar, vC, vOp, vUn, dNeg, vTest, isB, vAnd, vOr, vNot, vAndV, vOrV, vNotV, vIf, vIfT, vChain, vNil, vCons, vTup, vLst, vFz, vCall, vCallO, vCallS, rOf, wNil, wDat, wVar, vCB, vCO, dAdd, dSub, dMul, dDiv, dMod, dLt, dLe, dGt, dGe, dIs, dIsNot, isNoneD, dIx, vIsi, isi_int, isi_intb, isi_tup, dEqI, dNeI, at0, at1, at2, at3, at4, bLen, bMin2, bMax2, bAbs, bInt, bTuple, vFor, iT, iL, iET, iEL, itemsT, itemsL, iR1, iR2, rng1, rng2, vSl, dSl, pN, pS, vFrz, vAppend, vIxO, vLenO, vLenS, vYes, vLc, noOwn, wipeE, gN, Int.reduceEq, decide_true, decide_false, eq_self, Int.reduceNeg, Int.cast_ofNat_Int, reduceCtorEq, List.length_cons, List.length_nil, List.map_cons, List.map_nil, List.replicate, List.cons_append, List.nil_append, List.append_nil, List.getElem?_cons_zero, List.getElem?_cons_succ, List.set_cons_zero, List.set_cons_succ, Nat.reduceAdd, Nat.reduceSub, Nat.reduceEqDiff, Nat.zero_add, true_and, and_true, Bool.not_true, Bool.not_false, Bool.true_and, Bool.and_true, Bool.false_and, Bool.or_false, Bool.false_or, Bool.or_true, Bool.true_or, if_true, if_false, Bool.false_eq_true, ↓reduceIte]
  refine q_draw (by decide) (by decide) (by omega) (fun r r0 r1 => ?_)
  obtain ⟨lo, hlo, elo⟩ := pick4 0 (-1) (-32768) a r r0 r1
  simp only [elo, z5, bodyV, startE, vSeq, vNext, vIfS, vRet, vRetN, vRetV, vSet, vSetO, vDrop, vAsg, gT, gsC, gsN, gN, vPar, vVar, vC, vOp, vUn, dNeg, vTest, isB, vAnd, vOr, vNot, vAndV, vOrV, vNotV, vIf, vIfT, vChain, vNil, vCons, vTup, vLst, vFz, vCall, vCallO, vCallS, rOf, wNil, wDat, wVar, vCB, vCO, dAdd, dSub, dMul, dDiv, dMod, dLt, dLe, dGt, dGe, dIs, dIsNot, isNoneD, dIx, vIsi, isi_int, isi_intb, isi_tup, dEqI, dNeI, at0, at1, at2, at3, at4, bLen, bMin2, bMax2, bAbs, bInt, bTuple, vFor, iT, iL, iET, iEL, itemsT, itemsL, iR1, iR2, rng1, rng2, vSl, dSl, pN, pS, vFrz, vAppend, vIxO, vLenO, vLenS, vYes, vLc, noOwn, wipeE, gN, Int.reduceEq, decide_true, decide_false, eq_self, Int.reduceNeg, Int.cast_ofNat_Int, reduceCtorEq, List.length_cons, List.length_nil, List.map_cons, List.map_nil, List.replicate, List.cons_append, List.nil_append, List.append_nil, List.getElem?_cons_zero, List.getElem?_cons_succ, List.set_cons_zero, List.set_cons_succ, Nat.reduceAdd, Nat.reduceSub, Nat.reduceEqDiff, Nat.zero_add, true_and, and_true, Bool.not_true, Bool.not_false, Bool.true_and, Bool.and_true, Bool.false_and, Bool.or_false, Bool.false_or, Bool.or_true, Bool.true_or, if_true, if_false, Bool.false_eq_true, ↓reduceIte]
  refine q_draw (by decide) (by decide) (by omega) (fun r' r0' r1' => ?_)
  obtain ⟨hi, hhi, ehi⟩ := pick4 0 1 32767 b r' r0' r1'
  simp only [ehi, z5, bodyV, startE, vSeq, vNext, vIfS, vRet, vRetN, vRetV, vSet, vSetO, vDrop, vAsg, gT, gsC, gsN, gN, vPar, vVar, vC, vOp, vUn, dNeg, vTest, isB, vAnd, vOr, vNot, vAndV, vOrV, vNotV, vIf, vIfT, vChain, vNil, vCons, vTup, vLst, vFz, vCall, vCallO, vCallS, rOf, wNil, wDat, wVar, vCB, vCO, dAdd, dSub, dMul, dDiv, dMod, dLt, dLe, dGt, dGe, dIs, dIsNot, isNoneD, dIx, vIsi, isi_int, isi_intb, isi_tup, dEqI, dNeI, at0, at1, at2, at3, at4, bLen, bMin2, bMax2, bAbs, bInt, bTuple, vFor, iT, iL, iET, iEL, itemsT, itemsL, iR1, iR2, rng1, rng2, vSl, dSl, pN, pS, vFrz, vAppend, vIxO, vLenO, vLenS, vYes, vLc, noOwn, wipeE, gN, Int.reduceEq, decide_true, decide_false, eq_self, Int.reduceNeg, Int.cast_ofNat_Int, reduceCtorEq, List.length_cons, List.length_nil, List.map_cons, List.map_nil, List.replicate, List.cons_append, List.nil_append, List.append_nil, List.getElem?_cons_zero, List.getElem?_cons_succ, List.set_cons_zero, List.set_cons_succ, Nat.reduceAdd, Nat.reduceSub, Nat.reduceEqDiff, Nat.zero_add, true_and, and_true, Bool.not_true, Bool.not_false, Bool.true_and, Bool.and_true, Bool.false_and, Bool.or_false, Bool.false_or, Bool.or_true, Bool.true_or, if_true, if_false, Bool.false_eq_true, ↓reduceIte]
  exact q ⟨lo, hi, xs, ps, fade⟩ _ ⟨by show -32768 ≤ lo; omega, by show lo ≤ 0; omega, by show 0 ≤ hi; omega, by show hi ≤ 32767; omega, xl0, xl1, xv, by show 2 ≤ ps.length; omega, by show ps.length ≤ 16; omega, hv, hf⟩ (by omega)
theorem q_codes (c : Cd) (h : c.Ok) (s : Int × Int) (hs : c.St s) (V : VN) (x0 x1 x2 x4 : Option VL.W) (n : Nat) : ∀ (ds : List Dt) (x6 x7 x8 : Option VL.W), (∀ d ∈ ds, ∃ k : Int, 0 ≤ k ∧ k < c.moves.length ∧ d = .tuple [.int k, mvD (nth c.moves k)]) →
    (∀ x6 x7 x8, V.nx [x0, x1, x2, some (.dat c.d), x4, some (.dat (stD s)), x6, x7, x8] n) → vLoop (gT 2 (gsC (gN 6) (gsC (gN 7) gsN))) b_law_0 V ds [x0, x1, x2, some (.dat c.d), x4, some (.dat (stD s)), x6, x7, x8] n
  | [], _, _, _, _, q => q _ _ _
  | d :: ds, x6, x7, x8, hd, q => by
    obtain ⟨k, k0, k1, rfl⟩ := hd d (by simp)
    have ih := fun x8 => q_codes c h s hs V x0 x1 x2 x4 n ds (some (.dat (.int k))) (some (.dat (mvD (nth c.moves k)))) x8 (fun y hy => hd y (List.mem_cons_of_mem _ hy)) q
    rw [loop_cons]
    generalize vLoop (gT 2 (gsC (gN 6) (gsC (gN 7) gsN))) b_law_0 V ds = L at ih ⊢
    simp only [gT, gsC, gN, gsN, List.length_cons, List.length_nil, Nat.zero_add, Nat.reduceAdd, true_and, List.set_cons_zero, List.set_cons_succ]
    have m := h.mv _ (nth_mem k0 k1)
    have sv := h.sv _ (nth_mem hs.2.2.1 hs.2.2.2)
    have cm : CMul (nth c.moves k).1 (nth c.steps s.2) := .inl ⟨by omega, by omega⟩
    have es : stD s = .tuple [.int s.1, .int s.2] := rfl
    have e3 : c.d = .tuple [.int c.low, .int c.high, .tuple (c.steps.map .int), .tuple (c.moves.map mvD), .int c.fade] := rfl
    unfold b_law_0
    refine seq_at (n' := n) (ρ' := [x0, x1, x2, some (.dat c.d), x4, some (.dat (stD s)), some (.dat (.int k)), some (.dat (mvD (nth c.moves k))), x8]) ?_ ?_
    · intro N hN
      simp only [bodyV, startE, vSeq, vNext, vIfS, vRet, vRetN, vRetV, vSet, vSetO, vDrop, vAsg, gT, gsC, gsN, gN, vPar, vVar, vC, vOp, vUn, dNeg, vTest, isB, vAnd, vOr, vNot, vAndV, vOrV, vNotV, vIf, vIfT, vChain, vNil, vCons, vTup, vLst, vFz, vCall, vCallO, vCallS, rOf, wNil, wDat, wVar, vCB, vCO, dAdd, dSub, dMul, dDiv, dMod, dLt, dLe, dGt, dGe, dIs, dIsNot, isNoneD, dIx, vIsi, isi_int, isi_intb, isi_tup, dEqI, dNeI, at0, at1, at2, at3, at4, bLen, bMin2, bMax2, bAbs, bInt, bTuple, vFor, iT, iL, iET, iEL, itemsT, itemsL, iR1, iR2, rng1, rng2, vSl, dSl, pN, pS, vFrz, vAppend, vIxO, vLenO, vLenS, vYes, vLc, noOwn, wipeE, gN, Int.reduceEq, decide_true, decide_false, eq_self, Int.reduceNeg, Int.cast_ofNat_Int, reduceCtorEq, List.length_cons, List.length_nil, List.map_cons, List.map_nil, List.replicate, List.cons_append, List.nil_append, List.append_nil, List.getElem?_cons_zero, List.getElem?_cons_succ, List.set_cons_zero, List.set_cons_succ, Nat.reduceAdd, Nat.reduceSub, Nat.reduceEqDiff, Nat.zero_add, true_and, and_true, Bool.not_true, Bool.not_false, Bool.true_and, Bool.and_true, Bool.false_and, Bool.or_false, Bool.false_or, Bool.or_true, Bool.true_or, if_true, if_false, Bool.false_eq_true, ↓reduceIte]
      refine q_led_to c h s hs k k0 k1 _ _ _ ?_
      try simp only [bodyV, startE, vSeq, vNext, vIfS, vRet, vRetN, vRetV, vSet, vSetO, vDrop, vAsg, gT, gsC, gsN, gN, vPar, vVar, vC, vOp, vUn, dNeg, vTest, isB, vAnd, vOr, vNot, vAndV, vOrV, vNotV, vIf, vIfT, vChain, vNil, vCons, vTup, vLst, vFz, vCall, vCallO, vCallS, rOf, wNil, wDat, wVar, vCB, vCO, dAdd, dSub, dMul, dDiv, dMod, dLt, dLe, dGt, dGe, dIs, dIsNot, isNoneD, dIx, vIsi, isi_int, isi_intb, isi_tup, dEqI, dNeI, at0, at1, at2, at3, at4, bLen, bMin2, bMax2, bAbs, bInt, bTuple, vFor, iT, iL, iET, iEL, itemsT, itemsL, iR1, iR2, rng1, rng2, vSl, dSl, pN, pS, vFrz, vAppend, vIxO, vLenO, vLenS, vYes, vLc, noOwn, wipeE, gN, Int.reduceEq, decide_true, decide_false, eq_self, Int.reduceNeg, Int.cast_ofNat_Int, reduceCtorEq, List.length_cons, List.length_nil, List.map_cons, List.map_nil, List.replicate, List.cons_append, List.nil_append, List.append_nil, List.getElem?_cons_zero, List.getElem?_cons_succ, List.set_cons_zero, List.set_cons_succ, Nat.reduceAdd, Nat.reduceSub, Nat.reduceEqDiff, Nat.zero_add, true_and, and_true, Bool.not_true, Bool.not_false, Bool.true_and, Bool.and_true, Bool.false_and, Bool.or_false, Bool.false_or, Bool.or_true, Bool.true_or, if_true, if_false, Bool.false_eq_true, ↓reduceIte]
      refine (sh_st h (Cd.nx_st h s k)).repr (by decide) (by decide) ?_
      try simp only [bodyV, startE, vSeq, vNext, vIfS, vRet, vRetN, vRetV, vSet, vSetO, vDrop, vAsg, gT, gsC, gsN, gN, vPar, vVar, vC, vOp, vUn, dNeg, vTest, isB, vAnd, vOr, vNot, vAndV, vOrV, vNotV, vIf, vIfT, vChain, vNil, vCons, vTup, vLst, vFz, vCall, vCallO, vCallS, rOf, wNil, wDat, wVar, vCB, vCO, dAdd, dSub, dMul, dDiv, dMod, dLt, dLe, dGt, dGe, dIs, dIsNot, isNoneD, dIx, vIsi, isi_int, isi_intb, isi_tup, dEqI, dNeI, at0, at1, at2, at3, at4, bLen, bMin2, bMax2, bAbs, bInt, bTuple, vFor, iT, iL, iET, iEL, itemsT, itemsL, iR1, iR2, rng1, rng2, vSl, dSl, pN, pS, vFrz, vAppend, vIxO, vLenO, vLenS, vYes, vLc, noOwn, wipeE, gN, Int.reduceEq, decide_true, decide_false, eq_self, Int.reduceNeg, Int.cast_ofNat_Int, reduceCtorEq, List.length_cons, List.length_nil, List.map_cons, List.map_nil, List.replicate, List.cons_append, List.nil_append, List.append_nil, List.getElem?_cons_zero, List.getElem?_cons_succ, List.set_cons_zero, List.set_cons_succ, Nat.reduceAdd, Nat.reduceSub, Nat.reduceEqDiff, Nat.zero_add, true_and, and_true, Bool.not_true, Bool.not_false, Bool.true_and, Bool.and_true, Bool.false_and, Bool.or_false, Bool.false_or, Bool.or_true, Bool.true_or, if_true, if_false, Bool.false_eq_true, ↓reduceIte]
      refine q_led c h s hs k k0 k1 _ _ _ ?_
      try simp only [bodyV, startE, vSeq, vNext, vIfS, vRet, vRetN, vRetV, vSet, vSetO, vDrop, vAsg, gT, gsC, gsN, gN, vPar, vVar, vC, vOp, vUn, dNeg, vTest, isB, vAnd, vOr, vNot, vAndV, vOrV, vNotV, vIf, vIfT, vChain, vNil, vCons, vTup, vLst, vFz, vCall, vCallO, vCallS, rOf, wNil, wDat, wVar, vCB, vCO, dAdd, dSub, dMul, dDiv, dMod, dLt, dLe, dGt, dGe, dIs, dIsNot, isNoneD, dIx, vIsi, isi_int, isi_intb, isi_tup, dEqI, dNeI, at0, at1, at2, at3, at4, bLen, bMin2, bMax2, bAbs, bInt, bTuple, vFor, iT, iL, iET, iEL, itemsT, itemsL, iR1, iR2, rng1, rng2, vSl, dSl, pN, pS, vFrz, vAppend, vIxO, vLenO, vLenS, vYes, vLc, noOwn, wipeE, gN, Int.reduceEq, decide_true, decide_false, eq_self, Int.reduceNeg, Int.cast_ofNat_Int, reduceCtorEq, List.length_cons, List.length_nil, List.map_cons, List.map_nil, List.replicate, List.cons_append, List.nil_append, List.append_nil, List.getElem?_cons_zero, List.getElem?_cons_succ, List.set_cons_zero, List.set_cons_succ, Nat.reduceAdd, Nat.reduceSub, Nat.reduceEqDiff, Nat.zero_add, true_and, and_true, Bool.not_true, Bool.not_false, Bool.true_and, Bool.and_true, Bool.false_and, Bool.or_false, Bool.false_or, Bool.or_true, Bool.true_or, if_true, if_false, Bool.false_eq_true, ↓reduceIte]
      refine (sh_st h (Cd.nx_st h s k)).repr (by decide) (by decide) (dNeS1 ?_)
      simp only [bodyV, startE, vSeq, vNext, vIfS, vRet, vRetN, vRetV, vSet, vSetO, vDrop, vAsg, gT, gsC, gsN, gN, vPar, vVar, vC, vOp, vUn, dNeg, vTest, isB, vAnd, vOr, vNot, vAndV, vOrV, vNotV, vIf, vIfT, vChain, vNil, vCons, vTup, vLst, vFz, vCall, vCallO, vCallS, rOf, wNil, wDat, wVar, vCB, vCO, dAdd, dSub, dMul, dDiv, dMod, dLt, dLe, dGt, dGe, dIs, dIsNot, isNoneD, dIx, vIsi, isi_int, isi_intb, isi_tup, dEqI, dNeI, at0, at1, at2, at3, at4, bLen, bMin2, bMax2, bAbs, bInt, bTuple, vFor, iT, iL, iET, iEL, itemsT, itemsL, iR1, iR2, rng1, rng2, vSl, dSl, pN, pS, vFrz, vAppend, vIxO, vLenO, vLenS, vYes, vLc, noOwn, wipeE, gN, Int.reduceEq, decide_true, decide_false, eq_self, Int.reduceNeg, Int.cast_ofNat_Int, reduceCtorEq, List.length_cons, List.length_nil, List.map_cons, List.map_nil, List.replicate, List.cons_append, List.nil_append, List.append_nil, List.getElem?_cons_zero, List.getElem?_cons_succ, List.set_cons_zero, List.set_cons_succ, Nat.reduceAdd, Nat.reduceSub, Nat.reduceEqDiff, Nat.zero_add, true_and, and_true, Bool.not_true, Bool.not_false, Bool.true_and, Bool.and_true, Bool.false_and, Bool.or_false, Bool.false_or, Bool.or_true, Bool.true_or, if_true, if_false, Bool.false_eq_true, ↓reduceIte]
      exact hN
    refine seq_at (n' := n) (ρ' := [x0, x1, x2, some (.dat c.d), x4, some (.dat (stD s)), some (.dat (.int k)), some (.dat (mvD (nth c.moves k))), some (.dat (.int (dv ((nth c.moves k).1 * nth c.steps s.2) 8)))]) ?_ ?_
    · intro N hN
      simp only [mvD, e3, es, atI_map (f := PyData.int) hs.2.2.1 hs.2.2.2, cm, q_parted _ 8 (by decide) (by decide), bodyV, startE, vSeq, vNext, vIfS, vRet, vRetN, vRetV, vSet, vSetO, vDrop, vAsg, gT, gsC, gsN, gN, vPar, vVar, vC, vOp, vUn, dNeg, vTest, isB, vAnd, vOr, vNot, vAndV, vOrV, vNotV, vIf, vIfT, vChain, vNil, vCons, vTup, vLst, vFz, vCall, vCallO, vCallS, rOf, wNil, wDat, wVar, vCB, vCO, dAdd, dSub, dMul, dDiv, dMod, dLt, dLe, dGt, dGe, dIs, dIsNot, isNoneD, dIx, vIsi, isi_int, isi_intb, isi_tup, dEqI, dNeI, at0, at1, at2, at3, at4, bLen, bMin2, bMax2, bAbs, bInt, bTuple, vFor, iT, iL, iET, iEL, itemsT, itemsL, iR1, iR2, rng1, rng2, vSl, dSl, pN, pS, vFrz, vAppend, vIxO, vLenO, vLenS, vYes, vLc, noOwn, wipeE, gN, Int.reduceEq, decide_true, decide_false, eq_self, Int.reduceNeg, Int.cast_ofNat_Int, reduceCtorEq, List.length_cons, List.length_nil, List.map_cons, List.map_nil, List.replicate, List.cons_append, List.nil_append, List.append_nil, List.getElem?_cons_zero, List.getElem?_cons_succ, List.set_cons_zero, List.set_cons_succ, Nat.reduceAdd, Nat.reduceSub, Nat.reduceEqDiff, Nat.zero_add, true_and, and_true, Bool.not_true, Bool.not_false, Bool.true_and, Bool.and_true, Bool.false_and, Bool.or_false, Bool.false_or, Bool.or_true, Bool.true_or, if_true, if_false, Bool.false_eq_true, ↓reduceIte]
      exact hN
    have hb : Sh 40 0 (.int (dv ((nth c.moves k).1 * nth c.steps s.2) 8)) := by
      refine Sh.int ?_
      have b1 : (nth c.moves k).1 * nth c.steps s.2 ≤ 32 * 9999 := by
        by_cases q0 : 0 ≤ (nth c.moves k).1
        · exact Int.mul_le_mul (by omega) (by omega) (by omega) (by omega)
        · have : (nth c.moves k).1 * nth c.steps s.2 ≤ 0 := Int.mul_nonpos_of_nonpos_of_nonneg (by omega) (by omega)
          omega
      have b2 : -(32 * 9999) ≤ (nth c.moves k).1 * nth c.steps s.2 := by
        have : -(nth c.moves k).1 * nth c.steps s.2 ≤ 32 * 9999 := by
          by_cases q0 : 0 ≤ -(nth c.moves k).1
          · exact Int.mul_le_mul (by omega) (by omega) (by omega) (by omega)
          · have : -(nth c.moves k).1 * nth c.steps s.2 ≤ 0 := Int.mul_nonpos_of_nonpos_of_nonneg (by omega) (by omega)
            omega
        rw [Int.neg_mul] at this
        omega
      generalize (nth c.moves k).1 * nth c.steps s.2 = t at b1 b2
      unfold dv
      omega
    simp only [es, bodyV, startE, vSeq, vNext, vIfS, vRet, vRetN, vRetV, vSet, vSetO, vDrop, vAsg, gT, gsC, gsN, gN, vPar, vVar, vC, vOp, vUn, dNeg, vTest, isB, vAnd, vOr, vNot, vAndV, vOrV, vNotV, vIf, vIfT, vChain, vNil, vCons, vTup, vLst, vFz, vCall, vCallO, vCallS, rOf, wNil, wDat, wVar, vCB, vCO, dAdd, dSub, dMul, dDiv, dMod, dLt, dLe, dGt, dGe, dIs, dIsNot, isNoneD, dIx, vIsi, isi_int, isi_intb, isi_tup, dEqI, dNeI, at0, at1, at2, at3, at4, bLen, bMin2, bMax2, bAbs, bInt, bTuple, vFor, iT, iL, iET, iEL, itemsT, itemsL, iR1, iR2, rng1, rng2, vSl, dSl, pN, pS, vFrz, vAppend, vIxO, vLenO, vLenS, vYes, vLc, noOwn, wipeE, gN, Int.reduceEq, decide_true, decide_false, eq_self, Int.reduceNeg, Int.cast_ofNat_Int, reduceCtorEq, List.length_cons, List.length_nil, List.map_cons, List.map_nil, List.replicate, List.cons_append, List.nil_append, List.append_nil, List.getElem?_cons_zero, List.getElem?_cons_succ, List.set_cons_zero, List.set_cons_succ, Nat.reduceAdd, Nat.reduceSub, Nat.reduceEqDiff, Nat.zero_add, true_and, and_true, Bool.not_true, Bool.not_false, Bool.true_and, Bool.and_true, Bool.false_and, Bool.or_false, Bool.false_or, Bool.or_true, Bool.true_or, if_true, if_false, Bool.false_eq_true, ↓reduceIte]
    refine q_change c h k s.2 k0 k1 hs.2.2.1 hs.2.2.2 _ _ _ ?_
    try simp only [bodyV, startE, vSeq, vNext, vIfS, vRet, vRetN, vRetV, vSet, vSetO, vDrop, vAsg, gT, gsC, gsN, gN, vPar, vVar, vC, vOp, vUn, dNeg, vTest, isB, vAnd, vOr, vNot, vAndV, vOrV, vNotV, vIf, vIfT, vChain, vNil, vCons, vTup, vLst, vFz, vCall, vCallO, vCallS, rOf, wNil, wDat, wVar, vCB, vCO, dAdd, dSub, dMul, dDiv, dMod, dLt, dLe, dGt, dGe, dIs, dIsNot, isNoneD, dIx, vIsi, isi_int, isi_intb, isi_tup, dEqI, dNeI, at0, at1, at2, at3, at4, bLen, bMin2, bMax2, bAbs, bInt, bTuple, vFor, iT, iL, iET, iEL, itemsT, itemsL, iR1, iR2, rng1, rng2, vSl, dSl, pN, pS, vFrz, vAppend, vIxO, vLenO, vLenS, vYes, vLc, noOwn, wipeE, gN, Int.reduceEq, decide_true, decide_false, eq_self, Int.reduceNeg, Int.cast_ofNat_Int, reduceCtorEq, List.length_cons, List.length_nil, List.map_cons, List.map_nil, List.replicate, List.cons_append, List.nil_append, List.append_nil, List.getElem?_cons_zero, List.getElem?_cons_succ, List.set_cons_zero, List.set_cons_succ, Nat.reduceAdd, Nat.reduceSub, Nat.reduceEqDiff, Nat.zero_add, true_and, and_true, Bool.not_true, Bool.not_false, Bool.true_and, Bool.and_true, Bool.false_and, Bool.or_false, Bool.false_or, Bool.or_true, Bool.true_or, if_true, if_false, Bool.false_eq_true, ↓reduceIte]
    refine hb.repr (by decide) (by decide) ?_
    try simp only [bodyV, startE, vSeq, vNext, vIfS, vRet, vRetN, vRetV, vSet, vSetO, vDrop, vAsg, gT, gsC, gsN, gN, vPar, vVar, vC, vOp, vUn, dNeg, vTest, isB, vAnd, vOr, vNot, vAndV, vOrV, vNotV, vIf, vIfT, vChain, vNil, vCons, vTup, vLst, vFz, vCall, vCallO, vCallS, rOf, wNil, wDat, wVar, vCB, vCO, dAdd, dSub, dMul, dDiv, dMod, dLt, dLe, dGt, dGe, dIs, dIsNot, isNoneD, dIx, vIsi, isi_int, isi_intb, isi_tup, dEqI, dNeI, at0, at1, at2, at3, at4, bLen, bMin2, bMax2, bAbs, bInt, bTuple, vFor, iT, iL, iET, iEL, itemsT, itemsL, iR1, iR2, rng1, rng2, vSl, dSl, pN, pS, vFrz, vAppend, vIxO, vLenO, vLenS, vYes, vLc, noOwn, wipeE, gN, Int.reduceEq, decide_true, decide_false, eq_self, Int.reduceNeg, Int.cast_ofNat_Int, reduceCtorEq, List.length_cons, List.length_nil, List.map_cons, List.map_nil, List.replicate, List.cons_append, List.nil_append, List.append_nil, List.getElem?_cons_zero, List.getElem?_cons_succ, List.set_cons_zero, List.set_cons_succ, Nat.reduceAdd, Nat.reduceSub, Nat.reduceEqDiff, Nat.zero_add, true_and, and_true, Bool.not_true, Bool.not_false, Bool.true_and, Bool.and_true, Bool.false_and, Bool.or_false, Bool.false_or, Bool.or_true, Bool.true_or, if_true, if_false, Bool.false_eq_true, ↓reduceIte]
    refine hb.repr (by decide) (by decide) (dNeS1 ?_)
    simp only [bodyV, startE, vSeq, vNext, vIfS, vRet, vRetN, vRetV, vSet, vSetO, vDrop, vAsg, gT, gsC, gsN, gN, vPar, vVar, vC, vOp, vUn, dNeg, vTest, isB, vAnd, vOr, vNot, vAndV, vOrV, vNotV, vIf, vIfT, vChain, vNil, vCons, vTup, vLst, vFz, vCall, vCallO, vCallS, rOf, wNil, wDat, wVar, vCB, vCO, dAdd, dSub, dMul, dDiv, dMod, dLt, dLe, dGt, dGe, dIs, dIsNot, isNoneD, dIx, vIsi, isi_int, isi_intb, isi_tup, dEqI, dNeI, at0, at1, at2, at3, at4, bLen, bMin2, bMax2, bAbs, bInt, bTuple, vFor, iT, iL, iET, iEL, itemsT, itemsL, iR1, iR2, rng1, rng2, vSl, dSl, pN, pS, vFrz, vAppend, vIxO, vLenO, vLenS, vYes, vLc, noOwn, wipeE, gN, Int.reduceEq, decide_true, decide_false, eq_self, Int.reduceNeg, Int.cast_ofNat_Int, reduceCtorEq, List.length_cons, List.length_nil, List.map_cons, List.map_nil, List.replicate, List.cons_append, List.nil_append, List.append_nil, List.getElem?_cons_zero, List.getElem?_cons_succ, List.set_cons_zero, List.set_cons_succ, Nat.reduceAdd, Nat.reduceSub, Nat.reduceEqDiff, Nat.zero_add, true_and, and_true, Bool.not_true, Bool.not_false, Bool.true_and, Bool.and_true, Bool.false_and, Bool.or_false, Bool.false_or, Bool.or_true, Bool.true_or, if_true, if_false, Bool.false_eq_true, ↓reduceIte]
    exact ih _
end LW


set_option maxRecDepth 100000
set_option maxHeartbeats 1000000
namespace LW
open PySem PySem.Spec PyProof.Rows L2 VL
theorem enum_mv (c : Cd) {d : Dt} (hd : d ∈ enumD (c.moves.map mvD)) : ∃ k : Int, 0 ≤ k ∧ k < c.moves.length ∧ d = .tuple [.int k, mvD (nth c.moves k)] := by
  unfold enumD at hd
  rw [List.mem_mapIdx] at hd
  obtain ⟨i, hi, rfl⟩ := hd
  rw [List.length_map] at hi
  refine ⟨(i : Int), by omega, by omega, ?_⟩
  have e : (c.moves.map mvD)[i]'(by rw [List.length_map]; exact hi) = mvD (nth c.moves (i : Int)) := by
    rw [List.getElem_map]
    unfold nth
    rw [Int.toNat_natCast, List.getD_eq_getElem?_getD, List.getElem?_eq_getElem hi]
    rfl
  rw [e]
theorem q_body (V : VN) (ns : List Int) (n : Nat) (hn : n ≤ 99999999) (x2 x3 x4 x5 x6 x7 x8 : Option VL.W)
    (q : ∀ n' x3 x4 x5 x6 x7 x8, n' ≤ n + 200 → V.ct [some (.scr ns), some .tok, x2, x3, x4, x5, x6, x7, x8] n') :
    b_law_1 { V with nx := V.ct } [some (.scr ns), some .tok, x2, x3, x4, x5, x6, x7, x8] n := by
  unfold b_law_1
  refine seq_all (fun ρ' n' => ∃ c : Cd, c.Ok ∧ n' ≤ n + 80 ∧ ρ' = [some (.scr ns), some .tok, x2, some (.dat c.d), x4, x5, x6, x7, x8]) ?_ ?_
  · intro N hN
    simp only [bodyV, startE, vSeq, vNext, vIfS, vRet, vRetN, vRetV, vSet, vSetO, vDrop, vAsg, gT, gsC, gsN, gN, vPar, vVar, vC, vOp, vUn, dNeg, vTest, isB, vAnd, vOr, vNot, vAndV, vOrV, vNotV, vIf, vIfT, vChain, vNil, vCons, vTup, vLst, vFz, vCall, vCallO, vCallS, rOf, wNil, wDat, wVar, vCB, vCO, dAdd, dSub, dMul, dDiv, dMod, dLt, dLe, dGt, dGe, dIs, dIsNot, isNoneD, dIx, vIsi, isi_int, isi_intb, isi_tup, dEqI, dNeI, at0, at1, at2, at3, at4, bLen, bMin2, bMax2, bAbs, bInt, bTuple, vFor, iT, iL, iET, iEL, itemsT, itemsL, iR1, iR2, rng1, rng2, vSl, dSl, pN, pS, vFrz, vAppend, vIxO, vLenO, vLenS, vYes, vLc, noOwn, wipeE, gN, Int.reduceEq, decide_true, decide_false, eq_self, Int.reduceNeg, Int.cast_ofNat_Int, reduceCtorEq, List.length_cons, List.length_nil, List.map_cons, List.map_nil, List.replicate, List.cons_append, List.nil_append, List.append_nil, List.getElem?_cons_zero, List.getElem?_cons_succ, List.set_cons_zero, List.set_cons_succ, Nat.reduceAdd, Nat.reduceSub, Nat.reduceEqDiff, Nat.zero_add, true_and, and_true, Bool.not_true, Bool.not_false, Bool.true_and, Bool.and_true, Bool.false_and, Bool.or_false, Bool.false_or, Bool.or_true, Bool.true_or, if_true, if_false, Bool.false_eq_true, ↓reduceIte]
    refine q_wide _ (by omega) _ _ (fun c n' hc hn' => ?_)
    simp only [bodyV, startE, vSeq, vNext, vIfS, vRet, vRetN, vRetV, vSet, vSetO, vDrop, vAsg, gT, gsC, gsN, gN, vPar, vVar, vC, vOp, vUn, dNeg, vTest, isB, vAnd, vOr, vNot, vAndV, vOrV, vNotV, vIf, vIfT, vChain, vNil, vCons, vTup, vLst, vFz, vCall, vCallO, vCallS, rOf, wNil, wDat, wVar, vCB, vCO, dAdd, dSub, dMul, dDiv, dMod, dLt, dLe, dGt, dGe, dIs, dIsNot, isNoneD, dIx, vIsi, isi_int, isi_intb, isi_tup, dEqI, dNeI, at0, at1, at2, at3, at4, bLen, bMin2, bMax2, bAbs, bInt, bTuple, vFor, iT, iL, iET, iEL, itemsT, itemsL, iR1, iR2, rng1, rng2, vSl, dSl, pN, pS, vFrz, vAppend, vIxO, vLenO, vLenS, vYes, vLc, noOwn, wipeE, gN, Int.reduceEq, decide_true, decide_false, eq_self, Int.reduceNeg, Int.cast_ofNat_Int, reduceCtorEq, List.length_cons, List.length_nil, List.map_cons, List.map_nil, List.replicate, List.cons_append, List.nil_append, List.append_nil, List.getElem?_cons_zero, List.getElem?_cons_succ, List.set_cons_zero, List.set_cons_succ, Nat.reduceAdd, Nat.reduceSub, Nat.reduceEqDiff, Nat.zero_add, true_and, and_true, Bool.not_true, Bool.not_false, Bool.true_and, Bool.and_true, Bool.false_and, Bool.or_false, Bool.false_or, Bool.or_true, Bool.true_or, if_true, if_false, Bool.false_eq_true, ↓reduceIte]
    exact hN _ _ ⟨c, hc, hn', rfl⟩
  rintro ρ' n1 ⟨c, hc, hn1, rfl⟩
  have e3 : c.d = .tuple [.int c.low, .int c.high, .tuple (c.steps.map .int), .tuple (c.moves.map mvD), .int c.fade] := rfl
  have := hc.l0; have := hc.l1; have := hc.h0; have := hc.h1; have := hc.s0; have := hc.s1
  refine seq_all (fun ρ' n' => ∃ v : Int, c.low ≤ v ∧ v ≤ c.high ∧ n' = n1 + 1 + 1 ∧ ρ' = [some (.scr ns), some .tok, x2, some (.dat c.d), some (.dat (.int v)), x5, x6, x7, x8]) ?_ ?_
  · intro N hN
    have z3 : (3 : Nat) ≤ sizeLine := by decide
    simp only [e3, z3, bodyV, startE, vSeq, vNext, vIfS, vRet, vRetN, vRetV, vSet, vSetO, vDrop, vAsg, gT, gsC, gsN, gN, vPar, vVar, vC, vOp, vUn, dNeg, vTest, isB, vAnd, vOr, vNot, vAndV, vOrV, vNotV, vIf, vIfT, vChain, vNil, vCons, vTup, vLst, vFz, vCall, vCallO, vCallS, rOf, wNil, wDat, wVar, vCB, vCO, dAdd, dSub, dMul, dDiv, dMod, dLt, dLe, dGt, dGe, dIs, dIsNot, isNoneD, dIx, vIsi, isi_int, isi_intb, isi_tup, dEqI, dNeI, at0, at1, at2, at3, at4, bLen, bMin2, bMax2, bAbs, bInt, bTuple, vFor, iT, iL, iET, iEL, itemsT, itemsL, iR1, iR2, rng1, rng2, vSl, dSl, pN, pS, vFrz, vAppend, vIxO, vLenO, vLenS, vYes, vLc, noOwn, wipeE, gN, Int.reduceEq, decide_true, decide_false, eq_self, Int.reduceNeg, Int.cast_ofNat_Int, reduceCtorEq, List.length_cons, List.length_nil, List.map_cons, List.map_nil, List.replicate, List.cons_append, List.nil_append, List.append_nil, List.getElem?_cons_zero, List.getElem?_cons_succ, List.set_cons_zero, List.set_cons_succ, Nat.reduceAdd, Nat.reduceSub, Nat.reduceEqDiff, Nat.zero_add, true_and, and_true, Bool.not_true, Bool.not_false, Bool.true_and, Bool.and_true, Bool.false_and, Bool.or_false, Bool.false_or, Bool.or_true, Bool.true_or, if_true, if_false, Bool.false_eq_true, ↓reduceIte]
    refine q_draw (by omega) (by omega) (by omega) (fun r r0 r1 => ?_)
    simp only [z3, bodyV, startE, vSeq, vNext, vIfS, vRet, vRetN, vRetV, vSet, vSetO, vDrop, vAsg, gT, gsC, gsN, gN, vPar, vVar, vC, vOp, vUn, dNeg, vTest, isB, vAnd, vOr, vNot, vAndV, vOrV, vNotV, vIf, vIfT, vChain, vNil, vCons, vTup, vLst, vFz, vCall, vCallO, vCallS, rOf, wNil, wDat, wVar, vCB, vCO, dAdd, dSub, dMul, dDiv, dMod, dLt, dLe, dGt, dGe, dIs, dIsNot, isNoneD, dIx, vIsi, isi_int, isi_intb, isi_tup, dEqI, dNeI, at0, at1, at2, at3, at4, bLen, bMin2, bMax2, bAbs, bInt, bTuple, vFor, iT, iL, iET, iEL, itemsT, itemsL, iR1, iR2, rng1, rng2, vSl, dSl, pN, pS, vFrz, vAppend, vIxO, vLenO, vLenS, vYes, vLc, noOwn, wipeE, gN, Int.reduceEq, decide_true, decide_false, eq_self, Int.reduceNeg, Int.cast_ofNat_Int, reduceCtorEq, List.length_cons, List.length_nil, List.map_cons, List.map_nil, List.replicate, List.cons_append, List.nil_append, List.append_nil, List.getElem?_cons_zero, List.getElem?_cons_succ, List.set_cons_zero, List.set_cons_succ, Nat.reduceAdd, Nat.reduceSub, Nat.reduceEqDiff, Nat.zero_add, true_and, and_true, Bool.not_true, Bool.not_false, Bool.true_and, Bool.and_true, Bool.false_and, Bool.or_false, Bool.false_or, Bool.or_true, Bool.true_or, if_true, if_false, Bool.false_eq_true, ↓reduceIte]
    refine q_draw (by decide) (by decide) (by omega) (fun r' r0' r1' => ?_)
    obtain ⟨v, hv, ev⟩ := pick3 c.low c.high (c.low + r) r' r0' r1'
    simp only [ev, bodyV, startE, vSeq, vNext, vIfS, vRet, vRetN, vRetV, vSet, vSetO, vDrop, vAsg, gT, gsC, gsN, gN, vPar, vVar, vC, vOp, vUn, dNeg, vTest, isB, vAnd, vOr, vNot, vAndV, vOrV, vNotV, vIf, vIfT, vChain, vNil, vCons, vTup, vLst, vFz, vCall, vCallO, vCallS, rOf, wNil, wDat, wVar, vCB, vCO, dAdd, dSub, dMul, dDiv, dMod, dLt, dLe, dGt, dGe, dIs, dIsNot, isNoneD, dIx, vIsi, isi_int, isi_intb, isi_tup, dEqI, dNeI, at0, at1, at2, at3, at4, bLen, bMin2, bMax2, bAbs, bInt, bTuple, vFor, iT, iL, iET, iEL, itemsT, itemsL, iR1, iR2, rng1, rng2, vSl, dSl, pN, pS, vFrz, vAppend, vIxO, vLenO, vLenS, vYes, vLc, noOwn, wipeE, gN, Int.reduceEq, decide_true, decide_false, eq_self, Int.reduceNeg, Int.cast_ofNat_Int, reduceCtorEq, List.length_cons, List.length_nil, List.map_cons, List.map_nil, List.replicate, List.cons_append, List.nil_append, List.append_nil, List.getElem?_cons_zero, List.getElem?_cons_succ, List.set_cons_zero, List.set_cons_succ, Nat.reduceAdd, Nat.reduceSub, Nat.reduceEqDiff, Nat.zero_add, true_and, and_true, Bool.not_true, Bool.not_false, Bool.true_and, Bool.and_true, Bool.false_and, Bool.or_false, Bool.false_or, Bool.or_true, Bool.true_or, if_true, if_false, Bool.false_eq_true, ↓reduceIte]
    exact hN _ _ ⟨v, by omega, by omega, rfl, rfl⟩
  rintro ρ' n2 ⟨v, v0, v1, rfl, rfl⟩
  refine seq_all (fun ρ' n' => ∃ s : Int × Int, c.St s ∧ n' = n1 + 1 + 1 + 1 ∧ ρ' = [some (.scr ns), some .tok, x2, some (.dat c.d), some (.dat (.int v)), some (.dat (stD s)), x6, x7, x8]) ?_ ?_
  · intro N hN
    have z2 : (2 : Nat) ≤ sizeLine := by decide
    simp only [e3, List.length_map, z2, bodyV, startE, vSeq, vNext, vIfS, vRet, vRetN, vRetV, vSet, vSetO, vDrop, vAsg, gT, gsC, gsN, gN, vPar, vVar, vC, vOp, vUn, dNeg, vTest, isB, vAnd, vOr, vNot, vAndV, vOrV, vNotV, vIf, vIfT, vChain, vNil, vCons, vTup, vLst, vFz, vCall, vCallO, vCallS, rOf, wNil, wDat, wVar, vCB, vCO, dAdd, dSub, dMul, dDiv, dMod, dLt, dLe, dGt, dGe, dIs, dIsNot, isNoneD, dIx, vIsi, isi_int, isi_intb, isi_tup, dEqI, dNeI, at0, at1, at2, at3, at4, bLen, bMin2, bMax2, bAbs, bInt, bTuple, vFor, iT, iL, iET, iEL, itemsT, itemsL, iR1, iR2, rng1, rng2, vSl, dSl, pN, pS, vFrz, vAppend, vIxO, vLenO, vLenS, vYes, vLc, noOwn, wipeE, gN, Int.reduceEq, decide_true, decide_false, eq_self, Int.reduceNeg, Int.cast_ofNat_Int, reduceCtorEq, List.length_cons, List.length_nil, List.map_cons, List.map_nil, List.replicate, List.cons_append, List.nil_append, List.append_nil, List.getElem?_cons_zero, List.getElem?_cons_succ, List.set_cons_zero, List.set_cons_succ, Nat.reduceAdd, Nat.reduceSub, Nat.reduceEqDiff, Nat.zero_add, true_and, and_true, Bool.not_true, Bool.not_false, Bool.true_and, Bool.and_true, Bool.false_and, Bool.or_false, Bool.false_or, Bool.or_true, Bool.true_or, if_true, if_false, Bool.false_eq_true, ↓reduceIte]
    refine q_draw (by omega) (by omega) (by omega) (fun r r0 r1 => ?_)
    simp only [z2, bodyV, startE, vSeq, vNext, vIfS, vRet, vRetN, vRetV, vSet, vSetO, vDrop, vAsg, gT, gsC, gsN, gN, vPar, vVar, vC, vOp, vUn, dNeg, vTest, isB, vAnd, vOr, vNot, vAndV, vOrV, vNotV, vIf, vIfT, vChain, vNil, vCons, vTup, vLst, vFz, vCall, vCallO, vCallS, rOf, wNil, wDat, wVar, vCB, vCO, dAdd, dSub, dMul, dDiv, dMod, dLt, dLe, dGt, dGe, dIs, dIsNot, isNoneD, dIx, vIsi, isi_int, isi_intb, isi_tup, dEqI, dNeI, at0, at1, at2, at3, at4, bLen, bMin2, bMax2, bAbs, bInt, bTuple, vFor, iT, iL, iET, iEL, itemsT, itemsL, iR1, iR2, rng1, rng2, vSl, dSl, pN, pS, vFrz, vAppend, vIxO, vLenO, vLenS, vYes, vLc, noOwn, wipeE, gN, Int.reduceEq, decide_true, decide_false, eq_self, Int.reduceNeg, Int.cast_ofNat_Int, reduceCtorEq, List.length_cons, List.length_nil, List.map_cons, List.map_nil, List.replicate, List.cons_append, List.nil_append, List.append_nil, List.getElem?_cons_zero, List.getElem?_cons_succ, List.set_cons_zero, List.set_cons_succ, Nat.reduceAdd, Nat.reduceSub, Nat.reduceEqDiff, Nat.zero_add, true_and, and_true, Bool.not_true, Bool.not_false, Bool.true_and, Bool.and_true, Bool.false_and, Bool.or_false, Bool.false_or, Bool.or_true, Bool.true_or, if_true, if_false, Bool.false_eq_true, ↓reduceIte]
    exact hN _ _ ⟨(v, r), ⟨v0, v1, r0, r1⟩, rfl, rfl⟩
  rintro ρ' n3 ⟨s, hs, rfl, rfl⟩
  refine seq_for (n' := n1 + 1 + 1 + 1) (ds := enumD (c.moves.map mvD)) (fun N hN => by simp only [e3, bodyV, startE, vSeq, vNext, vIfS, vRet, vRetN, vRetV, vSet, vSetO, vDrop, vAsg, gT, gsC, gsN, gN, vPar, vVar, vC, vOp, vUn, dNeg, vTest, isB, vAnd, vOr, vNot, vAndV, vOrV, vNotV, vIf, vIfT, vChain, vNil, vCons, vTup, vLst, vFz, vCall, vCallO, vCallS, rOf, wNil, wDat, wVar, vCB, vCO, dAdd, dSub, dMul, dDiv, dMod, dLt, dLe, dGt, dGe, dIs, dIsNot, isNoneD, dIx, vIsi, isi_int, isi_intb, isi_tup, dEqI, dNeI, at0, at1, at2, at3, at4, bLen, bMin2, bMax2, bAbs, bInt, bTuple, vFor, iT, iL, iET, iEL, itemsT, itemsL, iR1, iR2, rng1, rng2, vSl, dSl, pN, pS, vFrz, vAppend, vIxO, vLenO, vLenS, vYes, vLc, noOwn, wipeE, gN, Int.reduceEq, decide_true, decide_false, eq_self, Int.reduceNeg, Int.cast_ofNat_Int, reduceCtorEq, List.length_cons, List.length_nil, List.map_cons, List.map_nil, List.replicate, List.cons_append, List.nil_append, List.append_nil, List.getElem?_cons_zero, List.getElem?_cons_succ, List.set_cons_zero, List.set_cons_succ, Nat.reduceAdd, Nat.reduceSub, Nat.reduceEqDiff, Nat.zero_add, true_and, and_true, Bool.not_true, Bool.not_false, Bool.true_and, Bool.and_true, Bool.false_and, Bool.or_false, Bool.false_or, Bool.or_true, Bool.true_or, if_true, if_false, Bool.false_eq_true, ↓reduceIte]; exact hN) ?_
  refine q_codes c hc s hs _ _ _ _ _ _ _ _ _ _ (fun d hd => enum_mv c hd) (fun x6 x7 x8 => ?_)
  simp only [bodyV, startE, vSeq, vNext, vIfS, vRet, vRetN, vRetV, vSet, vSetO, vDrop, vAsg, gT, gsC, gsN, gN, vPar, vVar, vC, vOp, vUn, dNeg, vTest, isB, vAnd, vOr, vNot, vAndV, vOrV, vNotV, vIf, vIfT, vChain, vNil, vCons, vTup, vLst, vFz, vCall, vCallO, vCallS, rOf, wNil, wDat, wVar, vCB, vCO, dAdd, dSub, dMul, dDiv, dMod, dLt, dLe, dGt, dGe, dIs, dIsNot, isNoneD, dIx, vIsi, isi_int, isi_intb, isi_tup, dEqI, dNeI, at0, at1, at2, at3, at4, bLen, bMin2, bMax2, bAbs, bInt, bTuple, vFor, iT, iL, iET, iEL, itemsT, itemsL, iR1, iR2, rng1, rng2, vSl, dSl, pN, pS, vFrz, vAppend, vIxO, vLenO, vLenS, vYes, vLc, noOwn, wipeE, gN, Int.reduceEq, decide_true, decide_false, eq_self, Int.reduceNeg, Int.cast_ofNat_Int, reduceCtorEq, List.length_cons, List.length_nil, List.map_cons, List.map_nil, List.replicate, List.cons_append, List.nil_append, List.append_nil, List.getElem?_cons_zero, List.getElem?_cons_succ, List.set_cons_zero, List.set_cons_succ, Nat.reduceAdd, Nat.reduceSub, Nat.reduceEqDiff, Nat.zero_add, true_and, and_true, Bool.not_true, Bool.not_false, Bool.true_and, Bool.and_true, Bool.false_and, Bool.or_false, Bool.false_or, Bool.or_true, Bool.true_or, if_true, if_false, Bool.false_eq_true, ↓reduceIte]
  refine q_wrong c hc s hs _ _ _ ?_
  simp only [bodyV, startE, vSeq, vNext, vIfS, vRet, vRetN, vRetV, vSet, vSetO, vDrop, vAsg, gT, gsC, gsN, gN, vPar, vVar, vC, vOp, vUn, dNeg, vTest, isB, vAnd, vOr, vNot, vAndV, vOrV, vNotV, vIf, vIfT, vChain, vNil, vCons, vTup, vLst, vFz, vCall, vCallO, vCallS, rOf, wNil, wDat, wVar, vCB, vCO, dAdd, dSub, dMul, dDiv, dMod, dLt, dLe, dGt, dGe, dIs, dIsNot, isNoneD, dIx, vIsi, isi_int, isi_intb, isi_tup, dEqI, dNeI, at0, at1, at2, at3, at4, bLen, bMin2, bMax2, bAbs, bInt, bTuple, vFor, iT, iL, iET, iEL, itemsT, itemsL, iR1, iR2, rng1, rng2, vSl, dSl, pN, pS, vFrz, vAppend, vIxO, vLenO, vLenS, vYes, vLc, noOwn, wipeE, gN, Int.reduceEq, decide_true, decide_false, eq_self, Int.reduceNeg, Int.cast_ofNat_Int, reduceCtorEq, List.length_cons, List.length_nil, List.map_cons, List.map_nil, List.replicate, List.cons_append, List.nil_append, List.append_nil, List.getElem?_cons_zero, List.getElem?_cons_succ, List.set_cons_zero, List.set_cons_succ, Nat.reduceAdd, Nat.reduceSub, Nat.reduceEqDiff, Nat.zero_add, true_and, and_true, Bool.not_true, Bool.not_false, Bool.true_and, Bool.and_true, Bool.false_and, Bool.or_false, Bool.false_or, Bool.or_true, Bool.true_or, if_true, if_false, Bool.false_eq_true, ↓reduceIte]
  exact q _ _ _ _ _ _ _ (by omega)
theorem q_law_loop (V : VN) (hV : ∀ ρ n, V.nx ρ n) (ns : List Int) : ∀ (ds : List Dt) (n : Nat), n + 200 * ds.length ≤ 99999999 → ∀ x2 x3 x4 x5 x6 x7 x8 : Option VL.W,
    vLoop (gN 2) b_law_1 V ds [some (.scr ns), some .tok, x2, x3, x4, x5, x6, x7, x8] n
  | [], n, _, _, _, _, _, _, _, _ => hV _ _
  | d :: ds, n, hn, x2, x3, x4, x5, x6, x7, x8 => by
    rw [loop_cons]
    have ih := q_law_loop V hV ns ds
    generalize vLoop (gN 2) b_law_1 V ds = L at ih ⊢
    simp only [gN, List.set_cons_zero, List.set_cons_succ]
    rw [List.length_cons] at hn
    exact q_body { V with ct := L, bk := V.nx } ns n (by omega) _ _ _ _ _ _ _ (fun n' x3 x4 x5 x6 x7 x8 h => ih n' (by omega) _ _ _ _ _ _ _)
theorem law_holds : ∀ ns : List Int, ns.length ≤ 63 → t_law lawEnd ((startE 9 [.scr ns]).set 1 (some .tok)) 0 := by
  intro ns hns
  unfold t_law
  refine seq_for (ds := rngD 0 (2 + (if (4 : Int) < ns.length then 4 else (ns.length : Int))).toNat) (n' := 0) (fun N hN => ?_) ?_
  · have a1 : (-(2 ^ 62) : Int) ≤ 2 + (if (4 : Int) < ns.length then 4 else (ns.length : Int)) := by split <;> omega
    have a2 : 2 + (if (4 : Int) < ns.length then 4 else (ns.length : Int)) < (2 ^ 62 : Int) := by split <;> omega
    simp only [bodyV, startE, vSeq, vNext, vIfS, vRet, vRetN, vRetV, vSet, vSetO, vDrop, vAsg, gT, gsC, gsN, gN, vPar, vVar, vC, vOp, vUn, dNeg, vTest, isB, vAnd, vOr, vNot, vAndV, vOrV, vNotV, vIf, vIfT, vChain, vNil, vCons, vTup, vLst, vFz, vCall, vCallO, vCallS, rOf, wNil, wDat, wVar, vCB, vCO, dAdd, dSub, dMul, dDiv, dMod, dLt, dLe, dGt, dGe, dIs, dIsNot, isNoneD, dIx, vIsi, isi_int, isi_intb, isi_tup, dEqI, dNeI, at0, at1, at2, at3, at4, bLen, bMin2, bMax2, bAbs, bInt, bTuple, vFor, iT, iL, iET, iEL, itemsT, itemsL, iR1, iR2, rng1, rng2, vSl, dSl, pN, pS, vFrz, vAppend, vIxO, vLenO, vLenS, vYes, vLc, noOwn, wipeE, gN, Int.reduceEq, decide_true, decide_false, eq_self, Int.reduceNeg, Int.cast_ofNat_Int, reduceCtorEq, List.length_cons, List.length_nil, List.map_cons, List.map_nil, List.replicate, List.cons_append, List.nil_append, List.append_nil, List.getElem?_cons_zero, List.getElem?_cons_succ, List.set_cons_zero, List.set_cons_succ, Nat.reduceAdd, Nat.reduceSub, Nat.reduceEqDiff, Nat.zero_add, true_and, and_true, Bool.not_true, Bool.not_false, Bool.true_and, Bool.and_true, Bool.false_and, Bool.or_false, Bool.false_or, Bool.or_true, Bool.true_or, if_true, if_false, Bool.false_eq_true, ↓reduceIte]
    exact ⟨a1, a2, hN⟩
  · refine q_law_loop _ (fun _ _ => rfl) ns _ 0 ?_ _ _ _ _ _ _ _
    rw [rngD_len]
    split <;> omega
end LW


open PySem PySem.W PySem.Calls PyProof.Rows
set_option maxRecDepth 100000 in
set_option maxHeartbeats 0 in
theorem PySem.Challenge.cw_stepsound_k04_whole_steps_holds : PySem.Challenge.rw_stepsound_k04_whole_steps.Holds := by
  w_on; o_law
  refine HandSHeadRun.head_any (r := OpenLaw.row PySem.Challenge.rw_stepsound_k04_whole_steps) (q := view (OpenLaw.row PySem.Challenge.rw_stepsound_k04_whole_steps).prog [30]) (H := LW.hk) (ob := LW.ob) (M := 6000) (loose := LW.names) (d := HandSHeadRun.topDef (OpenLaw.row PySem.Challenge.rw_stepsound_k04_whole_steps).prog 30) (kwd := []) VL.obX_eq
    (by kernel_rfl) (fun s => by kernel_rfl) LW.run (by kernel_rfl) (by kernel_rfl) (by kernel_rfl) (by rfl) (by first | assumption | decide +kernel) (by decide +kernel) ⟨rfl, rfl, rfl, rfl, rfl, by decide +kernel⟩ ?hw ?hc
  case hw => w_witness2
  case hc =>
    refine VL.walkG (l := PySem.Challenge.rw_stepsound_k04_whole_steps) (k := 10) rfl (by kernel_rfl) ⟨rfl, by decide, by decide⟩ ?F
    intro w mg fa h Y G hmg0
    obtain ⟨K, KX, c, x⟩ := Y
    have hmg : mg ("law" : PySem.Str) = some (.ref fa) := by
      have e : (HandSHeadRun.topDef (OpenLaw.row PySem.Challenge.rw_stepsound_k04_whole_steps).prog 30).name = ("law" : PySem.Str) := by kernel_rfl
      rw [← e]
      exact hmg0
    have T := LW.tx KX G c x
    have ea := hmg.symm.trans T.g_law
    cases ea
    obtain ⟨fd, F⟩ := T.d_law
    exact ⟨K, fd, KX, fun s v => (L2.FunD.bindsA (ps := ["script"]) F (fun _ _ _ _ _ _ us hl => match us, hl with | [_], _ => rfl)) s [v] rfl, fun base _ _ => LW.all_ok T F LW.law_holds⟩

