import PyProof.Rows.All
import Wide.All
import OpenK.AllK
import Wide.FinOn
import KE.KStateDown
import Lean
import HandS.ForMost
import HandS.ForExc
import HandS.More
import HandS.Defaults
import HandS.Head0
import HandS.Head1
import HandS.Head2
import HandS.HeadEnd
import HandS.HeadHook1
import HandS.HeadHook2
import HandS.IsInst
import HandS.TupAny
import HandS.TupMul
import HandS.TupLe
import HandS.Deep
import HandS.Walk
import HandS.CallSlots
import HandS.Flow
import HandS.Zip
import HandS.Conv
import PyProof.ReprRoads
import HandS.Style
import KE.GoesEnum
import KE.GoesNew
import PyProof.FactsAll.tuple_2
import HandS.ExcInit
import HandS.ExcField
import HandS.TryMany
import KE.KExcInit
import PySem.Challenge.RW_stepsound_k02_whole_faults_of_coders
set_option Elab.async false
set_option linter.all false
set_option maxRecDepth 100000
set_option maxHeartbeats 2000000
/-! VL: plain values over the hand layer: what a def does to data, without the heap. -/
namespace VL
open PySem PySem.Spec PyProof.Rows L2
abbrev Dt := PyData
/-! ### data that stand in a part of the heap -/
mutual
inductive DR (K : PySem.W.Frag) (G : Hp) : V → Dt → Prop
  | non : DR K G .non .none
  | bl (b : Bool) : DR K G (.bl b) (.bool b)
  | int (i : Int) : DR K G (.int i) (.int i)
  | str (x : Str) : DR K G (.str x) (.str x)
  | lst {a : Addr} {xs : List V} {ds : List Dt} : G a = some (.lst xs) → DRs K G xs ds → DR K G (.ref a) (.list ds)
  | tup {a : Addr} {xs : List V} {ds : List Dt} : SqT K G a xs → DRs K G xs ds → DR K G (.ref a) (.tuple ds)
  | dic {a : Addr} : G a = some (.dK []) → DR K G (.ref a) (.dict [])
inductive DRs (K : PySem.W.Frag) (G : Hp) : List V → List Dt → Prop
  | nil : DRs K G [] []
  | cons {v : V} {vs : List V} {d : Dt} {ds : List Dt} : DR K G v d → DRs K G vs ds → DRs K G (v :: vs) (d :: ds)
end
theorem sameT {K : PySem.W.Frag} {H H' : Hp} {a : Addr} {xs : List V} (e : Same H H') (h : SqT K H a xs) : SqT K H' a xs := by
  rcases h with (h | ⟨o, h⟩) | h
  · exact .inl (.inl (e _ _ h))
  · exact .inl (.inr ⟨o, e _ _ h⟩)
  · exact .inr h
section
variable {K : PySem.W.Frag} {G H : Hp}
mutual
theorem DR.same (s : Same G H) : ∀ {d : Dt} {v : V}, DR K G v d → DR K H v d
  | .none, _, h => by cases h; exact .non
  | .bool b, _, h => by cases h; exact .bl b
  | .int i, _, h => by cases h; exact .int i
  | .str x, _, h => by cases h; exact .str x
  | .list ds, _, h => by
    cases h with
    | lst a r => exact .lst (s _ _ a) (DRs.same s r)
  | .tuple ds, _, h => by
    cases h with
    | tup a r => exact .tup (sameT s a) (DRs.same s r)
  | .dict _, _, h => by
    cases h with
    | dic a => exact .dic (s _ _ a)
theorem DRs.same (s : Same G H) : ∀ {ds : List Dt} {vs : List V}, DRs K G vs ds → DRs K H vs ds
  | [], _, h => by cases h; exact .nil
  | d :: ds, _, h => by
    cases h with
    | cons a r => exact .cons (DR.same s a) (DRs.same s r)
end
mutual
theorem DR.dp : ∀ {d : Dt} {v : V}, d.hasDict = false → DR K G v d → Dp K G v d
  | .none, _, _, h => by cases h; exact .non
  | .bool b, _, _, h => by cases h; exact .bl b
  | .int i, _, _, h => by cases h; exact .int i
  | .str x, _, _, h => by cases h; exact .str x
  | .list ds, _, n, h => by
    cases h with
    | lst a r => exact .lst (SqL.of a) (DRs.dp (by simpa only [PyData.hasDict] using n) r)
  | .tuple ds, _, n, h => by
    cases h with
    | tup a r => exact .tup a (DRs.dp (by simpa only [PyData.hasDict] using n) r)
  | .dict _, _, n, h => by simp [PyData.hasDict] at n
theorem DRs.dp : ∀ {ds : List Dt} {vs : List V}, PyData.hasDictAll ds = false → DRs K G vs ds → DpAll K G vs ds
  | [], _, _, h => by cases h; exact .nil
  | d :: ds, _, n, h => by
    cases h with
    | cons a r =>
      simp only [PyData.hasDictAll, Bool.or_eq_false_iff] at n
      exact .cons (DR.dp n.1 a) (DRs.dp n.2 r)
end
theorem DRs.length : ∀ {ds : List Dt} {vs : List V}, DRs K G vs ds → vs.length = ds.length
  | [], _, h => by cases h; rfl
  | d :: ds, _, h => by
    cases h with
    | cons a r => simp [DRs.length r]
theorem DRs.get : ∀ {ds : List Dt} {vs : List V} {i : Nat} {d : Dt}, DRs K G vs ds → ds[i]? = some d → ∃ v, vs[i]? = some v ∧ DR K G v d
  | [], _, i, d, h, e => by simp at e
  | d :: ds, _, i, d', h, e => by
    cases h with
    | cons a r =>
      cases i with
      | zero => simp at e; subst e; exact ⟨_, rfl, a⟩
      | succ i =>
        obtain ⟨v, h1, h2⟩ := DRs.get r (i := i) (by simpa using e)
        exact ⟨v, by simpa using h1, h2⟩
theorem DRs.append : ∀ {ds es : List Dt} {vs us : List V}, DRs K G vs ds → DRs K G us es → DRs K G (vs ++ us) (ds ++ es)
  | [], _, _, _, h, h' => by cases h; exact h'
  | d :: ds, _, _, _, h, h' => by
    cases h with
    | cons a r => exact .cons a (DRs.append r h')
theorem DRs.drop : ∀ {ds : List Dt} {vs : List V} (n : Nat), DRs K G vs ds → DRs K G (vs.drop n) (ds.drop n)
  | _, _, 0, h => h
  | [], _, n + 1, h => by cases h; exact .nil
  | d :: ds, _, n + 1, h => by
    cases h with
    | cons a r => exact DRs.drop n r
theorem DRs.take : ∀ {ds : List Dt} {vs : List V} (n : Nat), DRs K G vs ds → DRs K G (vs.take n) (ds.take n)
  | _, _, 0, h => .nil
  | [], _, n + 1, h => by cases h; exact .nil
  | d :: ds, _, n + 1, h => by
    cases h with
    | cons a r => exact .cons a (DRs.take n r)
theorem DRs.ints : ∀ (ns : List Int), DRs K G (ns.map V.int) (ns.map PyData.int)
  | [] => .nil
  | n :: ns => .cons (.int n) (DRs.ints ns)
theorem DRs.bools : ∀ (ns : List Bool), DRs K G (ns.map V.bl) (ns.map PyData.bool)
  | [] => .nil
  | n :: ns => .cons (.bl n) (DRs.bools ns)
end
theorem same_upd {H : Hp} {p : Addr} {o : HO} (n : H p = none) : Same H (upd H p o) := fun b u e => by
  rw [upd_ne (ne_of_none e n)]; exact e
theorem same_upd2 {G H : Hp} {p : Addr} {o : HO} (s : Same G H) : Same (upd G p o) (upd H p o) := fun b u e => by
  by_cases hb : b = p
  · subst hb; rw [upd_same] at e ⊢; exact e
  · rw [upd_ne hb] at e ⊢; exact s _ _ e
/-- nothing of G' is new but what was not there -/
def New (G H G' : Hp) : Prop := ∀ a o, G' a = some o → G a = some o ∨ H a = none
theorem new_upd {G H : Hp} {p : Addr} {o : HO} (n : H p = none) : New G H (upd G p o) := fun a u e => by
  by_cases h : a = p
  · subst h; exact .inr n
  · rw [upd_ne h] at e; exact .inl e
theorem New.refl {G H : Hp} : New G H G := fun _ _ e => .inl e
/-! ### the machine of the draws -/
def mKvs (lc ll : Addr) (z : Int) : List (L2.Key × V) := [(.inr "cells", .ref lc), (.inr "left", .ref ll), (.inr "at", .int z)]
structure Mach (m : Addr) (n : Nat) (O H : Hp) : Prop where
  same : Same O H
  om : O m = none
  ex : ∃ (lc ll : Addr) (cs ls : List Int) (z : Int), O lc = none ∧ O ll = none ∧ lc ≠ ll ∧ H m = some (.dK (mKvs lc ll z)) ∧ H lc = some (.lst (cs.map V.int)) ∧ H ll = some (.lst (ls.map V.int)) ∧ 0 ≤ z ∧ z ≤ n ∧ cs.length ≤ 63 ∧ ls.length ≤ 63
def Good (mo : Option Addr) (n : Nat) (O H : Hp) : Prop := match mo with
  | none => Same O H
  | some m => Mach m n O H
theorem Good.same {mo : Option Addr} {n : Nat} {O H : Hp} (g : Good mo n O H) : Same O H := by
  cases mo with
  | none => exact g
  | some m => exact Mach.same g
/-- O and H changed alike at an address of O's, or at a free one -/
theorem Good.upd {mo : Option Addr} {n : Nat} {O H : Hp} {p : Addr} {o : HO} (g : Good mo n O H) (h : O p ≠ none ∨ H p = none) : Good mo n (upd O p o) (upd H p o) := by
  cases mo with
  | none => exact same_upd2 g
  | some m =>
    obtain ⟨s, om, lc, ll, cs, ls, z, h1, h2, h3, h4, h5, h6, r⟩ := g
    have ne : ∀ {q : Addr} {u : HO}, O q = none → H q = some u → q ≠ p := fun {q u} a b e => by
      subst e
      rcases h with h | h
      · exact h a
      · rw [h] at b; cases b
    exact ⟨same_upd2 s, by rw [upd_ne (ne om h4)]; exact om, lc, ll, cs, ls, z, by rw [upd_ne (ne h1 h5)]; exact h1, by rw [upd_ne (ne h2 h6)]; exact h2, h3, by rw [upd_ne (ne om h4)]; exact h4,
      by rw [upd_ne (ne h1 h5)]; exact h5, by rw [upd_ne (ne h2 h6)]; exact h6, r⟩
/-- the grown part -/
def grow (O H H' : Hp) : Hp := fun a => match H a with
  | none => H' a
  | some _ => O a
theorem grow_old {O H H' : Hp} {a : Addr} {o : HO} (h : H a = some o) : grow O H H' a = O a := by unfold grow; rw [h]
theorem grow_new {O H H' : Hp} {a : Addr} (h : H a = none) : grow O H H' a = H' a := by unfold grow; rw [h]
theorem grow_same {O H H' : Hp} (s : Same O H) : Same O (grow O H H') := fun a o e => by rw [grow_old (s _ _ e)]; exact e
theorem Good.grow {mo : Option Addr} {n : Nat} {O H H' : Hp} (g : Good mo n O H) (s : Same H H') : Good mo n (grow O H H') H' := by
  have sg : Same (VL.grow O H H') H' := fun a o e => by
    cases q : H a with
    | none => rw [grow_new q] at e; exact e
    | some u => rw [grow_old q] at e; rw [s _ _ q, ← q]; exact g.same _ _ e
  cases mo with
  | none => exact sg
  | some m =>
    obtain ⟨s0, om, lc, ll, cs, ls, z, h1, h2, h3, h4, h5, h6, r⟩ := g
    exact ⟨sg, by rw [grow_old h4]; exact om, lc, ll, cs, ls, z, by rw [grow_old h5]; exact h1, by rw [grow_old h6]; exact h2, h3, s _ _ h4, s _ _ h5, s _ _ h6, r⟩
/-- an own error: its class's name, its fields -/
structure Exc where
  name : Str
  fs : List (Str × Dt)
def ExcAt (K : PySem.W.Frag) (G : Hp) (x : Exc) (cls : Value) (d : Option Addr) : Prop :=
  cls = .ref (He.ga K x.name) ∧ ∃ a fs, d = some a ∧ G a = some (.xd fs) ∧ ∀ f dv, x.fs.lookup f = some dv → ∃ v, fs.lookup f = some v ∧ DR K G v dv
theorem ExcAt.same {K : PySem.W.Frag} {G G' : Hp} {x : Exc} {cls : Value} {d : Option Addr} (s : Same G G') (h : ExcAt K G x cls d) : ExcAt K G' x cls d := by
  obtain ⟨h1, a, fs, h2, h3, h4⟩ := h
  refine ⟨h1, a, fs, h2, s _ _ h3, fun f dv e => ?_⟩
  obtain ⟨v, e1, r⟩ := h4 f dv e
  exact ⟨v, e1, DR.same s r⟩
/-! ### what a name stands for -/
inductive W where
  | dat (d : Dt)
  /-- a list of one's own: no other name, no datum has it -/
  | own (ds : List Dt)
  /-- the machine of the draws -/
  | tok
  /-- the script -/
  | scr (ns : List Int)
  /-- an error in hand: where it stands, what it is -/
  | err (p : Addr × Value × Option Addr) (x : Exc)
abbrev Nv := List (Option W)
structure Ct where
  mo : Option Addr
  G0 : Hp
  O0 : Hp
  H0 : Hp
def RelW (K : PySem.W.Frag) (C : Ct) (G O : Hp) : W → V → Prop
  | .dat d, v => DR K G v d
  | .own ds, v => ∃ a xs, v = .ref a ∧ G a = none ∧ C.H0 a = none ∧ O a = some (.lst xs) ∧ DRs K G xs ds
  | .tok, v => ∃ m, C.mo = some m ∧ v = .ref m
  | .scr ns, v => ∃ a, v = .ref a ∧ SqL K G a (ns.map V.int)
  | .err p x, v => v = .ref p.1 ∧ ExcAt K G x p.2.1 p.2.2
/-- all but the names -/
structure Io (C : Ct) (n : Nat) (G O H : Hp) : Prop where
  good : Good C.mo n O H
  go : Same G O
  g0 : Same C.G0 G
  o0 : Same C.O0 O
  oh : Same C.O0 C.H0
  nO : New C.O0 C.H0 O
  nG : New C.G0 C.H0 G
  h0 : ∀ a, H a = none → C.H0 a = none
structure In (K : PySem.W.Frag) (C : Ct) (σ : L2.St) (ρ : Nv) (n : Nat) (G O H : Hp) : Prop extends Io C n G O H where
  len : σ.length = ρ.length
  slot : ∀ (i : Nat) (w : W), ρ[i]? = some (some w) → ∃ v, σ[i]? = some (some v) ∧ RelW K C G O w v
  dis : ∀ (i j : Nat) (ds es : List Dt) (a : Addr), i ≠ j → ρ[i]? = some (some (.own ds)) → ρ[j]? = some (some (.own es)) → σ[i]? = some (some (.ref a)) → σ[j]? = some (some (.ref a)) → False
section
variable {K : PySem.W.Frag} {C : Ct} {σ : L2.St} {ρ : Nv} {n : Nat} {G O H G' H' : Hp}
theorem Io.oH (I : Io C n G O H) : Same O H := I.good.same
theorem Io.gH (I : Io C n G O H) : Same G H := I.go.trans I.oH
theorem RelW.same {w : W} {v : V} {O' : Hp} (r : RelW K C G O w v) (sg : Same G G') (so : ∀ a xs, O a = some (.lst xs) → G a = none → O' a = some (.lst xs) ∧ G' a = none) : RelW K C G' O' w v := by
  cases w with
  | dat d => exact DR.same sg r
  | own ds =>
    obtain ⟨a, xs, e, h1, h2, h3, h4⟩ := r
    obtain ⟨q1, q2⟩ := so a xs h3 h1
    exact ⟨a, xs, e, q2, h2, q1, DRs.same sg h4⟩
  | tok => exact r
  | scr ns =>
    obtain ⟨a, e, h⟩ := r
    exact ⟨a, e, sg.seq h⟩
  | err p x => exact ⟨r.1, r.2.same sg⟩
theorem Io.pure (I : Io C n G O H) (sh : Same H H') (sg : Same G G') (sgh : Same G' H') (nw : New G H G') : Io C n G' (grow O H H') H' := by
  have hn : ∀ a, H' a = none → H a = none := fun a e => by
    cases q : H a with
    | none => rfl
    | some o => rw [sh _ _ q] at e; cases e
  refine ⟨I.good.grow sh, fun a o e => ?_, I.g0.trans sg, I.o0.trans (grow_same I.oH), I.oh, fun a o e => ?_, fun a o e => ?_, fun a e => I.h0 a (hn a e)⟩
  · rcases nw a o e with q | q
    · rw [grow_old (I.gH _ _ q)]; exact I.go _ _ q
    · rw [grow_new q]; exact sgh _ _ e
  · cases q : H a with
    | none => exact .inr (I.h0 a q)
    | some u => rw [grow_old q] at e; exact I.nO a o e
  · rcases nw a o e with q | q
    · exact I.nG a o q
    · exact .inr (I.h0 a q)
/-- a step that changes nothing old -/
theorem In.pure (I : In K C σ ρ n G O H) (sh : Same H H') (sg : Same G G') (sgh : Same G' H') (nw : New G H G') : In K C σ ρ n G' (grow O H H') H' := by
  refine ⟨I.toIo.pure sh sg sgh nw, I.len, fun i w e => ?_, I.dis⟩
  obtain ⟨v, e1, r⟩ := I.slot i w e
  refine ⟨v, e1, r.same sg fun a xs q g => ⟨grow_same I.oH _ _ q, ?_⟩⟩
  cases z : G' a with
  | none => rfl
  | some o =>
    rcases nw a o z with y | y
    · rw [g] at y; cases y
    · rw [I.oH _ _ q] at y; cases y
/-- a new frozen thing -/
theorem In.new {p : Addr} {o : HO} (I : In K C σ ρ n G O H) (hp : H p = none) : In K C σ ρ n (upd G p o) (grow O H (upd H p o)) (upd H p o) :=
  I.pure (same_upd hp) (same_upd (by cases q : G p with | none => rfl | some u => rw [I.gH _ _ q] at hp; cases hp)) (same_upd2 I.gH) (new_upd hp)
theorem In.gfree {p : Addr} (I : Io C n G O H) (hp : H p = none) : G p = none := by
  cases q : G p with | none => rfl | some u => rw [I.gH _ _ q] at hp; cases hp
theorem In.newSame {p : Addr} {o : HO} (I : Io C n G O H) (hp : H p = none) : Same G (upd G p o) := same_upd (In.gfree I hp)
/-- a name is given a datum -/
theorem In.set (I : In K C σ ρ n G O H) (i : Nat) {v : V} {d : Dt} (r : DR K G v d) : In K C (σ.set i (some v)) (ρ.set i (some (.dat d))) n G O H := by
  refine ⟨I.toIo, by simp [I.len], fun j w e => ?_, fun j k ds es a jk e1 e2 e3 e4 => ?_⟩
  · by_cases h : i = j
    · subst h
      by_cases hi : i < ρ.length
      · rw [List.getElem?_set_self hi] at e
        cases e
        exact ⟨v, by rw [List.getElem?_set_self (by rw [I.len]; exact hi)], r⟩
      · rw [List.getElem?_eq_none (by simpa using hi)] at e; cases e
    · rw [List.getElem?_set_ne h] at e
      obtain ⟨u, h1, h2⟩ := I.slot j w e
      exact ⟨u, by rw [List.getElem?_set_ne h]; exact h1, h2⟩
  · have hj : i ≠ j := fun q => by
      subst q
      by_cases hi : i < ρ.length
      · rw [List.getElem?_set_self hi] at e1; cases e1
      · rw [List.getElem?_eq_none (by simpa using hi)] at e1; cases e1
    have hk : i ≠ k := fun q => by
      subst q
      by_cases hi : i < ρ.length
      · rw [List.getElem?_set_self hi] at e2; cases e2
      · rw [List.getElem?_eq_none (by simpa using hi)] at e2; cases e2
    rw [List.getElem?_set_ne hj] at e1 e3
    rw [List.getElem?_set_ne hk] at e2 e4
    exact I.dis j k ds es a jk e1 e2 e3 e4
/-- a name is given a list of its own -/
theorem In.setOwn (I : In K C σ ρ n G O H) (i : Nat) {a : Addr} {xs : List V} {ds : List Dt} (g : G a = none) (h0 : C.H0 a = none) (o : O a = some (.lst xs)) (r : DRs K G xs ds)
    (fr : ∀ (j : Nat) (es : List Dt), ρ[j]? = some (some (.own es)) → σ[j]? ≠ some (some (.ref a))) : In K C (σ.set i (some (.ref a))) (ρ.set i (some (.own ds))) n G O H := by
  refine ⟨I.toIo, by simp [I.len], fun j w e => ?_, fun j k es fs b jk e1 e2 e3 e4 => ?_⟩
  · by_cases h : i = j
    · subst h
      by_cases hi : i < ρ.length
      · rw [List.getElem?_set_self hi] at e
        cases e
        exact ⟨_, by rw [List.getElem?_set_self (by rw [I.len]; exact hi)], a, xs, rfl, g, h0, o, r⟩
      · rw [List.getElem?_eq_none (by simpa using hi)] at e; cases e
    · rw [List.getElem?_set_ne h] at e
      obtain ⟨u, h1, h2⟩ := I.slot j w e
      exact ⟨u, by rw [List.getElem?_set_ne h]; exact h1, h2⟩
  · by_cases hj : i = j
    · subst hj
      have hi : i < σ.length := by
        by_cases hi : i < σ.length
        · exact hi
        · rw [List.getElem?_eq_none (by simpa using hi)] at e3; cases e3
      rw [List.getElem?_set_self hi] at e3
      cases e3
      rw [List.getElem?_set_ne jk] at e2 e4
      exact fr k fs e2 e4
    · by_cases hk : i = k
      · subst hk
        have hi : i < σ.length := by
          by_cases hi : i < σ.length
          · exact hi
          · rw [List.getElem?_eq_none (by simpa using hi)] at e4; cases e4
        rw [List.getElem?_set_self hi] at e4
        cases e4
        rw [List.getElem?_set_ne hj] at e1 e3
        exact fr j es e1 e3
      · rw [List.getElem?_set_ne hj] at e1 e3
        rw [List.getElem?_set_ne hk] at e2 e4
        exact I.dis j k es fs b jk e1 e2 e3 e4
/-- one's own list is changed -/
theorem In.mut (I : In K C σ ρ n G O H) {i : Nat} {a : Addr} {ds es : List Dt} {xs ys : List V} (hi : ρ[i]? = some (some (.own ds))) (hs : σ[i]? = some (some (.ref a))) (g : G a = none) (h0 : C.H0 a = none) (o : O a = some (.lst xs)) (r : DRs K G ys es) :
    In K C σ (ρ.set i (some (.own es))) n G (upd O a (.lst ys)) (upd H a (.lst ys)) := by
  have o0n : C.O0 a = none := by
    cases q : C.O0 a with | none => rfl | some u => rw [I.oh _ _ q] at h0; cases h0
  refine ⟨⟨I.good.upd (.inl (by rw [o]; simp)), fun b u e => ?_, I.g0, fun b u e => ?_, I.oh, fun b u e => ?_, I.nG, fun b e => ?_⟩, by simp [I.len], fun j w e => ?_, fun j k fs gs b jk e1 e2 e3 e4 => ?_⟩
  · rw [upd_ne (ne_of_none e g)]; exact I.go _ _ e
  · rw [upd_ne (ne_of_none e o0n)]; exact I.o0 _ _ e
  · by_cases hb : b = a
    · subst hb; exact .inr h0
    · rw [upd_ne hb] at e; exact I.nO b u e
  · by_cases hb : b = a
    · subst hb; exact h0
    · rw [upd_ne hb] at e; exact I.h0 b e
  · by_cases h : i = j
    · subst h
      have hl : i < ρ.length := by
        by_cases hl : i < ρ.length
        · exact hl
        · rw [List.getElem?_eq_none (by simpa using hl)] at hi; cases hi
      rw [List.getElem?_set_self hl] at e
      cases e
      exact ⟨_, hs, a, ys, rfl, g, h0, upd_same, r⟩
    · rw [List.getElem?_set_ne h] at e
      obtain ⟨u, h1, h2⟩ := I.slot j w e
      refine ⟨u, h1, ?_⟩
      cases w with
      | own fs =>
        obtain ⟨b, zs, e1, q1, q2, q3, q4⟩ := h2
        subst e1
        have nb : b ≠ a := fun z => by subst z; exact I.dis i j ds fs b h hi e hs h1
        exact ⟨b, zs, rfl, q1, q2, by rw [upd_ne nb]; exact q3, q4⟩
      | dat d => exact h2
      | tok => exact h2
      | scr ns => exact h2
      | err p x => exact h2
  · have tr : ∀ {j : Nat} {fs : List Dt}, (ρ.set i (some (W.own es)))[j]? = some (some (W.own fs)) → ∃ fs', ρ[j]? = some (some (W.own fs')) := fun {j fs} e => by
      by_cases h : i = j
      · subst h; exact ⟨_, hi⟩
      · rw [List.getElem?_set_ne h] at e; exact ⟨_, e⟩
    obtain ⟨f1, p1⟩ := tr e1
    obtain ⟨f2, p2⟩ := tr e2
    exact I.dis j k f1 f2 b jk p1 p2 e3 e4
/-- one's own list becomes a datum -/
theorem In.frz (I : In K C σ ρ n G O H) {i : Nat} {ds : List Dt} (hi : ρ[i]? = some (some (.own ds))) : ∃ G', Same G G' ∧ In K C σ (ρ.set i (some (.dat (.list ds)))) n G' O H := by
  obtain ⟨v, hs, a, xs, rfl, g, h0, o, r⟩ := I.slot i _ hi
  have sg : Same G (upd G a (.lst xs)) := same_upd g
  refine ⟨upd G a (.lst xs), sg, ⟨I.good, fun b u e => ?_, I.g0.trans sg, I.o0, I.oh, I.nO, fun b u e => ?_, I.h0⟩, by simp [I.len], fun j w e => ?_, fun j k fs gs b jk e1 e2 e3 e4 => ?_⟩
  · by_cases hb : b = a
    · subst hb; rw [upd_same] at e; cases e; exact o
    · rw [upd_ne hb] at e; exact I.go _ _ e
  · by_cases hb : b = a
    · subst hb; exact .inr h0
    · rw [upd_ne hb] at e; exact I.nG b u e
  · by_cases h : i = j
    · subst h
      have hl : i < ρ.length := by
        by_cases hl : i < ρ.length
        · exact hl
        · rw [List.getElem?_eq_none (by simpa using hl)] at hi; cases hi
      rw [List.getElem?_set_self hl] at e
      cases e
      exact ⟨_, hs, .lst upd_same (DRs.same sg r)⟩
    · rw [List.getElem?_set_ne h] at e
      obtain ⟨u, h1, h2⟩ := I.slot j w e
      refine ⟨u, h1, ?_⟩
      cases w with
      | own fs =>
        obtain ⟨b, zs, e1, q1, q2, q3, q4⟩ := h2
        subst e1
        have nb : b ≠ a := fun z => by subst z; exact I.dis i j ds fs b h hi e hs h1
        exact ⟨b, zs, rfl, by rw [upd_ne nb]; exact q1, q2, q3, DRs.same sg q4⟩
      | dat d => exact DR.same sg h2
      | tok => exact h2
      | scr ns => obtain ⟨b, e1, q⟩ := h2; exact ⟨b, e1, sg.seq q⟩
      | err p x => exact ⟨h2.1, h2.2.same sg⟩
  · have tr : ∀ {j : Nat} {fs : List Dt}, (ρ.set i (some (W.dat (.list ds))))[j]? = some (some (W.own fs)) → ρ[j]? = some (some (W.own fs)) := fun {j fs} e => by
      by_cases h : i = j
      · subst h
        by_cases hl : i < ρ.length
        · rw [List.getElem?_set_self hl] at e; cases e
        · rw [List.getElem?_eq_none (by simpa using hl)] at e; cases e
      · rw [List.getElem?_set_ne h] at e; exact e
    exact I.dis j k fs gs b jk (tr e1) (tr e2) e3 e4
end
end VL


set_option maxRecDepth 100000
set_option maxHeartbeats 2000000
namespace VL
open PySem PySem.Spec PyProof.Rows L2
abbrev XW := Exc → Nat → Prop
abbrev VT := Nv → Nat → (Dt → Nat → Prop) → XW → Prop
abbrev VB := Nv → Nat → (Bool → Nat → Prop) → XW → Prop
abbrev VA := Nv → Nat → (List Dt → Nat → Prop) → XW → Prop
/-- what an error's wish tells the frame -/
def LkX (K : PySem.W.Frag) (U : WX) (C : Ct) (σ : L2.St) (ρ : Nv) (E0 : XW) : Prop :=
  ∀ x n', E0 x n' → ∀ cls d G' O' H', In K C σ ρ n' G' O' H' → ExcAt K G' x cls d → U cls d σ H'
def up (K : PySem.W.Frag) (U : WX) (t : VT) : TE := fun σ H Q => ∃ (C : Ct) (ρ : Nv) (n : Nat) (G O : Hp) (Q0 : Dt → Nat → Prop) (E0 : XW), In K C σ ρ n G O H ∧ t ρ n Q0 E0 ∧
  (∀ d n', Q0 d n' → ∀ v G' O' H', In K C σ ρ n' G' O' H' → Same G G' → DR K G' v d → Q v H') ∧ LkX K U C σ ρ E0
def upB (K : PySem.W.Frag) (U : WX) (t : VB) : TT := fun σ H Q => ∃ (C : Ct) (ρ : Nv) (n : Nat) (G O : Hp) (Q0 : Bool → Nat → Prop) (E0 : XW), In K C σ ρ n G O H ∧ t ρ n Q0 E0 ∧
  (∀ b n', Q0 b n' → ∀ G' O' H', In K C σ ρ n' G' O' H' → Same G G' → Q b H') ∧ LkX K U C σ ρ E0
def upA (K : PySem.W.Frag) (U : WX) (t : VA) : TA := fun σ H Q => ∃ (C : Ct) (ρ : Nv) (n : Nat) (G O : Hp) (Q0 : List Dt → Nat → Prop) (E0 : XW), In K C σ ρ n G O H ∧ t ρ n Q0 E0 ∧
  (∀ ds n', Q0 ds n' → ∀ vs G' O' H', In K C σ ρ n' G' O' H' → Same G G' → DRs K G' vs ds → Q vs H') ∧ LkX K U C σ ρ E0
/-- a fresh list of one's own -/
def Fresh (C : Ct) (σ : L2.St) (ρ : Nv) (K : PySem.W.Frag) (G O : Hp) (a : Addr) (ds : List Dt) : Prop :=
  ∃ xs, G a = none ∧ C.H0 a = none ∧ O a = some (.lst xs) ∧ DRs K G xs ds ∧ ∀ (j : Nat) (es : List Dt), ρ[j]? = some (some (.own es)) → σ[j]? ≠ some (some (.ref a))
def upO (K : PySem.W.Frag) (U : WX) (t : VA) : TE := fun σ H Q => ∃ (C : Ct) (ρ : Nv) (n : Nat) (G O : Hp) (Q0 : List Dt → Nat → Prop) (E0 : XW), In K C σ ρ n G O H ∧ t ρ n Q0 E0 ∧
  (∀ ds n', Q0 ds n' → ∀ a G' O' H', In K C σ ρ n' G' O' H' → Same G G' → Fresh C σ ρ K G' O' a ds → Q (.ref a) H') ∧ LkX K U C σ ρ E0
abbrev VE (X : Cx) (U : WX) (e : Expr) (t : VT) : Prop := PE X e (up X.K U t)
abbrev VTt (X : Cx) (U : WX) (e : Expr) (t : VB) : Prop := PT X e (upB X.K U t)
abbrev VW (X : Cx) (U : WX) (e : Expr) (t : VB) : Prop := PW X e (upB X.K U t)
abbrev VAa (X : Cx) (U : WX) (es : List Expr) (t : VA) : Prop := PA X es (upA X.K U t)
abbrev VO (X : Cx) (U : WX) (e : Expr) (t : VA) : Prop := PE X e (upO X.K U t)
theorem pe_imp {X : Cx} {e : Expr} {t t' : TE} (h : PE X e t) (w : ∀ σ H Q, t' σ H Q → t σ H Q) : PE X e t' := ⟨fun pins s σ H Q I q => h.run pins s σ H Q I (w _ _ _ q)⟩
theorem pt_imp {X : Cx} {e : Expr} {t t' : TT} (h : PT X e t) (w : ∀ σ H Q, t' σ H Q → t σ H Q) : PT X e t' := ⟨fun pins s σ H Q I q => h.run pins s σ H Q I (w _ _ _ q)⟩
theorem pw_imp {X : Cx} {e : Expr} {t t' : TT} (h : PW X e t) (w : ∀ σ H Q, t' σ H Q → t σ H Q) : PW X e t' := ⟨fun wh pins s σ H Q I q => h.run wh pins s σ H Q I (w _ _ _ q)⟩
theorem pa_imp {X : Cx} {e : List Expr} {t t' : TA} (h : PA X e t) (w : ∀ σ H Q, t' σ H Q → t σ H Q) : PA X e t' := ⟨fun pos pins s σ H Q I q => h.run pos pins s σ H Q I (w _ _ _ q)⟩
theorem ps_imp {X : Cx} {e : Stmt} {t t' : TS} (h : PS X e t) (w : ∀ D σ H, t' D σ H → t D σ H) : PS X e t' := ⟨fun pins s σ H D I q => h.run pins s σ H D I (w _ _ _ q)⟩
theorem pss_imp {X : Cx} {e : List Stmt} {t t' : TS} (h : PSs X e t) (w : ∀ D σ H, t' D σ H → t D σ H) : PSs X e t' := ⟨fun pins s σ H D I q => h.run pins s σ H D I (w _ _ _ q)⟩
section
variable {X : Cx} {U : WX} {a b c e : Expr} {es rest : List Expr} {pos : Pos} {ta tb tc : VT} {xa xb : VB} {al : VA}
/-! ### names, constants -/
def vVar (i : Nat) : VT := fun ρ n Q _ => match ρ[i]? with
  | some (some (.dat d)) => Q d n
  | _ => False
def vC (d : Dt) : VT := fun _ n Q _ => Q d n
theorem ve_of {t : TE} {u : VT} (h : PE X e t) (w : ∀ C σ ρ n G O H Q Q0 E0, In X.K C σ ρ n G O H → u ρ n Q0 E0 → (∀ d n', Q0 d n' → ∀ v G' O' H', In X.K C σ ρ n' G' O' H' → Same G G' → DR X.K G' v d → Q v H') → LkX X.K U C σ ρ E0 → t σ H Q) : VE X U e u :=
  pe_imp h fun σ H Q ⟨C, ρ, n, G, O, Q0, E0, I, h1, h2, h3⟩ => w C σ ρ n G O H Q Q0 E0 I h1 h2 h3
theorem ve_var (i : Nat) {x : Str} (hN : X.N[i]? = some x := by rfl) (hv : Vis X.env.scope x := by first | exact Or.inl rfl | exact Or.inr (Or.inl rfl) | exact Or.inr (Or.inr rfl)) (hd : (x == ("__debug__" : Str)) = false := by decide)
    (hcd : (x == ("__classdict__" : Str)) = false := by decide) : VE X U (.Name x pos) (vVar i) := by
  refine ve_of (pe_var hN hv hd hcd) fun C σ ρ n G O H Q Q0 E0 I h hq _ => ?_
  unfold vVar at h
  split at h
  · next d e =>
    obtain ⟨v, e1, r⟩ := I.slot i _ e
    exact ⟨v, e1, hq d n h v G O H I (Same.refl _) r⟩
  · exact h.elim
theorem ve_const {d : Dt} {v : V} (h : PE X e (tC v)) (r : ∀ G, DR X.K G v d) : VE X U e (vC d) :=
  ve_of h fun C σ ρ n G O H Q Q0 E0 I h hq _ => hq d n h v G O H I (Same.refl _) (r G)
theorem ve_int {i j} : VE X U (.Constant (.int i) j pos) (vC (.int i)) := ve_const pe_int fun _ => .int i
theorem ve_bl {i j} : VE X U (.Constant (.bool i) j pos) (vC (.bool i)) := ve_const pe_bl fun _ => .bl i
theorem ve_non {j} : VE X U (.Constant .none j pos) (vC .none) := ve_const pe_non fun _ => .non
theorem ve_str {x j} : VE X U (.Constant (.str x) j pos) (vC (.str x)) := ve_const pe_str fun _ => .str x
theorem ve_gint {x : Str} {i : Int} (hg : Gl X x) (hm : ∃ t, X.mg x = some (.int i t)) (hd : (x == ("__debug__" : Str)) = false := by decide) : VE X U (.Name x pos) (vC (.int i)) := by
  obtain ⟨t, hm⟩ := hm
  exact ve_const (v := .int i) (pe_glob (v := .int i) hg hm ⟨t, rfl⟩ hd) fun _ => .int i
theorem ve_gstr {x z : Str} (hg : Gl X x) (hm : ∃ t, X.mg x = some (.str z t)) (hd : (x == ("__debug__" : Str)) = false := by decide) : VE X U (.Name x pos) (vC (.str z)) := by
  obtain ⟨t, hm⟩ := hm
  exact ve_const (v := .str z) (pe_glob (v := .str z) hg hm ⟨t, rfl⟩ hd) fun _ => .str z
/-! ### operators -/
abbrev R2D := Dt → Dt → (Dt → Prop) → Prop
def lift2 (K : PySem.W.Frag) (r : R2D) : R2 := fun x y H Q => ∃ G d1 d2 Q0, Same G H ∧ DR K G x d1 ∧ DR K G y d2 ∧ r d1 d2 Q0 ∧
  ∀ d, Q0 d → ∀ v G' H', Same H H' → Same G G' → Same G' H' → New G H G' → DR K G' v d → Q v H'
abbrev VOp (X : Cx) (f : Value → Value → Sem Value) (r : R2D) : Prop := OpR X f (lift2 X.K r)
def vOp (r : R2D) (ta tb : VT) : VT := fun ρ n Q E => ta ρ n (fun d1 n1 => tb ρ n1 (fun d2 n2 => r d1 d2 fun d => Q d n2) E) E
theorem up_op {r : R2D} : ∀ σ H Q, up X.K U (vOp r ta tb) σ H Q → tOp (lift2 X.K r) (up X.K U ta) (up X.K U tb) σ H Q :=
  fun σ H Q ⟨C, ρ, n, G, O, Q0, E0, I, h, hq, he⟩ => ⟨C, ρ, n, G, O, _, E0, I, h, fun d1 n1 h1 v1 G1 O1 H1 I1 s1 r1 => ⟨C, ρ, n1, G1, O1, _, E0, I1, h1, fun d2 n2 h2 v2 G2 O2 H2 I2 s2 r2 =>
    ⟨G2, d1, d2, _, I2.gH, DR.same s2 r1, r2, h2, fun d hd v G' H' sh sg sgh nw rd => hq d n2 hd v G' _ H' (I2.pure sh sg sgh nw) ((s1.trans s2).trans sg) rd⟩, he⟩, he⟩
theorem ve_op {op : Operator} {r : R2D} (ho : VOp X (binaryOp op) r) (ha : VE X U a ta) (hb : VE X U b tb) : VE X U (.BinOp a op b pos) (vOp r ta tb) := pe_imp (pe_op ho ha hb) up_op
theorem ve_cmp {op : CmpOp} {r : R2D} (ho : VOp X (compareOp op) r) (ha : VE X U a ta) (hb : VE X U b tb) (hm : behindInMarks op b = false := by first | exact nomark _ | rfl) : VE X U (.Compare a [op] [b] pos) (vOp r ta tb) := pe_imp (pe_cmpR ho ha hb hm) up_op
/-- a value as a test -/
def isB (Q : Bool → Prop) : Dt → Prop
  | .bool b => Q b
  | _ => False
def vTest (t : VT) : VB := fun ρ n Q E => t ρ n (fun d n' => isB (fun b => Q b n') d) E
theorem up_test {t : VT} : ∀ σ H Q, upB X.K U (vTest t) σ H Q → tTest (up X.K U t) σ H Q :=
  fun σ H Q ⟨C, ρ, n, G, O, Q0, E0, I, h, hq, he⟩ => ⟨C, ρ, n, G, O, _, E0, I, h, fun d n' h1 v G' O' H' I' s' r' => by
    cases d with
    | bool b => cases r'; exact ⟨b, rfl, hq b n' h1 G' O' H' I' s'⟩
    | _ => exact h1.elim, he⟩
theorem vt_cmp {op : CmpOp} {r : R2D} (ho : VOp X (compareOp op) r) (ha : VE X U a ta) (hb : VE X U b tb) (hm : behindInMarks op b = false := by first | exact nomark _ | rfl) : VTt X U (.Compare a [op] [b] pos) (vTest (vOp r ta tb)) :=
  pt_imp (pt_cmpR ho ha hb hm) fun σ H Q h => by
    obtain ⟨C, ρ, n, G, O, Q0, E0, I, h, hq, he⟩ := h
    refine up_op σ H _ ⟨C, ρ, n, G, O, _, E0, I, h, fun d n' h1 v G' O' H' I' s' r' => ?_, he⟩
    cases d with
    | bool b => cases r'; exact ⟨b, rfl, hq b n' h1 G' O' H' I' s'⟩
    | _ => exact h1.elim
theorem vt_val {t : VT} (h : VE X U e t) (he : ∀ whole, isTrue e X.env whole = (do let v ← whole; standAt e.pos; holding [v] (truthy v)) := by intro _; rfl) : VTt X U e (vTest t) :=
  pt_imp (pt_val h he) fun σ H Q ⟨C, ρ, n, G, O, Q0, E0, I, h, hq, he⟩ => ⟨C, ρ, n, G, O, _, E0, I, h, fun d n' h1 v G' O' H' I' s' r' => by
    cases d with
    | bool b => cases r'; exact ⟨b, rfl, hq b n' h1 G' O' H' I' s'⟩
    | _ => exact h1.elim, he⟩
/-- a chain of two comparisons -/
def vChain (r r' : R2D) (ta tb tc : VT) : VT := fun ρ n Q E => ta ρ n (fun d1 n1 => tb ρ n1 (fun d2 n2 => r d1 d2 (isB fun k => if k = true then tc ρ n2 (fun d3 n3 => r' d2 d3 fun d => Q d n3) E else Q (.bool false) n2)) E) E
theorem up_chain {r r' : R2D} : ∀ σ H Q, up X.K U (vChain r r' ta tb tc) σ H Q → tChain (lift2 X.K r) (lift2 X.K r') (up X.K U ta) (up X.K U tb) (up X.K U tc) σ H Q :=
  fun σ H Q ⟨C, ρ, n, G, O, Q0, E0, I, h, hq, he⟩ => ⟨C, ρ, n, G, O, _, E0, I, h, fun d1 n1 h1 v1 G1 O1 H1 I1 s1 r1 => ⟨C, ρ, n1, G1, O1, _, E0, I1, h1, fun d2 n2 h2 v2 G2 O2 H2 I2 s2 r2 =>
    ⟨G2, d1, d2, _, I2.gH, DR.same s2 r1, r2, h2, fun d hd v G3 H3 sh sg sgh nw rd => by
      cases d with
      | bool k =>
        cases rd
        refine ⟨k, rfl, ?_⟩
        have I3 := I2.pure sh sg sgh nw
        cases k with
        | true =>
          rw [if_pos rfl]
          have hd' : tc ρ n2 (fun d3 n3 => r' d2 d3 fun d => Q0 d n3) E0 := hd
          exact ⟨C, ρ, n2, G3, _, _, E0, I3, hd', fun d3 n3 h3 v3 G4 O4 H4 I4 s4 r3 => ⟨G4, d2, d3, _, I4.gH, DR.same (sg.trans s4) r2, r3, h3, fun d hd v G5 H5 sh5 sg5 sgh5 nw5 rd => hq d n3 hd v G5 _ H5 (I4.pure sh5 sg5 sgh5 nw5) ((((s1.trans s2).trans sg).trans s4).trans sg5) rd⟩, he⟩
        | false =>
          rw [if_neg Bool.false_ne_true]
          have hd' : Q0 (.bool false) n2 := hd
          exact hq _ n2 hd' _ G3 _ H3 I3 ((s1.trans s2).trans sg) (.bl false)
      | _ => exact False.elim hd⟩, he⟩, he⟩
theorem ve_chain {op op' : CmpOp} {r r' : R2D} (ho : VOp X (compareOp op) r) (ho' : VOp X (compareOp op') r') (ha : VE X U a ta) (hb : VE X U b tb) (hc : VE X U c tc) (hm : lastMarks [op, op'] [b, c] = false := by with_unfolding_all rfl) :
    VE X U (.Compare a [op, op'] [b, c] pos) (vChain r r' ta tb tc) := pe_imp (pe_chain ho ho' ha hb hc hm) up_chain
theorem vt_chain {op op' : CmpOp} {r r' : R2D} (ho : VOp X (compareOp op) r) (ho' : VOp X (compareOp op') r') (ha : VE X U a ta) (hb : VE X U b tb) (hc : VE X U c tc) (hm : lastMarks [op, op'] [b, c] = false := by with_unfolding_all rfl) :
    VTt X U (.Compare a [op, op'] [b, c] pos) (vTest (vChain r r' ta tb tc)) := pt_imp (pt_chain ho ho' ha hb hc hm) fun σ H Q h => by
    obtain ⟨C, ρ, n, G, O, Q0, E0, I, h, hq, he⟩ := h
    refine up_chain σ H _ ⟨C, ρ, n, G, O, _, E0, I, h, fun d n' h1 v G' O' H' I' s' r' => ?_, he⟩
    cases d with
    | bool b => cases r'; exact ⟨b, rfl, hq b n' h1 G' O' H' I' s'⟩
    | _ => exact h1.elim
/-! ### one-place operators -/
abbrev R1D := Dt → (Dt → Prop) → Prop
def vUn (r : R1D) (ta : VT) : VT := fun ρ n Q E => ta ρ n (fun d1 n1 => r d1 fun d => Q d n1) E
def dNeg : R1D := fun d Q => match d with
  | .int i => Q (.int (-i))
  | _ => False
theorem ve_neg (ha : VE X U a ta) : VE X U (.UnaryOp .USub a pos) (vUn dNeg ta) :=
  pe_imp (pe_un un_neg ha) fun σ H Q ⟨C, ρ, n, G, O, Q0, E0, I, h, hq, he⟩ => ⟨C, ρ, n, G, O, _, E0, I, h, fun d n' h1 v G' O' H' I' s' r' => by
    cases d with
    | int i => cases r'; exact ⟨i, rfl, hq _ n' h1 _ G' O' H' I' s' (.int _)⟩
    | _ => exact h1.elim, he⟩
/-! ### and, or, not, if -/
def vAnd (t u : VB) : VB := fun ρ n Q E => t ρ n (fun c n1 => if c = true then u ρ n1 Q E else Q false n1) E
def vOr (t u : VB) : VB := fun ρ n Q E => t ρ n (fun c n1 => if c = true then Q true n1 else u ρ n1 Q E) E
def vNot (t : VB) : VB := fun ρ n Q E => t ρ n (fun c n1 => Q (!c) n1) E
theorem upB_and : ∀ σ H Q, upB X.K U (vAnd xa xb) σ H Q → tAnd (upB X.K U xa) (upB X.K U xb) σ H Q :=
  fun σ H Q ⟨C, ρ, n, G, O, Q0, E0, I, h, hq, he⟩ => ⟨C, ρ, n, G, O, _, E0, I, h, fun c n1 h1 G1 O1 H1 I1 s1 => by
    cases c with
    | true =>
      rw [if_pos rfl] at h1 ⊢
      exact ⟨C, ρ, n1, G1, O1, _, E0, I1, h1, fun b n' hb G' O' H' I' s' => hq b n' hb G' O' H' I' (s1.trans s'), he⟩
    | false =>
      rw [if_neg Bool.false_ne_true] at h1 ⊢
      exact hq _ n1 h1 G1 O1 H1 I1 s1, he⟩
theorem upB_or : ∀ σ H Q, upB X.K U (vOr xa xb) σ H Q → tOr (upB X.K U xa) (upB X.K U xb) σ H Q :=
  fun σ H Q ⟨C, ρ, n, G, O, Q0, E0, I, h, hq, he⟩ => ⟨C, ρ, n, G, O, _, E0, I, h, fun c n1 h1 G1 O1 H1 I1 s1 => by
    cases c with
    | false =>
      rw [if_neg Bool.false_ne_true] at h1 ⊢
      exact ⟨C, ρ, n1, G1, O1, _, E0, I1, h1, fun b n' hb G' O' H' I' s' => hq b n' hb G' O' H' I' (s1.trans s'), he⟩
    | true =>
      rw [if_pos rfl] at h1 ⊢
      exact hq _ n1 h1 G1 O1 H1 I1 s1, he⟩
theorem vw_and1 (ha : VTt X U a xa) : VW X U (.BoolOp .And [a] pos) xa := pw_and1 ha
theorem vw_or1 (ha : VTt X U a xa) : VW X U (.BoolOp .Or [a] pos) xa := pw_or1 ha
theorem vw_and (ha : VTt X U a xa) (hb : VW X U (.BoolOp .And (b :: rest) pos) xb) : VW X U (.BoolOp .And (a :: b :: rest) pos) (vAnd xa xb) := pw_imp (pw_and ha hb) upB_and
theorem vw_or (ha : VTt X U a xa) (hb : VW X U (.BoolOp .Or (b :: rest) pos) xb) : VW X U (.BoolOp .Or (a :: b :: rest) pos) (vOr xa xb) := pw_imp (pw_or ha hb) upB_or
theorem vt_w (h : VW X U a xa) : VTt X U a xa := h.pt
theorem vt_not (ha : VTt X U a xa) : VTt X U (.UnaryOp .Not a pos) (vNot xa) :=
  pt_imp (pt_not ha) fun σ H Q ⟨C, ρ, n, G, O, Q0, E0, I, h, hq, he⟩ => ⟨C, ρ, n, G, O, _, E0, I, h, fun c n1 h1 G1 O1 H1 I1 s1 => hq _ n1 h1 G1 O1 H1 I1 s1, he⟩
/-- as values -/
def vAndV (ta tb : VT) : VT := fun ρ n Q E => ta ρ n (fun d n1 => isB (fun c => if c = true then tb ρ n1 Q E else Q (.bool false) n1) d) E
def vOrV (ta tb : VT) : VT := fun ρ n Q E => ta ρ n (fun d n1 => isB (fun c => if c = true then Q (.bool true) n1 else tb ρ n1 Q E) d) E
def vNotV (ta : VT) : VT := fun ρ n Q E => ta ρ n (fun d n1 => isB (fun c => Q (.bool (!c)) n1) d) E
theorem ve_one {op} (h : VE X U a ta) : VE X U (.BoolOp op [a] pos) ta := pe_one h
theorem ve_and (ha : VE X U a ta) (hb : VE X U (.BoolOp .And (b :: rest) pos) tb) : VE X U (.BoolOp .And (a :: b :: rest) pos) (vAndV ta tb) :=
  pe_imp (pe_and ha hb) fun σ H Q ⟨C, ρ, n, G, O, Q0, E0, I, h, hq, he⟩ => ⟨C, ρ, n, G, O, _, E0, I, h, fun d n1 h1 v G1 O1 H1 I1 s1 r1 => by
    cases d with
    | bool c =>
      cases r1
      refine ⟨c, rfl, ?_⟩
      cases c with
      | true =>
        rw [if_pos rfl]
        have h1' : tb ρ n1 Q0 E0 := h1
        exact ⟨C, ρ, n1, G1, O1, _, E0, I1, h1', fun d n' hb v G' O' H' I' s' r' => hq d n' hb v G' O' H' I' (s1.trans s') r', he⟩
      | false =>
        rw [if_neg Bool.false_ne_true]
        have h1' : Q0 (.bool false) n1 := h1
        exact hq _ n1 h1' _ G1 O1 H1 I1 s1 (.bl _)
    | _ => exact h1.elim, he⟩
theorem ve_or (ha : VE X U a ta) (hb : VE X U (.BoolOp .Or (b :: rest) pos) tb) : VE X U (.BoolOp .Or (a :: b :: rest) pos) (vOrV ta tb) :=
  pe_imp (pe_or ha hb) fun σ H Q ⟨C, ρ, n, G, O, Q0, E0, I, h, hq, he⟩ => ⟨C, ρ, n, G, O, _, E0, I, h, fun d n1 h1 v G1 O1 H1 I1 s1 r1 => by
    cases d with
    | bool c =>
      cases r1
      refine ⟨c, rfl, ?_⟩
      cases c with
      | false =>
        rw [if_neg Bool.false_ne_true]
        have h1' : tb ρ n1 Q0 E0 := h1
        exact ⟨C, ρ, n1, G1, O1, _, E0, I1, h1', fun d n' hb v G' O' H' I' s' r' => hq d n' hb v G' O' H' I' (s1.trans s') r', he⟩
      | true =>
        rw [if_pos rfl]
        have h1' : Q0 (.bool true) n1 := h1
        exact hq _ n1 h1' _ G1 O1 H1 I1 s1 (.bl _)
    | _ => exact h1.elim, he⟩
theorem ve_not (ha : VE X U a ta) : VE X U (.UnaryOp .Not a pos) (vNotV ta) :=
  pe_imp (pe_not ha) fun σ H Q ⟨C, ρ, n, G, O, Q0, E0, I, h, hq, he⟩ => ⟨C, ρ, n, G, O, _, E0, I, h, fun d n1 h1 v G1 O1 H1 I1 s1 r1 => by
    cases d with
    | bool c => cases r1; exact ⟨c, rfl, hq _ n1 h1 _ G1 O1 H1 I1 s1 (.bl _)⟩
    | _ => exact h1.elim, he⟩
def vIf (t : VB) (ta tb : VT) : VT := fun ρ n Q E => t ρ n (fun c n1 => if c = true then ta ρ n1 Q E else tb ρ n1 Q E) E
theorem ve_if (hc : VTt X U c xa) (ha : VE X U a ta) (hb : VE X U b tb) : VE X U (.IfExp c a b pos) (vIf xa ta tb) :=
  pe_imp (pe_ifExp hc ha hb) fun σ H Q ⟨C, ρ, n, G, O, Q0, E0, I, h, hq, he⟩ => ⟨C, ρ, n, G, O, _, E0, I, h, fun c n1 h1 G1 O1 H1 I1 s1 => by
    cases c with
    | true =>
      rw [if_pos rfl] at h1 ⊢
      exact ⟨C, ρ, n1, G1, O1, _, E0, I1, h1, fun d n' hb v G' O' H' I' s' r' => hq d n' hb v G' O' H' I' (s1.trans s') r', he⟩
    | false =>
      rw [if_neg Bool.false_ne_true] at h1 ⊢
      exact ⟨C, ρ, n1, G1, O1, _, E0, I1, h1, fun d n' hb v G' O' H' I' s' r' => hq d n' hb v G' O' H' I' (s1.trans s') r', he⟩, he⟩
/-! ### argument lists, displays -/
def vNil : VA := fun _ n Q _ => Q [] n
def vCons (ta : VT) (tr : VA) : VA := fun ρ n Q E => ta ρ n (fun d n1 => tr ρ n1 (fun ds n2 => Q (d :: ds) n2) E) E
theorem va_nil : VAa X U [] vNil := pa_imp pa_nil fun σ H Q ⟨C, ρ, n, G, O, Q0, E0, I, h, hq, he⟩ => hq [] n h [] G O H I (Same.refl _) .nil
theorem va_cons (ha : VE X U e ta) (hr : VAa X U es al) (hs : starEach (e :: es) X.env = (false, eval e X.env) :: starEach es X.env := by rfl) : VAa X U (e :: es) (vCons ta al) :=
  pa_imp (pa_cons ha hr hs) fun σ H Q ⟨C, ρ, n, G, O, Q0, E0, I, h, hq, he⟩ => ⟨C, ρ, n, G, O, _, E0, I, h, fun d n1 h1 v G1 O1 H1 I1 s1 r1 => ⟨C, ρ, n1, G1, O1, _, E0, I1, h1, fun ds n2 h2 vs G2 O2 H2 I2 s2 r2 =>
    hq _ n2 h2 _ G2 O2 H2 I2 (s1.trans s2) (.cons (DR.same s2 r1) r2), he⟩, he⟩
def vTup (t : VA) : VT := fun ρ n Q E => t ρ n (fun ds n1 => ds.length ≤ sizeLine ∧ Q (.tuple ds) n1) E
theorem ve_tup {x1} (h : VAa X U es al) : VE X U (.Tuple es x1 pos) (vTup al) :=
  pe_imp (pe_tup h) fun σ H Q ⟨C, ρ, n, G, O, Q0, E0, I, h, hq, he⟩ => ⟨C, ρ, n, G, O, _, E0, I, h, fun ds n1 h1 vs G1 O1 H1 I1 s1 r1 =>
    ⟨by rw [DRs.length r1]; exact h1.1, fun p hp => hq _ n1 h1.2 _ _ _ _ (I1.new hp) (s1.trans (In.newSame I1.toIo hp)) (.tup (SqT.of upd_same) (DRs.same (In.newSame I1.toIo hp) r1))⟩, he⟩
/-- a new list of one's own -/
theorem fresh_new {K : PySem.W.Frag} {C : Ct} {σ : L2.St} {ρ : Nv} {n : Nat} {G O H : Hp} {p : Addr} {xs : List V} {ds : List Dt} (I : In K C σ ρ n G O H) (hp : H p = none) (r : DRs K G xs ds) :
    In K C σ ρ n G (grow O H (L2.upd H p (.lst xs))) (L2.upd H p (.lst xs)) ∧ Fresh C σ ρ K G (grow O H (L2.upd H p (.lst xs))) p ds := by
  refine ⟨I.pure (same_upd hp) (Same.refl _) (I.gH.trans (same_upd hp)) New.refl, xs, In.gfree I.toIo hp, I.h0 p hp, by rw [grow_new hp, upd_same], r, fun j es e z => ?_⟩
  obtain ⟨v, e1, a, ys, e2, _, _, o, _⟩ := I.slot j _ e
  rw [e1] at z
  cases z
  cases e2
  rw [I.oH _ _ o] at hp
  cases hp
def vLst (t : VA) : VA := fun ρ n Q E => t ρ n (fun ds n1 => ds.length ≤ sizeLine ∧ Q ds n1) E
theorem vo_lst (h : VAa X U es al) : VO X U (.List es pos) (vLst al) :=
  pe_imp (pe_lst h) fun σ H Q ⟨C, ρ, n, G, O, Q0, E0, I, h, hq, he⟩ => ⟨C, ρ, n, G, O, _, E0, I, h, fun ds n1 h1 vs G1 O1 H1 I1 s1 r1 =>
    ⟨by rw [DRs.length r1]; exact h1.1, fun p hp => hq _ n1 h1.2 p _ _ _ (fresh_new I1 hp r1).1 s1 (fresh_new I1 hp r1).2⟩, he⟩
/-- a list of one's own, as a datum -/
def vFz (t : VA) : VT := fun ρ n Q E => t ρ n (fun ds n1 => Q (.list ds) n1) E
theorem In.frzFresh {K : PySem.W.Frag} {C : Ct} {σ : L2.St} {ρ : Nv} {n : Nat} {G O H : Hp} {a : Addr} {ds : List Dt} (I : In K C σ ρ n G O H) (f : Fresh C σ ρ K G O a ds) : ∃ G', In K C σ ρ n G' O H ∧ Same G G' ∧ DR K G' (.ref a) (.list ds) := by
  obtain ⟨xs, g, h0, o, r, fr⟩ := f
  have sg : Same G (L2.upd G a (.lst xs)) := same_upd g
  refine ⟨L2.upd G a (.lst xs), ⟨⟨I.good, fun b u e => ?_, I.g0.trans sg, I.o0, I.oh, I.nO, fun b u e => ?_, I.h0⟩, I.len, fun j w e => ?_, I.dis⟩, sg, .lst upd_same (DRs.same sg r)⟩
  · by_cases hb : b = a
    · subst hb; rw [upd_same] at e; cases e; exact o
    · rw [upd_ne hb] at e; exact I.go _ _ e
  · by_cases hb : b = a
    · subst hb; exact .inr h0
    · rw [upd_ne hb] at e; exact I.nG b u e
  · obtain ⟨u, h1, h2⟩ := I.slot j w e
    refine ⟨u, h1, ?_⟩
    cases w with
    | own fs =>
      obtain ⟨b, zs, e1, q1, q2, q3, q4⟩ := h2
      subst e1
      have nb : b ≠ a := fun z => by subst z; exact fr j fs e h1
      exact ⟨b, zs, rfl, by rw [upd_ne nb]; exact q1, q2, q3, DRs.same sg q4⟩
    | dat d => exact DR.same sg h2
    | tok => exact h2
    | scr ns => obtain ⟨b, e1, q⟩ := h2; exact ⟨b, e1, sg.seq q⟩
    | err p x => exact ⟨h2.1, h2.2.same sg⟩
theorem ve_fz (h : VO X U e al) : VE X U e (vFz al) :=
  pe_imp h fun σ H Q ⟨C, ρ, n, G, O, Q0, E0, I, h, hq, he⟩ => ⟨C, ρ, n, G, O, _, E0, I, h, fun ds n1 h1 a G1 O1 H1 I1 s1 f => by
    obtain ⟨G2, I2, s2, r⟩ := In.frzFresh I1 f
    exact hq _ n1 h1 _ G2 O1 H1 I2 (s1.trans s2) r, he⟩
end
end VL


set_option maxRecDepth 100000
set_option maxHeartbeats 2000000
namespace VL
open PySem PySem.Spec PyProof.Rows L2
/-! ### statements -/
structure VN where
  nx : Nv → Nat → Prop
  rt : W → Nat → Prop
  bk : Nv → Nat → Prop
  ct : Nv → Nat → Prop
  xc : Exc → Nv → Nat → Prop
structure LkS (K : PySem.W.Frag) (U : WX) (C : Ct) (V : VN) (D : Ends) : Prop where
  nx : ∀ ρ' n', V.nx ρ' n' → ∀ σ' G' O' H', In K C σ' ρ' n' G' O' H' → D.nx σ' H'
  rt : ∀ w n', V.rt w n' → ∀ v G' O' H', Io C n' G' O' H' → RelW K C G' O' w v → D.rt v H'
  bk : ∀ ρ' n', V.bk ρ' n' → ∀ σ' G' O' H', In K C σ' ρ' n' G' O' H' → D.bk σ' H'
  ct : ∀ ρ' n', V.ct ρ' n' → ∀ σ' G' O' H', In K C σ' ρ' n' G' O' H' → D.ct σ' H'
  xc : ∀ x ρ' n', V.xc x ρ' n' → ∀ cls d σ' G' O' H', In K C σ' ρ' n' G' O' H' → ExcAt K G' x cls d → U cls d σ' H'
abbrev VST := VN → Nv → Nat → Prop
def upS (K : PySem.W.Frag) (U : WX) (t : VST) : TS := fun D σ H => ∃ (C : Ct) (ρ : Nv) (n : Nat) (G O : Hp) (V : VN), In K C σ ρ n G O H ∧ t V ρ n ∧ LkS K U C V D
abbrev VS (X : Cx) (U : WX) (st : Stmt) (t : VST) : Prop := PS X st (upS X.K U t)
abbrev VSs (X : Cx) (U : WX) (st : List Stmt) (t : VST) : Prop := PSs X st (upS X.K U t)
theorem LkS.lkx {K : PySem.W.Frag} {U : WX} {C : Ct} {V : VN} {D : Ends} (L : LkS K U C V D) (σ : L2.St) (ρ : Nv) : LkX K U C σ ρ (fun x n' => V.xc x ρ n') := fun x n' h cls d G' O' H' I r => L.xc x ρ n' h cls d σ G' O' H' I r
section
variable {X : Cx} {U : WX} {e : Expr} {pos : Pos} {te : VT} {al : VA} {st : Stmt} {sts rest : List Stmt} {t u : VST} {xb : VB}
def vSeq (t u : VST) : VST := fun V ρ n => t { V with nx := u V } ρ n
def vNext : VST := fun V ρ n => V.nx ρ n
theorem vs_nil : VSs X U [] vNext := pss_imp pss_nil fun D σ H ⟨C, ρ, n, G, O, V, I, h, L⟩ => L.nx ρ n h σ G O H I
theorem vs_cons (h1 : VS X U st t) (h2 : VSs X U rest u) : VSs X U (st :: rest) (vSeq t u) := pss_imp (pss_cons h1 h2) fun D σ H ⟨C, ρ, n, G, O, V, I, h, L⟩ =>
  ⟨C, ρ, n, G, O, { V with nx := u V }, I, h, ⟨fun ρ' n' q σ' G' O' H' I' => ⟨C, ρ', n', G', O', V, I', q, L⟩, L.rt, L.bk, L.ct, L.xc⟩⟩
theorem vs_one (h1 : VS X U st t) : VSs X U [st] t := pss_one h1
theorem vs_pass : VS X U (.Pass pos) vNext := ps_imp ps_pass fun D σ H ⟨C, ρ, n, G, O, V, I, h, L⟩ => L.nx ρ n h σ G O H I
def vBreak : VST := fun V ρ n => V.bk ρ n
def vCont : VST := fun V ρ n => V.ct ρ n
theorem vs_break : VS X U (.Break pos) vBreak := ps_imp ps_break fun D σ H ⟨C, ρ, n, G, O, V, I, h, L⟩ => L.bk ρ n h σ G O H I
theorem vs_cont : VS X U (.Continue pos) vCont := ps_imp ps_continue fun D σ H ⟨C, ρ, n, G, O, V, I, h, L⟩ => L.ct ρ n h σ G O H I
def vNever : VST := fun _ _ _ => False
theorem vs_never : VS X U st vNever := ps_imp ps_never fun D σ H ⟨C, ρ, n, G, O, V, I, h, L⟩ => h.elim
def vDrop (te : VT) : VST := fun V ρ n => te ρ n (fun _ n' => V.nx ρ n') fun x n' => V.xc x ρ n'
theorem vs_expr (he : VE X U e te) (hs : swapsWith e none pos.line X.env = pure false := by rfl) : VS X U (.Expr e pos) (vDrop te) := ps_imp (ps_expr he hs) fun D σ H ⟨C, ρ, n, G, O, V, I, h, L⟩ =>
  ⟨C, ρ, n, G, O, _, _, I, h, fun d n' q v G' O' H' I' _ _ => L.nx ρ n' q σ G' O' H' I', L.lkx σ ρ⟩
def vRet (te : VT) : VST := fun V ρ n => te ρ n (fun d n' => V.rt (.dat d) n') fun x n' => V.xc x ρ n'
theorem vs_ret (he : VE X U e te) : VS X U (.Return (some e) pos) (vRet te) := ps_imp (ps_ret he) fun D σ H ⟨C, ρ, n, G, O, V, I, h, L⟩ =>
  ⟨C, ρ, n, G, O, _, _, I, h, fun d n' q v G' O' H' I' _ r => L.rt _ n' q v G' O' H' I'.toIo r, L.lkx σ ρ⟩
def vRetO (te : VA) : VST := fun V ρ n => te ρ n (fun ds n' => V.rt (.own ds) n') fun x n' => V.xc x ρ n'
theorem vs_retO (he : VO X U e al) : VS X U (.Return (some e) pos) (vRetO al) := ps_imp (ps_ret he) fun D σ H ⟨C, ρ, n, G, O, V, I, h, L⟩ =>
  ⟨C, ρ, n, G, O, _, _, I, h, fun ds n' q a G' O' H' I' _ ⟨xs, g, h0, o, r, _⟩ => L.rt _ n' q _ G' O' H' I'.toIo ⟨a, xs, rfl, g, h0, o, r⟩, L.lkx σ ρ⟩
/-- return x, x a list of one's own -/
def vRetV (i : Nat) : VST := fun V ρ n => match ρ[i]? with
  | some (some (.own ds)) => V.rt (.own ds) n
  | _ => False
theorem vs_retV (i : Nat) {x : Str} {pos' : Pos} (hN : X.N[i]? = some x := by rfl) (hv : Vis X.env.scope x := by first | exact Or.inl rfl | exact Or.inr (Or.inl rfl) | exact Or.inr (Or.inr rfl)) (hd : (x == ("__debug__" : Str)) = false := by decide)
    (hcd : (x == ("__classdict__" : Str)) = false := by decide) : VS X U (.Return (some (.Name x pos')) pos) (vRetV i) := ps_imp (ps_ret (pe_var hN hv hd hcd)) fun D σ H ⟨C, ρ, n, G, O, V, I, h, L⟩ => by
  unfold vRetV at h
  split at h
  · next ds e =>
    obtain ⟨v, e1, r⟩ := I.slot i _ e
    exact ⟨v, e1, L.rt _ n h v G O H I.toIo r⟩
  · exact h.elim
def vRetN : VST := fun V _ n => V.rt (.dat .none) n
theorem vs_retN : VS X U (.Return none pos) vRetN := ps_imp ps_retN fun D σ H ⟨C, ρ, n, G, O, V, I, h, L⟩ => L.rt _ n h .non G O H I.toIo .non
def vIfS (c : VB) (t u : VST) : VST := fun V ρ n => c ρ n (fun b n' => if b = true then t V ρ n' else u V ρ n') fun x n' => V.xc x ρ n'
theorem vs_if {c : Expr} {a b : List Stmt} (hc : VTt X U c xb) (ha : VSs X U a t) (hb : VSs X U b u) : VS X U (.If c a b pos) (vIfS xb t u) := ps_imp (ps_if hc ha hb) fun D σ H ⟨C, ρ, n, G, O, V, I, h, L⟩ =>
  ⟨C, ρ, n, G, O, _, _, I, h, fun b n' q G' O' H' I' _ => by
    cases b with
    | true => rw [if_pos rfl] at q ⊢; exact ⟨C, ρ, n', G', O', V, I', q, L⟩
    | false => rw [if_neg Bool.false_ne_true] at q ⊢; exact ⟨C, ρ, n', G', O', V, I', q, L⟩, L.lkx σ ρ⟩
/-! ### names that are given values -/
def vSet (i : Nat) (te : VT) : VST := fun V ρ n => te ρ n (fun d n' => V.nx (ρ.set i (some (.dat d))) n') fun x n' => V.xc x ρ n'
theorem vs_set {i : Nat} {x : Str} {pos' : Pos} (hN : X.N.Nodup) (hi : X.N[i]? = some x) (hx : Loc X.env.scope x) (he : VE X U e te) (hs : swapsWith e (some (.Name x pos')) pos.line X.env = pure false := by rfl) (hf : X.fn x = true ∨ X.env.scope.names.lookup x = some .local := by first | exact .inl rfl | exact .inr rfl | assumption) :
    VS X U (.Assign [.Name x pos'] e pos) (vSet i te) := ps_imp (ps_set hN hi hx he hs hf) fun D σ H ⟨C, ρ, n, G, O, V, I, h, L⟩ =>
  ⟨C, ρ, n, G, O, _, _, I, h, fun d n' q v G' O' H' I' _ r => L.nx _ n' q _ G' O' H' (I'.set i r), L.lkx σ ρ⟩
def vSetO (i : Nat) (te : VA) : VST := fun V ρ n => te ρ n (fun ds n' => V.nx (ρ.set i (some (.own ds))) n') fun x n' => V.xc x ρ n'
theorem vs_setO {i : Nat} {x : Str} {pos' : Pos} (hN : X.N.Nodup) (hi : X.N[i]? = some x) (hx : Loc X.env.scope x) (he : VO X U e al) (hs : swapsWith e (some (.Name x pos')) pos.line X.env = pure false := by rfl) (hf : X.fn x = true ∨ X.env.scope.names.lookup x = some .local := by first | exact .inl rfl | exact .inr rfl | assumption) :
    VS X U (.Assign [.Name x pos'] e pos) (vSetO i al) := ps_imp (ps_set hN hi hx he hs hf) fun D σ H ⟨C, ρ, n, G, O, V, I, h, L⟩ =>
  ⟨C, ρ, n, G, O, _, _, I, h, fun ds n' q a G' O' H' I' _ ⟨xs, g, h0, o, r, fr⟩ => L.nx _ n' q _ G' O' H' (I'.setOwn i g h0 o r fr), L.lkx σ ρ⟩
/-- one's own list becomes a datum ahead of a statement -/
def vFrz (i : Nat) (t : VST) : VST := fun V ρ n => match ρ[i]? with
  | some (some (.own ds)) => t V (ρ.set i (some (.dat (.list ds)))) n
  | _ => False
theorem vs_frz (i : Nat) (h : VS X U st t) : VS X U st (vFrz i t) := ps_imp h fun D σ H ⟨C, ρ, n, G, O, V, I, h, L⟩ => by
  unfold vFrz at h
  split at h
  · next ds e =>
    obtain ⟨G', _, I'⟩ := I.frz e
    exact ⟨C, _, n, G', O, V, I', h, L⟩
  · exact h.elim
/-! ### targets -/
abbrev VGt := Dt → Nv → (Nv → Prop) → Prop
def upG (K : PySem.W.Frag) (g : VGt) : TG := fun v σ H Q => ∃ (C : Ct) (ρ : Nv) (n : Nat) (G O : Hp) (d : Dt) (Q0 : Nv → Prop), In K C σ ρ n G O H ∧ DR K G v d ∧ g d ρ Q0 ∧ ∀ ρ', Q0 ρ' → ∀ σ', In K C σ' ρ' n G O H → Q σ' H
abbrev VGs := List Dt → Nv → (Nv → Prop) → Prop
def upGs (K : PySem.W.Frag) (g : VGs) : TGs := fun vs σ H Q => ∃ (C : Ct) (ρ : Nv) (n : Nat) (G O : Hp) (ds : List Dt) (Q0 : Nv → Prop), In K C σ ρ n G O H ∧ DRs K G vs ds ∧ g ds ρ Q0 ∧ ∀ ρ', Q0 ρ' → ∀ σ', In K C σ' ρ' n G O H → Q σ' H
theorem pg_imp {e : Expr} {t t' : TG} (h : PG X e t) (w : ∀ v σ H Q, t' v σ H Q → t v σ H Q) : PG X e t' := ⟨fun pins s σ H v u Q I r q => h.run pins s σ H v u Q I r (w _ _ _ _ q)⟩
theorem pgs_imp {e : List Expr} {t t' : TGs} (h : PGs X e t) (w : ∀ v σ H Q, t' v σ H Q → t v σ H Q) : PGs X e t' := ⟨fun pins s σ H v u Q I r q => h.run pins s σ H v u Q I r (w _ _ _ _ q)⟩
def gN (i : Nat) : VGt := fun d ρ Q => Q (ρ.set i (some (.dat d)))
theorem vg_name {i : Nat} {x : Str} (hN : X.N.Nodup) (hi : X.N[i]? = some x) (hx : Loc X.env.scope x) (hf : X.fn x = true ∨ X.env.scope.names.lookup x = some .local := by first | exact .inl rfl | exact .inr rfl | assumption) : PG X (.Name x pos) (upG X.K (gN i)) :=
  pg_imp (pg_name hN hi hx hf) fun v σ H Q ⟨C, ρ, n, G, O, d, Q0, I, r, h, hq⟩ => hq _ h _ (I.set i r)
def gsN : VGs := fun ds ρ Q => match ds with
  | [] => Q ρ
  | _ => False
def gsC (g : VGt) (r : VGs) : VGs := fun ds ρ Q => match ds with
  | d :: ds => g d ρ fun ρ1 => r ds ρ1 Q
  | [] => False
theorem vgs_nil : PGs X [] (upGs X.K gsN) := pgs_imp pgs_nil fun vs σ H Q ⟨C, ρ, n, G, O, ds, Q0, I, r, h, hq⟩ => by
  cases ds with
  | nil => cases r; exact ⟨rfl, hq _ h _ I⟩
  | cons d ds => exact h.elim
theorem vgs_cons {e : Expr} {es : List Expr} {g : VGt} {r : VGs} (h1 : PG X e (upG X.K g)) (h2 : PGs X es (upGs X.K r)) (hs : (assignEach (e :: es) X.env).map (·.2) = assign e X.env :: (assignEach es X.env).map (·.2) := by rfl) : PGs X (e :: es) (upGs X.K (gsC g r)) :=
  pgs_imp (pgs_cons h1 h2 hs) fun vs σ H Q ⟨C, ρ, n, G, O, ds, Q0, I, r, h, hq⟩ => by
  cases ds with
  | nil => exact h.elim
  | cons d ds =>
    cases r with
    | cons r1 r2 => exact ⟨_, _, rfl, C, ρ, n, G, O, d, _, I, r1, h, fun ρ1 h1 σ1 I1 => ⟨C, ρ1, n, G, O, ds, Q0, I1, r2, h1, hq⟩⟩
def gT (k : Nat) (r : VGs) : VGt := fun d ρ Q => match d with
  | .tuple ds => ds.length = k ∧ r ds ρ Q
  | _ => False
theorem vg_tup {es : List Expr} {k : Nat} {r : VGs} {n : Nat} (hc : X.calm = true) (h : PGs X es (upGs X.K r)) (hn : (assignEach es X.env).length = n := by rfl) (hst : (assignEach es X.env).findIdx? (·.1) = none := by rfl) : PG X (.Tuple es k pos) (upG X.K (gT n r)) :=
  pg_imp (pg_tup hc h hn hst) fun v σ H Q ⟨C, ρ, m, G, O, d, Q0, I, r, h, hq⟩ => by
  cases d with
  | tuple ds =>
    cases r with
    | tup a r => exact ⟨_, _, rfl, sameT I.gH a, by rw [DRs.length r]; exact h.1, C, ρ, m, G, O, ds, Q0, I, r, h.2, hq⟩
  | _ => exact h.elim
def vAsg (te : VT) (g : VGt) : VST := fun V ρ n => te ρ n (fun d n' => g d ρ fun ρ' => V.nx ρ' n') fun x n' => V.xc x ρ n'
theorem vs_asg {tg : Expr} {g : VGt} (he : VE X U e te) (hg : PG X tg (upG X.K g)) (hs : swapsWithSole [tg] e pos.line X.env = pure false := by rfl) (hw : swappedStores [tg] e X.env = pure none := by rfl)
    (h1 : (assignEach [tg] X.env).map (·.2) = [assign tg X.env] := by rfl) : VS X U (.Assign [tg] e pos) (vAsg te g) := ps_imp (ps_asg he hg hs hw h1) fun D σ H ⟨C, ρ, n, G, O, V, I, h, L⟩ =>
  ⟨C, ρ, n, G, O, _, _, I, h, fun d n' q v G' O' H' I' _ r => ⟨C, ρ, n', G', O', d, _, I', r, q, fun ρ' q' σ' I'' => L.nx _ n' q' _ G' O' H' I''⟩, L.lkx σ ρ⟩
def vPar (i j : Nat) (al : VA) : VST := fun V ρ n => al ρ n (fun ds n' => match ds with
  | [d1, d2] => V.nx ((ρ.set i (some (.dat d1))).set j (some (.dat d2))) n'
  | _ => False) fun x n' => V.xc x ρ n'
theorem vs_par {i j : Nat} {x y : Str} {a b : Expr} {px py pt : Pos} {kt k2 pt2} (hc : X.calm = true) (hN : X.N.Nodup) (hi : X.N[i]? = some x) (hj : X.N[j]? = some y) (hij : i ≠ j)
    (hx : X.env.scope.names.lookup x = some .local) (hy : X.env.scope.names.lookup y = some .local) (ha : VAa X U [a, b] al)
    (hw : swappedStores [.Tuple [.Name x px, .Name y py] kt pt] (.Tuple [a, b] k2 pt2) X.env = pure (some [x, y]))
    (hs : swapsWithSole [.Tuple [.Name x px, .Name y py] kt pt] (.Tuple [a, b] k2 pt2) pos.line X.env = pure false := by rfl) :
    VS X U (.Assign [.Tuple [.Name x px, .Name y py] kt pt] (.Tuple [a, b] k2 pt2) pos) (vPar i j al) := ps_imp (ps_par hc hN hi hj hij hx hy ha hw hs) fun D σ H ⟨C, ρ, n, G, O, V, I, h, L⟩ =>
  ⟨C, ρ, n, G, O, _, _, I, h, fun ds n' q vs G' O' H' I' _ r => by
    match ds, r, q with
    | [d1, d2], .cons r1 (.cons r2 .nil), q => exact ⟨_, _, rfl, L.nx _ n' q _ G' O' H' ((I'.set i r1).set j r2)⟩, L.lkx σ ρ⟩
def vAug (i : Nat) (r : R2D) (te : VT) : VST := fun V ρ n => match ρ[i]? with
  | some (some (.dat d0)) => te ρ n (fun d n' => r d0 d fun d' => V.nx (ρ.set i (some (.dat d'))) n') fun x n' => V.xc x ρ n'
  | _ => False
theorem vs_aug {i : Nat} {x : Str} {op : Operator} {r : R2D} {pos' : Pos} (hN : X.N.Nodup) (hi : X.N[i]? = some x) (hx : Loc X.env.scope x) (he : VE X U e te) (ho : VOp X (inplaceOp op) r) (hf : X.fn x = true ∨ X.env.scope.names.lookup x = some .local := by first | exact .inl rfl | exact .inr rfl | assumption) :
    VS X U (.AugAssign (.Name x pos') op e pos) (vAug i r te) := ps_imp (ps_aug hN hi hx he ho hf) fun D σ H ⟨C, ρ, n, G, O, V, I, h, L⟩ => by
  unfold vAug at h
  split at h
  · next d0 e0 =>
    obtain ⟨v0, e1, r0⟩ := I.slot i _ e0
    exact ⟨v0, e1, C, ρ, n, G, O, _, _, I, h, fun d n' q v G' O' H' I' s' rd => ⟨G', d0, d, _, I'.gH, DR.same s' r0, rd, q, fun d' q' v' G2 H2 sh sg sgh nw rd' => L.nx _ n' q' _ G2 _ H2 ((I'.pure sh sg sgh nw).set i rd')⟩, L.lkx σ ρ⟩
  · exact h.elim
/-- xs.append(e), xs a list of one's own -/
def vAppend (i : Nat) (te : VT) : VST := fun V ρ n => match ρ[i]? with
  | some (some (.own ds)) => te ρ n (fun d n' => ds.length < sizeLine ∧ V.nx (ρ.set i (some (.own (ds ++ [d])))) n') fun x n' => V.xc x ρ n'
  | _ => False
theorem vs_append {i : Nat} (h : PE X e (tBM X.K "list" rAppend (tVar i) (tCons (up X.K U te) tNil))) (hs : swapsWith e none pos.line X.env = pure false := by rfl) :
    VS X U (.Expr e pos) (vAppend i te) := ps_imp (ps_expr h hs) fun D σ H ⟨C, ρ, n, G, O, V, I, h, L⟩ => by
  unfold vAppend at h
  split at h
  · next ds e0 =>
    obtain ⟨v, e1, a, xs, rfl, g, h0, o, r⟩ := I.slot i _ e0
    refine ⟨_, e1, .inl ⟨rfl, _, SqL.of (I.oH _ _ o)⟩, C, ρ, n, G, O, _, _, I, h, fun d n' q v G' O' H' I' s' rd => ?_, L.lkx σ ρ⟩
    obtain ⟨v', e1', a', xs', ev, g', h0', o', r'⟩ := I'.slot i _ e0
    rw [e1] at e1'
    cases e1'
    cases ev
    exact ⟨a, xs', v, rfl, rfl, I'.oH _ _ o', by rw [DRs.length r']; exact q.1, L.nx _ n' q.2 _ G' _ _ (I'.mut e0 e1 g' h0' o' (DRs.append r' (.cons rd .nil)))⟩
  · exact h.elim
end
/-! ### defs -/
structure FnG (P : Program) (w : World) (K : PySem.W.Frag) (mg : Str → Option Value) (base : Heap) (k : Nat) (f : Addr) (fd : FuncData) (ps : List Str) (sp : Sp) : Prop where
  len : ∀ vs H Q E, sp vs H Q E → vs.length = ps.length
  run : ∀ (A : Around) (outer : List PySem.Env) (s : Shared) (H : Hp) (args : Args) (us : List Value) (vs : List V) (Q : VK) (E : XK), A.guards = some [] → Room k A → Env0 P w K mg base A outer s H → BindsTo s fd args (ps.zip us) → Vals vs us → sp vs H Q E →
    codeAny (model P w) A (.call (.ref f) args) (CR (L2.CX P w) outer P w H s Q E) s
theorem FnG.mono {P : Program} {w : World} {K : PySem.W.Frag} {mg : Str → Option Value} {base : Heap} {j k : Nat} {f : Addr} {fd : FuncData} {ps : List Str} {sp : Sp} (F : FnG P w K mg base j f fd ps sp) (h : j ≤ k) : FnG P w K mg base k f fd ps sp :=
  ⟨F.len, fun A outer s H args us vs Q E hg hr => F.run A outer s H args us vs Q E hg (hr.mono h)⟩
theorem FnG.imp {P : Program} {w : World} {K : PySem.W.Frag} {mg : Str → Option Value} {base : Heap} {k : Nat} {f : Addr} {fd : FuncData} {ps : List Str} {sp sp' : Sp} (F : FnG P w K mg base k f fd ps sp) (h : ∀ vs H Q E, sp' vs H Q E → sp vs H Q E) : FnG P w K mg base k f fd ps sp' :=
  ⟨fun vs H Q E q => F.len vs H Q E (h _ _ _ _ q), fun A outer s H args us vs Q E hg hr he hb hv hs => F.run A outer s H args us vs Q E hg hr he hb hv (h _ _ _ _ hs)⟩
/-- a def by its body; nothing that is being shown (repr) is under way -/
theorem fnG_of {P : Program} {w : World} {K : PySem.W.Frag} {mg : Str → Option Value} {base : Heap} {k : Nat} {x qual : Str} {params : Arguments} {body : List Stmt} {scope : Scope} {dvs : List V} {kws : List (Str × V)} {f : Addr} {fd : FuncData} {N ps : List Str} {sp : Sp}
    (F : FunD K x qual params body scope dvs kws f fd) (S : FnScope N ps scope) (len : ∀ vs H Q E, sp vs H Q E → vs.length = ps.length)
    (hb : ∀ (cdv : Value) (A : Around) (outer : List PySem.Env) (s : Shared) (H : Hp) (vs : List V) (Q : VK) (E : XK), A.guards = some [] → Room k (A.deeper (envOfC qual scope s.heap.objs.size f cdv)) → sp vs H Q E →
      ∃ t, PSs (cxOf (L2.CX P w) P w K mg base N qual scope f cdv A outer s H E) body t ∧ t { nx := fun _ H' => Q .non H', rt := Q } (start N vs) H) : FnG P w K mg base (k + 1) f fd ps sp := by
  obtain ⟨oc, od, dV, kV, doc, pm, an, cdv, ct, osl, rfl, lk, hcd, _, _⟩ := F.ex
  constructor
  · exact len
  intro A outer s H args us vs Q E hg hr e0 hbd rv hsp
  have hk : ∀ b o, base.get? b = some o → s.heap.get? b = some o := fun b o e => (e0.bs b o e).1
  have KI : K.In s.heap := e0.mod.kin.keeps hk
  have nl : s.heap.NoLimit := e0.mod.nolimit.keeps hk
  have kinds : ∀ y ∈ ps.zip us, scope.names.lookup y.1 = some .local ∨ (scope.names.lookup y.1 = some .cell ∧ ((cellsFrom (s.heap.objs.size + 1) scope.names []).lookup y.1).isSome = true) := by
    rintro ⟨nm, val⟩ hy
    rcases S.par nm (List.of_mem_zip hy).1 with q | q
    · exact Or.inl q
    · exact Or.inr ⟨q, PySem.W.cellsFrom_some _ _ _ (Or.inl q)⟩
  refine codeAny_call_function hr.depth (KI _ _ lk) rfl S.co S.gen rfl (PySem.W.codeRec_of KI hcd) (hbd _ _ _ _ ?_)
  refine wpAny_newFunctionEnv_cells S.kind kinds fun env he s1 ic => ?_
  subst he
  refine ⟨nl.keeps ic.toInCall.keep, codeAny_func ?_⟩
  obtain ⟨t, ht, hq⟩ := hb cdv A outer s H vs Q E hg (hr.deeper _) hsp
  have I0 := inv_start (CX := L2.CX P w) (E := E) S hr.hd e0 (len _ _ _ _ hsp) rv ic
  refine wpAny_mono (ht.run [] s1 (start N vs) H _ I0 hq) (fun fl s' hs => ?_) fun e s' hs => hs
  cases fl with
  | ret u =>
    obtain ⟨v, σ', H', J, r1, q⟩ := hs
    exact ⟨v, H', J.os, J.bare, J.base, J.hok, r1, q⟩
  | next =>
    obtain ⟨σ', H', J, q⟩ := hs
    exact ⟨V.non, H', J.os, J.bare, J.base, J.hok, rfl, q⟩
  | brk => obtain ⟨_, _, _, q⟩ := hs; exact False.elim q
  | cont => obtain ⟨_, _, _, q⟩ := hs; exact False.elim q
/-! ### what a def does to values -/
abbrev VFn := List W → Nat → (W → Nat → Prop) → XW → Prop
def RelWs (K : PySem.W.Frag) (C : Ct) (G O : Hp) : List W → List V → Prop
  | [], [] => True
  | w :: ws, v :: vs => RelW K C G O w v ∧ RelWs K C G O ws vs
  | _, _ => False
theorem RelWs.length {K : PySem.W.Frag} {C : Ct} {G O : Hp} : ∀ {ws : List W} {vs : List V}, RelWs K C G O ws vs → vs.length = ws.length
  | [], [], _ => rfl
  | _ :: _, _ :: _, h => by simp [RelWs.length h.2]
  | [], _ :: _, h => h.elim
  | _ :: _, [], h => h.elim
theorem RelWs.get {K : PySem.W.Frag} {C : Ct} {G O : Hp} : ∀ {ws : List W} {vs : List V} {i : Nat} {w : W}, RelWs K C G O ws vs → ws[i]? = some w → ∃ v, vs[i]? = some v ∧ RelW K C G O w v
  | [], _, _, _, _, e => by simp at e
  | _ :: _, [], _, _, h, _ => h.elim
  | w :: ws, v :: vs, 0, _, h, e => by simp at e; subst e; exact ⟨v, rfl, h.1⟩
  | w :: ws, v :: vs, i + 1, _, h, e => by
    obtain ⟨u, h1, h2⟩ := RelWs.get (i := i) h.2 (by simpa using e)
    exact ⟨u, by simpa using h1, h2⟩
def lift (K : PySem.W.Frag) (c : VFn) : Sp := fun vs H Q E => ∃ (C : Ct) (n : Nat) (ws : List W) (Q0 : W → Nat → Prop) (E0 : XW), C.H0 = H ∧ Io C n C.G0 C.O0 H ∧ RelWs K C C.G0 C.O0 ws vs ∧ c ws n Q0 E0 ∧
  (∀ w n', Q0 w n' → ∀ v G' O' H', Io C n' G' O' H' → RelW K C G' O' w v → Q v H') ∧ (∀ x n', E0 x n' → ∀ cls d G' O' H', Io C n' G' O' H' → ExcAt K G' x cls d → E cls d H')
def startE (m : Nat) (ws : List W) : Nv := ws.map some ++ List.replicate (m - ws.length) none
def bodyV (m k : Nat) (t : VST) : VFn := fun ws n Q E => ws.length = k ∧ t ⟨fun _ n' => Q (.dat .none) n', Q, fun _ _ => False, fun _ _ => False, fun x _ n' => E x n'⟩ (startE m ws) n
theorem in_start {K : PySem.W.Frag} {C : Ct} {n : Nat} {N : List Str} {ws : List W} {vs : List V} (h : Io C n C.G0 C.O0 C.H0) (r : RelWs K C C.G0 C.O0 ws vs) : In K C (start N vs) (startE N.length ws) n C.G0 C.O0 C.H0 := by
  have el := r.length
  have own : ∀ {i : Nat} {ds : List Dt}, (startE N.length ws)[i]? = some (some (.own ds)) → False := fun {i ds} e => by
    unfold startE at e
    by_cases hi : i < ws.length
    · rw [List.getElem?_append_left (by simpa using hi), List.getElem?_map] at e
      cases q : ws[i]? with
      | none => rw [q] at e; cases e
      | some w =>
        rw [q] at e
        cases e
        obtain ⟨v, _, a, xs, _, _, h0, o, _⟩ := r.get q
        rw [h.oH _ _ o] at h0
        cases h0
    · rw [List.getElem?_append_right (by simpa using hi), List.getElem?_replicate] at e
      split at e <;> cases e
  refine ⟨h, ?_, fun i w e => ?_, fun i j ds es a _ e1 _ _ _ => (own e1).elim⟩
  · unfold L2.start startE; simp [el]
  · unfold startE at e
    by_cases hi : i < ws.length
    · rw [List.getElem?_append_left (by simpa using hi), List.getElem?_map] at e
      cases q : ws[i]? with
      | none => rw [q] at e; cases e
      | some w' =>
        rw [q] at e
        cases e
        obtain ⟨v, hv, rw'⟩ := r.get q
        refine ⟨v, ?_, rw'⟩
        unfold L2.start
        rw [List.getElem?_append_left (by rw [List.length_map, el]; exact hi), List.getElem?_map, hv]
        rfl
    · rw [List.getElem?_append_right (by simpa using hi), List.getElem?_replicate] at e
      split at e <;> cases e
/-- THE RULE: a def's body gives what the def does to values -/
theorem fnV {P : Program} {w : World} {K : PySem.W.Frag} {mg : Str → Option Value} {base : Heap} {k : Nat} {x qual : Str} {params : Arguments} {body : List Stmt} {scope : Scope} {dvs : List V} {kws : List (Str × V)} {f : Addr} {fd : FuncData} {N ps : List Str} {t : VST}
    (F : FunD K x qual params body scope dvs kws f fd) (S : FnScope N ps scope)
    (hb : ∀ (cdv : Value) (A : Around) (outer : List PySem.Env) (s : Shared) (H : Hp) (E : XK), A.guards = some [] → Room k (A.deeper (envOfC qual scope s.heap.objs.size f cdv)) →
      VSs (cxOf (L2.CX P w) P w K mg base N qual scope f cdv A outer s H E) (fun cls d _ H' => E cls d H') body t) : FnG P w K mg base (k + 1) f fd ps (lift K (bodyV N.length ps.length t)) := by
  refine fnG_of F S (fun vs H Q E h => ?_) (fun cdv A outer s H vs Q E hg hr h => ⟨_, hb cdv A outer s H E hg hr, ?_⟩)
  · obtain ⟨C, n, ws, Q0, E0, e0, io, r, h, _⟩ := h
    rw [r.length, h.1]
  · obtain ⟨C, n, ws, Q0, E0, e0, io, r, h, hq, he⟩ := h
    subst e0
    refine ⟨C, _, n, C.G0, C.O0, _, in_start io r, h.2, ⟨fun ρ' n' q σ' G' O' H' I' => hq _ n' q .non G' O' H' I'.toIo .non, hq, fun _ _ q => q.elim, fun _ _ q => q.elim, fun x ρ' n' q cls d σ' G' O' H' I' r' => he x n' q cls d G' O' H' I'.toIo r'⟩⟩
/-- another promise that says no more -/
theorem FnG.weak {P : Program} {w : World} {K : PySem.W.Frag} {mg : Str → Option Value} {base : Heap} {k : Nat} {f : Addr} {fd : FuncData} {ps : List Str} {c c' : VFn} (F : FnG P w K mg base k f fd ps (lift K c)) (h : ∀ ws n Q E, c' ws n Q E → c ws n Q E) : FnG P w K mg base k f fd ps (lift K c') :=
  F.imp fun vs H Q E ⟨C, n, ws, Q0, E0, e0, io, r, q, hq, he⟩ => ⟨C, n, ws, Q0, E0, e0, io, r, h _ _ _ _ q, hq, he⟩
/-! ### calls -/
theorem In.call {K : PySem.W.Frag} {C : Ct} {σ : L2.St} {ρ : Nv} {n n' : Nat} {G O H G' O' H' : Hp} (I : In K C σ ρ n G O H) (J : Io ⟨C.mo, G, O, H⟩ n' G' O' H') : In K C σ ρ n' G' O' H' := by
  have nw : ∀ a o, O a = some o → G a = none → G' a = none := fun a o e g => by
    cases z : G' a with
    | none => rfl
    | some u =>
      rcases J.nG a u z with y | y
      · have y' : G a = some u := y
        rw [g] at y'; cases y'
      · have y' : H a = none := y
        rw [I.oH _ _ e] at y'; cases y'
  refine ⟨⟨J.good, J.go, I.g0.trans J.g0, I.o0.trans J.o0, I.oh, fun a o e => ?_, fun a o e => ?_, fun a e => I.h0 a (J.h0 a e)⟩, I.len, fun i w e => ?_, I.dis⟩
  · rcases J.nO a o e with q | q
    · exact I.nO a o q
    · exact .inr (I.h0 a q)
  · rcases J.nG a o e with q | q
    · exact I.nG a o q
    · exact .inr (I.h0 a q)
  · obtain ⟨v, e1, r⟩ := I.slot i w e
    exact ⟨v, e1, r.same J.g0 fun a xs q g => ⟨J.o0 _ _ q, nw a _ q g⟩⟩
/-- arguments: data, the machine, the script -/
abbrev VAW := Nv → Nat → (List W → Nat → Prop) → XW → Prop
def RWs (K : PySem.W.Frag) (C : Ct) (G : Hp) : List W → List V → Prop
  | [], [] => True
  | w :: ws, v :: vs => (match w with | .dat d => DR K G v d | .own _ => False | .err _ _ => False | .tok => ∃ m, C.mo = some m ∧ v = .ref m | .scr ns => ∃ a, v = .ref a ∧ SqL K G a (ns.map V.int)) ∧ RWs K C G ws vs
  | _, _ => False
theorem RWs.same {K : PySem.W.Frag} {C : Ct} {G G' : Hp} (s : Same G G') : ∀ {ws : List W} {vs : List V}, RWs K C G ws vs → RWs K C G' ws vs
  | [], [], _ => trivial
  | [], _ :: _, h => h.elim
  | _ :: _, [], h => h.elim
  | w :: ws, v :: vs, h => by
    refine ⟨?_, RWs.same s h.2⟩
    cases w with
    | dat d => exact DR.same s h.1
    | own ds => exact h.1.elim
    | tok => exact h.1
    | scr ns => obtain ⟨a, e, q⟩ := h.1; exact ⟨a, e, s.seq q⟩
    | err p x => exact h.1
theorem RWs.rel {K : PySem.W.Frag} {C C' : Ct} {G O : Hp} (hm : C'.mo = C.mo) : ∀ {ws : List W} {vs : List V}, RWs K C G ws vs → RelWs K C' G O ws vs
  | [], [], _ => trivial
  | [], _ :: _, h => h.elim
  | _ :: _, [], h => h.elim
  | w :: ws, v :: vs, h => by
    refine ⟨?_, RWs.rel hm h.2⟩
    cases w with
    | dat d => exact h.1
    | own ds => exact h.1.elim
    | tok => obtain ⟨m, e, q⟩ := h.1; exact ⟨m, hm.trans e, q⟩
    | scr ns => exact h.1
    | err p x => exact h.1.elim
def upW (K : PySem.W.Frag) (U : WX) (t : VAW) : TA := fun σ H Q => ∃ (C : Ct) (ρ : Nv) (n : Nat) (G O : Hp) (Q0 : List W → Nat → Prop) (E0 : XW), In K C σ ρ n G O H ∧ t ρ n Q0 E0 ∧
  (∀ ws n', Q0 ws n' → ∀ vs G' O' H', In K C σ ρ n' G' O' H' → Same G G' → RWs K C G' ws vs → Q vs H') ∧ LkX K U C σ ρ E0
abbrev VAg (X : Cx) (U : WX) (es : List Expr) (t : VAW) : Prop := PA X es (upW X.K U t)
section
variable {X : Cx} {U : WX} {e : Expr} {es : List Expr} {pos p : Pos} {te : VT} {al : VAW} {x : Str} {k : Nat} {f : Addr} {fd : FuncData} {ps : List Str} {c : VFn}
def wNil : VAW := fun _ n Q _ => Q [] n
def wDat (te : VT) (r : VAW) : VAW := fun ρ n Q E => te ρ n (fun d n1 => r ρ n1 (fun ws n2 => Q (.dat d :: ws) n2) E) E
def wVar (i : Nat) (r : VAW) : VAW := fun ρ n Q E => match ρ[i]? with
  | some (some .tok) => r ρ n (fun ws n2 => Q (.tok :: ws) n2) E
  | some (some (.scr ns)) => r ρ n (fun ws n2 => Q (.scr ns :: ws) n2) E
  | _ => False
theorem wa_nil : VAg X U [] wNil := pa_imp pa_nil fun σ H Q ⟨C, ρ, n, G, O, Q0, E0, I, h, hq, he⟩ => hq [] n h [] G O H I (Same.refl _) trivial
theorem wa_dat (ha : VE X U e te) (hr : VAg X U es al) (hs : starEach (e :: es) X.env = (false, eval e X.env) :: starEach es X.env := by rfl) : VAg X U (e :: es) (wDat te al) :=
  pa_imp (pa_cons ha hr hs) fun σ H Q ⟨C, ρ, n, G, O, Q0, E0, I, h, hq, he⟩ => ⟨C, ρ, n, G, O, _, E0, I, h, fun d n1 h1 v G1 O1 H1 I1 s1 r1 => ⟨C, ρ, n1, G1, O1, _, E0, I1, h1, fun ds n2 h2 vs G2 O2 H2 I2 s2 r2 =>
    hq _ n2 h2 _ G2 O2 H2 I2 (s1.trans s2) ⟨DR.same s2 r1, r2⟩, he⟩, he⟩
theorem wa_var (i : Nat) (hr : VAg X U es al) (hN : X.N[i]? = some x := by rfl) (hv : Vis X.env.scope x := by first | exact Or.inl rfl | exact Or.inr (Or.inl rfl) | exact Or.inr (Or.inr rfl)) (hd : (x == ("__debug__" : Str)) = false := by decide)
    (hcd : (x == ("__classdict__" : Str)) = false := by decide) (hs : starEach (.Name x pos :: es) X.env = (false, eval (.Name x pos) X.env) :: starEach es X.env := by rfl) : VAg X U (.Name x pos :: es) (wVar i al) :=
  pa_imp (pa_cons (pe_var hN hv hd hcd) hr hs) fun σ H Q ⟨C, ρ, n, G, O, Q0, E0, I, h, hq, he⟩ => by
    unfold wVar at h
    split at h
    · next e0 =>
      obtain ⟨v, e1, m, em, ev⟩ := I.slot i _ e0
      exact ⟨v, e1, C, ρ, n, G, O, _, E0, I, h, fun ws n2 h2 vs G2 O2 H2 I2 s2 r2 => hq _ n2 h2 _ G2 O2 H2 I2 s2 ⟨⟨m, em, ev⟩, r2⟩, he⟩
    · next ns e0 =>
      obtain ⟨v, e1, a, ea, sq⟩ := I.slot i _ e0
      exact ⟨v, e1, C, ρ, n, G, O, _, E0, I, h, fun ws n2 h2 vs G2 O2 H2 I2 s2 r2 => hq _ n2 h2 _ G2 O2 H2 I2 s2 ⟨⟨a, ea, s2.seq sq⟩, r2⟩, he⟩
    · exact h.elim
/-- a call of a def of the text -/
theorem pe_callG {sp : Sp} {dvs : List V} {ds : List Value} {t : TA} (F : FnG X.prog X.w X.K X.mg X.base k f fd ps sp) (hG : X.A.guards = some []) (hr : Room k X.A) (tk : Takes X U) (hg : Gl X x) (hm : X.mg x = some (.ref f)) (hk : PySem.W.keepIn X.K (.ref f) = true) (hb : Binds X.K fd ps ds) (hd : Vals dvs ds)
    (ha : PA X (e :: es) t) (hdb : (x == ("__debug__" : Str)) = false := by decide) (he : starEach (e :: es) X.env = (false, eval e X.env) :: starEach es X.env := by rfl) (hpl : (backTo pos (starEach es X.env)).any (·.1) = false := by rfl) :
    PE X (.Call (.Name x p) (e :: es) [] pos) (fun σ H Q => t σ H fun vs H1 => sp (vs ++ dvs) H1 Q fun cls d H' => U cls d σ H') := by
  constructor
  intro pins s σ H Q I h
  refine wpAny_Call_Name_kw (ld_glob I hg hm ?_ hdb)
  refine PySem.W.callWith_K (h₀ := X.base) I.ok.mod.kin hk (thn (ha.run pos pins s σ H _ I h) fun us s1 z => ?_) he hpl
  obtain ⟨vs, H1, I1, r, q⟩ := z
  refine ⟨I1.kIn, ?_⟩
  have r2 : Vals (vs ++ dvs) (us ++ ds) := r.append hd
  have hl : (us ++ ds).length = ps.length := r2.length.symm.trans (F.len _ _ _ _ q)
  refine wpAny_call (codeAny_mono (F.run X.A X.stack s1 H1 ⟨us, []⟩ (us ++ ds) (vs ++ dvs) Q _ hG hr I1.env0 (hb s1 us I1.kIn hl) r2 q) fun rs s' hq => ?_)
  match rs, hq with
  | .error e, hq => exact passAt tk σ pins H1 s1 e s' I1 hq
  | .ok (.ret u), hq => exact I1.after hq
def rOf (Q : Dt → Nat → Prop) : W → Nat → Prop := fun w n => match w with
  | .dat d => Q d n
  | .own ds => Q (.list ds) n
  | _ => False
def vCall (c : VFn) (dw : List W) (al : VAW) : VT := fun ρ n Q E => al ρ n (fun ws n1 => c (ws ++ dw) n1 (rOf Q) E) E
def vCallO (c : VFn) (dw : List W) (al : VAW) : VA := fun ρ n Q E => al ρ n (fun ws n1 => c (ws ++ dw) n1 (fun w n' => match w with
  | .own ds => Q ds n'
  | _ => False) E) E
/-- the defaults' data stand in the written part -/
def RDf (K : PySem.W.Frag) : List W → List V → Prop
  | [], [] => True
  | w :: ws, v :: vs => (match w with | .dat d => ∀ G, DR K G v d | _ => False) ∧ RDf K ws vs
  | _, _ => False
theorem RDf.rws {K : PySem.W.Frag} {C : Ct} {G : Hp} : ∀ {dw : List W} {dvs : List V}, RDf K dw dvs → RWs K C G dw dvs
  | [], [], _ => trivial
  | [], _ :: _, h => h.elim
  | _ :: _, [], h => h.elim
  | w :: ws, v :: vs, d => by
    refine ⟨?_, RDf.rws d.2⟩
    cases w with
    | dat x => exact d.1 G
    | _ => exact d.1.elim
theorem RDf.app {K : PySem.W.Frag} {C : Ct} {G : Hp} {dw : List W} {dvs : List V} (d : RDf K dw dvs) : ∀ {ws : List W} {vs : List V}, RWs K C G ws vs → RWs K C G (ws ++ dw) (vs ++ dvs)
  | _ :: _, _ :: _, h => ⟨h.1, RDf.app d h.2⟩
  | [], _ :: _, h => h.elim
  | _ :: _, [], h => h.elim
  | [], [], _ => d.rws
theorem ve_call {dw : List W} {dvs : List V} {ds : List Value} (F : FnG X.prog X.w X.K X.mg X.base k f fd ps (lift X.K c)) (hG : X.A.guards = some []) (hr : Room k X.A) (tk : Takes X U) (hg : Gl X x) (hm : X.mg x = some (.ref f)) (hk : PySem.W.keepIn X.K (.ref f) = true) (hb : Binds X.K fd ps ds) (hd : Vals dvs ds) (hdw : RDf X.K dw dvs)
    (ha : VAg X U (e :: es) al) (hdb : (x == ("__debug__" : Str)) = false := by decide) (he : starEach (e :: es) X.env = (false, eval e X.env) :: starEach es X.env := by rfl) (hpl : (backTo pos (starEach es X.env)).any (·.1) = false := by rfl) :
    VE X U (.Call (.Name x p) (e :: es) [] pos) (vCall c dw al) :=
  pe_imp (pe_callG F hG hr tk hg hm hk hb hd ha hdb he hpl) fun σ H Q ⟨C, ρ, n, G, O, Q0, E0, I, h, hq, hE⟩ => ⟨C, ρ, n, G, O, _, E0, I, h, fun ws n1 h1 vs G1 O1 H1 I1 s1 r1 =>
    ⟨⟨C.mo, G1, O1, H1⟩, n1, _, _, E0, rfl, ⟨I1.good, I1.go, Same.refl _, Same.refl _, I1.oH, New.refl, New.refl, fun _ q => q⟩, RWs.rel (C := C) (C' := ⟨C.mo, G1, O1, H1⟩) rfl (hdw.app r1), h1, fun w n' q v G' O' H' J rw' => by
      have I2 := I1.call J
      cases w with
      | dat d => exact hq d n' q v G' O' H' I2 (s1.trans J.g0) rw'
      | own ds =>
        obtain ⟨a, xs, rfl, g, h0, o, r⟩ := rw'
        obtain ⟨G2, I3, s3, r3⟩ := I2.frzFresh (a := a) (ds := ds) ⟨xs, g, I1.h0 a h0, o, r, fun j es e z => by
          obtain ⟨v, e1, b, ys, ev, _, _, o', _⟩ := I1.slot j _ e
          rw [e1] at z; cases z; cases ev
          have h0' : H1 a = none := h0
          rw [I1.oH _ _ o'] at h0'; cases h0'⟩
        exact hq _ n' q _ G2 O' H' I3 ((s1.trans J.g0).trans s3) r3
      | tok => exact q.elim
      | err p x => exact q.elim
      | scr ns => exact q.elim, fun x n' q cls d G' O' H' J r => hE x n' q cls d G' O' H' (I1.call J) r⟩, hE⟩
theorem vo_call {dw : List W} {dvs : List V} {ds : List Value} (F : FnG X.prog X.w X.K X.mg X.base k f fd ps (lift X.K c)) (hG : X.A.guards = some []) (hr : Room k X.A) (tk : Takes X U) (hg : Gl X x) (hm : X.mg x = some (.ref f)) (hk : PySem.W.keepIn X.K (.ref f) = true) (hb : Binds X.K fd ps ds) (hd : Vals dvs ds) (hdw : RDf X.K dw dvs)
    (ha : VAg X U (e :: es) al) (hdb : (x == ("__debug__" : Str)) = false := by decide) (he : starEach (e :: es) X.env = (false, eval e X.env) :: starEach es X.env := by rfl) (hpl : (backTo pos (starEach es X.env)).any (·.1) = false := by rfl) :
    VO X U (.Call (.Name x p) (e :: es) [] pos) (vCallO c dw al) :=
  pe_imp (pe_callG F hG hr tk hg hm hk hb hd ha hdb he hpl) fun σ H Q ⟨C, ρ, n, G, O, Q0, E0, I, h, hq, hE⟩ => ⟨C, ρ, n, G, O, _, E0, I, h, fun ws n1 h1 vs G1 O1 H1 I1 s1 r1 =>
    ⟨⟨C.mo, G1, O1, H1⟩, n1, _, _, E0, rfl, ⟨I1.good, I1.go, Same.refl _, Same.refl _, I1.oH, New.refl, New.refl, fun _ q => q⟩, RWs.rel (C := C) (C' := ⟨C.mo, G1, O1, H1⟩) rfl (hdw.app r1), h1, fun w n' q v G' O' H' J rw' => by
      have I2 := I1.call J
      cases w with
      | own ds =>
        obtain ⟨a, xs, rfl, g, h0, o, r⟩ := rw'
        exact hq ds n' q a G' O' H' I2 (s1.trans J.g0) ⟨xs, g, I1.h0 a h0, o, r, fun j es e z => by
          obtain ⟨v, e1, b, ys, ev, _, _, o', _⟩ := I1.slot j _ e
          rw [e1] at z; cases z; cases ev
          have h0' : H1 a = none := h0
          rw [I1.oH _ _ o'] at h0'; cases h0'⟩
      | _ => exact q.elim, fun x n' q cls d G' O' H' J r => hE x n' q cls d G' O' H' (I1.call J) r⟩, hE⟩
end
end VL


set_option maxRecDepth 100000
set_option maxHeartbeats 2000000
namespace VL
open PySem PySem.Spec PyProof.Rows L2
/-! ### operators on data -/
def dAdd : R2D := fun a b Q => match a, b with
  | .int i, .int j => Q (.int (i + j))
  | .str x, .str y => x.length + y.length ≤ sizeLine ∧ Q (.str (x ++ y))
  | .tuple xs, .tuple ys => xs.length + ys.length ≤ sizeLine ∧ Q (.tuple (xs ++ ys))
  | .list xs, .list ys => xs.length + ys.length ≤ sizeLine ∧ Q (.list (xs ++ ys))
  | _, _ => False
def dSub : R2D := fun a b Q => match a, b with
  | .int i, .int j => Q (.int (i - j))
  | _, _ => False
def dMul : R2D := fun a b Q => match a, b with
  | .int i, .int j => CMul i j ∧ Q (.int (i * j))
  | _, _ => False
def dDiv : R2D := fun a b Q => match a, b with
  | .int i, .int j => CDiv i j ∧ Q (.int (i / j))
  | _, _ => False
def dMod : R2D := fun a b Q => match a, b with
  | .int i, .int j => 0 < j ∧ Q (.int (i % j))
  | _, _ => False
def dPow : R2D := fun a b Q => match a, b with
  | .int i, .int j => CPow i j ∧ Q (.int (i ^ j.toNat))
  | _, _ => False
/-- what may be compared: two texts, or data of plain signs that are not too deep -/
def shp (a b : Dt) : Prop := match a, b with
  | .str _, .str _ => True
  | a, b => SeqAt.shaped a = true ∧ SeqAt.shaped b = true
def dEq : R2D := fun a b Q => shp a b ∧ Q (.bool (PyData.eqv a b))
def dNe : R2D := fun a b Q => shp a b ∧ Q (.bool (!PyData.eqv a b))
def dLt : R2D := fun a b Q => match a, b with
  | .int i, .int j => Q (.bool (decide (i < j)))
  | _, _ => False
def dLe : R2D := fun a b Q => match a, b with
  | .int i, .int j => Q (.bool (decide (i ≤ j)))
  | _, _ => False
def dGt : R2D := fun a b Q => match a, b with
  | .int i, .int j => Q (.bool (decide (j < i)))
  | _, _ => False
def dGe : R2D := fun a b Q => match a, b with
  | .int i, .int j => Q (.bool (decide (j ≤ i)))
  | _, _ => False
def isNoneD : Dt → Bool
  | .none => true
  | _ => false
def dIs : R2D := fun a b Q => match b with
  | .none => Q (.bool (isNoneD a))
  | _ => False
def dIsNot : R2D := fun a b Q => match b with
  | .none => Q (.bool (!isNoneD a))
  | _ => False
section
variable {X : Cx}
theorem DR.none_iff {K : PySem.W.Frag} {G : Hp} {v : V} {d : Dt} (r : DR K G v d) : decide (v = V.non) = isNoneD d := by
  cases d <;> cases r <;> rfl
theorem op2I {f : Value → Value → Sem Value} {C : Int → Int → Prop} {g : Int → Int → V} {r : R2D} (o : OpR X f (rI C g)) (h : ∀ a b Q, r a b Q → ∃ i j d, a = .int i ∧ b = .int j ∧ C i j ∧ (∀ G, DR X.K G (g i j) d) ∧ Q d) : VOp X f r := by
  intro pins s σ H x y v u Q I rx ry ⟨G, d1, d2, Q0, sg, r1, r2, q, hq⟩
  obtain ⟨i, j, d, rfl, rfl, c, rd, q⟩ := h _ _ _ q
  cases r1
  cases r2
  exact o pins s σ H _ _ v u Q I rx ry ⟨i, j, rfl, rfl, c, hq d q _ G H (Same.refl _) (Same.refl _) sg New.refl (rd G)⟩
theorem op2I0 {f : Value → Value → Sem Value} {g : Int → Int → V} {r : R2D} (o : OpR X f (rI0 g)) (h : ∀ a b Q, r a b Q → ∃ i j d, a = .int i ∧ b = .int j ∧ (∀ G, DR X.K G (g i j) d) ∧ Q d) : VOp X f r := by
  intro pins s σ H x y v u Q I rx ry ⟨G, d1, d2, Q0, sg, r1, r2, q, hq⟩
  obtain ⟨i, j, d, rfl, rfl, rd, q⟩ := h _ _ _ q
  cases r1
  cases r2
  exact o pins s σ H _ _ v u Q I rx ry ⟨i, j, rfl, rfl, hq d q _ G H (Same.refl _) (Same.refl _) sg New.refl (rd G)⟩
theorem o_sub : VOp X (binaryOp .Sub) dSub := op2I0 op_sub fun a b Q h => by
  cases a <;> cases b <;> first | exact ⟨_, _, _, rfl, rfl, fun _ => .int _, h⟩ | exact h.elim
theorem o_mul : VOp X (binaryOp .Mult) dMul := op2I op_mul fun a b Q h => by
  cases a <;> cases b <;> first | exact ⟨_, _, _, rfl, rfl, h.1, fun _ => .int _, h.2⟩ | exact h.elim
theorem o_div : VOp X (binaryOp .FloorDiv) dDiv := op2I op_fdiv fun a b Q h => by
  cases a <;> cases b <;> first | exact ⟨_, _, _, rfl, rfl, h.1, fun _ => .int _, h.2⟩ | exact h.elim
theorem o_mod : VOp X (binaryOp .Mod) dMod := op2I op_mod fun a b Q h => by
  cases a <;> cases b <;> first | exact ⟨_, _, _, rfl, rfl, h.1, fun _ => .int _, h.2⟩ | exact h.elim
theorem o_pow : VOp X (binaryOp .Pow) dPow := op2I op_pow fun a b Q h => by
  cases a <;> cases b <;> first | exact ⟨_, _, _, rfl, rfl, h.1, fun _ => .int _, h.2⟩ | exact h.elim
theorem o_lt : VOp X (compareOp .Lt) dLt := op2I0 op_lt fun a b Q h => by
  cases a <;> cases b <;> first | exact ⟨_, _, _, rfl, rfl, fun _ => .bl _, h⟩ | exact h.elim
theorem o_le : VOp X (compareOp .LtE) dLe := op2I0 op_le fun a b Q h => by
  cases a <;> cases b <;> first | exact ⟨_, _, _, rfl, rfl, fun _ => .bl _, h⟩ | exact h.elim
theorem o_gt : VOp X (compareOp .Gt) dGt := op2I0 op_gt fun a b Q h => by
  cases a <;> cases b <;> first | exact ⟨_, _, _, rfl, rfl, fun _ => .bl _, h⟩ | exact h.elim
theorem o_ge : VOp X (compareOp .GtE) dGe := op2I0 op_ge fun a b Q h => by
  cases a <;> cases b <;> first | exact ⟨_, _, _, rfl, rfl, fun _ => .bl _, h⟩ | exact h.elim
theorem o_iadd : VOp X (inplaceOp .Add) (fun a b Q => match a, b with | .int i, .int j => Q (.int (i + j)) | _, _ => False) := op2I0 iop_add fun a b Q h => by
  cases a <;> cases b <;> first | exact ⟨_, _, _, rfl, rfl, fun _ => .int _, h⟩ | exact h.elim
theorem str_eqv (x y : Str) : decide (V.str x = V.str y) = PyData.eqv (.str x) (.str y) := by
  simp only [PyData.eqv]
  by_cases h : x = y
  · subst h; simp
  · have h' : ¬ V.str x = V.str y := fun e => h (V.str.inj e)
    rw [decide_eq_false h']
    exact (beq_eq_false_iff_ne.mpr h).symm
theorem shp_cases {a b : Dt} (h : shp a b) : (∃ x y, a = .str x ∧ b = .str y) ∨ (SeqAt.shaped a = true ∧ SeqAt.shaped b = true) := by
  cases a <;> cases b <;> first | exact .inr h | exact .inl ⟨_, _, rfl, rfl⟩
theorem o_eq (hu : X.A.units + 64 < cLine) : VOp X (compareOp .Eq) dEq := by
  intro pins s σ H x y v u Q I rx ry ⟨G, d1, d2, Q0, sg, r1, r2, q, hq⟩
  rcases shp_cases q.1 with ⟨a, b, rfl, rfl⟩ | ⟨q1, q2⟩
  · cases r1; cases r2
    exact op_eq pins s σ H _ _ v u Q I rx ry ⟨rfl, by rw [str_eqv]; exact hq _ q.2 _ G H (Same.refl _) (Same.refl _) sg New.refl (.bl _)⟩
  · exact op_eqD hu pins s σ H x y v u Q I rx ry ⟨d1, d2, DR.dp (PyData.hasDict_of_canLay _ (SeqAt.canLay_of_shaped q1)) (DR.same sg r1), DR.dp (PyData.hasDict_of_canLay _ (SeqAt.canLay_of_shaped q2)) (DR.same sg r2), q1, q2, hq _ q.2 _ G H (Same.refl _) (Same.refl _) sg New.refl (.bl _)⟩
theorem o_ne (hu : X.A.units + 64 < cLine) : VOp X (compareOp .NotEq) dNe := by
  intro pins s σ H x y v u Q I rx ry ⟨G, d1, d2, Q0, sg, r1, r2, q, hq⟩
  rcases shp_cases q.1 with ⟨a, b, rfl, rfl⟩ | ⟨q1, q2⟩
  · cases r1; cases r2
    exact op_ne pins s σ H _ _ v u Q I rx ry ⟨rfl, by rw [str_eqv]; exact hq _ q.2 _ G H (Same.refl _) (Same.refl _) sg New.refl (.bl _)⟩
  · exact op_neD hu pins s σ H x y v u Q I rx ry ⟨d1, d2, DR.dp (PyData.hasDict_of_canLay _ (SeqAt.canLay_of_shaped q1)) (DR.same sg r1), DR.dp (PyData.hasDict_of_canLay _ (SeqAt.canLay_of_shaped q2)) (DR.same sg r2), q1, q2, hq _ q.2 _ G H (Same.refl _) (Same.refl _) sg New.refl (.bl _)⟩
theorem o_is : VOp X (compareOp .Is) dIs := by
  intro pins s σ H x y v u Q I rx ry ⟨G, d1, d2, Q0, sg, r1, r2, q, hq⟩
  cases d2 with
  | none =>
    cases r2
    exact op_isN pins s σ H x _ v u Q I rx ry ⟨rfl, by rw [r1.none_iff]; exact hq _ q _ G H (Same.refl _) (Same.refl _) sg New.refl (.bl _)⟩
  | _ => exact q.elim
theorem o_isnot : VOp X (compareOp .IsNot) dIsNot := by
  intro pins s σ H x y v u Q I rx ry ⟨G, d1, d2, Q0, sg, r1, r2, q, hq⟩
  cases d2 with
  | none =>
    cases r2
    exact op_notN pins s σ H x _ v u Q I rx ry ⟨rfl, by rw [r1.none_iff]; exact hq _ q _ G H (Same.refl _) (Same.refl _) sg New.refl (.bl _)⟩
  | _ => exact q.elim
theorem gfree {G H : Hp} {p : Addr} (s : Same G H) (h : H p = none) : G p = none := by
  cases q : G p with | none => rfl | some u => rw [s _ _ q] at h; cases h
theorem o_add : VOp X (binaryOp .Add) dAdd := by
  intro pins s σ H x y v u Q I rx ry ⟨G, d1, d2, Q0, sg, r1, r2, q, hq⟩
  cases d1 with
  | int i =>
    cases d2 with
    | int j =>
      cases r1; cases r2
      exact op_add pins s σ H _ _ v u Q I rx ry ⟨i, j, rfl, rfl, hq _ q _ G H (Same.refl _) (Same.refl _) sg New.refl (.int _)⟩
    | _ => exact q.elim
  | str a =>
    cases d2 with
    | str b =>
      cases r1; cases r2
      exact op_add_str pins s σ H _ _ v u Q I rx ry ⟨a, b, rfl, rfl, q.1, hq _ q.2 _ G H (Same.refl _) (Same.refl _) sg New.refl (.str _)⟩
    | _ => exact q.elim
  | tuple xs =>
    cases d2 with
    | tuple ys =>
      cases r1 with
      | tup a1 q1 =>
        cases r2 with
        | tup a2 q2 =>
          refine op_catA pins s σ H _ _ v u Q I rx ry ⟨_, _, _, _, rfl, rfl, sameT sg a1, sameT sg a2, by rw [q1.length, q2.length]; exact q.1, fun e => ?_, fun _ e => ?_, fun _ _ p hp => ?_⟩
          · subst e
            cases xs with
            | nil => exact hq _ q.2 _ G H (Same.refl _) (Same.refl _) sg New.refl (.tup a2 q2)
            | cons => cases q1
          · subst e
            cases ys with
            | nil => exact hq _ q.2 _ G H (Same.refl _) (Same.refl _) sg New.refl (.tup a1 (by rw [List.append_nil]; exact q1))
            | cons => cases q2
          · have n := gfree sg hp
            exact hq _ q.2 _ (L2.upd G p _) _ (same_upd hp) (same_upd n) (same_upd2 sg) (new_upd hp) (.tup (SqT.of upd_same) (DRs.same (same_upd n) (q1.append q2)))
    | _ => exact q.elim
  | list xs =>
    cases d2 with
    | list ys =>
      cases r1 with
      | lst a1 q1 =>
        cases r2 with
        | lst a2 q2 =>
          refine op_cat pins s σ H _ _ v u Q I rx ry ⟨_, _, _, _, rfl, rfl, sg _ _ a1, sg _ _ a2, by rw [q1.length, q2.length]; exact q.1, fun p hp => ?_⟩
          have n := gfree sg hp
          exact hq _ q.2 _ (L2.upd G p _) _ (same_upd hp) (same_upd n) (same_upd2 sg) (new_upd hp) (.lst upd_same (DRs.same (same_upd n) (q1.append q2)))
    | _ => exact q.elim
  | _ => cases d2 <;> exact q.elim
end
/-! ### places -/
def dIx : R2D := fun a b Q => match a, b with
  | .tuple ds, .int i => (match atI ds i with | some d => Q d | none => False)
  | .list ds, .int i => (match atI ds i with | some d => Q d | none => False)
  | .str z, .int i => z.length ≤ sizeLine ∧ (match atI z.cps.toList i with | some c => Q (.str ⟨#[c]⟩) | none => False)
  | _, _ => False
theorem DRs.atI {K : PySem.W.Frag} {G : Hp} {xs : List V} {ds : List Dt} {i : Int} {d : Dt} (r : DRs K G xs ds) (h : L2.atI ds i = some d) : ∃ v, L2.atI xs i = some v ∧ DR K G v d := by
  unfold L2.atI at h ⊢
  rw [r.length]
  cases q : ixN ds.length i with
  | none => rw [q] at h; cases h
  | some j =>
    rw [q] at h
    obtain ⟨v, h1, h2⟩ := r.get (i := j) (d := d) h
    exact ⟨v, h1, h2⟩
section
variable {X : Cx} {U : WX} {a b e : Expr} {es : List Expr} {pos p2 : Pos} {ta tb te : VT} {al : VA}
theorem ix_imp {K : PySem.W.Frag} : ∀ x y H Q, lift2 K dIx x y H Q → rIx K x y H Q := by
  rintro x y H Q ⟨G, d1, d2, Q0, sg, r1, r2, q, hq⟩
  cases d1 with
  | tuple ds =>
    cases d2 with
    | int i =>
      cases r1 with
      | tup a1 q1 =>
        cases r2
        have q' : (match L2.atI ds i with | some d => Q0 d | none => False) := q
        cases hh : L2.atI ds i with
        | none => rw [hh] at q'; exact q'.elim
        | some d =>
          rw [hh] at q'
          obtain ⟨w, h1, h2⟩ := q1.atI hh
          exact .inr (.inl ⟨_, _, i, w, rfl, rfl, sameT sg a1, h1, hq d q' _ G H (Same.refl _) (Same.refl _) sg New.refl h2⟩)
    | _ => exact q.elim
  | list ds =>
    cases d2 with
    | int i =>
      cases r1 with
      | lst a1 q1 =>
        cases r2
        have q' : (match L2.atI ds i with | some d => Q0 d | none => False) := q
        cases hh : L2.atI ds i with
        | none => rw [hh] at q'; exact q'.elim
        | some d =>
          rw [hh] at q'
          obtain ⟨w, h1, h2⟩ := q1.atI hh
          exact .inl ⟨_, _, i, w, rfl, rfl, SqL.of (sg _ _ a1), h1, hq d q' _ G H (Same.refl _) (Same.refl _) sg New.refl h2⟩
    | _ => exact q.elim
  | str z =>
    cases d2 with
    | int i =>
      cases r1
      cases r2
      have q' : z.length ≤ sizeLine ∧ (match L2.atI z.cps.toList i with | some c => Q0 (.str ⟨#[c]⟩) | none => False) := q
      cases hh : L2.atI z.cps.toList i with
      | none => rw [hh] at q'; exact q'.2.elim
      | some c =>
        rw [hh] at q'
        exact .inr (.inr ⟨z, i, c, rfl, rfl, q'.1, hh, hq _ q'.2 _ G H (Same.refl _) (Same.refl _) sg New.refl (.str _)⟩)
    | _ => exact q.elim
  | _ => cases d2 <;> exact q.elim
theorem tOp_imp {K : PySem.W.Frag} {r : R2D} {r' : R2} (w : ∀ x y H Q, lift2 K r x y H Q → r' x y H Q) : ∀ σ H Q, tOp (lift2 K r) (up K U ta) (up K U tb) σ H Q → tOp r' (up K U ta) (up K U tb) σ H Q :=
  fun σ H Q ⟨C, ρ, n, G, O, Q0, E0, I, h, hq, he⟩ => ⟨C, ρ, n, G, O, Q0, E0, I, h, fun d1 n1 h1 v1 G1 O1 H1 I1 s1 r1 => by
    obtain ⟨C, ρ, n, G, O, Q0, E0, I, h, hq, he⟩ := hq d1 n1 h1 v1 G1 O1 H1 I1 s1 r1
    exact ⟨C, ρ, n, G, O, Q0, E0, I, h, fun d2 n2 h2 v2 G2 O2 H2 I2 s2 r2 => w _ _ _ _ (hq d2 n2 h2 v2 G2 O2 H2 I2 s2 r2), he⟩, he⟩
theorem ve_ix (ha : VE X U a ta) (hb : VE X U b tb) (hs : PlainIx b := by exact fun _ _ => rfl) : VE X U (.Subscript a b pos) (vOp dIx ta tb) := pe_imp (pe_ix ix_seq ha hb hs) fun σ H Q h => tOp_imp ix_imp σ H Q (up_op σ H Q h)
/-- x[i], x a list of one's own -/
def vIxO (k : Nat) (tb : VT) : VT := fun ρ n Q E => match ρ[k]? with
  | some (some (.own ds)) => tb ρ n (fun d n' => dIx (.list ds) d fun d' => Q d' n') E
  | _ => False
theorem ve_ixO {k : Nat} {x : Str} {p : Pos} (hb : VE X U b tb) (hN : X.N[k]? = some x := by rfl) (hv : Vis X.env.scope x := by first | exact Or.inl rfl | exact Or.inr (Or.inl rfl) | exact Or.inr (Or.inr rfl)) (hd : (x == ("__debug__" : Str)) = false := by decide)
    (hcd : (x == ("__classdict__" : Str)) = false := by decide) (hs : PlainIx b := by exact fun _ _ => rfl) : VE X U (.Subscript (.Name x p) b pos) (vIxO k tb) :=
  pe_imp (pe_ix ix_list (pe_var hN hv hd hcd) hb hs) fun σ H Q ⟨C, ρ, n, G, O, Q0, E0, I, h, hq, he⟩ => by
    unfold vIxO at h
    split at h
    · next ds e0 =>
      obtain ⟨v, e1, _⟩ := I.slot k _ e0
      refine ⟨v, e1, C, ρ, n, G, O, _, E0, I, h, fun d n' q v2 G' O' H' I' s' rd => ?_, he⟩
      obtain ⟨v', e1', a', xs', rfl, g', h0', o', r'⟩ := I'.slot k _ e0
      rw [e1] at e1'
      cases e1'
      cases d with
      | int i =>
        cases rd
        have q' : (match L2.atI ds i with | some d => Q0 d n' | none => False) := q
        cases hh : L2.atI ds i with
        | none => rw [hh] at q'; exact q'.elim
        | some d =>
          rw [hh] at q'
          obtain ⟨w, h1, h2⟩ := r'.atI hh
          exact ⟨_, _, i, w, rfl, rfl, SqL.of (I'.oH _ _ o'), h1, hq d n' q' _ G' O' H' I' s' h2⟩
      | _ => exact q.elim
    · exact h.elim
/-! ### slices -/
def cutD {α : Type} (xs : List α) (lo hi : Option Int) : List α := (xs.drop (HT.sIx xs.length 0 lo)).take (HT.sIx xs.length xs.length hi - HT.sIx xs.length 0 lo)
theorem DRs.cut {K : PySem.W.Frag} {G : Hp} {xs : List V} {ds : List Dt} (r : DRs K G xs ds) (lo hi : Option Int) : DRs K G (cutV xs lo hi) (cutD ds lo hi) := by
  unfold cutV cutD
  rw [r.length]
  exact (r.drop _).take _
abbrev VP := Nv → Nat → (Option Int → Nat → Prop) → XW → Prop
def upP (K : PySem.W.Frag) (U : WX) (t : VP) : TO := fun σ H Q => ∃ (C : Ct) (ρ : Nv) (n : Nat) (G O : Hp) (Q0 : Option Int → Nat → Prop) (E0 : XW), In K C σ ρ n G O H ∧ t ρ n Q0 E0 ∧
  (∀ b n', Q0 b n' → ∀ G' O' H', In K C σ ρ n' G' O' H' → Same G G' → Q b H') ∧ LkX K U C σ ρ E0
abbrev VPo (X : Cx) (U : WX) (e : Option Expr) (t : VP) : Prop := PO X e (upP X.K U t)
theorem po_imp {o : Option Expr} {t t' : TO} (h : PO X o t) (w : ∀ σ H Q, t' σ H Q → t σ H Q) : PO X o t' := by
  obtain ⟨h⟩ := h
  exact ⟨fun pins s σ H Q I q => h pins s σ H Q I (w _ _ _ q)⟩
def pN : VP := fun _ n Q _ => Q none n
def pS (te : VT) : VP := fun ρ n Q E => te ρ n (fun d n' => match d with | .int i => Q (some i) n' | _ => False) E
theorem vp_none : VPo X U none pN := po_imp po_none fun σ H Q ⟨C, ρ, n, G, O, Q0, E0, I, h, hq, he⟩ => hq _ n h G O H I (Same.refl _)
theorem vp_some (h : VE X U e te) : VPo X U (some e) (pS te) := po_imp (po_some h) fun σ H Q ⟨C, ρ, n, G, O, Q0, E0, I, h, hq, he⟩ => ⟨C, ρ, n, G, O, _, E0, I, h, fun d n' q v G' O' H' I' s' r => by
  cases d with
  | int i => cases r; exact ⟨i, rfl, hq _ n' q G' O' H' I' s'⟩
  | _ => exact q.elim, he⟩
def dSl (d : Dt) (lo hi : Option Int) (Q : Dt → Prop) : Prop := match d with
  | .tuple ds => Q (.tuple (cutD ds lo hi))
  | .list ds => Q (.list (cutD ds lo hi))
  | .str z => z.length ≤ sizeLine ∧ Q (.str (cutS z lo hi))
  | _ => False
def vSl (te : VT) (tl th : VP) : VT := fun ρ n Q E => te ρ n (fun d n1 => tl ρ n1 (fun lo n2 => th ρ n2 (fun hi n3 => dSl d lo hi fun d' => Q d' n3) E) E) E
def rSl (K : PySem.W.Frag) : V → Option Int → Option Int → Hp → VK → Prop := fun x lo hi H Q => ∃ G d Q0, Same G H ∧ DR K G x d ∧ dSl d lo hi Q0 ∧ ∀ d', Q0 d' → ∀ v G' H', Same H H' → Same G G' → Same G' H' → New G H G' → DR K G' v d' → Q v H'
theorem sl_D : SlR X (rSl X.K) := by
  have key : SlR X (fun x lo hi H Q => rSlA X.K x lo hi H Q ∨ rSlL X.K x lo hi H Q ∨ rSlS x lo hi H Q) := sl_tupA.or (sl_list.or sl_str)
  have imp : ∀ x lo hi H Q, rSl X.K x lo hi H Q → (rSlA X.K x lo hi H Q ∨ rSlL X.K x lo hi H Q ∨ rSlS x lo hi H Q) := by
    rintro x lo hi H Q ⟨G, d, Q0, sg, r, q, hq⟩
    cases d with
    | tuple ds =>
      cases r with
      | tup a1 q1 =>
        refine .inl ⟨_, _, rfl, sameT sg a1, fun e => ?_, fun e p hp => ?_⟩
        · have c : cutD ds lo hi = ds := by
            unfold cutD
            rw [← q1.length, e.1, e.2]
            simp [q1.length]
          exact hq _ q _ G H (Same.refl _) (Same.refl _) sg New.refl (by rw [c]; exact .tup a1 q1)
        · have n := gfree sg hp
          exact hq _ q _ (L2.upd G p _) _ (same_upd hp) (same_upd n) (same_upd2 sg) (new_upd hp) (.tup (SqT.of upd_same) (DRs.same (same_upd n) (q1.cut lo hi)))
    | list ds =>
      cases r with
      | lst a1 q1 =>
        refine .inr (.inl ⟨_, _, rfl, SqL.of (sg _ _ a1), fun p hp => ?_⟩)
        have n := gfree sg hp
        exact hq _ q _ (L2.upd G p _) _ (same_upd hp) (same_upd n) (same_upd2 sg) (new_upd hp) (.lst upd_same (DRs.same (same_upd n) (q1.cut lo hi)))
    | str z =>
      cases r
      exact .inr (.inr ⟨z, rfl, q.1, hq _ q.2 _ G H (Same.refl _) (Same.refl _) sg New.refl (.str _)⟩)
    | _ => exact q.elim
  intro pins s σ H x v vl vu lo hi sl Q I rx hs pl pu q
  exact key pins s σ H x v vl vu lo hi sl Q I rx hs pl pu (imp _ _ _ _ _ q)
theorem ve_slice {lo hi : Option Expr} {tl th : VP} (he : VE X U e te) (hl : VPo X U lo tl) (hu : VPo X U hi th) : VE X U (.Subscript e (.Slice lo hi none p2) pos) (vSl te tl th) :=
  pe_imp (pe_slice sl_D he hl hu) fun σ H Q ⟨C, ρ, n, G, O, Q0, E0, I, h, hq, hE⟩ => ⟨C, ρ, n, G, O, _, E0, I, h, fun d n1 h1 v G1 O1 H1 I1 s1 r1 => ⟨C, ρ, n1, G1, O1, _, E0, I1, h1, fun l n2 h2 G2 O2 H2 I2 s2 =>
    ⟨C, ρ, n2, G2, O2, _, E0, I2, h2, fun u n3 h3 G3 O3 H3 I3 s3 => ⟨G3, d, _, I3.gH, DR.same (s2.trans s3) r1, h3, fun d' q v' G' H' sh sg sgh nw rd => hq d' n3 q v' G' _ H' (I3.pure sh sg sgh nw) (((s1.trans s2).trans s3).trans sg) rd⟩, hE⟩, hE⟩, hE⟩
end
end VL


set_option maxRecDepth 100000
set_option maxHeartbeats 2000000
namespace VL
open PySem PySem.Spec PyProof.Rows L2
/-! ### built-in functions on data -/
abbrev RCD := List Dt → (Dt → Prop) → Prop
def liftC (K : PySem.W.Frag) (r : RCD) : List V → Hp → VK → Prop := fun xs H Q => ∃ G ds Q0, Same G H ∧ DRs K G xs ds ∧ r ds Q0 ∧ ∀ d, Q0 d → ∀ v G' H', Same H H' → Same G G' → Same G' H' → New G H G' → DR K G' v d → Q v H'
abbrev VCal (X : Cx) (f : Value) (r : RCD) : Prop := CallR X f (liftC X.K r)
def vCB (r : RCD) (al : VA) : VT := fun ρ n Q E => al ρ n (fun ds n' => r ds fun d => Q d n') E
section
variable {X : Cx} {U : WX} {a b e : Expr} {es : List Expr} {pos p : Pos} {ta tb te : VT} {al : VA} {x : Str} {id T : String} {r : RCD}
theorem up_cb : ∀ σ H Q, up X.K U (vCB r al) σ H Q → tCB (liftC X.K r) (upA X.K U al) σ H Q :=
  fun σ H Q ⟨C, ρ, n, G, O, Q0, E0, I, h, hq, he⟩ => ⟨C, ρ, n, G, O, _, E0, I, h, fun ds n1 h1 vs G1 O1 H1 I1 s1 r1 => ⟨G1, ds, _, I1.gH, r1, h1, fun d hd v G' H' sh sg sgh nw rd => hq d n1 hd v G' _ H' (I1.pure sh sg sgh nw) (s1.trans sg) rd⟩, he⟩
theorem ve_callB (hc : VCal X (.builtin id) r) (hg : Gl X x) (hm : X.mg x = none) (hv : bootBuiltins x = some (.builtin id)) (ha : VAa X U (e :: es) al) (hn : x ≠ "__name__" := by decide) (hdb : (x == ("__debug__" : Str)) = false := by decide)
    (he : starEach (e :: es) X.env = (false, eval e X.env) :: starEach es X.env := by rfl) (hpl : (backTo pos (starEach es X.env)).any (·.1) = false := by rfl) : VE X U (.Call (.Name x p) (e :: es) [] pos) (vCB r al) := pe_imp (pe_callB hc hg hm hv ha hn hdb he hpl) up_cb
theorem ve_callTy (hc : VCal X (.type T) r) (hg : Gl X x) (hm : X.mg x = none) (hv : bootBuiltins x = some (.type T)) (ha : VAa X U (e :: es) al) (hn : x ≠ "__name__" := by decide) (hdb : (x == ("__debug__" : Str)) = false := by decide)
    (he : starEach (e :: es) X.env = (false, eval e X.env) :: starEach es X.env := by rfl) (hpl : (backTo pos (starEach es X.env)).any (·.1) = false := by rfl) : VE X U (.Call (.Name x p) (e :: es) [] pos) (vCB r al) := pe_imp (pe_callTy hc hg hm hv ha hn hdb he hpl) up_cb
/-- a built-in that makes a new list -/
abbrev RCO := List Dt → (List Dt → Prop) → Prop
def liftO (K : PySem.W.Frag) (r : RCO) : List V → Hp → VK → Prop := fun xs H Q => ∃ G ds Q0, Same G H ∧ DRs K G xs ds ∧ r ds Q0 ∧ ∀ es, Q0 es → ∀ p ys, H p = none → DRs K G ys es → Q (.ref p) (L2.upd H p (.lst ys))
def vCO (r : RCO) (al : VA) : VA := fun ρ n Q E => al ρ n (fun ds n' => r ds fun es => Q es n') E
theorem up_co {r : RCO} : ∀ σ H Q, upO X.K U (vCO r al) σ H Q → tCB (liftO X.K r) (upA X.K U al) σ H Q :=
  fun σ H Q ⟨C, ρ, n, G, O, Q0, E0, I, h, hq, he⟩ => ⟨C, ρ, n, G, O, _, E0, I, h, fun ds n1 h1 vs G1 O1 H1 I1 s1 r1 => ⟨G1, ds, _, I1.gH, r1, h1, fun es hd p ys hp ry => hq es n1 hd p G1 _ _ (fresh_new I1 hp ry).1 s1 (fresh_new I1 hp ry).2⟩, he⟩
theorem vo_callTy {r : RCO} (hc : CallR X (.type T) (liftO X.K r)) (hg : Gl X x) (hm : X.mg x = none) (hv : bootBuiltins x = some (.type T)) (ha : VAa X U (e :: es) al) (hn : x ≠ "__name__" := by decide) (hdb : (x == ("__debug__" : Str)) = false := by decide)
    (he : starEach (e :: es) X.env = (false, eval e X.env) :: starEach es X.env := by rfl) (hpl : (backTo pos (starEach es X.env)).any (·.1) = false := by rfl) : VO X U (.Call (.Name x p) (e :: es) [] pos) (vCO r al) := pe_imp (pe_callTy hc hg hm hv ha hn hdb he hpl) up_co
theorem call_imp {f : Value} {r r' : List V → Hp → VK → Prop} (h : CallR X f r) (w : ∀ xs H Q, r' xs H Q → r xs H Q) : CallR X f r' := fun pins s σ H xs us Q I rv q => h pins s σ H xs us Q I rv (w _ _ _ q)
def bLen : RCD := fun ds Q => match ds with
  | [.tuple xs] => Q (.int (xs.length : Int))
  | [.list xs] => Q (.int (xs.length : Int))
  | [.str z] => z.length ≤ sizeLine ∧ Q (.int (z.length : Int))
  | _ => False
theorem c_len : VCal X (.builtin "len") bLen := call_imp (call_len_seq.or call_len_str) fun xs H Q ⟨G, ds, Q0, sg, r, q, hq⟩ => by
  match ds, r, q with
  | [.tuple ys], .cons (.tup a1 q1) .nil, q => exact .inl ⟨_, _, rfl, .inr (sameT sg a1), by rw [q1.length]; exact hq _ q _ G H (Same.refl _) (Same.refl _) sg New.refl (.int _)⟩
  | [.list ys], .cons (.lst a1 q1) .nil, q => exact .inl ⟨_, _, rfl, .inl (SqL.of (sg _ _ a1)), by rw [q1.length]; exact hq _ q _ G H (Same.refl _) (Same.refl _) sg New.refl (.int _)⟩
  | [.str z], .cons (.str _) .nil, q => exact .inr ⟨z, rfl, q.1, hq _ q.2 _ G H (Same.refl _) (Same.refl _) sg New.refl (.int _)⟩
def bMin2 : RCD := fun ds Q => match ds with
  | [.int i, .int j] => Q (.int (if j < i then j else i))
  | _ => False
def bMax2 : RCD := fun ds Q => match ds with
  | [.int i, .int j] => Q (.int (if j > i then j else i))
  | _ => False
theorem c_min2 (hc : X.calm = true) : VCal X (.builtin "min") bMin2 := call_imp (call_min2 hc) fun xs H Q ⟨G, ds, Q0, sg, r, q, hq⟩ => by
  match ds, r, q with
  | [.int i, .int j], .cons (.int _) (.cons (.int _) .nil), q => exact ⟨i, j, rfl, hq _ q _ G H (Same.refl _) (Same.refl _) sg New.refl (.int _)⟩
theorem c_max2 (hc : X.calm = true) : VCal X (.builtin "max") bMax2 := call_imp (call_max2 hc) fun xs H Q ⟨G, ds, Q0, sg, r, q, hq⟩ => by
  match ds, r, q with
  | [.int i, .int j], .cons (.int _) (.cons (.int _) .nil), q => exact ⟨i, j, rfl, hq _ q _ G H (Same.refl _) (Same.refl _) sg New.refl (.int _)⟩
def bAbs : RCD := fun ds Q => match ds with
  | [.int i] => Q (.int (if i < 0 then -i else i))
  | _ => False
theorem c_abs : VCal X (.builtin "abs") bAbs := call_imp call_abs fun xs H Q ⟨G, ds, Q0, sg, r, q, hq⟩ => by
  match ds, r, q with
  | [.int i], .cons (.int _) .nil, q => exact ⟨i, rfl, hq _ q _ G H (Same.refl _) (Same.refl _) sg New.refl (.int _)⟩
def bInt : RCD := fun ds Q => match ds with
  | [.int i] => Q (.int i)
  | _ => False
theorem c_int : VCal X (.type "int") bInt := call_imp call_int1 fun xs H Q ⟨G, ds, Q0, sg, r, q, hq⟩ => by
  match ds, r, q with
  | [.int i], .cons (.int _) .nil, q => exact .inl ⟨i, rfl, hq _ q _ G H (Same.refl _) (Same.refl _) sg New.refl (.int _)⟩
def bStr : RCD := fun ds Q => match ds with
  | [.int i] => i.natAbs.log2 < 1920 ∧ Q (.str (toString i))
  | _ => False
theorem c_str : VCal X (.type "str") bStr := call_imp call_str_int fun xs H Q ⟨G, ds, Q0, sg, r, q, hq⟩ => by
  match ds, r, q with
  | [.int i], .cons (.int _) .nil, q => exact ⟨i, rfl, q.1, hq _ q.2 _ G H (Same.refl _) (Same.refl _) sg New.refl (.str _)⟩
def bTuple : RCD := fun ds Q => match ds with
  | [.tuple xs] => Q (.tuple xs)
  | [.list xs] => Q (.tuple xs)
  | _ => False
theorem c_tuple : VCal X (.type "tuple") bTuple := call_imp call_tuple_of fun xs H Q ⟨G, ds, Q0, sg, r, q, hq⟩ => by
  match ds, r, q with
  | [.tuple ys], .cons (.tup a1 q1) .nil, q => exact ⟨_, _, rfl, .inr ⟨sameT sg a1, hq _ q _ G H (Same.refl _) (Same.refl _) sg New.refl (.tup a1 q1)⟩⟩
  | [.list ys], .cons (.lst a1 q1) .nil, q => exact ⟨_, _, rfl, .inl ⟨SqL.of (sg _ _ a1), fun p hp => hq _ q _ (L2.upd G p _) _ (same_upd hp) (same_upd (gfree sg hp)) (same_upd2 sg) (new_upd hp) (.tup (SqT.of upd_same) (DRs.same (same_upd (gfree sg hp)) q1))⟩⟩
def bList : RCO := fun ds Q => match ds with
  | [.tuple xs] => Q xs
  | [.list xs] => Q xs
  | _ => False
theorem c_list : CallR X (.type "list") (liftO X.K bList) := call_imp call_list_of fun xs H Q ⟨G, ds, Q0, sg, r, q, hq⟩ => by
  match ds, r, q with
  | [.tuple ys], .cons (.tup a1 q1) .nil, q => exact ⟨_, _, rfl, .inr (sameT sg a1), fun p hp => hq _ q p _ hp q1⟩
  | [.list ys], .cons (.lst a1 q1) .nil, q => exact ⟨_, _, rfl, .inl (SqL.of (sg _ _ a1)), fun p hp => hq _ q p _ hp q1⟩
def intsD : List Dt → Option (List Int)
  | [] => some []
  | .int i :: r => (intsD r).map (i :: ·)
  | _ => none
theorem intsD_map : ∀ ns : List Int, intsD (ns.map PyData.int) = some ns
  | [] => rfl
  | n :: ns => by simp [intsD, intsD_map ns]
theorem intsD_ok : ∀ {ds : List Dt} {ns : List Int}, intsD ds = some ns → ds = ns.map PyData.int
  | [], _, h => by cases h; rfl
  | .int i :: r, ns, h => by
    unfold intsD at h
    cases q : intsD r with
    | none => rw [q] at h; cases h
    | some ms => rw [q] at h; cases h; rw [intsD_ok q]; rfl
  | .none :: _, _, h | .bool _ :: _, _, h | .str _ :: _, _, h | .list _ :: _, _, h | .tuple _ :: _, _, h | .dict _ :: _, _, h => by cases h
theorem DRs.ints_of {K : PySem.W.Frag} {G : Hp} : ∀ {ns : List Int} {vs : List V}, DRs K G vs (ns.map PyData.int) → vs = ns.map V.int
  | [], _, h => by cases h; rfl
  | n :: ns, _, h => by
    cases h with
    | cons a r => cases a; rw [DRs.ints_of r]; rfl
theorem DRs.bools_of {K : PySem.W.Frag} {G : Hp} : ∀ {ns : List Bool} {vs : List V}, DRs K G vs (ns.map PyData.bool) → vs = ns.map V.bl
  | [], _, h => by cases h; rfl
  | n :: ns, _, h => by
    cases h with
    | cons a r => cases a; rw [DRs.bools_of r]; rfl
def bSum : RCD := fun ds Q => match ds with
  | [.list xs] => ∃ ns, intsD xs = some ns ∧ Q (.int ns.sum)
  | _ => False
theorem c_sum (hc : X.calm = true) : VCal X (.builtin "sum") bSum := call_imp (cr_sum hc) fun xs H Q ⟨G, ds, Q0, sg, r, q, hq⟩ => by
  match ds, r, q with
  | [.list ys], .cons (.lst a1 q1) .nil, ⟨ns, e, q⟩ =>
    have e' := intsD_ok e
    subst e'
    have e2 := q1.ints_of
    subst e2
    exact ⟨_, ns, rfl, SqL.of (sg _ _ a1), hq _ q _ G H (Same.refl _) (Same.refl _) sg New.refl (.int _)⟩
def bAll : RCD := fun ds Q => match ds with
  | [.list xs] => ∃ bs : List Bool, xs = bs.map PyData.bool ∧ Q (.bool (bs.all _root_.id))
  | _ => False
theorem c_all (hc : X.calm = true) : VCal X (.builtin "all") bAll := call_imp (cr_all hc) fun xs H Q ⟨G, ds, Q0, sg, r, q, hq⟩ => by
  match ds, r, q with
  | [.list ys], .cons (.lst a1 q1) .nil, ⟨bs, e, q⟩ =>
    subst e
    have e2 := q1.bools_of
    subst e2
    exact ⟨_, bs, rfl, SqL.of (sg _ _ a1), hq _ q _ G H (Same.refl _) (Same.refl _) sg New.refl (.bl _)⟩
/-! ### repr -/
def bRepr : RCD := fun ds Q => match ds with
  | [d] => d.hasDict = false ∧ d.showable = true ∧ d.shown.length ≤ sizeLine ∧ d.depth ≤ 60 ∧ Q (.str d.shown)
  | _ => False
theorem c_repr (hG : X.A.guards = some []) (hu : X.A.units + 64 < cLine) : VCal X (.builtin "repr") bRepr := by
  intro pins s σ H xs us Q I rv ⟨G, ds, Q0, sg, r, q, hq⟩
  match ds, r, q with
  | [d], .cons r1 .nil, ⟨nd, h1, h2, h3, q⟩ =>
    cases rv with
    | cons rv1 rv2 =>
      cases rv2
      have fin : ∀ h' u tk, (∀ b o, s.heap.get? b = some o → h'.get? b = some o) → EP X pins σ Q (.str d.shown u) { s with heap := h', toks := tk } := fun h' u tk hk =>
        ⟨.str d.shown, H, I.kept hk, ⟨u, rfl⟩, hq _ q _ G H (Same.refl _) (Same.refl _) sg New.refl (.str _)⟩
      obtain ⟨as, rd⟩ := Dp.reads I d _ _ (DR.dp nd (DR.same sg r1)) rv1
      cases d with
      | none => cases r1; cases rv1; exact PySem.P.repr_of_none (fin _ _ _ fun _ _ e => e)
      | bool b => cases r1; cases rv1; exact PySem.P.repr_of_bool (fin _ _ _ fun _ _ e => e)
      | int i =>
        cases r1
        obtain ⟨t, rfl⟩ := rv1
        have h1' : i.natAbs.log2 < 1920 := by simpa [PyData.showable] using h1
        exact PySem.P.repr_of_int h1' (fin _ _ _ fun _ _ e => e)
      | str z =>
        cases r1
        obtain ⟨t, rfl⟩ := rv1
        exact PySem.P.repr_of_str (fin _ _ _ fun _ _ e => e) h2
      | list ds =>
        cases r1
        cases rv1
        exact repr_of_reads' rd h1 (fun z => by rw [nd] at z; cases z) hG (by omega) (fun _ _ e => e) fin h2
      | tuple ds =>
        cases r1
        cases rv1
        exact repr_of_reads' rd h1 (fun z => by rw [nd] at z; cases z) hG (by omega) (fun _ _ e => e) fin h2
      | dict kvs => simp [PyData.hasDict] at nd
/-! ### isinstance -/
def tyN : Dt → String
  | .none => "NoneType"
  | .bool _ => "bool"
  | .int _ => "int"
  | .str _ => "str"
  | .list _ => "list"
  | .tuple _ => "tuple"
  | .dict _ => "dict"
def isiD (T : String) (d : Dt) : Bool := tyN d == T || (T == "int" && tyN d == "bool")
/-- the answers of the written part -/
def KitOk (K : PySem.W.Frag) (T : String) : Prop := ∀ t ∈ ["NoneType", "bool", "int", "str", "list", "tuple", "dict"], PySem.W.kitOne K (.type t) (.type T) = some (t == T || (T == "int" && t == "bool"))
theorem DR.tyX {K : PySem.W.Frag} {G H : Hp} {v : V} {d : Dt} (r : DR K G v d) (s : Same G H) : TyX K H v (.type (tyN d)) := by
  cases d with
  | none => cases r; exact .base .non
  | bool b => cases r; exact .base (.bl b)
  | int i => cases r; exact .base (.int i)
  | str z => cases r; exact .base (.str z)
  | list ds => cases r with | lst a _ => exact .base (.lst (s _ _ a))
  | tuple ds =>
    cases r with
    | tup a _ =>
      rcases a with (a | ⟨o, a⟩) | ⟨o, its, n, hk, hc, _⟩
      · exact .base (.tup (s _ _ a))
      · exact .fTuple (s _ _ a)
      · exact .kTuple hk hc
  | dict _ => cases r with | dic a => exact .base (.dK (s _ _ a))
def vIsi (T : String) (te : VT) : VT := fun ρ n Q E => te ρ n (fun d n' => Q (.bool (isiD T d)) n') E
theorem ve_isi {y : Str} {p2 p3 : Pos} (hg : Gl X "isinstance") (hm : X.mg "isinstance" = none) (hg2 : Gl X y) (hm2 : X.mg y = none) (hv2 : bootBuiltins y = some (.type T)) (hk : KitOk X.K T) (ha : VE X U e te)
    (hv : bootBuiltins "isinstance" = some (.builtin "isinstance") := by decide +kernel) (hn : y ≠ "__name__" := by decide) (hdb : (y == ("__debug__" : Str)) = false := by decide)
    (he : starEach [e, .Name y p2] X.env = (false, eval e X.env) :: starEach [.Name y p2] X.env := by rfl) (he2 : starEach [.Name y p2] X.env = (false, eval (.Name y p2) X.env) :: starEach [] X.env := by rfl) (hpl : (backTo pos (starEach [.Name y p2] X.env)).any (·.1) = false := by rfl) :
    VE X U (.Call (.Name "isinstance" p3) [e, .Name y p2] [] pos) (vIsi T te) :=
  pe_imp (pe_callB call_isi hg hm hv (pa_cons ha (pa_cons (pe_bltn (v := .ty T) hg2 hm2 hv2 rfl hn hdb) pa_nil he2) he) (by decide) (by decide) he hpl) fun σ H Q ⟨C, ρ, n, G, O, Q0, E0, I, h, hq, hE⟩ => ⟨C, ρ, n, G, O, _, E0, I, h, fun d n' q v G' O' H' I' s' r =>
    ⟨v, .ty T, .type (tyN d), .type T, isiD T d, rfl, .ty T, r.tyX I'.gH, hk _ (by cases d <;> first | (cases r; done) | simp [tyN]), hq _ n' q _ G' O' H' I' s' (.bl _)⟩, hE⟩
end
end VL


set_option maxRecDepth 100000
set_option maxHeartbeats 2000000
namespace VL
open PySem PySem.Spec PyProof.Rows L2
/-! ### enumerate of a tuple -/
def IteT (K : PySem.W.Frag) (a : Addr) : It :=
  ⟨fun i H => ∃ (xs : List V) (x : V), SqT K H a xs ∧ xs[i]? = some x, fun i H v H' => ∃ T x, v = .ref T ∧ H T = none ∧ H' = L2.upd H T (.tup [.int (i : Nat), x]) ∧ ∀ xs, SqT K H a xs → xs[i]? = some x, fun i H => ∃ xs : List V, SqT K H a xs ∧ xs.length = i⟩
def TnT (a e it : Addr) (i : Nat) (h : Heap) : Prop := (∃ old, IsEnum h e it (0 + (i : Int)) old) ∧ h.IsTupleIter it a i ∧ e ≠ it ∧ a ≠ it ∧ e ≠ a
theorem turn_enumT {P : Program} {w : World} {K : PySem.W.Frag} {elts : List Expr} {kk : Nat} {tpos : Pos} (a e it : Addr) : Turn P w K (.Tuple elts kk tpos) (IteT K a) [e, it] e (TnT a e it) where
  mem := by simp
  obj := fun i h st b hb => by
    obtain ⟨⟨old, he⟩, ⟨o, ho, hc, hd⟩, _⟩ := st
    rcases (show b = e ∨ b = it by simpa using hb) with z | z
    · subst z; exact ⟨_, he, fun v q => nomatch q⟩
    · subst z; exact ⟨o, ho, fun v q => by rw [hd] at q; cases q⟩
  keep := fun i h h' st k => by
    obtain ⟨⟨old, he⟩, hi, r⟩ := st
    exact ⟨⟨old, k e (by simp) _ he⟩, hi.at fun o q => k it (by simp) o q, r⟩
  item := by
    intro X hP hw hK hc i pins s σ H E I hf st hg
    subst hP hw hK
    obtain ⟨he, hit, n1, n2, n3⟩ := st
    obtain ⟨xs, x, hq, hx⟩ := hg
    obtain ⟨its, rv, tp, hz⟩ := I.tuple hq
    obtain ⟨u, hu, ru⟩ := rv.get hx
    have hlt : i < its.toArray.size := by
      have := (List.getElem?_eq_some_iff.mp hu).1
      simpa using this
    have hh : X.A.in1.handled = none := I.ok.hd hc
    have W := GoesN.enumFrom (prog := X.prog) (w := X.w) (A := X.A) (elts := elts) (x1 := kk) (pos := tpos) 0 (Draws.tuple hh it a n2 its.toArray) e n1 (by simp [n1, n3]) (by simp)
    refine W.goes i s _ E hlt ⟨he, hit, tp⟩ fun v h' tk hY st' hk htk => ?_
    obtain ⟨T, t, y, rfl, hT, hy, hTup⟩ := hY
    have ey : y = u := by
      have e1 : its.toArray[i]? = some y := hy
      rw [show its.toArray[i]? = its[i]? by simp, hu] at e1
      exact (Option.some.inj e1).symm
    subst ey
    have new : ObjOk X.prog X.w (L2.upd H T (.tup [.int (i : Nat), x])) h' T (.tup [.int (i : Nat), x]) :=
      ⟨by show 2 ≤ sizeLine; decide, [.int (0 + (i : Int)) t, y], .cons ⟨t, by simp⟩ (.cons ru .nil), hTup⟩
    have hlte : e < s.heap.objs.size := by obtain ⟨_, q⟩ := he; exact Heap.lt_size q
    have hlti : it < s.heap.objs.size := by obtain ⟨_, q, _⟩ := hit; exact Heap.lt_size q
    refine ⟨.ref T, _, I.turnedNew (ch := [e, it]) (fun b ob hb q => hk b ob hb q) hf hT new, rfl, ⟨T, x, rfl, I.hok.fresh hT, rfl, fun ys hy => by rw [I.tuple_inj hy hq]; exact hx⟩, ⟨st'.1, st'.2.1, n1, n2, n3⟩, fun b hb => ?_⟩
    have hb' : b < T := by
      rcases (show b = e ∨ b = it by simpa using hb) with z | z
      · subst z; exact Nat.lt_of_lt_of_le hlte hT
      · subst z; exact Nat.lt_of_lt_of_le hlti hT
    rw [upd_ne (Nat.ne_of_lt hb')]
    exact (hf b hb).1
  done := by
    intro X hP hw hK hc i pins s σ H E I hf st hg
    subst hP hw hK
    obtain ⟨he, hit, n1, n2, n3⟩ := st
    obtain ⟨xs, hq, hx⟩ := hg
    obtain ⟨its, rv, tp, hz⟩ := I.tuple hq
    have hh : X.A.in1.handled = none := I.ok.hd hc
    have W := GoesN.enumFrom (prog := X.prog) (w := X.w) (A := X.A) (elts := elts) (x1 := kk) (pos := tpos) 0 (Draws.tuple hh it a n2 its.toArray) e n1 (by simp [n1, n3]) (by simp)
    have ei : its.toArray.size = i := by rw [← hx, rv.length]; simp
    refine W.stops s (fun s1 => Inv X pins σ H s1) E ?_ fun h' tk hk htk => ?_
    · rw [ei]; exact ⟨he, hit, tp⟩
    · exact I.turnedL (ch := [e, it]) (fun b ob hb q => hk b ob hb q) hf
  self := fun A i s Q E st h => by
    obtain ⟨⟨_, he⟩, _⟩ := st
    exact wpAny_pyIter_enum he h
set_option maxHeartbeats 4000000 in
theorem enum_new1 {v : Value} {o : Obj} {B : Heap → Prop} (G : Begins v o B) : Meets (Builtin.«enumerate.__new__» ⟨[.type "enumerate", v], []⟩) (fun _ R s => B s.heap ∧
    R (.ok (.ret (.ref (s.heap.push o).objs.size))) { s with heap := (s.heap.push o).push { cls := .type "enumerate", data := .fields #[.none, .bool false, .ref s.heap.objs.size, rawInt 0, .none, .none] } }) :=
  .of_wp fun prog w A R s h => by
    obtain ⟨hp, g, d, tk, os⟩ := s
    obtain ⟨hb, h⟩ := h
    have hsub := sub_enumerate
    have go : ∀ {A' : Around} {E : Value → Shared → Prop} {Q : Value → Shared → Prop}, Q (.ref hp.objs.size) ⟨hp.push o, g, d, tk, os⟩ → wpAny (model prog w) A' (pyIter v) Q E ⟨hp, g, d, tk, os⟩ := fun q => G.iter prog w _ _ ⟨hp, g, d, tk, os⟩ _ hb q
    wp_walk using go
    refine wpAny_stack_any fun st => wpAny_pure ?_
    split
    · rename_i c _ _ _ _ _
      cases (c == Value.type "enumerate") <;> (wp_walk using go; exact ⟨_, rfl, h⟩)
    · wp_walk using go
      exact ⟨_, rfl, h⟩
theorem call_enum1 {prog : Program} {w : World} {A : Around} {E : Value → Shared → Prop} {s : Shared} {v : Value} {o : Obj} {B : Heap → Prop} {Q : Value → Shared → Prop} (G : Begins v o B) (hb : B s.heap)
    (h : ∀ h', IsEnum h' (s.heap.objs.size + 1) s.heap.objs.size 0 .none → h'.get? s.heap.objs.size = some o → (∀ b u, s.heap.get? b = some u → h'.get? b = some u) → Q (.ref (s.heap.objs.size + 1)) { s with heap := h' }) :
    wpAny (model prog w) A (call (.type "enumerate") [v]) Q E s := by
  refine callType_new F.called_enumerate (by decide) (F.typeCall_enumerate_1 _) (F.newCall_enumerate_1 _) (fun obj => F.args_object_init_2 obj _) F.entry_enumerate_new (enum_new1 G) ⟨hb, ?_⟩
  have sz : (s.heap.push o).objs.size = s.heap.objs.size + 1 := Heap.size_push ..
  have ie : IsEnum ((s.heap.push o).push { cls := .type "enumerate", data := .fields #[.none, .bool false, .ref s.heap.objs.size, rawInt 0, .none, .none] }) (s.heap.objs.size + 1) s.heap.objs.size 0 .none := by
    rw [← sz]
    exact Heap.get?_push_size (s.heap.push o) rfl
  rw [sz]
  exact ⟨⟨_, ie, rfl⟩, h _ ie (Heap.get?_push_of_some _ (Heap.get?_push_size _ G.free)) fun b u q => Heap.get?_push_of_some _ (Heap.get?_push_of_some _ q)⟩
def iEnumT (K : PySem.W.Frag) (ta : TA) : TI := fun σ H R => ta σ H fun vs H1 => ∃ a xs, vs = [.ref a] ∧ SqT K H1 a xs ∧ R (IteT K a) H1
theorem pi_enumT {X : Cx} {e : Expr} {ta : TA} {p pos tpos : Pos} {elts : List Expr} {kk : Nat} (hg : Gl X "enumerate") (hm : X.mg "enumerate" = none) (ha : PA X [e] ta) (hs : starEach [e] X.env = [(false, eval e X.env)] := by rfl) :
    PI X (.Tuple elts kk tpos) (.Call (.Name "enumerate" p) [e] [] pos) (iEnumT X.K ta) := by
  constructor
  intro pins s σ H R I h
  refine Call_ (ld_blt I hg hm boot_enumerate (PyProof.Rows.callWith_type1 (thn (ha.run pos pins s σ H _ I h) fun us s1 z => ?_) hs rfl))
  obtain ⟨vs, H1, I1, r1, a, xs, ex, hq, q⟩ := z
  subst ex
  cases r1 with
  | cons r rr =>
    cases rr
    cases r
    obtain ⟨its, rv, tp, hz⟩ := I1.tuple hq
    have alt : a < s1.heap.objs.size := by obtain ⟨o, ho, _⟩ := tp; exact Heap.lt_size ho
    refine call_enum1 (begins_tuple a its.toArray) tp fun h' he hit hk => wpAny_pyIter_enum he ?_
    have I2 : Inv X pins σ H1 { s1 with heap := h' } := I1.kept (t' := s1.toks) hk
    refine ⟨s1.heap.objs.size + 1, [s1.heap.objs.size + 1, s1.heap.objs.size], _, _, H1, rfl, I2, turn_enumT a (s1.heap.objs.size + 1) s1.heap.objs.size, ⟨⟨.none, he⟩, ⟨_, hit, rfl, rfl⟩, Nat.succ_ne_self _, Nat.ne_of_lt alt, Nat.ne_of_gt (Nat.lt_succ_of_lt alt)⟩, fun b hb => ?_, q⟩
    have hle : s1.heap.objs.size ≤ b := by
      rcases (show b = s1.heap.objs.size + 1 ∨ b = s1.heap.objs.size by simpa using hb) with z | z
      · rw [z]; exact Nat.le_add_right _ _
      · rw [z]; exact Nat.le_refl _
    exact I1.fpOk hle (I1.hok.fresh hle)
/-! ### what is walked, as data -/
structure WalkD (K : PySem.W.Frag) (J : It) (G : Hp) (ds : List Dt) : Prop where
  stop : ∀ H, Same G H → J.stop ds.length H
  go : ∀ i H, Same G H → i < ds.length → J.go i H
  yld : ∀ i H x H' G1 d, Same G G1 → Same G1 H → J.yld i H x H' → ds[i]? = some d → ∃ G2, Same H H' ∧ Same G1 G2 ∧ Same G2 H' ∧ New G1 H G2 ∧ DR K G2 x d
def upI (K : PySem.W.Frag) (U : WX) (t : VA) : TI := fun σ H R => ∃ (C : Ct) (ρ : Nv) (n : Nat) (G O : Hp) (Q0 : List Dt → Nat → Prop) (E0 : XW), In K C σ ρ n G O H ∧ t ρ n Q0 E0 ∧
  (∀ ds n', Q0 ds n' → ∀ J G' O' H', In K C σ ρ n' G' O' H' → Same G G' → WalkD K J G' ds → R J H') ∧ LkX K U C σ ρ E0
abbrev VI (X : Cx) (U : WX) (tg iter : Expr) (t : VA) : Prop := PI X tg iter (upI X.K U t)
theorem pi_imp {X : Cx} {tg iter : Expr} {t t' : TI} (h : PI X tg iter t) (w : ∀ σ H R, t' σ H R → t σ H R) : PI X tg iter t' := by
  obtain ⟨h⟩ := h
  exact ⟨fun pins s σ H R I q => h pins s σ H R I (w _ _ _ q)⟩
section
variable {X : Cx} {U : WX} {tg e : Expr} {pos p tpos : Pos} {te : VT} {al : VA} {elts : List Expr} {kk : Nat}
theorem walkD_tup {K : PySem.W.Frag} {G : Hp} {a : Addr} {xs : List V} {ds : List Dt} (h : SqT K G a xs) (r : DRs K G xs ds) : WalkD K (Itt K a) G ds where
  stop := fun H s => ⟨xs, sameT s h, Nat.le_of_eq r.length⟩
  go := fun i H s hi => ⟨xs, xs[i]'(by rw [r.length]; exact hi), sameT s h, by simp⟩
  yld := fun i H x H' G1 d s1 s2 y e => by
    obtain ⟨e1, y⟩ := y
    subst e1
    obtain ⟨v, hv, rv⟩ := r.get e
    have := y xs (sameT (s1.trans s2) h)
    rw [hv] at this
    cases this
    exact ⟨G1, Same.refl _, Same.refl _, s2, New.refl, DR.same s1 rv⟩
theorem walkD_lst {K : PySem.W.Frag} {G : Hp} {a : Addr} {xs : List V} {ds : List Dt} (h : G a = some (.lst xs)) (r : DRs K G xs ds) : WalkD K (Itl K a) G ds where
  stop := fun H s => ⟨xs, SqL.of (s _ _ h), Nat.le_of_eq r.length⟩
  go := fun i H s hi => ⟨xs, xs[i]'(by rw [r.length]; exact hi), SqL.of (s _ _ h), by simp⟩
  yld := fun i H x H' G1 d s1 s2 y e => by
    obtain ⟨e1, y⟩ := y
    subst e1
    obtain ⟨v, hv, rv⟩ := r.get e
    have := y xs (SqL.of ((s1.trans s2) _ _ h))
    rw [hv] at this
    cases this
    exact ⟨G1, Same.refl _, Same.refl _, s2, New.refl, DR.same s1 rv⟩
def itemsT (Q : List Dt → Prop) : Dt → Prop
  | .tuple ds => Q ds
  | _ => False
def itemsL (Q : List Dt → Prop) : Dt → Prop
  | .list ds => Q ds
  | _ => False
def iT (te : VT) : VA := fun ρ n Q E => te ρ n (fun d n' => itemsT (fun ds => Q ds n') d) E
def iL (te : VT) : VA := fun ρ n Q E => te ρ n (fun d n' => itemsL (fun ds => Q ds n') d) E
theorem vi_tup (h : VE X U e te) : VI X U tg e (iT te) := pi_imp (pi_tup h) fun σ H R ⟨C, ρ, n, G, O, Q0, E0, I, h, hq, he⟩ => ⟨C, ρ, n, G, O, _, E0, I, h, fun d n' q v G' O' H' I' s' r => by
  cases d with
  | tuple ds => cases r with | tup a r => exact ⟨_, rfl, ⟨_, sameT I'.gH a⟩, hq ds n' q _ G' O' H' I' s' (walkD_tup a r)⟩
  | _ => exact q.elim, he⟩
theorem vi_lst (h : VE X U e te) : VI X U tg e (iL te) := pi_imp (pi_list h) fun σ H R ⟨C, ρ, n, G, O, Q0, E0, I, h, hq, he⟩ => ⟨C, ρ, n, G, O, _, E0, I, h, fun d n' q v G' O' H' I' s' r => by
  cases d with
  | list ds => cases r with | lst a r => exact ⟨_, rfl, ⟨_, SqL.of (I'.gH _ _ a)⟩, hq ds n' q _ G' O' H' I' s' (walkD_lst a r)⟩
  | _ => exact q.elim, he⟩
/-- range -/
def rngD (lo : Int) (n : Nat) : List Dt := (List.range n).map fun i : Nat => PyData.int (lo + i)
theorem rngD_length (lo : Int) (n : Nat) : (rngD lo n).length = n := by simp [rngD]
theorem rngD_get {lo : Int} {n i : Nat} {d : Dt} (h : (rngD lo n)[i]? = some d) : d = .int (lo + i) := by
  unfold rngD at h
  rw [List.getElem?_map] at h
  cases q : (List.range n)[i]? with
  | none => rw [q] at h; cases h
  | some k =>
    rw [q] at h
    cases h
    rw [(List.getElem?_eq_some_iff.mp q).2.symm]
    simp
theorem walkD_rng {K : PySem.W.Frag} {G : Hp} {lo : Int} {n : Nat} : WalkD K (Itr lo n) G (rngD lo n) where
  stop := fun H s => by rw [rngD_length]; exact Nat.le_refl _
  go := fun i H s hi => by rw [rngD_length] at hi; exact hi
  yld := fun i H x H' G1 d s1 s2 y e => by
    obtain ⟨e1, y⟩ := y
    subst e1
    subst y
    rw [rngD_get e]
    exact ⟨G1, Same.refl _, Same.refl _, s2, New.refl, .int _⟩
def rng1 (Q : List Dt → Prop) (ds : List Dt) : Prop := match ds with
  | [.int j] => -(2 ^ 62) ≤ j ∧ j < 2 ^ 62 ∧ Q (rngD 0 j.toNat)
  | _ => False
def rng2 (Q : List Dt → Prop) (ds : List Dt) : Prop := match ds with
  | [.int i, .int j] => (-(2 ^ 62) ≤ i ∧ i < 2 ^ 62 ∧ -(2 ^ 62) ≤ j ∧ j < 2 ^ 62) ∧ Q (rngD i (j - i).toNat)
  | _ => False
def iR1 (al : VA) : VA := fun ρ n Q E => al ρ n (fun ds n' => rng1 (fun r => Q r n') ds) E
def iR2 (al : VA) : VA := fun ρ n Q E => al ρ n (fun ds n' => rng2 (fun r => Q r n') ds) E
theorem vi_range1 {a : Expr} (hg : Gl X "range") (hm : X.mg "range" = none) (ha : VAa X U [a] al) (hs : starEach [a] X.env = [(false, eval a X.env)] := by rfl) : VI X U tg (.Call (.Name "range" p) [a] [] pos) (iR1 al) :=
  pi_imp (pi_range1 hg hm ha hs) fun σ H R ⟨C, ρ, n, G, O, Q0, E0, I, h, hq, he⟩ => ⟨C, ρ, n, G, O, _, E0, I, h, fun ds n' q vs G' O' H' I' s' r => by
    match ds, r, q with
    | [.int j], .cons (.int _) .nil, q => exact ⟨j, rfl, q.1, q.2.1, hq _ n' q.2.2 _ G' O' H' I' s' walkD_rng⟩, he⟩
theorem vi_range2 {a b : Expr} (hg : Gl X "range") (hm : X.mg "range" = none) (ha : VAa X U [a, b] al) (hs : starEach [a, b] X.env = [(false, eval a X.env), (false, eval b X.env)] := by rfl) (hs2 : starEach [b] X.env = [(false, eval b X.env)] := by rfl) : VI X U tg (.Call (.Name "range" p) [a, b] [] pos) (iR2 al) :=
  pi_imp (pi_range2 hg hm ha hs hs2) fun σ H R ⟨C, ρ, n, G, O, Q0, E0, I, h, hq, he⟩ => ⟨C, ρ, n, G, O, _, E0, I, h, fun ds n' q vs G' O' H' I' s' r => by
    match ds, r, q with
    | [.int i, .int j], .cons (.int _) (.cons (.int _) .nil), q => exact ⟨i, j, rfl, q.1, hq _ n' q.2 _ G' O' H' I' s' walkD_rng⟩, he⟩
/-- enumerate -/
def enumD (ds : List Dt) : List Dt := ds.mapIdx fun i d => PyData.tuple [.int (i : Int), d]
theorem enumD_length (ds : List Dt) : (enumD ds).length = ds.length := by simp [enumD]
theorem enumD_get {ds : List Dt} {i : Nat} {d : Dt} (h : (enumD ds)[i]? = some d) : ∃ x, ds[i]? = some x ∧ d = .tuple [.int (i : Int), x] := by
  unfold enumD at h
  rw [List.getElem?_mapIdx] at h
  cases q : ds[i]? with
  | none => rw [q] at h; cases h
  | some x => rw [q] at h; cases h; exact ⟨x, rfl, rfl⟩
theorem walkD_enumT {K : PySem.W.Frag} {G : Hp} {a : Addr} {xs : List V} {ds : List Dt} (h : SqT K G a xs) (r : DRs K G xs ds) : WalkD K (IteT K a) G (enumD ds) where
  stop := fun H s => ⟨xs, sameT s h, by rw [enumD_length]; exact r.length⟩
  go := fun i H s hi => ⟨xs, xs[i]'(by rw [r.length]; rw [enumD_length] at hi; exact hi), sameT s h, by simp⟩
  yld := fun i H x H' G1 d s1 s2 y e => by
    obtain ⟨T, z, e1, hT, e2, y⟩ := y
    subst e1 e2
    obtain ⟨dx, hx, rfl⟩ := enumD_get e
    obtain ⟨v, hv, rv⟩ := r.get hx
    have := y xs (sameT (s1.trans s2) h)
    rw [hv] at this
    cases this
    have n := gfree s2 hT
    exact ⟨L2.upd G1 T _, same_upd hT, same_upd n, same_upd2 s2, new_upd hT, .tup (SqT.of upd_same) (.cons (.int _) (.cons (DR.same (s1.trans (same_upd n)) rv) .nil))⟩
theorem walkD_enumL {K : PySem.W.Frag} {G : Hp} {a : Addr} {xs : List V} {ds : List Dt} (h : G a = some (.lst xs)) (r : DRs K G xs ds) : WalkD K (Ite K a) G (enumD ds) where
  stop := fun H s => ⟨xs, SqL.of (s _ _ h), by rw [enumD_length]; exact Nat.le_of_eq r.length⟩
  go := fun i H s hi => ⟨xs, xs[i]'(by rw [r.length]; rw [enumD_length] at hi; exact hi), SqL.of (s _ _ h), by simp⟩
  yld := fun i H x H' G1 d s1 s2 y e => by
    obtain ⟨T, z, e1, hT, e2, y⟩ := y
    subst e1 e2
    obtain ⟨dx, hx, rfl⟩ := enumD_get e
    obtain ⟨v, hv, rv⟩ := r.get hx
    have := y xs (SqL.of ((s1.trans s2) _ _ h))
    rw [hv] at this
    cases this
    have n := gfree s2 hT
    exact ⟨L2.upd G1 T _, same_upd hT, same_upd n, same_upd2 s2, new_upd hT, .tup (SqT.of upd_same) (.cons (.int _) (.cons (DR.same (s1.trans (same_upd n)) rv) .nil))⟩
def iET (al : VA) : VA := fun ρ n Q E => al ρ n (fun ds n' => match ds with
  | [.tuple xs] => Q (enumD xs) n'
  | _ => False) E
def iEL (al : VA) : VA := fun ρ n Q E => al ρ n (fun ds n' => match ds with
  | [.list xs] => Q (enumD xs) n'
  | _ => False) E
theorem vi_enumT (hg : Gl X "enumerate") (hm : X.mg "enumerate" = none) (ha : VAa X U [e] al) (hs : starEach [e] X.env = [(false, eval e X.env)] := by rfl) : VI X U (.Tuple elts kk tpos) (.Call (.Name "enumerate" p) [e] [] pos) (iET al) :=
  pi_imp (pi_enumT hg hm ha hs) fun σ H R ⟨C, ρ, n, G, O, Q0, E0, I, h, hq, he⟩ => ⟨C, ρ, n, G, O, _, E0, I, h, fun ds n' q vs G' O' H' I' s' r => by
    match ds, r, q with
    | [.tuple xs], .cons (.tup a r1) .nil, q => exact ⟨_, _, rfl, sameT I'.gH a, hq _ n' q _ G' O' H' I' s' (walkD_enumT a r1)⟩, he⟩
theorem vi_enumL (hg : Gl X "enumerate") (hm : X.mg "enumerate" = none) (ha : VAa X U [e] al) (hs : starEach [e] X.env = [(false, eval e X.env)] := by rfl) : VI X U (.Tuple elts kk tpos) (.Call (.Name "enumerate" p) [e] [] pos) (iEL al) :=
  pi_imp (pi_enum hg hm ha hs) fun σ H R ⟨C, ρ, n, G, O, Q0, E0, I, h, hq, he⟩ => ⟨C, ρ, n, G, O, _, E0, I, h, fun ds n' q vs G' O' H' I' s' r => by
    match ds, r, q with
    | [.list xs], .cons (.lst a r1) .nil, q => exact ⟨_, _, rfl, SqL.of (I'.gH _ _ a), hq _ n' q _ G' O' H' I' s' (walkD_enumL a r1)⟩, he⟩
/-! ### for -/
def vLoop (g : VGt) (tb : VST) (V : VN) : List Dt → Nv → Nat → Prop
  | [], ρ, n => V.nx ρ n
  | d :: ds, ρ, n => g d ρ fun ρ1 => tb { V with nx := vLoop g tb V ds, ct := vLoop g tb V ds, bk := V.nx } ρ1 n
abbrev Ct.at (C : Ct) (G : Hp) : Ct := ⟨C.mo, G, C.O0, C.H0⟩
theorem RelW.to {K : PySem.W.Frag} {C : Ct} {G1 G O : Hp} {w : W} {v : V} (r : RelW K C G O w v) : RelW K (C.at G1) G O w v := by cases w <;> exact r
theorem RelW.back {K : PySem.W.Frag} {C : Ct} {G1 G O : Hp} {w : W} {v : V} (r : RelW K (C.at G1) G O w v) : RelW K C G O w v := by cases w <;> exact r
theorem Io.to {C : Ct} {n : Nat} {G1 G O H : Hp} (I : Io C n G O H) (s : Same G1 G) (b : Same C.G0 G1) : Io (C.at G1) n G O H :=
  ⟨I.good, I.go, s, I.o0, I.oh, I.nO, fun a o e => by
    rcases I.nG a o e with q | q
    · exact .inl (b _ _ q)
    · exact .inr q, I.h0⟩
theorem Io.back {C : Ct} {n : Nat} {G1 G O H : Hp} (I : Io (C.at G1) n G O H) (b : Same C.G0 G1) (nb : New C.G0 C.H0 G1) : Io C n G O H :=
  ⟨I.good, I.go, b.trans I.g0, I.o0, I.oh, I.nO, fun a o e => by
    rcases I.nG a o e with q | q
    · exact nb _ _ q
    · exact .inr q, I.h0⟩
theorem In.to {K : PySem.W.Frag} {C : Ct} {σ : L2.St} {ρ : Nv} {n : Nat} {G1 G O H : Hp} (I : In K C σ ρ n G O H) (s : Same G1 G) (b : Same C.G0 G1) : In K (C.at G1) σ ρ n G O H :=
  ⟨I.toIo.to s b, I.len, fun i w e => by obtain ⟨v, h, r⟩ := I.slot i w e; exact ⟨v, h, r.to⟩, I.dis⟩
theorem In.back {K : PySem.W.Frag} {C : Ct} {σ : L2.St} {ρ : Nv} {n : Nat} {G1 G O H : Hp} (I : In K (C.at G1) σ ρ n G O H) (b : Same C.G0 G1) (nb : New C.G0 C.H0 G1) : In K C σ ρ n G O H :=
  ⟨I.toIo.back b nb, I.len, fun i w e => by obtain ⟨v, h, r⟩ := I.slot i w e; exact ⟨v, h, r.back⟩, I.dis⟩
def vFor (ti : VA) (g : VGt) (tb : VST) : VST := fun V ρ n => ti ρ n (fun ds n' => vLoop g tb V ds ρ n') fun x n' => V.xc x ρ n'
theorem vs_for {iter : Expr} {body : List Stmt} {g : VGt} {tb : VST} {ti : VA} (hp : PassesOwn (model X.prog X.w) X.A X.env X.xe) (hc : X.calm = true) (hi : VI X U tg iter ti) (hg : PG X tg (upG X.K g)) (hb : VSs X U body tb)
    (hs : ∀ x, foldedSetIterable iter X.env x = pure x := by intro _; rfl) :
    VS X U (.For tg iter body [] pos) (vFor ti g tb) := ps_imp (ps_for hp hc hi hg hb hs) fun D σ H ⟨C, ρ, n, G, O, V, I, h, L⟩ => by
  refine ⟨C, ρ, n, G, O, _, _, I, h, fun ds n' q J G1 O1 H1 I1 s1 w => ?_, L.lkx σ ρ⟩
  refine ⟨fun i m σ H => ∃ ρ n G O, In X.K C σ ρ n G O H ∧ Same G1 G ∧ i ≤ ds.length ∧ m = ds.length - i ∧ vLoop g tb V (ds.drop i) ρ n, ⟨_, ρ, n', G1, O1, I1, Same.refl _, Nat.zero_le _, rfl, q⟩, ?_⟩
  rintro i m σ2 H2 ⟨ρ2, n2, G2, O2, I2, s2, hi, rfl, q2⟩
  by_cases hlt : i < ds.length
  · refine .inr ⟨w.go i H2 (s2.trans I2.gH) hlt, fun σ' H' => ∃ ρ n G O, In X.K C σ' ρ n G O H' ∧ Same G1 G ∧ vLoop g tb V (ds.drop (i + 1)) ρ n, ?_, fun x H3 y => ?_⟩
    · rintro σ' H' ⟨ρ', n'', G', O', I', s', q'⟩
      exact ⟨ds.length - (i + 1), by omega, ρ', n'', G', O', I', s', hlt, rfl, q'⟩
    · have ed : ds[i]? = some ds[i] := by simp [hlt]
      obtain ⟨G4, sh, sg, sgh, nw, rd⟩ := w.yld i H2 x H3 G2 ds[i] s2 I2.gH y ed
      have I4 := I2.pure sh sg sgh nw
      rw [List.drop_eq_getElem_cons hlt] at q2
      refine ⟨C, ρ2, n2, G4, _, ds[i], _, I4, rd, q2, fun ρ5 q5 σ5 I5 => ?_⟩
      have b1 : Same C.G0 G1 := I1.g0
      have b2 : New C.G0 C.H0 G1 := I1.nG
      refine ⟨C.at G1, ρ5, n2, G4, _, _, I5.to (s2.trans sg) b1, q5, ⟨fun ρ' n' q' σ' G' O' H' I' => ⟨ρ', n', G', O', I'.back b1 b2, I'.g0, q'⟩, fun w' n' q' v G' O' H' J r => L.rt w' n' q' v G' O' H' (J.back b1 b2) r.back, fun ρ' n' q' σ' G' O' H' I' => L.nx ρ' n' q' σ' G' O' H' (I'.back b1 b2),
        fun ρ' n' q' σ' G' O' H' I' => ⟨ρ', n', G', O', I'.back b1 b2, I'.g0, q'⟩, fun x ρ' n' q' cls d σ' G' O' H' I' r => L.xc x ρ' n' q' cls d σ' G' O' H' (I'.back b1 b2) r⟩⟩
  · have e : i = ds.length := by omega
    subst e
    rw [List.drop_length] at q2
    exact .inl ⟨w.stop H2 (s2.trans I2.gH), L.nx _ n2 q2 _ _ _ _ I2⟩
/-! ### while -/
def vWhileN (xb : VB) (tb : VST) (V : VN) : Nat → Nv → Nat → Prop
  | 0, _, _ => False
  | k + 1, ρ, n => xb ρ n (fun b n' => if b = true then tb { V with nx := vWhileN xb tb V k, ct := vWhileN xb tb V k, bk := V.nx } ρ n' else V.nx ρ n') fun x n' => V.xc x ρ n'
def vWhile (xb : VB) (tb : VST) : VST := fun V ρ n => ∃ k, vWhileN xb tb V k ρ n
theorem vs_while {c : Expr} {body : List Stmt} {xb : VB} {tb : VST} (hp : PassesOwn (model X.prog X.w) X.A X.env X.xe) (hc : VTt X U c xb) (hb : VSs X U body tb) : VS X U (.While c body [] pos) (vWhile xb tb) :=
  ps_imp (ps_while hp hc hb) fun D σ H ⟨C, ρ, n, G, O, V, I, ⟨k, h⟩, L⟩ => by
  refine ⟨fun m σ H => ∃ ρ n G O, In X.K C σ ρ n G O H ∧ vWhileN xb tb V m ρ n, ⟨k, ρ, n, G, O, I, h⟩, ?_⟩
  rintro m σ2 H2 ⟨ρ2, n2, G2, O2, I2, q2⟩
  cases m with
  | zero => exact q2.elim
  | succ m =>
    refine ⟨C, ρ2, n2, G2, O2, _, _, I2, q2, fun b n' q G' O' H' I' s' => ?_, L.lkx σ2 ρ2⟩
    cases b with
    | true =>
      rw [if_pos rfl] at q ⊢
      exact ⟨fun σ' H' => ∃ ρ n G O, In X.K C σ' ρ n G O H' ∧ vWhileN xb tb V m ρ n, fun σ' H' z => ⟨m, Nat.lt_succ_self _, z⟩, C, ρ2, n', G', O', _, I', q,
        ⟨fun ρ' n' q' σ' G' O' H' I' => ⟨ρ', n', G', O', I', q'⟩, L.rt, L.nx, fun ρ' n' q' σ' G' O' H' I' => ⟨ρ', n', G', O', I', q'⟩, L.xc⟩⟩
    | false =>
      rw [if_neg Bool.false_ne_true] at q ⊢
      exact L.nx _ n' q _ _ _ _ I'
end
end VL


set_option maxRecDepth 100000
set_option maxHeartbeats 400000
namespace VL
open PySem PySem.Spec PyProof.Rows L2
/-! ### list comprehensions -/
def wipeE (ρ : Nv) : List Nat → Nv
  | [] => ρ
  | v :: vs => (wipeE ρ vs).set v none
theorem wipeE_length (ρ : Nv) : ∀ vs, (wipeE ρ vs).length = ρ.length
  | [] => rfl
  | v :: vs => by unfold wipeE; rw [List.length_set, wipeE_length ρ vs]
theorem wipeE_out {ρ : Nv} {i : Nat} : ∀ {vs : List Nat}, i ∉ vs → (wipeE ρ vs)[i]? = ρ[i]?
  | [], _ => rfl
  | v :: vs, h => by
    unfold wipeE
    rw [List.getElem?_set_ne (fun e => h (by simp [e])), wipeE_out fun z => h (List.mem_cons_of_mem _ z)]
theorem wipeE_some {ρ : Nv} {i : Nat} {w : W} : ∀ {vs : List Nat}, (wipeE ρ vs)[i]? = some (some w) → ρ[i]? = some (some w) ∧ i ∉ vs
  | [], h => ⟨h, by simp⟩
  | v :: vs, h => by
    unfold wipeE at h
    by_cases hi : v = i
    · subst hi
      by_cases hv : v < (wipeE ρ vs).length
      · rw [List.getElem?_set_self hv] at h; cases h
      · rw [List.getElem?_eq_none (by simpa using hv)] at h; cases h
    · rw [List.getElem?_set_ne hi] at h
      obtain ⟨h1, h2⟩ := wipeE_some h
      exact ⟨h1, by simp only [List.mem_cons, not_or]; exact ⟨fun e => hi e.symm, h2⟩⟩
theorem wipe_out {σ : L2.St} {i : Nat} : ∀ {vs : List Nat}, i ∉ vs → (wipe σ vs)[i]? = σ[i]?
  | [], _ => rfl
  | v :: vs, h => by
    unfold wipe
    rw [List.getElem?_set_ne (fun e => h (by simp [e])), wipe_out fun z => h (List.mem_cons_of_mem _ z)]
theorem wipe_set {σ : L2.St} {i : Nat} {x : Option V} : ∀ {vs : List Nat}, i ∈ vs → wipe (σ.set i x) vs = wipe σ vs
  | [], h => by cases h
  | v :: vs, h => by
    unfold wipe
    by_cases hv : i ∈ vs
    · rw [wipe_set hv]
    · have e : i = v := by
        rcases List.mem_cons.mp h with z | z
        · exact z
        · exact absurd z hv
      subst e
      have key : ∀ us : List Nat, i ∉ us → wipe (σ.set i x) us = (wipe σ us).set i x := by
        intro us
        induction us with
        | nil => intro _; rfl
        | cons u us ih =>
          intro hn
          unfold wipe
          rw [ih fun z => hn (List.mem_cons_of_mem _ z), List.set_comm _ _ (fun e => hn (by simp [e]))]
      rw [key vs hv, List.set_set]
theorem wipeE_set {σ : Nv} {i : Nat} {x : Option W} : ∀ {vs : List Nat}, i ∈ vs → wipeE (σ.set i x) vs = wipeE σ vs
  | [], h => by cases h
  | v :: vs, h => by
    unfold wipeE
    by_cases hv : i ∈ vs
    · rw [wipeE_set hv]
    · have e : i = v := by
        rcases List.mem_cons.mp h with z | z
        · exact z
        · exact absurd z hv
      subst e
      have key : ∀ us : List Nat, i ∉ us → wipeE (σ.set i x) us = (wipeE σ us).set i x := by
        intro us
        induction us with
        | nil => intro _; rfl
        | cons u us ih =>
          intro hn
          unfold wipeE
          rw [ih fun z => hn (List.mem_cons_of_mem _ z), List.set_comm _ _ (fun e => hn (by simp [e]))]
      rw [key vs hv, List.set_set]
section
variable {K : PySem.W.Frag} {C : Ct} {σ : L2.St} {ρ : Nv} {n n' : Nat} {G O H G' O' H' : Hp}
theorem In.wipe (I : In K C σ ρ n G O H) (vs : List Nat) : In K C (L2.wipe σ vs) (wipeE ρ vs) n G O H := by
  refine ⟨I.toIo, by rw [wipe_length, wipeE_length]; exact I.len, fun i w e => ?_, fun i j ds es a ij e1 e2 e3 e4 => ?_⟩
  · obtain ⟨e1, h⟩ := wipeE_some e
    obtain ⟨v, h1, h2⟩ := I.slot i w e1
    exact ⟨v, by rw [wipe_out h]; exact h1, h2⟩
  · obtain ⟨p1, q1⟩ := wipeE_some e1
    obtain ⟨p2, q2⟩ := wipeE_some e2
    rw [wipe_out q1] at e3
    rw [wipe_out q2] at e4
    exact I.dis i j ds es a ij p1 p2 e3 e4
def noOwn (ρ : Nv) : List Nat → Prop
  | [] => True
  | v :: vs => (match ρ[v]? with | some (some (.own _)) => False | _ => True) ∧ noOwn ρ vs
theorem noOwn.at {i : Nat} {ds : List Dt} : ∀ {vs : List Nat}, noOwn ρ vs → i ∈ vs → ρ[i]? ≠ some (some (.own ds))
  | v :: vs, h, hi, e => by
    rcases List.mem_cons.mp hi with z | z
    · subst z
      have := h.1
      rw [e] at this
      exact this
    · exact noOwn.at h.2 z e
theorem In.unwipe (I : In K C σ ρ n G O H) {vs : List Nat} (J : In K C (L2.wipe σ vs) (wipeE ρ vs) n' G' O' H') (sg : Same G G') (no : noOwn ρ vs) : In K C σ ρ n' G' O' H' := by
  have out : ∀ {i : Nat} {ds : List Dt}, ρ[i]? = some (some (.own ds)) → i ∉ vs := fun {i ds} e hi => no.at hi e
  refine ⟨J.toIo, I.len, fun i w e => ?_, fun i j ds es a ij e1 e2 e3 e4 => ?_⟩
  · by_cases hi : i ∈ vs
    · obtain ⟨v, h1, h2⟩ := I.slot i w e
      refine ⟨v, h1, ?_⟩
      cases w with
      | own ds => exact absurd e (no.at hi)
      | dat d => exact DR.same sg h2
      | tok => exact h2
      | scr ns => obtain ⟨a, e1, q⟩ := h2; exact ⟨a, e1, sg.seq q⟩
      | err p x => exact ⟨h2.1, h2.2.same sg⟩
    · obtain ⟨v, h1, h2⟩ := J.slot i w (by rw [wipeE_out hi]; exact e)
      exact ⟨v, by rw [wipe_out hi] at h1; exact h1, h2⟩
  · have o1 := out e1
    have o2 := out e2
    exact J.dis i j ds es a ij (by rw [wipeE_out o1]; exact e1) (by rw [wipeE_out o2]; exact e2) (by rw [wipe_out o1]; exact e3) (by rw [wipe_out o2]; exact e4)
/-- a list under way, out of sight -/
abbrev Ct.hide (C : Ct) (D : Addr) (xs : List V) : Ct := ⟨C.mo, C.G0, L2.upd C.O0 D (.lst xs), L2.upd C.H0 D (.lst xs)⟩
theorem In.hide {D : Addr} {xs : List V} (I : In K C σ ρ n G O H) (g : G D = none) (h0 : C.H0 D = none) (o : O D = some (.lst xs)) (fr : ∀ (j : Nat) (es : List Dt), ρ[j]? = some (some (.own es)) → σ[j]? ≠ some (some (.ref D))) : In K (C.hide D xs) σ ρ n G O H := by
  refine ⟨⟨I.good, I.go, I.g0, fun a u e => ?_, same_upd2 I.oh, fun a u e => ?_, fun a u e => ?_, fun a e => ?_⟩, I.len, fun i w e => ?_, I.dis⟩
  · by_cases h : a = D
    · subst h
      have e' : L2.upd C.O0 a (.lst xs) a = some u := e
      rw [upd_same] at e'; cases e'; exact o
    · have e' : L2.upd C.O0 D (.lst xs) a = some u := e
      rw [upd_ne h] at e'; exact I.o0 _ _ e'
  · by_cases h : a = D
    · subst h
      rw [o] at e; cases e
      exact .inl upd_same
    · rcases I.nO a u e with q | q
      · exact .inl (by show L2.upd C.O0 D _ a = _; rw [upd_ne h]; exact q)
      · exact .inr (by show L2.upd C.H0 D _ a = _; rw [upd_ne h]; exact q)
  · have h : a ≠ D := ne_of_none e g
    rcases I.nG a u e with q | q
    · exact .inl q
    · exact .inr (by show L2.upd C.H0 D _ a = _; rw [upd_ne h]; exact q)
  · have h : a ≠ D := fun z => by subst z; rw [I.oH _ _ o] at e; cases e
    show L2.upd C.H0 D _ a = _
    rw [upd_ne h]; exact I.h0 a e
  · obtain ⟨v, h1, h2⟩ := I.slot i w e
    refine ⟨v, h1, ?_⟩
    cases w with
    | own ds =>
      obtain ⟨a, ys, rfl, q1, q2, q3, q4⟩ := h2
      have h : a ≠ D := fun z => by subst z; exact fr i ds e h1
      exact ⟨a, ys, rfl, q1, by show L2.upd C.H0 D _ a = _; rw [upd_ne h]; exact q2, q3, q4⟩
    | dat d => exact h2
    | tok => exact h2
    | scr ns => exact h2
    | err p x => exact h2
theorem In.show {D : Addr} {xs : List V} (I : In K (C.hide D xs) σ ρ n G O H) (h0 : C.H0 D = none) (oh : Same C.O0 C.H0) (g0 : C.G0 D = none) :
    In K C σ ρ n G O H ∧ O D = some (.lst xs) ∧ G D = none ∧ ∀ (j : Nat) (es : List Dt), ρ[j]? = some (some (.own es)) → σ[j]? ≠ some (some (.ref D)) := by
  have o0 : C.O0 D = none := by
    cases q : C.O0 D with | none => rfl | some u => rw [oh _ _ q] at h0; cases h0
  have oD : O D = some (.lst xs) := I.o0 _ _ upd_same
  have gD : G D = none := by
    cases q : G D with
    | none => rfl
    | some u =>
      rcases I.nG D u q with z | z
      · have z' : C.G0 D = some u := z
        rw [g0] at z'; cases z'
      · have z' : L2.upd C.H0 D (.lst xs) D = none := z
        rw [upd_same] at z'; cases z'
  refine ⟨⟨⟨I.good, I.go, I.g0, fun a u e => ?_, oh, fun a u e => ?_, fun a u e => ?_, fun a e => ?_⟩, I.len, fun i w e => ?_, I.dis⟩, oD, gD, fun j es e z => ?_⟩
  · have h : a ≠ D := ne_of_none e o0
    exact I.o0 _ _ (by show L2.upd C.O0 D _ a = _; rw [upd_ne h]; exact e)
  · by_cases h : a = D
    · subst h; exact .inr h0
    · rcases I.nO a u e with q | q
      · have q' : L2.upd C.O0 D (.lst xs) a = some u := q
        rw [upd_ne h] at q'; exact .inl q'
      · have q' : L2.upd C.H0 D (.lst xs) a = none := q
        rw [upd_ne h] at q'; exact .inr q'
  · have h : a ≠ D := ne_of_none e gD
    rcases I.nG a u e with q | q
    · exact .inl q
    · have q' : L2.upd C.H0 D (.lst xs) a = none := q
      rw [upd_ne h] at q'; exact .inr q'
  · by_cases h : a = D
    · subst h; exact h0
    · have q' : L2.upd C.H0 D (.lst xs) a = none := I.h0 a e
      rw [upd_ne h] at q'; exact q'
  · obtain ⟨v, h1, h2⟩ := I.slot i w e
    refine ⟨v, h1, ?_⟩
    cases w with
    | own ds =>
      obtain ⟨a, ys, rfl, q1, q2, q3, q4⟩ := h2
      have q2' : L2.upd C.H0 D (.lst xs) a = none := q2
      by_cases h : a = D
      · subst h; rw [upd_same] at q2'; cases q2'
      · rw [upd_ne h] at q2'
        exact ⟨a, ys, rfl, q1, q2', q3, q4⟩
    | dat d => exact h2
    | tok => exact h2
    | scr ns => exact h2
    | err p x => exact h2
  · obtain ⟨v, h1, a, ys, ev, q1, q2, q3, q4⟩ := I.slot j _ e
    rw [h1] at z
    cases z
    cases ev
    have q2' : L2.upd C.H0 D (.lst xs) D = none := q2
    rw [upd_same] at q2'; cases q2'
end
/-- a target in both readings -/
def PairG (K : PySem.W.Frag) (vs : List Nat) (gh : TG) (gv : VGt) : Prop := ∀ v σ H Q C ρ n G O d Q0, In K C σ ρ n G O H → DR K G v d → gv d ρ Q0 → (∀ ρ', Q0 ρ' → wipeE ρ' vs = wipeE ρ vs → ∀ σ', In K C σ' ρ' n G O H → wipe σ' vs = wipe σ vs → Q σ' H) → gh v σ H Q
theorem pair_name {K : PySem.W.Frag} {vs : List Nat} (i : Nat) (hi : i ∈ vs := by decide) : PairG K vs (gName i) (gN i) := fun v σ H Q C ρ n G O d Q0 I r q h => h _ q (wipeE_set hi) _ (I.set i r) (wipe_set hi)
theorem pair_tup2 {K : PySem.W.Frag} {vs : List Nat} (i j : Nat) (hi : i ∈ vs := by decide) (hj : j ∈ vs := by decide) : PairG K vs (gTup K 2 (gCons (gName i) (gCons (gName j) gNil))) (gT 2 (gsC (gN i) (gsC (gN j) gsN))) := by
  intro v σ H Q C ρ n G O d Q0 I r q h
  cases d with
  | tuple ds =>
    cases r with
    | tup a r =>
      cases r with
      | nil => exact absurd q.1 (by simp)
      | cons r1 r =>
        cases r with
        | nil => exact absurd q.1 (by simp)
        | cons r2 r =>
          cases r with
          | nil => exact ⟨_, _, rfl, sameT I.gH a, rfl, _, _, rfl, _, _, rfl, rfl, h _ q.2 (by rw [wipeE_set hj, wipeE_set hi]) _ ((I.set i r1).set j r2) (by rw [wipe_set hj, wipe_set hi])⟩
          | cons r3 r => exact absurd q.1 (by simp)
  | _ => exact q.elim
theorem wipe_idem (σ : L2.St) (vs : List Nat) : ∀ us : List Nat, (∀ u ∈ us, u ∈ vs) → wipe (wipe σ vs) us = wipe σ vs
  | [], _ => rfl
  | u :: us, hu => by
    have ih := wipe_idem σ vs us fun z hz => hu z (List.mem_cons_of_mem _ hz)
    show (wipe (wipe σ vs) us).set u none = wipe σ vs
    rw [ih]
    generalize ht : wipe σ vs = τ
    apply List.ext_getElem?
    intro k
    by_cases hk : u = k
    · subst hk
      by_cases hl : u < τ.length
      · rw [List.getElem?_set_self hl]
        cases z : τ[u]? with
        | none => rw [List.getElem?_eq_none_iff] at z; omega
        | some o =>
          cases o with
          | none => rfl
          | some v => rw [← ht] at z; exact absurd (hu u (by simp)) (wipe_some z).2
      · rw [List.getElem?_eq_none (by simpa using hl), List.getElem?_eq_none (by simpa using hl)]
    · rw [List.getElem?_set_ne hk]
theorem wipeE_idem (ρ : Nv) (vs : List Nat) : ∀ us : List Nat, (∀ u ∈ us, u ∈ vs) → wipeE (wipeE ρ vs) us = wipeE ρ vs
  | [], _ => rfl
  | u :: us, hu => by
    have ih := wipeE_idem ρ vs us fun z hz => hu z (List.mem_cons_of_mem _ hz)
    show (wipeE (wipeE ρ vs) us).set u none = wipeE ρ vs
    rw [ih]
    generalize ht : wipeE ρ vs = τ
    apply List.ext_getElem?
    intro k
    by_cases hk : u = k
    · subst hk
      by_cases hl : u < τ.length
      · rw [List.getElem?_set_self hl]
        cases z : τ[u]? with
        | none => rw [List.getElem?_eq_none_iff] at z; omega
        | some o =>
          cases o with
          | none => rfl
          | some v => rw [← ht] at z; exact absurd (hu u (by simp)) (wipeE_some z).2
      · rw [List.getElem?_eq_none (by simpa using hl), List.getElem?_eq_none (by simpa using hl)]
    · rw [List.getElem?_set_ne hk]
theorem In.mutD {K : PySem.W.Frag} {C : Ct} {σ : L2.St} {ρ : Nv} {n : Nat} {G O H : Hp} {D : Addr} {xs ys : List V} (I : In K C σ ρ n G O H) (g : G D = none) (h0 : C.H0 D = none) (o : O D = some (.lst xs)) (fr : ∀ (j : Nat) (es : List Dt), ρ[j]? = some (some (.own es)) → σ[j]? ≠ some (some (.ref D))) :
    In K C σ ρ n G (L2.upd O D (.lst ys)) (L2.upd H D (.lst ys)) := by
  have o0n : C.O0 D = none := by
    cases q : C.O0 D with | none => rfl | some u => rw [I.oh _ _ q] at h0; cases h0
  refine ⟨⟨I.good.upd (.inl (by rw [o]; simp)), fun b u e => ?_, I.g0, fun b u e => ?_, I.oh, fun b u e => ?_, I.nG, fun b e => ?_⟩, I.len, fun j w e => ?_, I.dis⟩
  · rw [upd_ne (ne_of_none e g)]; exact I.go _ _ e
  · rw [upd_ne (ne_of_none e o0n)]; exact I.o0 _ _ e
  · by_cases hb : b = D
    · subst hb; exact .inr h0
    · rw [upd_ne hb] at e; exact I.nO b u e
  · by_cases hb : b = D
    · subst hb; exact h0
    · rw [upd_ne hb] at e; exact I.h0 b e
  · obtain ⟨u, h1, h2⟩ := I.slot j w e
    refine ⟨u, h1, ?_⟩
    cases w with
    | own fs =>
      obtain ⟨b, zs, e1, q1, q2, q3, q4⟩ := h2
      subst e1
      have nb : b ≠ D := fun z => by subst z; exact fr j fs e h1
      exact ⟨b, zs, rfl, q1, q2, by rw [upd_ne nb]; exact q3, q4⟩
    | dat d => exact h2
    | tok => exact h2
    | scr ns => exact h2
    | err p x => exact h2
def vLcL (g : VGt) (xt : VB) (te : VT) (ρ : Nv) (Q : List Dt → Nat → Prop) : List Dt → List Dt → Nat → Prop
  | [], acc, n => Q acc n
  | d :: ds, acc, n => g d ρ fun ρ1 => xt ρ1 n (fun b n1 => if b = true then te ρ1 n1 (fun y n2 => acc.length < sizeLine ∧ vLcL g xt te ρ Q ds (acc ++ [y]) n2) (fun _ _ => False) else vLcL g xt te ρ Q ds acc n1) fun _ _ => False
def vLc (ti : VA) (g : VGt) (xt : VB) (te : VT) (vs : List Nat) : VA := fun ρ n Q E => noOwn ρ vs ∧ ti ρ n (fun ds n' => vLcL g xt te (wipeE ρ vs) Q ds [] n') E
abbrev U0 : WX := fun _ _ _ _ => False
theorem lkx0 {K : PySem.W.Frag} {C : Ct} {σ : L2.St} {ρ : Nv} : LkX K U0 C σ ρ (fun _ _ => False) := fun _ _ h => h.elim
theorem up_lc {K : PySem.W.Frag} {U : WX} {ti : VA} {g : VGt} {gh : TG} {xt : VB} {te : VT} {vs : List Nat} (pg : PairG K vs gh g) :
    ∀ σ H Q, upO K U (vLc ti g xt te vs) σ H Q → tLc (upI K U ti) gh (upB K U0 xt) (up K U0 te) vs σ H Q := fun σ H Q ⟨C, ρ, n, G, O, Q0, E0, I, h, hq, he⟩ => by
  refine ⟨C, ρ, n, G, O, _, E0, I, h.2, fun ds n' q J G1 O1 H1 I1 s1 w D hD => ?_, he⟩
  have I2 := (fresh_new (K := K) (xs := []) (ds := []) I1 hD .nil)
  have gD0 : C.G0 D = none := by
    cases q : C.G0 D with | none => rfl | some u => rw [I1.gH _ _ (I1.g0 _ _ q)] at hD; cases hD
  have hD0 : C.H0 D = none := I1.h0 D hD
  refine ⟨fun i m H' => ∃ acc n2 G2 O2 xs, In K C σ ρ n2 G2 O2 H' ∧ Same G1 G2 ∧ i ≤ ds.length ∧ m = ds.length - i ∧ G2 D = none ∧ O2 D = some (.lst xs) ∧ DRs K G2 xs acc ∧ (∀ (j : Nat) (es : List Dt), ρ[j]? = some (some (.own es)) → σ[j]? ≠ some (some (.ref D))) ∧ vLcL g xt te (wipeE ρ vs) Q0 (ds.drop i) acc n2,
    ⟨_, [], n', G1, _, [], I2.1, Same.refl _, Nat.zero_le _, rfl, ?_⟩, ?_⟩
  · obtain ⟨xs, f1, f2, f3, f4, f5⟩ := I2.2
    have e : xs = [] := by cases f4; rfl
    subst e
    exact ⟨f1, f3, f4, f5, q⟩
  rintro i m H2 ⟨acc, n2, G2, O2, xs, J2, s2, hi, rfl, gD, oD, r2, fr, q2⟩
  by_cases hlt : i < ds.length
  · refine .inr ⟨w.go i H2 (s2.trans J2.gH) hlt, fun H' => ∃ acc n2 G2 O2 xs, In K C σ ρ n2 G2 O2 H' ∧ Same G1 G2 ∧ G2 D = none ∧ O2 D = some (.lst xs) ∧ DRs K G2 xs acc ∧ (∀ (j : Nat) (es : List Dt), ρ[j]? = some (some (.own es)) → σ[j]? ≠ some (some (.ref D))) ∧ vLcL g xt te (wipeE ρ vs) Q0 (ds.drop (i + 1)) acc n2, ?_, fun x H3 y => ?_⟩
    · rintro H' ⟨acc', n3, G3, O3, xs', J3, s3, g3, o3, r3, f3, q3⟩
      exact ⟨ds.length - (i + 1), by omega, acc', n3, G3, O3, xs', J3, s3, hlt, rfl, g3, o3, r3, f3, q3⟩
    · have ed : ds[i]? = some ds[i] := by simp [hlt]
      obtain ⟨G4, sh, sg, sgh, nw, rd⟩ := w.yld i H2 x H3 G2 ds[i] s2 J2.gH y ed
      have J4 := J2.pure sh sg sgh nw
      have g4 : G4 D = none := by
        cases q : G4 D with
        | none => rfl
        | some u =>
          rcases nw D u q with z | z
          · rw [gD] at z; cases z
          · rw [J2.oH _ _ oD] at z; cases z
      have o4 : grow O2 H2 H3 D = some (.lst xs) := grow_same J2.oH _ _ oD
      have J5 := ((J4.hide g4 hD0 o4 fr).to (G1 := G4) (Same.refl _) (J4.g0)).wipe vs
      rw [List.drop_eq_getElem_cons hlt] at q2
      refine pg x _ H3 _ _ _ _ _ _ ds[i] _ J5 rd q2 fun ρ6 q6 e6 σ6 J6 w6 => ?_
      have eS : wipe σ6 vs = wipe σ vs := w6.trans (wipe_idem σ vs vs fun _ h => h)
      have eW : wipeE ρ6 vs = wipeE ρ vs := e6.trans (wipeE_idem ρ vs vs fun _ h => h)
      refine ⟨eS, ?_⟩
      have fin : ∀ {n' : Nat} {G' O' H' : Hp}, In K ((C.hide D xs).at G4) σ6 ρ6 n' G' O' H' → In K C σ ρ n' G' O' H' ∧ O' D = some (.lst xs) ∧ G' D = none ∧ Same G4 G' := fun {n' G' O' H'} J7 => by
        have nb : New C.G0 (L2.upd C.H0 D (.lst xs)) G4 := by
          intro a o e
          have hD' : a ≠ D := ne_of_none e g4
          rcases J4.nG a o e with z | z
          · exact .inl z
          · exact .inr (by rw [upd_ne hD']; exact z)
        obtain ⟨b1, b2, b3, _⟩ := (J7.back (C := C.hide D xs) J4.g0 nb).show hD0 I.oh gD0
        have v7 := b1.wipe vs
        rw [eW, eS] at v7
        exact ⟨J4.unwipe v7 J7.g0 h.1, b2, b3, J7.g0⟩
      refine ⟨_, ρ6, n2, G4, _, _, _, J6, q6, fun b n1 qb G7 O7 H7 J7 s7 => ?_, lkx0⟩
      cases b with
      | true =>
        rw [if_pos rfl] at qb ⊢
        refine ⟨_, ρ6, n1, G7, O7, _, _, J7, qb, fun y n8 qy v G8 O8 H8 J8 s8 ry => ?_, lkx0⟩
        obtain ⟨K8, o8, g8, s48⟩ := fin J8
        have r8 : DRs K G8 (xs ++ [v]) (acc ++ [y]) := (DRs.same (sg.trans s48) r2).append (.cons ry .nil)
        exact ⟨xs, K8.oH _ _ o8, by rw [r2.length]; exact qy.1, acc ++ [y], n8, G8, _, xs ++ [v], K8.mutD g8 hD0 o8 fr, (s2.trans sg).trans s48, g8, upd_same, r8, fr, qy.2⟩
      | false =>
        rw [if_neg Bool.false_ne_true] at qb ⊢
        obtain ⟨K7, o7, g7, s47⟩ := fin J7
        exact ⟨acc, n1, G7, O7, xs, K7, (s2.trans sg).trans s47, g7, o7, DRs.same (sg.trans s47) r2, fr, qb⟩
  · have e : i = ds.length := by omega
    subst e
    rw [List.drop_length] at q2
    exact .inl ⟨w.stop H2 (s2.trans J2.gH), hq acc n2 q2 D G2 O2 H2 J2 (s1.trans s2) ⟨xs, gD, hD0, oD, r2, fr⟩⟩
end VL


set_option maxRecDepth 100000
set_option maxHeartbeats 400000
namespace VL
open PySem PySem.Spec PyProof.Rows L2
section
variable {X : Cx} {U : WX} {elt tg iter : Expr} {ifs : List Expr} {scope : Scope} {own : List (Str × Nat)} {pos spos : Pos} {ti : VA} {g : VGt} {gh : TG} {xt : VB} {te : VT}
def vYes : VB := fun _ n Q _ => Q true n
theorem vpts_nil : PTs X [] (upB X.K U vYes) := by
  obtain ⟨h⟩ := pts_nil (X := X)
  exact ⟨fun pins s σ H Q I ⟨C, ρ, n, G, O, Q0, E0, J, q, hq, he⟩ => h pins s σ H Q I (hq true n q G O H J (Same.refl _))⟩
theorem vpts_one {c : Expr} (h : VTt X U c xt) : PTs X [c] (upB X.K U xt) := pts_one h
theorem vo_lc (hc : X.calm = true) (hN : X.N.Nodup) (hi : VI X U tg iter ti) (ok : BlkOk X.N X.env.scope scope own)
    (hg : ∀ (s : Shared) (H : Hp) (C : Addr) (cl : List (Str × Addr)) (fp : List Addr), PG (X.blk s H scope (compEnvC scope cl C X.env) fp) tg gh) (pg : PairG X.K (own.map (·.2)) gh g)
    (ht : ∀ (s : Shared) (H : Hp) (C : Addr) (cl : List (Str × Addr)) (fp : List Addr), PTs (X.blk s H scope (compEnvC scope cl C X.env) fp) ifs (upB X.K U0 xt))
    (he : ∀ (s : Shared) (H : Hp) (C : Addr) (cl : List (Str × Addr)) (fp : List Addr), PE (X.blk s H scope (compEnvC scope cl C X.env) fp) elt (up X.K U0 te)) (hs : ∀ x, foldedSetIterable iter X.env x = pure x := by intro _; rfl) :
    VO X U (.ListComp elt [⟨tg, iter, ifs, 0⟩] scope pos) (vLc ti g xt te (own.map (·.2))) := pe_imp (pe_lc hc hN hi ok hg ht he hs) (up_lc pg)
/-- y = [..], y a local name: a list of one's own, or a datum -/
theorem vs_setLcO {i : Nat} {y : Str} {py : Pos} (hc : X.calm = true) (hN : X.N.Nodup) (hy : X.N[i]? = some y) (hyl : X.env.scope.names.lookup y = some .local)
    (hsw : swapsWith (.ListComp elt [⟨tg, iter, ifs, 0⟩] scope pos) (some (.Name y py)) spos.line X.env = pure true) (hi : VI X U tg iter ti) (ok : BlkOk X.N X.env.scope scope own)
    (hg : ∀ (s : Shared) (H : Hp) (C : Addr) (cl : List (Str × Addr)) (fp : List Addr), PG (X.blk s H scope (compEnvC scope cl C X.env) fp) tg gh) (pg : PairG X.K (own.map (·.2)) gh g)
    (ht : ∀ (s : Shared) (H : Hp) (C : Addr) (cl : List (Str × Addr)) (fp : List Addr), PTs (X.blk s H scope (compEnvC scope cl C X.env) fp) ifs (upB X.K U0 xt))
    (he : ∀ (s : Shared) (H : Hp) (C : Addr) (cl : List (Str × Addr)) (fp : List Addr), PE (X.blk s H scope (compEnvC scope cl C X.env) fp) elt (up X.K U0 te)) (hs : ∀ x, foldedSetIterable iter X.env x = pure x := by intro _; rfl) :
    VS X U (.Assign [.Name y py] (.ListComp elt [⟨tg, iter, ifs, 0⟩] scope pos) spos) (vSetO i (vLc ti g xt te (own.map (·.2)))) := ps_imp (ps_setLc hc hN hy hyl hsw hi ok hg ht he hs) fun D σ H ⟨C, ρ, n, G, O, V, I, h, L⟩ =>
  up_lc pg σ H _ ⟨C, ρ, n, G, O, _, _, I, h, fun ds n' q a G' O' H' I' _ ⟨xs, g, h0, o, r, fr⟩ => L.nx _ n' q _ G' O' H' (I'.setOwn i g h0 o r fr), L.lkx σ ρ⟩
theorem vs_setLc {i : Nat} {y : Str} {py : Pos} (hc : X.calm = true) (hN : X.N.Nodup) (hy : X.N[i]? = some y) (hyl : X.env.scope.names.lookup y = some .local)
    (hsw : swapsWith (.ListComp elt [⟨tg, iter, ifs, 0⟩] scope pos) (some (.Name y py)) spos.line X.env = pure true) (hi : VI X U tg iter ti) (ok : BlkOk X.N X.env.scope scope own)
    (hg : ∀ (s : Shared) (H : Hp) (C : Addr) (cl : List (Str × Addr)) (fp : List Addr), PG (X.blk s H scope (compEnvC scope cl C X.env) fp) tg gh) (pg : PairG X.K (own.map (·.2)) gh g)
    (ht : ∀ (s : Shared) (H : Hp) (C : Addr) (cl : List (Str × Addr)) (fp : List Addr), PTs (X.blk s H scope (compEnvC scope cl C X.env) fp) ifs (upB X.K U0 xt))
    (he : ∀ (s : Shared) (H : Hp) (C : Addr) (cl : List (Str × Addr)) (fp : List Addr), PE (X.blk s H scope (compEnvC scope cl C X.env) fp) elt (up X.K U0 te)) (hs : ∀ x, foldedSetIterable iter X.env x = pure x := by intro _; rfl) :
    VS X U (.Assign [.Name y py] (.ListComp elt [⟨tg, iter, ifs, 0⟩] scope pos) spos) (vSet i (vFz (vLc ti g xt te (own.map (·.2))))) := ps_imp (ps_setLc hc hN hy hyl hsw hi ok hg ht he hs) fun D σ H ⟨C, ρ, n, G, O, V, I, h, L⟩ =>
  up_lc pg σ H _ ⟨C, ρ, n, G, O, _, _, I, h, fun ds n' q a G' O' H' I' s' f => by
    obtain ⟨G2, I2, s2, r⟩ := I'.frzFresh f
    exact L.nx _ n' q _ G2 O' H' (I2.set i r), L.lkx σ ρ⟩
/-! ### the machine is made -/
def spBegun (K : PySem.W.Frag) : Sp := fun vs H Q _ => ∃ (a : Addr) (ns : List Int), vs = [.ref a] ∧ SqL K H a (ns.map V.int) ∧ ns.length ≤ 63 ∧
  ∀ m H', Same H H' → Mach m 0 H H' → H m = none → Q (.ref m) H'
end
/-! ### the law's own def -/
def spLaw (K : PySem.W.Frag) : Sp := fun vs H Q _ => ∃ (a : Addr) (ns : List Int), vs = [.ref a] ∧ SqL K H a (ns.map V.int) ∧ ns.length ≤ 63 ∧ ∀ H', Q (.bl true) H'
def lawEnd : VN := ⟨fun _ _ => False, fun w _ => w = .dat (.bool true), fun _ _ => False, fun _ _ => False, fun _ _ _ => False⟩
theorem lawG {P : Program} {w : World} {K : PySem.W.Frag} {mg : Str → Option Value} {base : Heap} {k i : Nat} {x qual : Str} {params : Arguments} {st : Stmt} {rest : List Stmt} {scope : Scope} {dvs : List V} {kws : List (Str × V)} {f : Addr} {fd : FuncData} {N : List Str} {t : VST}
    (F : FunD K x qual params (st :: rest) scope dvs kws f fd) (S : FnScope N ["script"] scope) (hi : i ≠ 0)
    (h1 : ∀ (cdv : Value) (A : Around) (outer : List PySem.Env) (s : Shared) (H : Hp) (E : XK), A.guards = some [] → Room k (A.deeper (envOfC qual scope s.heap.objs.size f cdv)) →
      PS (cxOf (L2.CX P w) P w K mg base N qual scope f cdv A outer s H E) st (tAsg (fun σ H Q => tCons (tVar 0) tNil σ H fun vs H1 => spBegun K (vs ++ []) H1 Q fun cls d H' => E cls d H') (gName i)))
    (h2 : ∀ (cdv : Value) (A : Around) (outer : List PySem.Env) (s : Shared) (H : Hp) (E : XK), A.guards = some [] → Room k (A.deeper (envOfC qual scope s.heap.objs.size f cdv)) →
      VSs (cxOf (L2.CX P w) P w K mg base N qual scope f cdv A outer s H E) (fun cls d _ H' => E cls d H') rest t)
    (ht : ∀ ns : List Int, ns.length ≤ 63 → t lawEnd ((startE N.length [.scr ns]).set i (some .tok)) 0) : FnG P w K mg base (k + 1) f fd ["script"] (spLaw K) := by
  refine fnG_of F S (fun vs H Q E h => ?_) (fun cdv A outer s H vs Q E hg hr h => ⟨_, pss_cons (h1 cdv A outer s H E hg hr) (h2 cdv A outer s H E hg hr), ?_⟩)
  · obtain ⟨a, ns, rfl, _⟩ := h
    rfl
  · obtain ⟨a, ns, rfl, hs, hl, hq⟩ := h
    have ex : N.length ≠ 0 := fun z => by
      have := S.pre
      rw [List.length_eq_zero_iff.mp z] at this
      cases this
    have s0 : (L2.start N [V.ref a])[0]? = some (some (.ref a)) := rfl
    refine ⟨_, s0, a, ns, rfl, hs, hl, fun m H' sh mach hm => ?_⟩
    have hlen : (L2.start N [V.ref a]).length = (startE N.length [.scr ns]).length := by unfold L2.start startE; simp
    have hn : ∀ b, H' b = none → H b = none := fun b e => by
      cases q : H b with
      | none => rfl
      | some o => rw [sh _ _ q] at e; cases e
    refine ⟨⟨some m, H, H, H⟩, (startE N.length [.scr ns]).set i (some .tok), 0, H, H, lawEnd, ⟨⟨mach, Same.refl _, Same.refl _, Same.refl _, Same.refl _, New.refl, New.refl, hn⟩, by simpa using hlen, fun j w e => ?_, fun j j' ds es b jj e1 e2 e3 e4 => ?_⟩, ht ns hl,
      ⟨fun _ _ z => z.elim, fun w n' z v G' O' H' _ r => ?_, fun _ _ z => z.elim, fun _ _ z => z.elim, fun _ _ _ z => z.elim⟩⟩
    · by_cases hj : i = j
      · subst hj
        by_cases hlt : i < (startE N.length [.scr ns]).length
        · rw [List.getElem?_set_self hlt] at e
          cases e
          exact ⟨.ref m, by rw [List.getElem?_set_self (by rw [hlen]; exact hlt)], m, rfl, rfl⟩
        · rw [List.getElem?_eq_none (by simpa using hlt)] at e; cases e
      · rw [List.getElem?_set_ne hj] at e
        cases j with
        | zero =>
          have e' : some (some (W.scr ns)) = some (some w) := e
          cases e'
          exact ⟨.ref a, by rw [List.getElem?_set_ne hj]; exact s0, a, rfl, hs⟩
        | succ j =>
          have e' : (List.replicate (N.length - 1) (none : Option W))[j]? = some (some w) := e
          rw [List.getElem?_replicate] at e'
          split at e' <;> cases e'
    · by_cases hj : i = j
      · subst hj
        by_cases hlt : i < (startE N.length [.scr ns]).length
        · rw [List.getElem?_set_self hlt] at e1; cases e1
        · rw [List.getElem?_eq_none (by simpa using hlt)] at e1; cases e1
      · rw [List.getElem?_set_ne hj] at e1
        cases j with
        | zero =>
          have e' : some (some (W.scr ns)) = some (some (W.own ds)) := e1
          cases e'
        | succ j =>
          have e' : (List.replicate (N.length - 1) (none : Option W))[j]? = some (some (W.own ds)) := e1
          rw [List.getElem?_replicate] at e'
          split at e' <;> cases e'
    · have z' : w = .dat (.bool true) := z
      subst z'
      cases r
      exact hq H'
/-! ### the end of a law -/
theorem callG {P : Program} {w : World} {K : PySem.W.Frag} {mg mb : Str → Option Value} {k : Nat} {fa a : Addr} {fd : FuncData} {s1 : Shared} {vs : List Value} {ns : List Int}
    (KX : K.In s1.heap) (hns : s1.heap.Ns mainGlobals mg) (hb : s1.heap.Ns builtinsNs mb) (hbb : ∀ x : Str, x ≠ "__name__" → mb x = bootBuiltins x) (hlim : s1.heap.NoLimit) (hg : s1.gens = #[])
    (ha : s1.heap.get? a = some { cls := .type "list", data := .seq vs.toArray }) (hi : IntsAre vs ns) (hl : ns.length ≤ 63) (hr : Room k callerA)
    (F : ∀ base : Heap, K.In base → base.Ns mainGlobals mg → FnG P w K mg base k fa fd ["script"] (spLaw K)) (hbind : ∀ (s : Shared) (u : Value), BindsTo s fd ⟨[u], []⟩ [("script", u)]) :
    codeAny (model P w) callerA (.call (.ref fa) ⟨[.ref a], []⟩) (fun r s' => r = .ok (.ret (.bool true)) ∧ OldK s1.heap s'.heap ∧ s'.os = s1.os ∧ AllBare s'.gens) s1 := by
  have hl2 : ns.length ≤ sizeLine := Nat.le_trans hl (by decide)
  have rv := vals_ints hi
  have lenV := hi.length
  have core : ∀ H : Hp, Only H → SqL K H a (ns.map V.int) → HOk P w H s1.heap → (∀ b, H b ≠ none → b = a) → (H a ≠ none → K.lookup a = none) →
      codeAny (model P w) callerA (.call (.ref fa) ⟨[.ref a], []⟩) (fun r s' => r = .ok (.ret (.bool true)) ∧ OldK s1.heap s'.heap ∧ s'.os = s1.os ∧ AllBare s'.gens) s1 := by
    intro H hO hS hok hA hK
    have free : ∀ {b : Addr} {o : Obj} {es : Array DictEntry} {ep : Nat}, s1.heap.get? b = some o → o.data = .dict es ep → H b = none := by
      intro b o es ep e d
      cases q : H b with
      | none => rfl
      | some u =>
        have e' : b = a := hA b (by rw [q]; simp)
        rw [e', ha] at e
        cases e
        cases d
    have ns0 : ∀ {b : Addr} {m : Str → Option Value}, s1.heap.Ns b m → (hidT s1.heap H).Ns b m := by
      rintro b m ⟨o, es, ep, e, d, r⟩
      exact ⟨o, es, ep, hidT_get e (free e d), d, r⟩
    have kin : K.In (hidT s1.heap H) := by
      intro b o e
      refine hidT_get (KX b o e) ?_
      cases q : H b with
      | none => rfl
      | some u =>
        have e' : b = a := hA b (by rw [q]; simp)
        subst e'
        rw [hK (by rw [q]; simp)] at e
        cases e
    have mod : Mod K mg (hidT s1.heap H) := by
      refine ⟨kin, ns0 hns, ⟨mb, ns0 hb, hbb⟩, ?_⟩
      obtain ⟨mc, c1, c2⟩ := hlim
      exact ⟨mc, ns0 c1, c2⟩
    have e0 : Env0 P w K mg (hidT s1.heap H) callerA [] s1 H := ⟨rfl, mod, fun b o e => of_hidT e, Nat.le_of_eq (hidT_size _ _), trivial, (fun b z => absurd (show b ∈ ([] : List Addr) from z) (by simp)), hok, .of_eq hg⟩
    have run := (F _ kin (ns0 hns)).run callerA [] s1 H ⟨[.ref a], []⟩ [.ref a] [.ref a] (fun v _ => v = .bl true) (fun _ _ _ => False) rfl hr e0 (hbind s1 (.ref a)) (.cons rfl .nil) ⟨a, ns, rfl, hS, hl, fun _ => rfl⟩
    refine codeAny_mono run fun r s' h => ?_
    match r, h with
    | .error e, h =>
      obtain ⟨_, _, _, _, _, _, _, _, _, _, _, _, z⟩ := h
      exact z.elim
    | .ok (.ret u), h =>
      obtain ⟨v, H', os, bare, un, hok', r', q⟩ := h
      have q' : v = .bl true := q
      subst q'
      obtain rfl : u = Value.bool true := r'
      refine ⟨rfl, OldK.of_keep fun b o e => ?_, os, bare⟩
      cases q : H b with
      | none => exact un.keep b o e q (fun z => absurd (show b ∈ ([] : List Addr) from z) (by simp)) (by simp)
      | some u =>
        rcases hO b with z | ⟨ob, xs, z⟩
        · rw [q] at z; cases z
        · obtain ⟨e1, _⟩ := hok b _ z
          obtain ⟨e2, _⟩ := hok' b _ (un.frzs b ob _ z)
          rw [e] at e1
          cases e1
          exact e2
  cases hk : K.lookup a with
  | some o =>
    have e := KX a o hk
    rw [ha] at e
    cases e
    refine core (fun _ => none) (fun _ => .inl rfl) (.inr ⟨_, vs.toArray, _, hk, rfl, rfl, rfl, by rw [List.size_toArray, lenV]; exact hl2, by simpa using rv⟩) (fun b u z => by cases (show (none : Option HO) = some u from z)) (fun b z => absurd rfl z) fun z => absurd rfl z
  | none =>
    have tr : ∀ b u, (if b = a then some (HO.frz { cls := .type "list", data := .seq vs.toArray } (.lst (ns.map V.int))) else none) = some u → b = a ∧ u = HO.frz { cls := .type "list", data := .seq vs.toArray } (.lst (ns.map V.int)) := by
      intro b u z
      by_cases hb : b = a
      · rw [if_pos hb] at z; cases z; exact ⟨hb, rfl⟩
      · rw [if_neg hb] at z; cases z
    refine core (fun b => if b = a then some (.frz { cls := .type "list", data := .seq vs.toArray } (.lst (ns.map V.int))) else none) (fun b => ?_) (.inl (.inr ⟨{ cls := .type "list", data := .seq vs.toArray }, if_pos rfl⟩)) (fun b u z => ?_) (fun b z => ?_) fun _ => hk
    · by_cases hb : b = a
      · exact .inr ⟨_, _, if_pos hb⟩
      · exact .inl (if_neg hb)
    · obtain ⟨rfl, rfl⟩ := tr b u z
      exact ⟨ha, by rw [List.length_map]; exact hl2, vs, _, rv, ha⟩
    · by_cases hb : b = a
      · exact hb
      · exact absurd (if_neg hb) z
theorem walkG {l : PySem.W.OpenLaw} {k : Nat} {q : Program} {loose : List Str} {XP : (Str → Option Value) → Heap → Prop} {YP : World → Heap → Prop} {d : DefRec}
    (hn : l.most = some 63) (hdf : d.params.defaults = []) (hr : Room k callerA)
    (F : ∀ (w : World) (mg : Str → Option Value) (fa : Addr) (h : Heap), YP w h → h.Ns mainGlobals mg → mg d.name = some (.ref fa) →
      ∃ (K : PySem.W.Frag) (fd : FuncData), K.In h ∧ (∀ (s : Shared) (u : Value), BindsTo s fd ⟨[u], []⟩ [("script", u)]) ∧ ∀ base : Heap, K.In base → base.Ns mainGlobals mg → FnG l.prog w K mg base k fa fd ["script"] (spLaw K)) :
    PySem.W.WalkO q loose XP YP l.row.toRowW d [] (fun f vs => PySem.call f vs) := by
  refine Att.attach_call hn hdf fun w s0 s1 mg mb fa o pm cd doc a vs ns G Y ho hd hcd hmg hobj hints hlen hg => ?_
  obtain ⟨K, fd, KX, hb, hF⟩ := F w mg fa _ Y G.T.g hmg
  exact callG KX G.T.g G.T.b G.T.builtins G.T.nolimit hg hobj hints hlen hr hF hb
end VL


set_option maxRecDepth 100000
set_option maxHeartbeats 400000
namespace VL
open PySem PySem.Spec PyProof.Rows L2
/-! ### defs by names -/
def Ok (P : Program) (w : World) (K : PySem.W.Frag) (mg : Str → Option Value) (base : Heap) (k : Nat) (x : Str) (ps : List Str) (c : VFn) : Prop :=
  ∃ fd, FnG P w K mg base k (He.ga K x) fd ps (lift K c) ∧ Binds K fd ps [] ∧ PySem.W.keepIn K (.ref (He.ga K x)) = true ∧ mg x = some (.ref (He.ga K x))
theorem Ok.weak {P : Program} {w : World} {K : PySem.W.Frag} {mg : Str → Option Value} {base : Heap} {k : Nat} {x : Str} {ps : List Str} {c c' : VFn} (h : Ok P w K mg base k x ps c) (i : ∀ ws n Q E, c' ws n Q E → c ws n Q E) : Ok P w K mg base k x ps c' := by
  obtain ⟨fd, F, r⟩ := h
  exact ⟨fd, F.weak i, r⟩
theorem Ok.mono {P : Program} {w : World} {K : PySem.W.Frag} {mg : Str → Option Value} {base : Heap} {j k : Nat} {x : Str} {ps : List Str} {c : VFn} (h : Ok P w K mg base j x ps c) (i : j ≤ k) : Ok P w K mg base k x ps c := by
  obtain ⟨fd, F, r⟩ := h
  exact ⟨fd, F.mono i, r⟩
/-- with one keyword-only parameter, state=(0, 0) -/
abbrev stN : List Str := ["state"]
def start00 : Dt := .tuple [.int 0, .int 0]
def OkS (P : Program) (w : World) (K : PySem.W.Frag) (mg : Str → Option Value) (base : Heap) (k : Nat) (x : Str) (ps : List Str) (c : VFn) : Prop :=
  ∃ fd, FnG P w K mg base k (He.ga K x) fd (ps ++ stN) (lift K c) ∧ (∃ (dv : V) (ds : List Value), Vals [dv] ds ∧ Binds K fd (ps ++ stN) ds ∧ ∀ G, DR K G dv start00) ∧
    (∀ (s : Shared) (us ws : List Value), us.length = ps.length → ws.length = 1 → BindsTo s fd ⟨us, stN.zip ws⟩ ((ps ++ stN).zip (us ++ ws))) ∧ PySem.W.keepIn K (.ref (He.ga K x)) = true ∧ mg x = some (.ref (He.ga K x))
theorem lift_at {K : PySem.W.Frag} {U : WX} {c : VFn} {C : Ct} {σ : L2.St} {ρ : Nv} {n : Nat} {G O H : Hp} {ws : List W} {vs : List V} {Q0 : Dt → Nat → Prop} {E0 : XW} {Q : VK} (I : In K C σ ρ n G O H) (r : RWs K C G ws vs) (h : c ws n (rOf Q0) E0)
    (hq : ∀ d n', Q0 d n' → ∀ v G' O' H', In K C σ ρ n' G' O' H' → Same G G' → DR K G' v d → Q v H') (hE : LkX K U C σ ρ E0) : lift K c vs H Q fun cls d H' => U cls d σ H' :=
  ⟨⟨C.mo, G, O, H⟩, n, _, _, E0, rfl, ⟨I.good, I.go, Same.refl _, Same.refl _, I.oH, New.refl, New.refl, fun _ q => q⟩, RWs.rel (C := C) (C' := ⟨C.mo, G, O, H⟩) rfl r, h, fun w n' q v G' O' H' J rw' => by
    have I2 := I.call J
    cases w with
    | dat d => exact hq d n' q v G' O' H' I2 J.g0 rw'
    | own ds =>
      obtain ⟨a, xs, rfl, g, h0, o, r⟩ := rw'
      obtain ⟨G2, I3, s3, r3⟩ := I2.frzFresh (a := a) (ds := ds) ⟨xs, g, I.h0 a h0, o, r, fun j es e z => by
        obtain ⟨v, e1, b, ys, ev, _, _, o', _⟩ := I.slot j _ e
        rw [e1] at z; cases z; cases ev
        have h0' : H a = none := h0
        rw [I.oH _ _ o'] at h0'; cases h0'⟩
      exact hq _ n' q _ G2 O' H' I3 (J.g0.trans s3) r3
    | tok => exact q.elim
    | err p x => exact q.elim
    | scr ns => exact q.elim, fun x n' q cls d G' O' H' J r => hE x n' q cls d G' O' H' (I.call J) r⟩
theorem RWs.snoc {K : PySem.W.Frag} {C : Ct} {G : Hp} {d : Dt} {v : V} (r : DR K G v d) : ∀ {ws : List W} {vs : List V}, RWs K C G ws vs → RWs K C G (ws ++ [.dat d]) (vs ++ [v])
  | [], [], _ => ⟨r, trivial⟩
  | _ :: _, _ :: _, h => ⟨h.1, RWs.snoc r h.2⟩
  | [], _ :: _, h => h.elim
  | _ :: _, [], h => h.elim
section
variable {X : Cx} {U : WX} {e e2 : Expr} {es : List Expr} {pos p kpos : Pos} {te : VT} {al : VAW} {x : Str} {k : Nat} {ps : List Str} {c : VFn}
theorem ve_ok (F : Ok X.prog X.w X.K X.mg X.base k x ps c) (hG : X.A.guards = some []) (hr : Room k X.A) (tk : Takes X U) (hg : Gl X x) (ha : VAg X U (e :: es) al) (hdb : (x == ("__debug__" : Str)) = false := by decide)
    (he : starEach (e :: es) X.env = (false, eval e X.env) :: starEach es X.env := by rfl) (hpl : (backTo pos (starEach es X.env)).any (·.1) = false := by rfl) : VE X U (.Call (.Name x p) (e :: es) [] pos) (vCall c [] al) := by
  obtain ⟨fd, F, hb, hk, hm⟩ := F
  exact ve_call F hG hr tk hg hm hk hb .nil (dw := []) (dvs := []) trivial ha hdb he hpl
theorem vo_ok (F : Ok X.prog X.w X.K X.mg X.base k x ps c) (hG : X.A.guards = some []) (hr : Room k X.A) (tk : Takes X U) (hg : Gl X x) (ha : VAg X U (e :: es) al) (hdb : (x == ("__debug__" : Str)) = false := by decide)
    (he : starEach (e :: es) X.env = (false, eval e X.env) :: starEach es X.env := by rfl) (hpl : (backTo pos (starEach es X.env)).any (·.1) = false := by rfl) : VO X U (.Call (.Name x p) (e :: es) [] pos) (vCallO c [] al) := by
  obtain ⟨fd, F, hb, hk, hm⟩ := F
  exact vo_call F hG hr tk hg hm hk hb .nil (dw := []) (dvs := []) trivial ha hdb he hpl
/-- state left out -/
theorem ve_okD (F : OkS X.prog X.w X.K X.mg X.base k x ps c) (hG : X.A.guards = some []) (hr : Room k X.A) (tk : Takes X U) (hg : Gl X x) (ha : VAg X U (e :: es) al) (hdb : (x == ("__debug__" : Str)) = false := by decide)
    (he : starEach (e :: es) X.env = (false, eval e X.env) :: starEach es X.env := by rfl) (hpl : (backTo pos (starEach es X.env)).any (·.1) = false := by rfl) : VE X U (.Call (.Name x p) (e :: es) [] pos) (vCall c [.dat start00] al) := by
  obtain ⟨fd, F, ⟨dv, ds, hv, hb, hd⟩, _, hk, hm⟩ := F
  exact ve_call F hG hr tk hg hm hk hb hv (dw := [.dat start00]) (dvs := [dv]) ⟨hd, trivial⟩ ha hdb he hpl
/-- state=e -/
def vCallS (c : VFn) (al : VAW) (te : VT) : VT := fun ρ n Q E => al ρ n (fun ws n1 => te ρ n1 (fun d n2 => c (ws ++ [.dat d]) n2 (rOf Q) E) E) E
theorem ve_okS (F : OkS X.prog X.w X.K X.mg X.base k x ps c) (hG : X.A.guards = some []) (hr : Room k X.A) (tk : Takes X U) (hg : Gl X x) (ha : VAg X U (e :: es) al) (hkw : VE X U e2 te) (hdb : (x == ("__debug__" : Str)) = false := by decide)
    (hall : (backToKw pos (keywordEach [⟨some "state", e2, kpos⟩] X.env)).all (·.1.isSome) = true := by rfl) (hks : (backToKw pos (keywordEach [⟨some "state", e2, kpos⟩] X.env)).filterMap (·.1) = stN := by rfl)
    (he : starEach (e :: es) X.env = (false, eval e X.env) :: starEach es X.env := by rfl)
    (hpl : ((backTo pos (starEach (e :: es) X.env)).any (·.1) || (backToKw pos (keywordEach [⟨some "state", e2, kpos⟩] X.env)).any (·.1.isNone)) = false := by rfl) :
    VE X U (.Call (.Name x p) (e :: es) [⟨some "state", e2, kpos⟩] pos) (vCallS c al te) := by
  obtain ⟨fd, F, _, hb, hk, hm⟩ := F
  constructor
  intro pins s σ H Q I h
  obtain ⟨C, ρ, n, G, O, Q0, E0, J, h, hq, hE⟩ := h
  refine wpAny_Call_Name_kw (ld_glob I hg hm ?_ hdb)
  refine PySem.W.callWith_KW (h₀ := X.base) I.ok.mod.kin hk hall (thn (ha.run pos pins s σ H (fun vs H1 => (tCons (up X.K U te) tNil) σ H1 fun zs H2 => ∃ z, zs = [z] ∧ lift X.K c (vs ++ [z]) H2 Q fun cls d H' => U cls d σ H') I ?_) fun us s1 z => ?_) hpl he
  · exact ⟨C, ρ, n, G, O, _, E0, J, h, fun ws n1 h1 vs G1 O1 H1 I1 s1 r1 => ⟨C, ρ, n1, G1, O1, _, E0, I1, h1, fun d n2 h2 v G2 O2 H2 I2 s2 rd => ⟨v, rfl, lift_at I2 (RWs.snoc rd (r1.same s2)) h2 (fun d' n' q v' G' O' H' I' s' r' => hq d' n' q v' G' O' H' I' ((s1.trans s2).trans s') r') hE⟩, hE⟩, hE⟩
  · obtain ⟨vs, H1, I1, r, q⟩ := z
    refine thn ((pk_cons hkw pk_nil).run pos pins s1 σ H1 _ I1 q) fun ws s2 y => ?_
    obtain ⟨zs, H2, I2, rz, z, rfl, q2⟩ := y
    refine ⟨I2.kIn, ?_⟩
    rw [hks]
    have r2 : Vals (vs ++ [z]) (us ++ ws) := r.append rz
    have hl := F.len _ _ _ _ q2
    have hlw : ws.length = 1 := rz.length.symm
    have hlu : us.length = ps.length := by
      rw [List.length_append, List.length_append] at hl
      have := r.length
      simp at hl
      omega
    refine wpAny_call (codeAny_mono (F.run X.A X.stack s2 H2 ⟨us, stN.zip ws⟩ (us ++ ws) (vs ++ [z]) Q _ hG hr I2.env0 (hb s2 us ws hlu hlw) r2 q2) fun rs s' hq => ?_)
    match rs, hq with
    | .error e, hq => exact passAt tk σ pins H2 s2 e s' I2 hq
    | .ok (.ret u), hq => exact I2.after hq
end
/-! ### a head with one more look -/
def hookX (n : Nat) (fa : List He.Fa) (fn : List He.DefD) (ex : PySem.W.Frag → Bool) : PySem.W.Hook where
  α := He.AlD × Bool
  obs := fun s => (He.obsDG n fa fn s.heap.get?, ex (He.frG s.heap.get? (He.asD s.heap.get? n)))
  val := fun _ => (He.valD fn, true)
  says := fun _ h => ∃ K : PySem.W.Frag, K.In h ∧ He.SaysD fa fn K ∧ ex K = true
  of := fun _ _ e => by
    have e1 := congrArg Prod.fst e
    have e2 := congrArg Prod.snd e
    exact ⟨_, He.frG_in, e1, e2⟩
  keeps := fun _ _ _ ⟨K, hK, c⟩ k => ⟨K, PySem.W.Frag.In.keeps hK k, c⟩
def obX (n : Nat) (fa : List He.Fa) (fn : List He.DefD) (ex : PySem.W.Frag → Bool) (s : PySem.W.SharedT) : He.AlD × Bool := (He.obsDG n fa fn (HandSHeadRun.getT s), ex (He.frG (HandSHeadRun.getT s) (He.asD (HandSHeadRun.getT s) n)))
theorem obX_eq {n : Nat} {fa : List He.Fa} {fn : List He.DefD} {ex : PySem.W.Frag → Bool} (s : PySem.W.SharedT) : obX n fa fn ex s = (hookX n fa fn ex).obs s.abs := by
  have e : HandSHeadRun.getT s = s.abs.heap.get? := funext (HandSHeadRun.getT_eq s)
  unfold obX
  rw [e]
  rfl
/-- the tuple that is the default of a keyword-only parameter -/
def kwAt (f : Str × Option Str) (y : Str) (K : PySem.W.Frag) : Addr := match K.lookup (He.fAd K f) with
  | some ⟨_, _, .func fd, _⟩ => (match fd.kwdefaults with
    | .ref D => (match PySem.W.nsIn K D y with
      | some (some (.ref a)) => a
      | _ => 0)
    | _ => 0)
  | _ => 0
def tupAt (K : PySem.W.Frag) (a : Addr) (vs : List V) : Bool := match K.lookup a with
  | some ⟨.type c, _, .seq its _, _⟩ => decide (c = "tuple") && (decide (its.size ≤ sizeLine) && He.relAll vs its.toList)
  | _ => false
theorem tupAt_ok {K : PySem.W.Frag} {a : Addr} {vs : List V} (h : tupAt K a vs = true) (H : Hp) : SqT K H a vs := by
  unfold tupAt at h
  cases q : K.lookup a with
  | none => rw [q] at h; cases h
  | some o =>
    obtain ⟨oc, od, dt, osl⟩ := o
    rw [q] at h
    cases oc with
    | type c =>
      cases dt with
      | seq its n =>
        obtain ⟨h1, h2⟩ := He.ba (show (decide (c = "tuple") && (decide (its.size ≤ sizeLine) && He.relAll vs its.toList)) = true from h)
        obtain ⟨h3, h4⟩ := He.ba h2
        exact .inr ⟨_, its, n, q, congrArg Value.type (of_decide_eq_true h1), rfl, of_decide_eq_true h3, He.relAll_ok h4⟩
      | _ => cases h
    | _ => cases dt <;> cases h
theorem tup00 {K : PySem.W.Frag} {a : Addr} (h : tupAt K a [.int 0, .int 0] = true) (G : Hp) : DR K G (.ref a) start00 := .tup (tupAt_ok h G) (.cons (.int 0) (.cons (.int 0) .nil))
def kitB (K : PySem.W.Frag) (T : String) : Bool := ["NoneType", "bool", "int", "str", "list", "tuple", "dict"].all fun t => decide (PySem.W.kitOne K (.type t) (.type T) = some (t == T || (T == "int" && t == "bool")))
theorem kitB_ok {K : PySem.W.Frag} {T : String} (h : kitB K T = true) : KitOk K T := fun t ht => of_decide_eq_true (List.all_eq_true.mp h t ht)
/-! ### lengths of what is no datum -/
section
variable {X : Cx} {U : WX} {pos p p2 : Pos} {x : Str}
def vLenO (k : Nat) : VT := fun ρ n Q _ => match ρ[k]? with
  | some (some (.own ds)) => Q (.int (ds.length : Int)) n
  | _ => False
theorem ve_lenO {k : Nat} (hg : Gl X "len") (hm : X.mg "len" = none) (hv : bootBuiltins "len" = some (.builtin "len")) (hN : X.N[k]? = some x := by rfl) (hvs : Vis X.env.scope x := by first | exact Or.inl rfl | exact Or.inr (Or.inl rfl) | exact Or.inr (Or.inr rfl)) (hd : (x == ("__debug__" : Str)) = false := by decide)
    (hcd : (x == ("__classdict__" : Str)) = false := by decide) (he : starEach [.Name x p2] X.env = (false, eval (.Name x p2) X.env) :: starEach [] X.env := by rfl) (hpl : (backTo pos (starEach [] X.env)).any (·.1) = false := by rfl) :
    VE X U (.Call (.Name "len" p) [.Name x p2] [] pos) (vLenO k) :=
  pe_imp (pe_callB call_len_seq hg hm hv (pa_cons (pe_var hN hvs hd hcd) pa_nil he) (by decide) (by decide) he hpl) fun σ H Q ⟨C, ρ, n, G, O, Q0, E0, I, h, hq, hE⟩ => by
    unfold vLenO at h
    split at h
    · next ds e0 =>
      obtain ⟨v, e1, a, xs, rfl, g, h0, o, r⟩ := I.slot k _ e0
      exact ⟨_, e1, a, xs, rfl, .inl (SqL.of (I.oH _ _ o)), by rw [r.length]; exact hq _ n h _ G O H I (Same.refl _) (.int _)⟩
    · exact h.elim
def vLenS (k : Nat) : VT := fun ρ n Q _ => match ρ[k]? with
  | some (some (.scr ns)) => Q (.int (ns.length : Int)) n
  | _ => False
theorem ve_lenS {k : Nat} (hg : Gl X "len") (hm : X.mg "len" = none) (hv : bootBuiltins "len" = some (.builtin "len")) (hN : X.N[k]? = some x := by rfl) (hvs : Vis X.env.scope x := by first | exact Or.inl rfl | exact Or.inr (Or.inl rfl) | exact Or.inr (Or.inr rfl)) (hd : (x == ("__debug__" : Str)) = false := by decide)
    (hcd : (x == ("__classdict__" : Str)) = false := by decide) (he : starEach [.Name x p2] X.env = (false, eval (.Name x p2) X.env) :: starEach [] X.env := by rfl) (hpl : (backTo pos (starEach [] X.env)).any (·.1) = false := by rfl) :
    VE X U (.Call (.Name "len" p) [.Name x p2] [] pos) (vLenS k) :=
  pe_imp (pe_callB call_len_seq hg hm hv (pa_cons (pe_var hN hvs hd hcd) pa_nil he) (by decide) (by decide) he hpl) fun σ H Q ⟨C, ρ, n, G, O, Q0, E0, I, h, hq, hE⟩ => by
    unfold vLenS at h
    split at h
    · next ns e0 =>
      obtain ⟨v, e1, a, rfl, sq⟩ := I.slot k _ e0
      exact ⟨_, e1, a, _, rfl, .inl (I.gH.seq sq), by rw [List.length_map]; exact hq _ n h _ G O H I (Same.refl _) (.int _)⟩
    · exact h.elim
def dIadd : R2D := fun a b Q => match a, b with
  | .int i, .int j => Q (.int (i + j))
  | _, _ => False
theorem o_iaddD : VOp X (inplaceOp .Add) dIadd := op2I0 iop_add fun a b Q h => by
  cases a <;> cases b <;> first | exact ⟨_, _, _, rfl, rfl, fun _ => .int _, h⟩ | exact h.elim
end
/-! ### the machine's dict -/
theorem key_cl : ¬ (Sum.inr ("cells" : Str) : L2.Key) = Sum.inr ("left" : Str) := fun e => absurd (Sum.inr.inj e) (by decide +kernel)
theorem key_ca : ¬ (Sum.inr ("cells" : Str) : L2.Key) = Sum.inr ("at" : Str) := fun e => absurd (Sum.inr.inj e) (by decide +kernel)
theorem key_la : ¬ (Sum.inr ("left" : Str) : L2.Key) = Sum.inr ("at" : Str) := fun e => absurd (Sum.inr.inj e) (by decide +kernel)
theorem m_cells (lc ll : Addr) (z : Int) : valV (mKvs lc ll z) (.inr "cells") = some (.ref lc) := valV_pos rfl
theorem m_left (lc ll : Addr) (z : Int) : valV (mKvs lc ll z) (.inr "left") = some (.ref ll) := (valV_neg key_cl).trans (valV_pos rfl)
theorem m_at (lc ll : Addr) (z : Int) : valV (mKvs lc ll z) (.inr "at") = some (.int z) := (valV_neg key_ca).trans ((valV_neg key_la).trans (valV_pos rfl))
theorem m_putLeft (lc ll l : Addr) (z : Int) : putK (mKvs lc ll z) (.inr "left") (.ref l) = mKvs lc l z := by
  unfold putK mKvs
  have h1 := key_cl
  have h2 : ¬ (Sum.inr ("at" : Str) : L2.Key) = Sum.inr ("left" : Str) := fun e => key_la e.symm
  simp [h1, h2]
theorem m_putAt (lc ll : Addr) (z y : Int) : putK (mKvs lc ll z) (.inr "at") (.int y) = mKvs lc ll y := by
  unfold putK mKvs
  have h1 := key_ca
  have h2 := key_la
  simp [h1, h2]
theorem m_merge (lc ll : Addr) (z : Int) : mergeK [] (mKvs lc ll z) = mKvs lc ll z := by
  have h1 := key_cl
  have h2 := key_ca
  have h3 := key_la
  simp [mergeK, mKvs, putK, h1, h2, h3]
theorem Mach.garb {m p : Addr} {n : Nat} {O H : Hp} {o : HO} (M : Mach m n O H) (hp : H p = none) : Mach m n O (L2.upd H p o) := by
  obtain ⟨s, om, lc, ll, cs, ls, z, h1, h2, h3, h4, h5, h6, r⟩ := M
  have ne : ∀ {q : Addr} {u : HO}, H q = some u → q ≠ p := fun {q u} e => ne_of_none e hp
  exact ⟨s.trans (same_upd hp), om, lc, ll, cs, ls, z, h1, h2, h3, by rw [upd_ne (ne h4)]; exact h4, by rw [upd_ne (ne h5)]; exact h5, by rw [upd_ne (ne h6)]; exact h6, r⟩
theorem dom_upd {H0 H : Hp} {p : Addr} {o : HO} (d : ∀ a, H a = none → H0 a = none) : ∀ a, L2.upd H p o a = none → H0 a = none := fun a e => by
  by_cases h : a = p
  · subst h; rw [upd_same] at e; cases e
  · rw [upd_ne h] at e; exact d a e
/-! ### a if c else b, as a test -/
def vIfT (t ta tb : VB) : VB := fun ρ n Q E => t ρ n (fun c n1 => if c = true then ta ρ n1 Q E else tb ρ n1 Q E) E
theorem vt_if {X : Cx} {U : WX} {a b c : Expr} {pos : Pos} {xa xb xc : VB} (hc : VTt X U c xc) (ha : VTt X U a xa) (hb : VTt X U b xb) : VTt X U (.IfExp c a b pos) (vIfT xc xa xb) := by
  constructor
  intro pins s σ H Q I h
  obtain ⟨C, ρ, n, G, O, Q0, E0, J, h, hq, he⟩ := h
  refine isTrue_IfExp (thn (hc.run pins s σ H (fun d H1 => if d = true then upB X.K U xa σ H1 Q else upB X.K U xb σ H1 Q) I ⟨C, ρ, n, G, O, _, E0, J, h, fun d n1 h1 G1 O1 H1 I1 s1 => ?_, he⟩) fun d s2 z => ?_)
  · cases d with
    | true =>
      rw [if_pos rfl] at h1 ⊢
      exact ⟨C, ρ, n1, G1, O1, _, E0, I1, h1, fun b n' hb G' O' H' I' s' => hq b n' hb G' O' H' I' (s1.trans s'), he⟩
    | false =>
      rw [if_neg Bool.false_ne_true] at h1 ⊢
      exact ⟨C, ρ, n1, G1, O1, _, E0, I1, h1, fun b n' hb G' O' H' I' s' => hq b n' hb G' O' H' I' (s1.trans s'), he⟩
  · obtain ⟨H1, I1, q1⟩ := z
    cases d with
    | true =>
      rw [if_pos rfl] at q1
      exact ha.run pins s2 σ H1 Q I1 q1
    | false =>
      rw [if_neg Bool.false_ne_true] at q1
      exact hb.run pins s2 σ H1 Q I1 q1
end VL


set_option maxRecDepth 100000
set_option maxHeartbeats 400000
namespace VL
open PySem PySem.Spec PyProof.Rows L2
/-! ### shapes of ints -/
theorem lay_ints : ∀ ns : List Int, PyData.canLayAll0 (ns.map PyData.int) = true
  | [] => by simp [PyData.canLayAll0]
  | n :: ns => by simp only [List.map_cons, PyData.canLayAll0, PyData.canLay0, Bool.true_and, lay_ints ns]
theorem depth_ints : ∀ ns : List Int, PyData.depthAll (ns.map PyData.int) = 0
  | [] => by simp [PyData.depthAll]
  | n :: ns => by simp [PyData.depthAll, PyData.depth, depth_ints ns]
theorem shaped_ints (ns : List Int) : SeqAt.shaped (.list (ns.map .int)) = true := by
  unfold SeqAt.shaped
  rw [Bool.and_eq_true]
  refine ⟨by simp only [PyData.canLay0]; exact lay_ints ns, decide_eq_true ?_⟩
  simp only [PyData.depth, depth_ints]
  decide
theorem dp_ints {K : PySem.W.Frag} {H : Hp} : ∀ ns : List Int, DpAll K H (ns.map V.int) (ns.map PyData.int)
  | [] => .nil
  | n :: ns => .cons (.int n) (dp_ints ns)
theorem ne_nil {K : PySem.W.Frag} {H : Hp} {l p : Addr} {ls : List Int} {Q : VK} (h : H l = some (.lst (ls.map V.int))) (hp : H p = some (.lst [])) (h1 : ls ≠ [] → Q (.bl true) H) (h2 : ls = [] → Q (.bl false) H) : rNeD K (.ref l) (.ref p) H Q := by
  refine ⟨.list (ls.map .int), .list [], .lst (SqL.of h) (dp_ints ls), .lst (SqL.of hp) .nil, shaped_ints ls, shaped_ints [], ?_⟩
  cases ls with
  | nil =>
    have e : PyData.eqv (.list (([] : List Int).map PyData.int)) (.list []) = true := by simp [PyData.eqv, PyData.eqvAll]
    rw [e]
    exact h2 rfl
  | cons x xs =>
    have e : PyData.eqv (.list ((x :: xs).map PyData.int)) (.list []) = false := by simp [PyData.eqv, PyData.eqvAll]
    rw [e]
    exact h1 (by simp)
/-! ### the machine, opened -/
structure MK (m : Addr) (n : Nat) (O H : Hp) (lc ll : Addr) (cs ls : List Int) (z : Int) : Prop where
  same : Same O H
  om : O m = none
  oc : O lc = none
  ol : O ll = none
  ne : lc ≠ ll
  hm : H m = some (.dK (mKvs lc ll z))
  hc : H lc = some (.lst (cs.map V.int))
  hl : H ll = some (.lst (ls.map V.int))
  z0 : 0 ≤ z
  z1 : z ≤ n
  nc : cs.length ≤ 63
  nl : ls.length ≤ 63
theorem Mach.mk' {m : Addr} {n : Nat} {O H : Hp} (M : Mach m n O H) : ∃ lc ll cs ls z, MK m n O H lc ll cs ls z := by
  obtain ⟨s, om, lc, ll, cs, ls, z, h1, h2, h3, h4, h5, h6, a, b, c, d⟩ := M
  exact ⟨lc, ll, cs, ls, z, s, om, h1, h2, h3, h4, h5, h6, a, b, c, d⟩
section
variable {m : Addr} {n : Nat} {O H : Hp} {lc ll : Addr} {cs ls : List Int} {z : Int}
theorem MK.mach (M : MK m n O H lc ll cs ls z) : Mach m n O H := ⟨M.same, M.om, lc, ll, cs, ls, z, M.oc, M.ol, M.ne, M.hm, M.hc, M.hl, M.z0, M.z1, M.nc, M.nl⟩
theorem MK.garb {p : Addr} {o : HO} (M : MK m n O H lc ll cs ls z) (hp : H p = none) : MK m n O (L2.upd H p o) lc ll cs ls z :=
  ⟨M.same.trans (same_upd hp), M.om, M.oc, M.ol, M.ne, by rw [upd_ne (ne_of_none M.hm hp)]; exact M.hm, by rw [upd_ne (ne_of_none M.hc hp)]; exact M.hc, by rw [upd_ne (ne_of_none M.hl hp)]; exact M.hl, M.z0, M.z1, M.nc, M.nl⟩
theorem MK.gl (M : MK m n O H lc ll cs ls z) : DGet H m (.str "left") (some (.ref ll)) := by
  have := DGet.k (k := Sum.inr "left") M.hm
  rw [m_left] at this
  exact this
theorem MK.gc (M : MK m n O H lc ll cs ls z) : DGet H m (.str "cells") (some (.ref lc)) := by
  have := DGet.k (k := Sum.inr "cells") M.hm
  rw [m_cells] at this
  exact this
theorem MK.ga (M : MK m n O H lc ll cs ls z) : DGet H m (.str "at") (some (.int z)) := by
  have := DGet.k (k := Sum.inr "at") M.hm
  rw [m_at] at this
  exact this
theorem MK.nm (M : MK m n O H lc ll cs ls z) : lc ≠ m ∧ ll ≠ m := ⟨ne_of M.hc M.hm (by intro q; cases q), ne_of M.hl M.hm (by intro q; cases q)⟩
/-- m['left'] = a new list -/
theorem MK.pl {l : Addr} {ms : List Int} (M : MK m n O H lc ll cs ls z) (hl : H l = some (.lst (ms.map V.int))) (ol : O l = none) (hlc : lc ≠ l) (hs : ms.length ≤ 63) : DPut H m (.str "left") (.ref l) (L2.upd H m (.dK (mKvs lc l z))) ∧ MK m n O (L2.upd H m (.dK (mKvs lc l z))) lc l cs ms z := by
  refine ⟨?_, ?_⟩
  · have := DPut.k (k := Sum.inr "left") (v := .ref l) M.hm (by show 3 < sizeLine; decide)
    rw [m_putLeft] at this
    exact this
  · have nl : l ≠ m := ne_of hl M.hm (by intro q; cases q)
    exact ⟨fun b o e => by rw [upd_ne (ne_of_none e M.om)]; exact M.same _ _ e, M.om, M.oc, ol, hlc, upd_same, by rw [upd_ne M.nm.1]; exact M.hc, by rw [upd_ne nl]; exact hl, M.z0, M.z1, M.nc, hs⟩
theorem MK.pa {y : Int} {n' : Nat} (M : MK m n O H lc ll cs ls z) (y0 : 0 ≤ y) (y1 : y ≤ n') : DPut H m (.str "at") (.int y) (L2.upd H m (.dK (mKvs lc ll y))) ∧ MK m n' O (L2.upd H m (.dK (mKvs lc ll y))) lc ll cs ls y := by
  refine ⟨?_, ?_⟩
  · have := DPut.k (k := Sum.inr "at") (v := .int y) M.hm (by show 3 < sizeLine; decide)
    rw [m_putAt] at this
    exact this
  · exact ⟨fun b o e => by rw [upd_ne (ne_of_none e M.om)]; exact M.same _ _ e, M.om, M.oc, M.ol, M.ne, upd_same, by rw [upd_ne M.nm.1]; exact M.hc, by rw [upd_ne M.nm.2]; exact M.hl, y0, y1, M.nc, M.nl⟩
/-- m['left'][0] = x -/
theorem MK.ph {ms : List Int} (M : MK m n O H lc ll cs ls z) (hs : ms.length ≤ 63) : MK m n O (L2.upd H ll (.lst (ms.map V.int))) lc ll cs ms z :=
  ⟨fun b o e => by rw [upd_ne (ne_of_none e M.ol)]; exact M.same _ _ e, M.om, M.oc, M.ol, M.ne, by rw [upd_ne M.nm.2.symm]; exact M.hm, by rw [upd_ne M.ne]; exact M.hc, upd_same, M.z0, M.z1, M.nc, hs⟩
end
theorem atI_ints {ns : List Int} {j : Nat} {u : Int} (h : ns[j]? = some u) : atI (ns.map V.int) (j : Int) = some (V.int u) := atI_nat (by rw [List.getElem?_map, h]; rfl)
theorem cut1_ints (ns : List Int) : cutV (ns.map V.int) (some 1) none = (ns.drop 1).map V.int := by
  unfold cutV
  have e1 : HT.sIx (ns.map V.int).length 0 (some 1) = min 1 ns.length := by
    rw [show (1 : Int) = ((1 : Nat) : Int) from rfl, HT.sIx_nat, List.length_map]
  rw [e1, HT.sIx_none, List.length_map]
  cases ns with
  | nil => rfl
  | cons x xs =>
    have : min 1 (x :: xs).length = 1 := by simp
    rw [this, List.map_drop]
    exact List.take_of_length_le (by simp)
theorem sealed_ex {α : Type _} (a : α) : ∃ x, x = a := ⟨a, rfl⟩
/-- a, closed to the kernel -/
noncomputable def sealed {α : Type _} (a : α) : α := Classical.choose (sealed_ex a)
theorem sealed_eq {α : Type _} (a : α) : sealed a = a := Classical.choose_spec (sealed_ex a)
theorem ixN0 {n : Nat} (hj : 0 < n) : ixN n 0 = some 0 := by
  unfold ixN
  rw [if_pos (Int.le_refl _), if_pos (by omega)]
  rfl
theorem seq_by {t u : TS} {D : Ends} {σ : L2.St} {H : Hp} (J : L2.St → Hp → Prop) (hu : ∀ σ H, J σ H → u D σ H) (ht : ∀ N : L2.St → Hp → Prop, (∀ σ H, J σ H → N σ H) → t { D with nx := N } σ H) : tSeq t u D σ H := ht _ hu
end VL


set_option maxRecDepth 100000
set_option maxHeartbeats 400000
namespace VL
open PySem PySem.Spec PyProof.Rows L2
/-! ### kinds, places, loops: the plain side -/
theorem isi_int (i : Int) : isiD "int" (.int i) = true := rfl
theorem isi_intb (i : Int) : isiD "bool" (.int i) = false := rfl
theorem isi_tup (xs : List Dt) : isiD "tuple" (.tuple xs) = true := rfl
theorem loop_cons {g : VGt} {tb : VST} {V : VN} {d : Dt} {ds : List Dt} {ρ : Nv} {n : Nat} : vLoop g tb V (d :: ds) ρ n = g d ρ fun ρ1 => tb { V with nx := vLoop g tb V ds, ct := vLoop g tb V ds, bk := V.nx } ρ1 n := rfl
theorem loop_nil {g : VGt} {tb : VST} {V : VN} {ρ : Nv} {n : Nat} : vLoop g tb V [] ρ n = V.nx ρ n := rfl
theorem lc_cons {g : VGt} {xt : VB} {te : VT} {ρ : Nv} {Q : List Dt → Nat → Prop} {d : Dt} {ds acc : List Dt} {n : Nat} : vLcL g xt te ρ Q (d :: ds) acc n = g d ρ fun ρ1 => xt ρ1 n (fun b n1 => if b = true then te ρ1 n1 (fun y n2 => acc.length < sizeLine ∧ vLcL g xt te ρ Q ds (acc ++ [y]) n2) (fun _ _ => False) else vLcL g xt te ρ Q ds acc n1) fun _ _ => False := rfl
theorem lc_nil {g : VGt} {xt : VB} {te : VT} {ρ : Nv} {Q : List Dt → Nat → Prop} {acc : List Dt} {n : Nat} : vLcL g xt te ρ Q [] acc n = Q acc n := rfl
section
variable {α β : Type}
theorem at0 {a : α} {l : List α} : atI (a :: l) 0 = some a := atI_nat (j := 0) rfl
theorem at1 {a b : α} {l : List α} : atI (a :: b :: l) 1 = some b := atI_nat (j := 1) rfl
theorem at2 {a b c : α} {l : List α} : atI (a :: b :: c :: l) 2 = some c := atI_nat (j := 2) rfl
theorem at3 {a b c d : α} {l : List α} : atI (a :: b :: c :: d :: l) 3 = some d := atI_nat (j := 3) rfl
theorem at4 {a b c d e : α} {l : List α} : atI (a :: b :: c :: d :: e :: l) 4 = some e := atI_nat (j := 4) rfl
theorem atLast {a : α} {l : List α} : atI (l ++ [a]) (-1) = some a := by
  unfold atI ixN
  rw [if_neg (by decide), if_pos (by rw [List.length_append, List.length_singleton]; omega)]
  have : (-1 + ((l ++ [a]).length : Int)).toNat = l.length := by rw [List.length_append, List.length_singleton]; omega
  rw [this]
  simp
/-- the thing at a place -/
def nth [Inhabited α] (xs : List α) (i : Int) : α := xs.getD i.toNat default
theorem atI_map [Inhabited α] {xs : List α} {f : α → β} {i : Int} (h0 : 0 ≤ i) (h1 : i < xs.length) : atI (xs.map f) i = some (f (nth xs i)) := by
  obtain ⟨j, rfl⟩ : ∃ j : Nat, i = j := ⟨i.toNat, (Int.toNat_of_nonneg h0).symm⟩
  have hj : j < xs.length := by omega
  refine atI_nat ?_
  rw [List.getElem?_map, List.getElem?_eq_getElem hj]
  unfold nth
  simp [hj]
theorem nth_mem [Inhabited α] {xs : List α} {i : Int} (h0 : 0 ≤ i) (h1 : i < xs.length) : nth xs i ∈ xs := by
  have hj : i.toNat < xs.length := by omega
  unfold nth
  simp [hj]
end
/-! ### what repr takes -/
structure Sh (w dp : Nat) (d : Dt) : Prop where
  sh : d.showable = true
  lv : d.leavesShort 13 = true
  wt : d.weight ≤ w
  dp : d.depth ≤ dp
  nd : d.hasDict = false
structure ShA (w dp : Nat) (ds : List Dt) : Prop where
  sh : PyData.showableAll ds = true
  lv : PyData.leavesShortAll 13 ds = true
  wt : PyData.weightAll ds ≤ w
  dp : PyData.depthAll ds ≤ dp
  nd : PyData.hasDictAll ds = false
theorem Sh.int {i : Int} (h : i.natAbs < 10 ^ 12) : Sh 40 0 (.int i) := by
  have hl : i.natAbs.log2 ≤ 39 := by
    by_cases e : i.natAbs = 0
    · rw [e]; decide
    · have := (Nat.log2_lt e (k := 40)).mpr (by omega)
      omega
  refine ⟨?_, ?_, ?_, ?_, by simp only [PyData.hasDict]⟩
  · simp only [PyData.showable]; exact decide_eq_true (by omega)
  · simp only [PyData.leavesShort]; exact decide_eq_true (PyData.shown_int_le h)
  · simp only [PyData.weight]; split <;> omega
  · simp [PyData.depth]
theorem ShA.nil {dp : Nat} : ShA 0 dp [] := ⟨rfl, rfl, Nat.le_refl _, Nat.zero_le _, by simp only [PyData.hasDictAll]⟩
theorem ShA.cons {w1 w2 dp : Nat} {d : Dt} {ds : List Dt} (a : Sh w1 dp d) (b : ShA w2 dp ds) : ShA (w1 + 1 + w2) dp (d :: ds) := by
  refine ⟨?_, ?_, ?_, ?_, by simp only [PyData.hasDictAll, a.nd, b.nd, Bool.or_self]⟩
  · simp only [PyData.showableAll, a.sh, b.sh, Bool.and_self]
  · simp only [PyData.leavesShortAll, a.lv, b.lv, Bool.and_self]
  · simp only [PyData.weightAll]; have := a.wt; have := b.wt; omega
  · simp only [PyData.depthAll]; have := a.dp; have := b.dp; omega
theorem Sh.tup {w dp : Nat} {ds : List Dt} (a : ShA w dp ds) : Sh w (dp + 1) (.tuple ds) := by
  refine ⟨?_, ?_, ?_, ?_, by simp only [PyData.hasDict]; exact a.nd⟩
  · simp only [PyData.showable]; exact a.sh
  · simp only [PyData.leavesShort]; exact a.lv
  · simp only [PyData.weight]; exact a.wt
  · simp only [PyData.depth]; have := a.dp; omega
theorem Sh.lst {w dp : Nat} {ds : List Dt} (a : ShA w dp ds) : Sh w (dp + 1) (.list ds) := by
  refine ⟨?_, ?_, ?_, ?_, by simp only [PyData.hasDict]; exact a.nd⟩
  · simp only [PyData.showable]; exact a.sh
  · simp only [PyData.leavesShort]; exact a.lv
  · simp only [PyData.weight]; exact a.wt
  · simp only [PyData.depth]; have := a.dp; omega
theorem Sh.le {w w' dp dp' : Nat} {d : Dt} (a : Sh w dp d) (h : w ≤ w') (h2 : dp ≤ dp') : Sh w' dp' d := ⟨a.sh, a.lv, Nat.le_trans a.wt h, Nat.le_trans a.dp h2, a.nd⟩
theorem ShA.of {w dp : Nat} : ∀ {ds : List Dt}, (∀ d ∈ ds, Sh w dp d) → ShA ((w + 1) * ds.length) dp ds
  | [], _ => .nil
  | d :: ds, h => by
    have r := ShA.cons (h d (by simp)) (ShA.of (ds := ds) fun x hx => h x (List.mem_cons_of_mem _ hx))
    refine ⟨r.sh, r.lv, Nat.le_trans r.wt ?_, r.dp, r.nd⟩
    rw [List.length_cons, Nat.mul_add]
    omega
theorem ShA.ints {ns : List Int} (h : ∀ i ∈ ns, i.natAbs < 10 ^ 12) : ShA (41 * ns.length) 0 (ns.map PyData.int) := by
  have := ShA.of (w := 40) (dp := 0) (ds := ns.map PyData.int) (fun d hd => by
    obtain ⟨i, hi, rfl⟩ := List.mem_map.mp hd
    exact Sh.int (h i hi))
  rw [List.length_map] at this
  exact this
theorem Sh.repr {w dp : Nat} {d : Dt} (a : Sh w dp d) (h : w ≤ 2 ^ 20) (h2 : dp ≤ 60) {Q : Dt → Prop} (q : Q (.str d.shown)) : bRepr [d] Q :=
  ⟨a.nd, a.sh, PyData.shown_fits (by decide) (by decide) a.lv (Nat.le_trans a.wt h), Nat.le_trans a.dp h2, q⟩
theorem dNeS1 {x : Str} {Q : Dt → Prop} (q : Q (.bool false)) : dNe (.str x) (.str x) Q := by
  refine ⟨trivial, ?_⟩
  have : PyData.eqv (.str x) (.str x) = true := by simp [PyData.eqv]
  rw [this]
  exact q
theorem dEqS1 {x : Str} {Q : Dt → Prop} (q : Q (.bool true)) : dEq (.str x) (.str x) Q := by
  refine ⟨trivial, ?_⟩
  have : PyData.eqv (.str x) (.str x) = true := by simp [PyData.eqv]
  rw [this]
  exact q
theorem shaped_int {i : Int} : SeqAt.shaped (.int i) = true := by simp [SeqAt.shaped, PyData.canLay0, PyData.depth]
theorem dEqI {i j : Int} {Q : Dt → Prop} : dEq (.int i) (.int j) Q ↔ Q (.bool (decide (i = j))) := by
  have e : PyData.eqv (.int i) (.int j) = decide (i = j) := by simp [PyData.eqv]; rfl
  simp only [dEq, shp, shaped_int, e, true_and]
theorem dNeI {i j : Int} {Q : Dt → Prop} : dNe (.int i) (.int j) Q ↔ Q (.bool (!decide (i = j))) := by
  have e : PyData.eqv (.int i) (.int j) = decide (i = j) := by simp [PyData.eqv]; rfl
  simp only [dNe, shp, shaped_int, e, true_and]
theorem dEqS {x y : Str} {Q : Dt → Prop} : dEq (.str x) (.str y) Q ↔ Q (.bool (x == y)) := by
  have e : PyData.eqv (.str x) (.str y) = (x == y) := by simp [PyData.eqv]
  simp only [dEq, shp, e, true_and]
theorem seq_at {t u : VST} {V : VN} {ρ ρ' : Nv} {n n' : Nat} (h1 : ∀ N : Nv → Nat → Prop, N ρ' n' → t { V with nx := N } ρ n) (h2 : u V ρ' n') : vSeq t u V ρ n := h1 _ h2
theorem body_at {m k : Nat} {t : VST} {ws : List W} {n : Nat} {Q : W → Nat → Prop} {E : XW} (hk : ws.length = k) (h : t ⟨fun _ n' => Q (.dat .none) n', Q, fun _ _ => False, fun _ _ => False, fun x _ n' => E x n'⟩ (startE m ws) n) : bodyV m k t ws n Q E := ⟨hk, h⟩
theorem seq_for {ti : VA} {g : VGt} {tb u : VST} {V : VN} {ρ : Nv} {n n' : Nat} {ds : List Dt} (h1 : ∀ N : List Dt → Nat → Prop, N ds n' → ti ρ n N (fun x n' => V.xc x ρ n')) (h2 : vLoop g tb { V with nx := u V } ds ρ n') : vSeq (vFor ti g tb) u V ρ n := h1 _ h2
theorem seq_all {t u : VST} {V : VN} {ρ : Nv} {n : Nat} (J : Nv → Nat → Prop) (h1 : ∀ N : Nv → Nat → Prop, (∀ ρ' n', J ρ' n' → N ρ' n') → t { V with nx := N } ρ n) (h2 : ∀ ρ' n', J ρ' n' → u V ρ' n') : vSeq t u V ρ n := h1 _ h2
theorem seq_forA {ti : VA} {g : VGt} {tb u : VST} {V : VN} {ρ : Nv} {n : Nat} (J : List Dt → Nat → Prop) (h1 : ∀ N : List Dt → Nat → Prop, (∀ ds n', J ds n' → N ds n') → ti ρ n N (fun x n' => V.xc x ρ n')) (h2 : ∀ ds n', J ds n' → vLoop g tb { V with nx := u V } ds ρ n') : vSeq (vFor ti g tb) u V ρ n := h1 _ h2
theorem cut_hi {α : Type} (xs : List α) (k : Nat) : cutD xs none (some (k : Int)) = xs.take k := by
  unfold cutD
  rw [HT.sIx_none, HT.sIx_nat, List.drop_zero, Nat.sub_zero, List.take_eq_take_iff]
  omega
theorem cut_lo {α : Type} (xs : List α) (k : Nat) : cutD xs (some (k : Int)) none = xs.drop k := by
  unfold cutD
  rw [HT.sIx_none, HT.sIx_nat]
  by_cases h : k ≤ xs.length
  · rw [Nat.min_eq_left h]
    exact List.take_of_length_le (by simp)
  · rw [Nat.min_eq_right (by omega), List.drop_eq_nil_of_le (Nat.le_refl _), List.drop_eq_nil_of_le (by omega), List.take_nil]
theorem cut_1 {α : Type} (x : α) (xs : List α) : cutD (x :: xs) (some 1) none = xs := cut_lo (x :: xs) 1
theorem rngD_len (lo : Int) (n : Nat) : (rngD lo n).length = n := by unfold rngD; simp
theorem mem_enumD {xs : List Dt} {d : Dt} (h : d ∈ enumD xs) : ∃ (k : Int) (x : Dt), x ∈ xs ∧ d = .tuple [.int k, x] := by
  unfold enumD at h
  rw [List.mem_mapIdx] at h
  obtain ⟨i, hi, rfl⟩ := h
  exact ⟨i, xs[i], List.getElem_mem hi, rfl⟩
theorem sizeLine_pos : 2 ^ 24 = sizeLine := rfl
end VL


set_option maxRecDepth 100000
set_option maxHeartbeats 400000
namespace VL
open PySem PySem.Spec PyProof.Rows L2
section
variable {X : Cx} {U : WX} {a b c e : Expr} {pos : Pos} {te : VT} {al tl : VA}
def vPar3 (i j l : Nat) (al : VA) : VST := fun V ρ n => al ρ n (fun ds n' => match ds with
  | [d1, d2, d3] => V.nx (((ρ.set i (some (.dat d1))).set j (some (.dat d2))).set l (some (.dat d3))) n'
  | _ => False) fun x n' => V.xc x ρ n'
theorem vs_par3 {i j l : Nat} {x y z : Str} {px py pz pt : Pos} {kt k2 pt2} (hc : X.calm = true) (hN : X.N.Nodup) (hi : X.N[i]? = some x) (hj : X.N[j]? = some y) (hl : X.N[l]? = some z) (hij : i ≠ j) (hil : i ≠ l) (hjl : j ≠ l)
    (hx : X.env.scope.names.lookup x = some .local) (hy : X.env.scope.names.lookup y = some .local) (hz : X.env.scope.names.lookup z = some .local) (ha : VAa X U [a, b, c] al)
    (hw : swappedStores [.Tuple [.Name x px, .Name y py, .Name z pz] kt pt] (.Tuple [a, b, c] k2 pt2) X.env = pure (some [x, y, z]))
    (hs : swapsWithSole [.Tuple [.Name x px, .Name y py, .Name z pz] kt pt] (.Tuple [a, b, c] k2 pt2) pos.line X.env = pure false := by rfl) :
    VS X U (.Assign [.Tuple [.Name x px, .Name y py, .Name z pz] kt pt] (.Tuple [a, b, c] k2 pt2) pos) (vPar3 i j l al) := ps_imp (ps_par3 hc hN hi hj hl hij hil hjl hx hy hz ha hw hs) fun D σ H ⟨C, ρ, n, G, O, V, I, h, L⟩ =>
  ⟨C, ρ, n, G, O, _, _, I, h, fun ds n' q vs G' O' H' I' _ r => by
    match ds, r, q with
    | [d1, d2, d3], .cons r1 (.cons r2 (.cons r3 .nil)), q => exact ⟨_, _, _, rfl, L.nx _ n' q _ G' O' H' (((I'.set i r1).set j r2).set l r3)⟩, L.lkx σ ρ⟩
/-- xs, y = a new list, a datum -/
def vParO (i j : Nat) (tl : VA) (te : VT) : VST := fun V ρ n => tl ρ n (fun ds n1 => te ρ n1 (fun d n2 => V.nx ((ρ.set i (some (.own ds))).set j (some (.dat d))) n2) fun x n' => V.xc x ρ n') fun x n' => V.xc x ρ n'
theorem vs_parO {i j : Nat} {x y : Str} {px py pt : Pos} {kt k2 pt2} (hc : X.calm = true) (hN : X.N.Nodup) (hi : X.N[i]? = some x) (hj : X.N[j]? = some y) (hij : i ≠ j)
    (hx : X.env.scope.names.lookup x = some .local) (hy : X.env.scope.names.lookup y = some .local) (h1 : VO X U a tl) (h2 : VE X U b te)
    (hw : swappedStores [.Tuple [.Name x px, .Name y py] kt pt] (.Tuple [a, b] k2 pt2) X.env = pure (some [x, y]))
    (he : starEach [a, b] X.env = (false, eval a X.env) :: starEach [b] X.env := by rfl) (he2 : starEach [b] X.env = (false, eval b X.env) :: starEach [] X.env := by rfl)
    (hs : swapsWithSole [.Tuple [.Name x px, .Name y py] kt pt] (.Tuple [a, b] k2 pt2) pos.line X.env = pure false := by rfl) :
    VS X U (.Assign [.Tuple [.Name x px, .Name y py] kt pt] (.Tuple [a, b] k2 pt2) pos) (vParO i j tl te) := ps_imp (ps_par hc hN hi hj hij hx hy (pa_cons h1 (pa_cons h2 pa_nil (hs := he2)) (hs := he)) hw hs) fun D σ H ⟨C, ρ, n, G, O, V, I, h, L⟩ => by
  refine ⟨C, ρ, n, G, O, _, _, I, h, fun ds n1 q p G1 O1 H1 I1 s1 ⟨xs, g, h0, o, r, fr⟩ => ?_, L.lkx σ ρ⟩
  have g0 : C.G0 p = none := by
    cases z : C.G0 p with
    | none => rfl
    | some u => have := I1.g0 _ _ z; rw [g] at this; cases this
  refine ⟨C.hide p xs, ρ, n1, G1, O1, _, _, I1.hide g h0 o fr, q, fun d n2 q2 v G2 O2 H2 I2 s2 r2 => ?_, fun x n' ex cls d G' O' H' I' ea => L.lkx σ ρ x n' ex cls d G' O' H' (I'.show h0 I1.oh g0).1 ea⟩
  obtain ⟨J, o2, g2, fr2⟩ := I2.show h0 I1.oh g0
  exact ⟨_, _, rfl, L.nx _ n2 q2 _ G2 O2 H2 ((J.setOwn i g2 h0 o2 (DRs.same s2 r) fr2).set j r2)⟩
/-- xs * k, xs a list -/
def dRep : R2D := fun a b Q => match a, b with
  | .list xs, .int k => (-(2 ^ 63) ≤ k ∧ k < 2 ^ 63 ∧ xs.length * k.toNat ≤ sizeLine) ∧ Q (.list (List.replicate k.toNat xs).flatten)
  | _, _ => False
theorem DRs.app {K : PySem.W.Frag} {G : Hp} {ds es : List Dt} : ∀ {xs ys : List V}, DRs K G xs ds → DRs K G ys es → DRs K G (xs ++ ys) (ds ++ es) := by
  intro xs ys r q
  induction ds generalizing xs with
  | nil => cases r; exact q
  | cons d ds ih => cases r with | cons a r => exact .cons a (ih r)
theorem DRs.rep {K : PySem.W.Frag} {G : Hp} {xs : List V} {ds : List Dt} (r : DRs K G xs ds) : ∀ k : Nat, DRs K G (List.replicate k xs).flatten (List.replicate k ds).flatten
  | 0 => .nil
  | k + 1 => by
    rw [List.replicate_succ, List.replicate_succ, List.flatten_cons, List.flatten_cons]
    exact DRs.app r (DRs.rep r k)
theorem o_rep : VOp X (binaryOp .Mult) dRep := by
  intro pins s σ H x y v u Q I rx ry ⟨G, d1, d2, Q0, sg, r1, r2, q, hq⟩
  cases d1 with
  | list xs =>
    cases d2 with
    | int k =>
      cases r1 with
      | lst a1 q1 =>
        cases r2
        refine op_rep pins s σ H _ _ v u Q I rx ry ⟨_, k, _, rfl, rfl, sg _ _ a1, q.1.1, q.1.2.1, by rw [q1.length]; exact q.1.2.2, fun p hp => ?_⟩
        exact hq _ q.2 _ (L2.upd G p _) _ (same_upd hp) (same_upd (gfree sg hp)) (same_upd2 sg) (new_upd hp) (.lst upd_same (DRs.same (same_upd (gfree sg hp)) (DRs.rep q1 _)))
    | _ => exact q.elim
  | _ => exact q.elim
end
end VL


set_option maxRecDepth 100000
set_option maxHeartbeats 4000000
namespace L2
open PySem PySem.Spec PyProof.Rows
theorem tuple_mulS (l : Addr) (items : Array Value) (n : Nat) (dd : Option Addr) (sl : Array (Option Value)) (x : Int) (u : Tok) (c0 : (decide (x < -(2 ^ 63)) || decide (x ≥ 2 ^ 63)) = false) (c1 : (items.isEmpty || x == 1) = true) :
    Meets (Builtin.«tuple.__mul__» ⟨[.ref l, .int x u], []⟩) (fun _ R s => s.heap.get? l = some { cls := .type "tuple", dict := dd, data := .seq items n, slots := sl } ∧ R (.ok (.ret (Value.ref l))) s) :=
  .of_wp fun prog w A R s h => by
    obtain ⟨hp, g, d, tk, os⟩ := s
    obtain ⟨hl, h⟩ := h
    have f1 := AutoSeq1.idx_int
    wp_walk using wpAny_loadPart' hl
    repeat (first
      | (refine wpAny_ite_false (decide_eq_false (by rw [c0]; exact Bool.false_ne_true)) ?_; wp_walk using wpAny_loadPart' hl)
      | (refine wpAny_ite_true (decide_eq_true c1) ?_; wp_walk using wpAny_loadPart' hl))
    exact ⟨_, rfl, h⟩
theorem tuple_mul0 (l : Addr) (items : Array Value) (n : Nat) (dd : Option Addr) (sl : Array (Option Value)) (x : Int) (u : Tok) (c0 : (decide (x < -(2 ^ 63)) || decide (x ≥ 2 ^ 63)) = false) (c1 : (items.isEmpty || x == 1) = false) (c2 : (decide (x ≤ 0) || items.isEmpty) = true) :
    Meets (Builtin.«tuple.__mul__» ⟨[.ref l, .int x u], []⟩) (fun _ R s => s.heap.get? l = some { cls := .type "tuple", dict := dd, data := .seq items n, slots := sl } ∧
      R (.ok (.ret (Value.ref s.heap.objs.size))) { s with heap := s.heap.push { cls := Value.type "tuple", data := Data.seq #[] }, toks := s.toks }) :=
  .of_wp fun prog w A R s h => by
    obtain ⟨hp, g, d, tk, os⟩ := s
    obtain ⟨hl, h⟩ := h
    have f1 := AutoSeq1.idx_int
    wp_walk using wpAny_loadPart' hl
    repeat (first
      | (refine wpAny_ite_false (decide_eq_false (by rw [c0]; exact Bool.false_ne_true)) ?_; wp_walk using wpAny_loadPart' hl)
      | (refine wpAny_ite_false (decide_eq_false (by rw [c1]; exact Bool.false_ne_true)) ?_; wp_walk using wpAny_loadPart' hl)
      | (refine wpAny_ite_true (decide_eq_true c2) ?_; wp_walk using wpAny_loadPart' hl))
    exact ⟨_, rfl, h⟩
section
variable {X : Cx}
/-- t * k: t itself where it is empty or k is 1 -/
def rRepA (K : PySem.W.Frag) : R2 := fun x y H Q => ∃ l k xs, x = .ref l ∧ y = .int k ∧ SqT K H l xs ∧ 0 ≤ k ∧ k ≤ 4000 ∧ xs.length ≤ 4000 ∧
  (xs = [] ∨ k = 1 → Q (.ref l) H) ∧ (xs ≠ [] → k = 0 → ∀ p, H p = none → Q (.ref p) (upd H p (.tup []))) ∧ (xs ≠ [] → 2 ≤ k → ∀ p, H p = none → Q (.ref p) (upd H p (.tup (List.replicate k.toNat xs).flatten)))
theorem op_repA : OpR X (binaryOp .Mult) (rRepA X.K) := by
  intro pins s σ H x y v u Q I rx ry h
  obtain ⟨l, k, xs, rfl, rfl, hT, h1, h2, hz, q1, q2, q3⟩ := h
  cases rx
  obtain ⟨t, rfl⟩ := ry
  obtain ⟨its, r, ⟨⟨cls, dd, data, sl⟩, ho, hc, n, hd⟩, hs⟩ := I.tuple hT
  simp only at hc hd
  subst hc hd
  have hle : its.length = xs.length := r.length.symm
  have c0 : (decide (k < -(2 ^ 63)) || decide (k ≥ 2 ^ 63)) = false := by
    rw [decide_eq_false (by omega), decide_eq_false (by omega)] <;> rfl
  have hi : its.toArray.isEmpty = decide (xs = []) := by
    cases its with
    | nil =>
      have : xs = [] := List.eq_nil_of_length_eq_zero hle.symm
      rw [this]; rfl
    | cons a b =>
      have : xs ≠ [] := fun e => by rw [e] at hle; simp at hle
      rw [decide_eq_false this]; rfl
  by_cases h3 : xs ≠ [] ∧ 2 ≤ k
  · have ne : its.toArray.isEmpty = false := hi.trans (decide_eq_false h3.1)
    have sz : its.toArray.size = xs.length := (List.size_toArray ..).trans hle
    have m1 : ((its.toArray.size : Nat) : Int) * k ≤ 16000000 := by
      rw [sz]
      have : ((xs.length : Nat) : Int) * k ≤ 4000 * k := Int.mul_le_mul_of_nonneg_right (by omega) h1
      omega
    have m2 : k.toNat * xs.length ≤ 4000 * 4000 := Nat.mul_le_mul (by omega) hz
    have m3 : (List.replicate k.toNat its).flatten.length ≤ sizeLine := by rw [PyProof.Rows.lm_len_rep_flat, hle, sizeLine_eq]; omega
    have d1 : (its.toArray.isEmpty || k == 1) = false := by rw [ne]; exact beq_eq_false_iff_ne.mpr (by omega)
    have d2 : (decide (k ≤ 0) || its.toArray.isEmpty) = false := by rw [ne, Bool.or_false, decide_eq_false_iff_not]; omega
    have d4 : Builtin.Tuple.tupleTooMany (((its.toArray.size : Nat) : Int) * k) = false := by unfold Builtin.Tuple.tupleTooMany; rw [sizeLine_eq, decide_eq_false_iff_not]; omega
    have W := tuple_mulW l its.toArray n dd sl k t c0 d1 d2 (by omega) d4 (by rw [size_rep, List.size_toArray]; exact m3)
    rw [size_rep] at W
    refine wpAny_binaryOp_repeat_ref (T := "tuple") (U := "int") (by decide) ⟨_, ho, rfl⟩ (fun s' => typeIs_int s' k t) noFill_tuple_mul F.fills_int_mul F.slot_int_rmul repeat_tuple F.slot_int_index.lookup
      (call_meets F.slot_int_rmul (typeIs_int s k t) F.entry_int_rmul (F.args_int_rmul_2 _ _) (int_rmul_tuple k t l its.toArray n dd sl) ⟨ho, rfl, ⟨_, ho, rfl⟩, call_meets F.slot_tuple_mul ⟨_, ho, rfl⟩ F.entry_tuple_mul (F.args_tuple_mul_2 _ _) W ⟨ho, ?_⟩⟩)
    have m4 : (List.replicate k.toNat xs).flatten.length ≤ sizeLine := by rw [PyProof.Rows.lm_len_rep_flat, sizeLine_eq]; omega
    exact ⟨.ref s.heap.objs.size, _, I.laid (t' := s.toks) (o := .tup (List.replicate k.toNat xs).flatten) (fun b ob q => Heap.get?_push_of_some _ q) (Nat.le_refl _) ⟨m4, _, r.rep k.toNat, IsTup.new _ _⟩, rfl, q3 h3.1 h3.2 _ (I.hok.fresh (Nat.le_refl _))⟩
  by_cases h4 : xs = [] ∨ k = 1
  · have c1 : (its.toArray.isEmpty || k == 1) = true := by
      rw [hi]
      rcases h4 with e | e
      · rw [decide_eq_true e]; rfl
      · rw [e]; exact Bool.or_true _
    refine wpAny_binaryOp_repeat_ref (T := "tuple") (U := "int") (by decide) ⟨_, ho, rfl⟩ (fun s' => typeIs_int s' k t) noFill_tuple_mul F.fills_int_mul F.slot_int_rmul repeat_tuple F.slot_int_index.lookup
      (call_meets F.slot_int_rmul (typeIs_int s k t) F.entry_int_rmul (F.args_int_rmul_2 _ _) (int_rmul_tuple k t l its.toArray n dd sl)
        ⟨ho, rfl, ⟨_, ho, rfl⟩, call_meets F.slot_tuple_mul ⟨_, ho, rfl⟩ F.entry_tuple_mul (F.args_tuple_mul_2 _ _) (tuple_mulS l its.toArray n dd sl k t c0 c1) ⟨ho, ?_⟩⟩)
    exact ⟨.ref l, H, I, rfl, q1 h4⟩
  · have hx : xs ≠ [] := fun e => h4 (.inl e)
    have hk : k = 0 := by
      have a1 : k ≠ 1 := fun e => h4 (.inr e)
      have a2 : ¬ 2 ≤ k := fun e => h3 ⟨hx, e⟩
      omega
    have c1 : (its.toArray.isEmpty || k == 1) = false := by
      rw [hi, decide_eq_false hx, hk]; rfl
    have c2 : (decide (k ≤ 0) || its.toArray.isEmpty) = true := by
      rw [hk]; rfl
    refine wpAny_binaryOp_repeat_ref (T := "tuple") (U := "int") (by decide) ⟨_, ho, rfl⟩ (fun s' => typeIs_int s' k t) noFill_tuple_mul F.fills_int_mul F.slot_int_rmul repeat_tuple F.slot_int_index.lookup
      (call_meets F.slot_int_rmul (typeIs_int s k t) F.entry_int_rmul (F.args_int_rmul_2 _ _) (int_rmul_tuple k t l its.toArray n dd sl)
        ⟨ho, rfl, ⟨_, ho, rfl⟩, call_meets F.slot_tuple_mul ⟨_, ho, rfl⟩ F.entry_tuple_mul (F.args_tuple_mul_2 _ _) (tuple_mul0 l its.toArray n dd sl k t c0 c1 c2) ⟨ho, ?_⟩⟩)
    refine ⟨.ref s.heap.objs.size, _, I.laid (t' := s.toks) (o := .tup []) (fun b ob q => Heap.get?_push_of_some _ q) (Nat.le_refl _) ?_, rfl, q2 hx hk _ (I.hok.fresh (Nat.le_refl _))⟩
    exact ⟨by show 0 ≤ sizeLine; exact Nat.zero_le _, _, .nil, IsTup.new _ _⟩
end
end L2
namespace VL
open PySem PySem.Spec PyProof.Rows L2
section
variable {X : Cx}
/-- t * k, t a tuple -/
def dRepT : R2D := fun a b Q => match a, b with
  | .tuple xs, .int k => (0 ≤ k ∧ k ≤ 4000 ∧ xs.length ≤ 4000) ∧ Q (.tuple (List.replicate k.toNat xs).flatten)
  | _, _ => False
theorem o_repT : VOp X (binaryOp .Mult) dRepT := by
  intro pins s σ H x y v u Q I rx ry ⟨G, d1, d2, Q0, sg, r1, r2, q, hq⟩
  cases d1 with
  | tuple ds =>
    cases d2 with
    | int k =>
      cases r1 with
      | tup a1 q1 =>
        cases r2
        refine op_repA pins s σ H _ _ v u Q I rx ry ⟨_, k, _, rfl, rfl, sameT sg a1, q.1.1, q.1.2.1, by rw [q1.length]; exact q.1.2.2, fun e => ?_, fun _ e p hp => ?_, fun _ _ p hp => ?_⟩
        · have : (List.replicate k.toNat ds).flatten = ds := by
            rcases e with e | e
            · subst e
              cases q1
              simp
            · subst e
              show (List.replicate 1 ds).flatten = ds
              simp
          have q2 := q.2
          rw [this] at q2
          exact hq _ q2 _ G H (Same.refl _) (Same.refl _) sg New.refl (.tup a1 q1)
        · subst e
          exact hq _ q.2 _ (L2.upd G p _) _ (same_upd hp) (same_upd (gfree sg hp)) (same_upd2 sg) (new_upd hp) (.tup (SqT.of upd_same) .nil)
        · exact hq _ q.2 _ (L2.upd G p _) _ (same_upd hp) (same_upd (gfree sg hp)) (same_upd2 sg) (new_upd hp) (.tup (SqT.of upd_same) (DRs.same (same_upd (gfree sg hp)) (DRs.rep q1 _)))
    | _ => exact q.elim
  | _ => exact q.elim
end
end VL


set_option maxRecDepth 100000
set_option maxHeartbeats 1000000
namespace VL
open PySem PySem.Spec PyProof.Rows L2
/-! ### raise C(x, ..): C a class whose __init__ puts its arguments into fields -/
/-- what such an __init__ does -/
def spInit (K : PySem.W.Frag) (flds : List Str) : Sp := fun vs H Q _ => ∃ (a C : Addr) (ws : List V), vs = .ref a :: ws ∧ ws.length = flds.length ∧ OexC K C ∧ (∀ f ∈ flds, PySem.W.findIn K (.ref C) f = some none) ∧ H a = some (exo a C none) ∧
  ∀ dx, H dx = none → dx ≠ a → Q .non (L2.upd (L2.upd H dx (exd dx (flds.zip ws).reverse)) a (exo a C (some dx)))
/-- what is known of such a class -/
structure RzC (P : Program) (w : World) (K : PySem.W.Frag) (mg : Str → Option Value) (base : Heap) (x : Str) (flds : List Str) : Prop where
  cls : OexC K (He.ga K x)
  g : mg x = some (.ref (He.ga K x))
  no : ∀ f ∈ flds, PySem.W.findIn K (.ref (He.ga K x)) f = some none
  nd : flds.Nodup
  ini : ∃ (fI : Addr) (fd : FuncData) (ps : List Str), PySem.W.findIn K (.ref (He.ga K x)) "__init__" = some (some (.ref fI)) ∧ PySem.W.typeIn K (.ref fI) = some (.type "function") ∧ FnOk P w K mg base (L2.CX P w) 1 fI fd ps (spInit K flds) ∧ Binds K fd ps []
def mkX (x : Str) (flds : List Str) (ds : List Dt) : Exc := ⟨x, (flds.zip ds).reverse⟩
def vRaise (x : Str) (flds : List Str) (al : VA) : VST := fun V ρ n => al ρ n (fun ds n' => ds.length = flds.length ∧ ds.length ≤ 1000 ∧ V.xc (mkX x flds ds) ρ n') fun y n' => V.xc y ρ n'
theorem zip_rel {K : PySem.W.Frag} {G : Hp} : ∀ {vs : List V} {ds : List Dt} (flds : List Str), DRs K G vs ds → ∀ (acc : List (Str × V)) (bcc : List (Str × Dt)), (∀ f dv, bcc.lookup f = some dv → ∃ v, acc.lookup f = some v ∧ DR K G v dv) → (∀ f, bcc.lookup f = none → acc.lookup f = none) →
    ∀ f dv, ((flds.zip ds).reverse ++ bcc).lookup f = some dv → ∃ v, ((flds.zip vs).reverse ++ acc).lookup f = some v ∧ DR K G v dv := by
  intro vs ds flds
  induction flds generalizing vs ds with
  | nil => intro r acc bcc h _ f dv e; exact h f dv (by simpa using e)
  | cons g gs ih =>
    intro r acc bcc h hn f dv e
    cases ds with
    | nil => cases r; exact h f dv (by simpa using e)
    | cons d ds =>
      cases r with
      | cons a r =>
        rw [List.zip_cons_cons, List.reverse_cons, List.append_assoc, List.singleton_append] at e ⊢
        refine ih r _ _ (fun f dv e => ?_) (fun f e => ?_) f dv e
        · rw [List.lookup_cons] at e ⊢
          by_cases q : (f == g) = true
          · rw [q] at e ⊢; cases e; exact ⟨_, rfl, a⟩
          · rw [Bool.not_eq_true] at q; rw [q] at e ⊢; exact h f dv e
        · rw [List.lookup_cons] at e ⊢
          by_cases q : (f == g) = true
          · rw [q] at e; cases e
          · rw [Bool.not_eq_true] at q; rw [q] at e ⊢; exact hn f e
section
variable {X : Cx} {U : WX} {e : Expr} {es : List Expr} {al : VA} {p p2 pos : Pos}
theorem vs_raise {x : Str} {flds : List Str} (hc : X.calm = true) (tk : Takes X U) (R : RzC X.prog X.w X.K X.mg X.base x flds) (hr : Room 2 X.A) (hx : Passes (L2.CX X.prog X.w) X (fun _ _ _ => False)) (hg : Gl X x) (ha : VAa X U (e :: es) al)
    (hdb : (x == ("__debug__" : Str)) = false := by decide) (he : starEach (e :: es) X.env = (false, eval e X.env) :: starEach es X.env := by rfl) (hpl : (backTo p2 (starEach es X.env)).any (·.1) = false := by rfl) :
    VS X U (.Raise (some (.Call (.Name x p) (e :: es) [] p2)) none pos) (vRaise x flds al) := by
  obtain ⟨fI, fd, ps, h1, h2, F, B⟩ := R.ini
  refine ps_imp (ps_raise hc tk (pmk_oex R.cls h1 h2 F hr B .nil hx hg R.g ha hdb he hpl)) fun D σ H ⟨C, ρ, n, G, O, V, I, h, L⟩ => ?_
  refine ⟨C, ρ, n, G, O, _, _, I, h, fun ds n' ⟨q1, q2, q⟩ vs G' O' H' I' s' r => ⟨by rw [DRs.length r]; exact q2, fun a ha => ?_⟩, L.lkx σ ρ⟩
  refine ⟨a, He.ga X.K x, vs, by rw [List.append_nil], by rw [DRs.length r]; exact q1, R.cls, R.no, upd_same, fun dx hdx hne => ⟨rfl, dx, (flds.zip vs).reverse, upd_same, ?_, ?_, ?_⟩⟩
  · rw [upd_ne hne, upd_same]
  · rw [upd_ne hne] at hdx; exact hdx
  · rw [upd_ne hne] at hdx
    have eH : L2.upd (L2.del (L2.upd (L2.upd (L2.upd H' a (exo a (He.ga X.K x) none)) dx (exd dx (flds.zip vs).reverse)) a (exo a (He.ga X.K x) (some dx))) a) dx (.xd (flds.zip vs).reverse) = L2.upd H' dx (.xd (flds.zip vs).reverse) := by
      funext b
      by_cases b1 : b = dx
      · subst b1; rw [upd_same, upd_same]
      · rw [upd_ne b1, upd_ne b1]
        by_cases b2 : b = a
        · subst b2; rw [L2.del_same]; exact ha.symm
        · rw [L2.del_ne b2, upd_ne b2, upd_ne b1, upd_ne b2]
    rw [eH]
    have J := I'.new (o := .xd (flds.zip vs).reverse) hdx
    refine L.lkx σ ρ _ n' q _ _ _ _ _ J ⟨rfl, dx, (flds.zip vs).reverse, rfl, upd_same, fun f dv ef => ?_⟩
    have r' := DRs.same (In.newSame (o := .xd (flds.zip vs).reverse) I'.toIo hdx) r
    have := zip_rel flds r' [] [] (fun f dv z => by cases z) (fun f z => rfl) f dv (by rw [List.append_nil]; exact ef)
    rw [List.append_nil] at this
    exact this
end
/-! ### try: .. except C: .. -/
/-- what the clauses do -/
def hdl (V : VN) : List (Str × VST) → Exc → Nv → Nat → Prop
  | [], x, ρ, n => V.xc x ρ n
  | (c, th) :: r, x, ρ, n => if x.name = c then th V ρ n else hdl V r x ρ n
def vTry (known : List Str) (tb : VST) (hs : List (Str × VST)) : VST := fun V ρ n => tb { V with xc := fun x ρ' n' => x.name ∈ known ∧ hdl V hs x ρ' n' } ρ n
/-- no known class is under another one -/
def KnX (K : PySem.W.Frag) (known : List Str) : Prop := ∀ x ∈ known, ∀ c ∈ known, PySem.W.exmOne K (.ref (He.ga K x)) (.ref (He.ga K c)) = some (decide (x = c))
def hts (K : PySem.W.Frag) (U : WX) (hs : List (Str × VST)) : List (Value × (Addr → Value → Option Addr → TS)) := hs.map fun h => (.ref (He.ga K h.1), fun _ _ _ => upS K U h.2)
theorem hdl_link {K : PySem.W.Frag} {U : WX} {C : Ct} {V : VN} {D : Ends} {known : List Str} (kx : KnX K known) (L : LkS K U C V D) {x : Exc} {σ : L2.St} {ρ : Nv} {n : Nat} {G O H : Hp} {cls : Value} {d : Option Addr} (hx : x.name ∈ known) (I : In K C σ ρ n G O H) (ea : ExcAt K G x cls d) :
    ∀ hs : List (Str × VST), (∀ h ∈ hs, h.1 ∈ known) → hdl V hs x ρ n → wMany K U D (hts K U hs) cls d σ H
  | [], _, q => L.xc x ρ n q cls d σ G O H I ea
  | (c, th) :: r, hk, q => by
    have e := kx x.name hx c (hk (c, th) (by simp))
    have ec := ea.1
    refine ⟨decide (x.name = c), by rw [ec]; exact e, fun b a ha => ?_, fun b => ?_⟩
    · have b := of_decide_eq_true b
      unfold hdl at q
      rw [if_pos b] at q
      exact ⟨C, ρ, n, G, O, V, I, q, L⟩
    · have b := of_decide_eq_false b
      unfold hdl at q
      rw [if_neg b] at q
      exact hdl_link kx L hx I ea r (fun h hh => hk h (List.mem_cons_of_mem _ hh)) q
inductive HdsV (X : Cx) (U : WX) : List ExceptHandler → List (Str × VST) → Prop
  | nil : HdsV X U [] []
  | cons {x : Str} {th : VST} {b₀ : Stmt} {suite : List Stmt} {np pos' : Pos} {hds : List ExceptHandler} {l : List (Str × VST)} (hc : Names X x (.ref (He.ga X.K x)))
      (hsu : ∀ (a : Addr) (oe : Obj) (pn : List (Addr × Obj)), VSs (X.suite a ((a, oe) :: pn)) U (b₀ :: suite) th) (r : HdsV X U hds l) : HdsV X U (.ExceptHandler (some (.Name x np)) none (b₀ :: suite) pos' :: hds) ((x, th) :: l)
theorem HdsV.ok {X : Cx} {U : WX} {hds : List ExceptHandler} {l : List (Str × VST)} (h : HdsV X U hds l) : HdsOk X hds (hts X.K U l) := by
  induction h with
  | nil => exact .nil
  | cons hc hsu r ih => exact .cons hc (fun a oe cls d pn _ _ => hsu a oe pn) ih
section
variable {X : Cx} {U : WX} {body : List Stmt} {h₀ : ExceptHandler} {hds : List ExceptHandler} {l : List (Str × VST)} {known : List Str} {tb : VST} {pos : Pos}
theorem vs_try (hs : X.stack = X.env :: X.outer) (hf : X.env.frame = some X.env.locals) (tk : Takes X U) (kx : KnX X.K known) (hk : ∀ h ∈ l, h.1 ∈ known)
    (hb : ∀ (W : WX) (pn : List (Addr × Obj)) (xe : Value → Shared → Prop), Takes (X.tr pn xe) W → PassesOwn (model X.prog X.w) X.A X.env xe → VSs (X.tr pn xe) W body tb)
    (hh : HdsV X U (h₀ :: hds) l) : VS X U (.Try body (h₀ :: hds) [] [] pos) (vTry known tb l) :=
  ps_imp (ps_try_many (tb := fun W => upS X.K W tb) hs hf tk (fun W pn xe t1 t2 => hb W pn xe t1 t2) hh.ok) fun D σ H ⟨C, ρ, n, G, O, V, I, h, L⟩ =>
    ⟨C, ρ, n, G, O, _, I, h, ⟨L.nx, L.rt, L.bk, L.ct, fun x ρ' n' ⟨q1, q2⟩ cls d σ' G' O' H' I' ea => hdl_link kx L q1 I' ea l hk q2⟩⟩
end
end VL


set_option maxRecDepth 100000
set_option maxHeartbeats 1000000
namespace VL
open PySem PySem.Spec PyProof.Rows L2
/-! ### what the written part says of an error's class -/
def oexO (K : PySem.W.Frag) (C : Addr) : Bool := match K.lookup C with
  | some ⟨.type "type", _, .cls cd, sl⟩ => (match cd.mro, sl.toList with
    | .ref C' :: bm, [_, _, _, _, some (.builtin n), _] => C' == C && n == "ValueError.__new__" && !cd.hasDel && cd.hasDict && PySem.HandSPX.refsVE bm
    | _, _ => false)
  | _ => false
def oexB (K : PySem.W.Frag) (C : Addr) : Bool := oexO K C && (decide (PySem.W.findIn K (.ref C) "__setattr__" = some (some (.builtin "object.__setattr__"))) && (decide (PySem.W.subIn K (.ref C) (.type "BaseException") = some true) && (decide (PySem.W.typeIn K (.ref C) = some (.type "type")) && PySem.W.keepIn K (.ref C))))
theorem oexB_ok {K : PySem.W.Frag} {C : Addr} (h : oexB K C = true) : OexC K C := by
  unfold oexB at h
  simp only [Bool.and_eq_true, decide_eq_true_eq] at h
  obtain ⟨h0, h1, h2, h3, h4⟩ := h
  refine ⟨?_, h1, h2, h3, h4⟩
  unfold oexO at h0
  split at h0
  · rename_i dd cd sl ho
    split at h0
    · rename_i C' bm k0 k1 k2 k3 n k5 hm hs
      simp only [Bool.and_eq_true, beq_iff_eq, Bool.not_eq_true'] at h0
      obtain ⟨⟨⟨⟨rfl, rfl⟩, hdel⟩, hdct⟩, ht⟩ := h0
      obtain ⟨nm, bs, mro, ns, qn, hd, sn, sub, ab, col, del⟩ := cd
      dsimp only at hm hdel hdct
      subst hm hdel hdct
      have hsl : sl = #[k0, k1, k2, k3, some (.builtin "ValueError.__new__"), k5] := by
        obtain ⟨l⟩ := sl
        simp only at hs
        rw [hs]
      subst hsl
      exact ⟨nm, qn, ns, bs, bm, sn, sub, ab, col, dd, k0, k1, k2, k3, k5, ho, ht⟩
    · cases h0
  · cases h0
abbrev iA (K : PySem.W.Frag) (x : Str) : Addr := He.fAd K (x, some "__init__")
def rzB (K : PySem.W.Frag) (x : Str) (flds : List Str) : Bool := oexB K (He.ga K x) && ((flds.all fun f => decide (PySem.W.findIn K (.ref (He.ga K x)) f = some none)) && (decide (PySem.W.findIn K (.ref (He.ga K x)) "__init__" = some (some (.ref (iA K x)))) && decide (PySem.W.typeIn K (.ref (iA K x)) = some (.type "function"))))
theorem rz_of {P : Program} {w : World} {K : PySem.W.Frag} {mg : Str → Option Value} {base : Heap} {x : Str} {flds : List Str} (h : rzB K x flds = true) (g : mg x = some (.ref (He.ga K x))) (nd : flds.Nodup) {fd : FuncData} {ps : List Str} (F : FnOk P w K mg base (L2.CX P w) 1 (iA K x) fd ps (spInit K flds)) (B : Binds K fd ps []) : RzC P w K mg base x flds := by
  unfold rzB at h
  simp only [Bool.and_eq_true, decide_eq_true_eq, List.all_eq_true] at h
  obtain ⟨h0, h1, h2, h3⟩ := h
  exact ⟨oexB_ok h0, g, h1, nd, _, _, _, h2, h3, F, B⟩
/-- two fields: the heap behind both stores -/
theorem two_eq {H : Hp} {a dx : Addr} {o1 o2 o3 : HO} (hne : dx ≠ a) : L2.upd (L2.upd (L2.upd H dx o1) a o3) dx o2 = L2.upd (L2.upd H dx o2) a o3 := by
  funext b
  by_cases b1 : b = dx
  · subst b1; rw [upd_same, upd_ne hne, upd_same]
  · rw [upd_ne b1]
    by_cases b2 : b = a
    · subst b2; rw [upd_same, upd_same]
    · rw [upd_ne b2, upd_ne b2, upd_ne b1, upd_ne b1]
section
variable {K : PySem.W.Frag} {f g : Str} {H : Hp} {D : Ends} {a C : Addr} {y z : V} {N : List Str}
theorem init1_read {vs : List V} {Q : VK} {E : XK} (h : spInit K [f] vs H Q E) : ∃ a y, vs = [.ref a, y] ∧ ∀ σ : L2.St, σ[0]? = some (some (.ref a)) → σ[1]? = some (some y) → ∀ D : Ends, (∀ σ' H', Q .non H' → D.nx σ' H') → tOst K f (tVar 0) (tVar 1) D σ H := by
  obtain ⟨a, C, ws, rfl, hl, T, no, ha, q⟩ := h
  match ws, hl with
  | [y], _ =>
    exact ⟨a, y, rfl, fun σ e0 e1 D hD => ⟨y, e1, .ref a, e0, a, C, rfl, T, no f (by simp), .inl ⟨ha, fun dx hdx hne => hD _ _ (q dx hdx hne)⟩⟩⟩
theorem init2_read {vs : List V} {Q : VK} {E : XK} (h : spInit K [f, g] vs H Q E) : ∃ a y z, vs = [.ref a, y, z] ∧ ∀ σ : L2.St, σ[0]? = some (some (.ref a)) → σ[1]? = some (some y) → σ[2]? = some (some z) → ∀ D : Ends, (∀ σ' H', Q .non H' → D.nx σ' H') → tSeq (tOst K f (tVar 0) (tVar 1)) (tOst K g (tVar 0) (tVar 2)) D σ H := by
  obtain ⟨a, C, ws, rfl, hl, T, no, ha, q⟩ := h
  match ws, hl with
  | [y, z], _ =>
    refine ⟨a, y, z, rfl, fun σ e0 e1 e2 D hD => ⟨y, e1, .ref a, e0, a, C, rfl, T, no f (by simp), .inl ⟨ha, fun dx hdx hne => ?_⟩⟩⟩
    refine ⟨z, e2, .ref a, e0, a, C, rfl, T, no g (by simp), .inr ⟨dx, [(f, y)], upd_same, by rw [upd_ne hne, upd_same], by show 1 ≤ 900; decide, hD _ _ ?_⟩⟩
    rw [two_eq hne]
    exact q dx hdx hne
end
theorem passes0 {X : Cx} {P : Program} {w : World} : Passes (L2.CX P w) X (fun _ _ _ => False) := fun pins σ H s e s' I ⟨a, B, H', cls, d, h1, h2, h3, h4, h5, h6, h7, f⟩ => f.elim
def knB (K : PySem.W.Frag) (known : List Str) : Bool := known.all fun x => known.all fun c => decide (PySem.W.exmOne K (.ref (He.ga K x)) (.ref (He.ga K c)) = some (decide (x = c)))
theorem knB_ok {K : PySem.W.Frag} {known : List Str} (h : knB K known = true) : KnX K known := by
  unfold knB at h
  simp only [List.all_eq_true, decide_eq_true_eq] at h
  exact h
end VL


set_option maxRecDepth 100000
set_option maxHeartbeats 2000000
namespace VL
open PySem PySem.Spec PyProof.Rows L2
/-! ### trees: what a piece of the text does to values, as a thing that is computed -/
inductive T (α : Type) where
  | ret (a : α)
  | exc (x : Exc)
  | fail
  | draw (many : Int) (k : Int → T α)
def sat {α : Type} : T α → Nat → (α → Nat → Prop) → XW → Prop
  | .ret a, n, Q, _ => Q a n
  | .exc x, n, _, E => E x n
  | .fail, _, _, _ => False
  | .draw many k, n, Q, E => 0 < many ∧ many < 1073741824 ∧ n < 1000000000000 ∧ ∀ r, 0 ≤ r → r < many → sat (k r) (n + 1) Q E
def bx {α β : Type} : T α → (α → T β) → (Exc → T β) → T β
  | .ret a, f, _ => f a
  | .exc x, _, g => g x
  | .fail, _, _ => .fail
  | .draw m k, f, g => .draw m fun r => bx (k r) f g
def bd {α β : Type} (t : T α) (f : α → T β) : T β := bx t f .exc
theorem sat_bx {α β : Type} {f : α → T β} {g : Exc → T β} {Q : β → Nat → Prop} {E : XW} : ∀ {t : T α} {n : Nat}, sat (bx t f g) n Q E ↔ sat t n (fun a n' => sat (f a) n' Q E) (fun x n' => sat (g x) n' Q E)
  | .ret a, n => Iff.rfl
  | .exc x, n => Iff.rfl
  | .fail, n => Iff.rfl
  | .draw m k, n => and_congr_right fun _ => and_congr_right fun _ => and_congr_right fun _ => forall_congr' fun r => imp_congr_right fun _ => imp_congr_right fun _ => sat_bx (t := k r)
theorem sat_bd {α β : Type} {f : α → T β} {Q : β → Nat → Prop} {E : XW} {t : T α} {n : Nat} : sat (bd t f) n Q E ↔ sat t n (fun a n' => sat (f a) n' Q E) E := sat_bx
theorem sat_mono {α : Type} {Q Q' : α → Nat → Prop} {E E' : XW} (hq : ∀ a n, Q a n → Q' a n) (he : ∀ x n, E x n → E' x n) : ∀ {t : T α} {n : Nat}, sat t n Q E → sat t n Q' E'
  | .ret a, n, h => hq a n h
  | .exc x, n, h => he x n h
  | .fail, n, h => h.elim
  | .draw m k, n, ⟨h1, h2, h3, h⟩ => ⟨h1, h2, h3, fun r r0 r1 => sat_mono hq he (h r r0 r1)⟩
theorem bx_ret {α β : Type} {a : α} {f : α → T β} {g : Exc → T β} : bx (.ret a) f g = f a := rfl
theorem bx_exc {α β : Type} {x : Exc} {f : α → T β} {g : Exc → T β} : bx (.exc x) f g = g x := rfl
theorem bx_fail {α β : Type} {f : α → T β} {g : Exc → T β} : bx .fail f g = .fail := rfl
theorem bx_draw {α β : Type} {m : Int} {k : Int → T α} {f : α → T β} {g : Exc → T β} : bx (.draw m k) f g = .draw m fun r => bx (k r) f g := rfl
theorem bd_ret {α β : Type} {a : α} {f : α → T β} : bd (.ret a) f = f a := rfl
theorem bd_exc {α β : Type} {x : Exc} {f : α → T β} : bd (.exc x) f = .exc x := rfl
theorem bd_fail {α β : Type} {f : α → T β} : bd .fail f = .fail := rfl
theorem bd_draw {α β : Type} {m : Int} {k : Int → T α} {f : α → T β} : bd (.draw m k) f = .draw m fun r => bd (k r) f := rfl
theorem bx_bx {α β γ : Type} {f : α → T β} {g : Exc → T β} {f2 : β → T γ} {g2 : Exc → T γ} : ∀ {t : T α}, bx (bx t f g) f2 g2 = bx t (fun a => bx (f a) f2 g2) (fun x => bx (g x) f2 g2)
  | .ret a => rfl
  | .exc x => rfl
  | .fail => rfl
  | .draw m k => congrArg (T.draw m) (funext fun r => bx_bx (t := k r))
theorem bx_ite {α β : Type} {c : Prop} [Decidable c] {t u : T α} {f : α → T β} {g : Exc → T β} : bx (if c then t else u) f g = if c then bx t f g else bx u f g := by split <;> rfl
theorem bd_ite {α β : Type} {c : Prop} [Decidable c] {t u : T α} {f : α → T β} : bd (if c then t else u) f = if c then bd t f else bd u f := by split <;> rfl
theorem bx_congr {α β : Type} {t t' : T α} {f : α → T β} {g : Exc → T β} (h : t = t') : bx t f g = bx t' f g := by rw [h]
theorem bd_congr {α β : Type} {t t' : T α} {f : α → T β} (h : t = t') : bd t f = bd t' f := by rw [h]
theorem draw_congr {α : Type} {m m' : Int} {k : Int → T α} (h : m = m') : T.draw m k = T.draw m' k := by rw [h]
theorem sat_congr {α : Type} {t t' : T α} {n n' : Nat} {Q : α → Nat → Prop} {E : XW} (h : t = t') (h2 : n = n') : sat t n Q E = sat t' n' Q E := by rw [h, h2]
def ofO {α : Type} : Option α → T α
  | some a => .ret a
  | none => .fail
theorem ofO_some {α : Type} {a : α} : ofO (some a) = .ret a := rfl
theorem ofO_none {α : Type} : ofO (none : Option α) = .fail := rfl
theorem ofO_ite {α : Type} {c : Prop} [Decidable c] {t u : Option α} : ofO (if c then t else u) = if c then ofO t else ofO u := by split <;> rfl
def S {α : Type} (f : Nv → T α) : Nv → Nat → (α → Nat → Prop) → XW → Prop := fun ρ n Q E => sat (f ρ) n Q E
abbrev XT := Nv → T Dt
abbrev XB := Nv → T Bool
abbrev XA := Nv → T (List Dt)
abbrev XAW := Nv → T (List W)
abbrev XP := Nv → T (Option Int)
/-- how a statement ends -/
inductive Fl where
  | nx (ρ : Nv)
  | rt (w : W)
  | bk (ρ : Nv)
  | ct (ρ : Nv)
  | xc (x : Exc) (ρ : Nv)
abbrev XS := Nv → T Fl
abbrev XFn := List W → T W
def flV (V : VN) (f : Fl) (n : Nat) : Prop := match f with
  | .nx ρ => V.nx ρ n
  | .rt w => V.rt w n
  | .bk ρ => V.bk ρ n
  | .ct ρ => V.ct ρ n
  | .xc x ρ => V.xc x ρ n
def SS (f : XS) : VST := fun V ρ n => sat (f ρ) n (flV V) (fun _ _ => False)
def SF (f : XFn) : VFn := fun ws n Q E => sat (f ws) n Q E
section
variable {X : Cx} {U : WX} {e : Expr} {es : List Expr} {st : Stmt} {ss : List Stmt} {tg iter : Expr} {o : Option Expr}
theorem wkE {t t' : VT} (h : VE X U e t) (w : ∀ ρ n Q E, t' ρ n Q E → t ρ n Q E) : VE X U e t' := pe_imp h fun σ H Q ⟨C, ρ, n, G, O, Q0, E0, I, q, r⟩ => ⟨C, ρ, n, G, O, Q0, E0, I, w _ _ _ _ q, r⟩
theorem wkT {t t' : VB} (h : VTt X U e t) (w : ∀ ρ n Q E, t' ρ n Q E → t ρ n Q E) : VTt X U e t' := pt_imp h fun σ H Q ⟨C, ρ, n, G, O, Q0, E0, I, q, r⟩ => ⟨C, ρ, n, G, O, Q0, E0, I, w _ _ _ _ q, r⟩
theorem wkW {t t' : VB} (h : VW X U e t) (w : ∀ ρ n Q E, t' ρ n Q E → t ρ n Q E) : VW X U e t' := pw_imp h fun σ H Q ⟨C, ρ, n, G, O, Q0, E0, I, q, r⟩ => ⟨C, ρ, n, G, O, Q0, E0, I, w _ _ _ _ q, r⟩
theorem wkA {t t' : VA} (h : VAa X U es t) (w : ∀ ρ n Q E, t' ρ n Q E → t ρ n Q E) : VAa X U es t' := pa_imp h fun σ H Q ⟨C, ρ, n, G, O, Q0, E0, I, q, r⟩ => ⟨C, ρ, n, G, O, Q0, E0, I, w _ _ _ _ q, r⟩
theorem wkO {t t' : VA} (h : VO X U e t) (w : ∀ ρ n Q E, t' ρ n Q E → t ρ n Q E) : VO X U e t' := pe_imp h fun σ H Q ⟨C, ρ, n, G, O, Q0, E0, I, q, r⟩ => ⟨C, ρ, n, G, O, Q0, E0, I, w _ _ _ _ q, r⟩
theorem wkG {t t' : VAW} (h : VAg X U es t) (w : ∀ ρ n Q E, t' ρ n Q E → t ρ n Q E) : VAg X U es t' := pa_imp h fun σ H Q ⟨C, ρ, n, G, O, Q0, E0, I, q, r⟩ => ⟨C, ρ, n, G, O, Q0, E0, I, w _ _ _ _ q, r⟩
theorem wkP {t t' : VP} (h : VPo X U o t) (w : ∀ ρ n Q E, t' ρ n Q E → t ρ n Q E) : VPo X U o t' := po_imp h fun σ H Q ⟨C, ρ, n, G, O, Q0, E0, I, q, r⟩ => ⟨C, ρ, n, G, O, Q0, E0, I, w _ _ _ _ q, r⟩
theorem wkI {t t' : VA} (h : VI X U tg iter t) (w : ∀ ρ n Q E, t' ρ n Q E → t ρ n Q E) : VI X U tg iter t' := pi_imp h fun σ H Q ⟨C, ρ, n, G, O, Q0, E0, I, q, r⟩ => ⟨C, ρ, n, G, O, Q0, E0, I, w _ _ _ _ q, r⟩
theorem wkS {t t' : VST} (h : VS X U st t) (w : ∀ V ρ n, t' V ρ n → t V ρ n) : VS X U st t' := ps_imp h fun D σ H ⟨C, ρ, n, G, O, V, I, q, r⟩ => ⟨C, ρ, n, G, O, V, I, w _ _ _ q, r⟩
theorem wkSs {t t' : VST} (h : VSs X U ss t) (w : ∀ V ρ n, t' V ρ n → t V ρ n) : VSs X U ss t' := pss_imp h fun D σ H ⟨C, ρ, n, G, O, V, I, q, r⟩ => ⟨C, ρ, n, G, O, V, I, w _ _ _ q, r⟩
end
/-! ### operators -/
def RO (r : Dt → Dt → Option Dt) : R2D := fun a b Q => match r a b with
  | some d => Q d
  | none => False
theorem RO.at {r : Dt → Dt → Option Dt} {a b : Dt} {Q : Dt → Prop} (h : RO r a b Q) : ∃ d, r a b = some d ∧ Q d := by
  unfold RO at h
  split at h
  · next d e => exact ⟨d, e, h⟩
  · exact h.elim
theorem wkOp {X : Cx} {f : Value → Value → Sem Value} {r r' : R2D} (h : VOp X f r) (w : ∀ a b Q, r' a b Q → r a b Q) : VOp X f r' := fun pins s σ H x y v u Q I rx ry ⟨G, d1, d2, Q0, sg, r1, r2, q, hq⟩ => h pins s σ H x y v u Q I rx ry ⟨G, d1, d2, Q0, sg, r1, r2, w _ _ _ q, hq⟩
theorem opO {X : Cx} {f : Value → Value → Sem Value} {r : R2D} {p : Dt → Dt → Option Dt} (h : VOp X f r) (w : ∀ a b d, p a b = some d → ∀ Q : Dt → Prop, Q d → r a b Q) : VOp X f (RO p) := wkOp h fun a b Q q => by
  obtain ⟨d, e, q⟩ := q.at
  exact w a b d e Q q
section
open Classical
noncomputable def pAdd (a b : Dt) : Option Dt := match a, b with
  | .int i, .int j => some (.int (i + j))
  | .str x, .str y => if x.length + y.length ≤ sizeLine then some (.str (x ++ y)) else none
  | .tuple xs, .tuple ys => if xs.length + ys.length ≤ sizeLine then some (.tuple (xs ++ ys)) else none
  | .list xs, .list ys => if xs.length + ys.length ≤ sizeLine then some (.list (xs ++ ys)) else none
  | _, _ => none
def pSub (a b : Dt) : Option Dt := match a, b with
  | .int i, .int j => some (.int (i - j))
  | _, _ => none
noncomputable def pMul (a b : Dt) : Option Dt := match a, b with
  | .int i, .int j => if CMul i j then some (.int (i * j)) else none
  | _, _ => none
noncomputable def pDiv (a b : Dt) : Option Dt := match a, b with
  | .int i, .int j => if CDiv i j then some (.int (i / j)) else none
  | _, _ => none
noncomputable def pMod (a b : Dt) : Option Dt := match a, b with
  | .int i, .int j => if 0 < j then some (.int (i % j)) else none
  | _, _ => none
noncomputable def pPow (a b : Dt) : Option Dt := match a, b with
  | .int i, .int j => if CPow i j then some (.int (i ^ j.toNat)) else none
  | _, _ => none
noncomputable def pEq (a b : Dt) : Option Dt := if shp a b then some (.bool (PyData.eqv a b)) else none
noncomputable def pNe (a b : Dt) : Option Dt := if shp a b then some (.bool (!PyData.eqv a b)) else none
def pLt (a b : Dt) : Option Dt := match a, b with
  | .int i, .int j => some (.bool (decide (i < j)))
  | _, _ => none
def pLe (a b : Dt) : Option Dt := match a, b with
  | .int i, .int j => some (.bool (decide (i ≤ j)))
  | _, _ => none
def pGt (a b : Dt) : Option Dt := match a, b with
  | .int i, .int j => some (.bool (decide (j < i)))
  | _, _ => none
def pGe (a b : Dt) : Option Dt := match a, b with
  | .int i, .int j => some (.bool (decide (j ≤ i)))
  | _, _ => none
def pIs (a b : Dt) : Option Dt := match b with
  | .none => some (.bool (isNoneD a))
  | _ => none
def pIsNot (a b : Dt) : Option Dt := match b with
  | .none => some (.bool (!isNoneD a))
  | _ => none
noncomputable def pIx (a b : Dt) : Option Dt := match a, b with
  | .tuple ds, .int i => atI ds i
  | .list ds, .int i => atI ds i
  | .str z, .int i => if z.length ≤ sizeLine then (atI z.cps.toList i).map fun c => .str ⟨#[c]⟩ else none
  | _, _ => none
noncomputable def pRep (a b : Dt) : Option Dt := match a, b with
  | .list xs, .int k => @ite _ (-(2 ^ 63) ≤ k ∧ k < 2 ^ 63 ∧ xs.length * k.toNat ≤ sizeLine) (Classical.propDecidable _) (some (.list (List.replicate k.toNat xs).flatten)) none
  | _, _ => none
noncomputable def pRepT (a b : Dt) : Option Dt := match a, b with
  | .tuple xs, .int k => if (0 ≤ k ∧ k ≤ 4000 ∧ xs.length ≤ 4000) then some (.tuple (List.replicate k.toNat xs).flatten) else none
  | _, _ => none
variable {X : Cx}
theorem ite_at {α : Type} {c : Prop} {_ : Decidable c} {a d : α} (h : (if c then some a else none) = some d) : c ∧ a = d := by
  split at h
  · next q => cases h; exact ⟨q, rfl⟩
  · cases h
theorem p_add : VOp X (binaryOp .Add) (RO pAdd) := opO o_add fun a b d h Q q => by
  unfold pAdd at h
  split at h
  · cases h; exact q
  · obtain ⟨c, rfl⟩ := ite_at h; exact ⟨c, q⟩
  · obtain ⟨c, rfl⟩ := ite_at h; exact ⟨c, q⟩
  · obtain ⟨c, rfl⟩ := ite_at h; exact ⟨c, q⟩
  · cases h
theorem p_sub : VOp X (binaryOp .Sub) (RO pSub) := opO o_sub fun a b d h Q q => by
  unfold pSub at h
  split at h
  · cases h; exact q
  · cases h
theorem p_mul : VOp X (binaryOp .Mult) (RO pMul) := opO o_mul fun a b d h Q q => by
  unfold pMul at h
  split at h
  · obtain ⟨c, rfl⟩ := ite_at h; exact ⟨c, q⟩
  · cases h
theorem p_div : VOp X (binaryOp .FloorDiv) (RO pDiv) := opO o_div fun a b d h Q q => by
  unfold pDiv at h
  split at h
  · obtain ⟨c, rfl⟩ := ite_at h; exact ⟨c, q⟩
  · cases h
theorem p_mod : VOp X (binaryOp .Mod) (RO pMod) := opO o_mod fun a b d h Q q => by
  unfold pMod at h
  split at h
  · obtain ⟨c, rfl⟩ := ite_at h; exact ⟨c, q⟩
  · cases h
theorem p_pow : VOp X (binaryOp .Pow) (RO pPow) := opO o_pow fun a b d h Q q => by
  unfold pPow at h
  split at h
  · obtain ⟨c, rfl⟩ := ite_at h; exact ⟨c, q⟩
  · cases h
theorem p_eq (hu : X.A.units + 64 < cLine) : VOp X (compareOp .Eq) (RO pEq) := opO (o_eq hu) fun a b d h Q q => by
  obtain ⟨c, rfl⟩ := ite_at h; exact ⟨c, q⟩
theorem p_ne (hu : X.A.units + 64 < cLine) : VOp X (compareOp .NotEq) (RO pNe) := opO (o_ne hu) fun a b d h Q q => by
  obtain ⟨c, rfl⟩ := ite_at h; exact ⟨c, q⟩
theorem p_lt : VOp X (compareOp .Lt) (RO pLt) := opO o_lt fun a b d h Q q => by
  unfold pLt at h
  split at h
  · cases h; exact q
  · cases h
theorem p_le : VOp X (compareOp .LtE) (RO pLe) := opO o_le fun a b d h Q q => by
  unfold pLe at h
  split at h
  · cases h; exact q
  · cases h
theorem p_gt : VOp X (compareOp .Gt) (RO pGt) := opO o_gt fun a b d h Q q => by
  unfold pGt at h
  split at h
  · cases h; exact q
  · cases h
theorem p_ge : VOp X (compareOp .GtE) (RO pGe) := opO o_ge fun a b d h Q q => by
  unfold pGe at h
  split at h
  · cases h; exact q
  · cases h
theorem p_is : VOp X (compareOp .Is) (RO pIs) := opO o_is fun a b d h Q q => by
  unfold pIs at h
  split at h
  · cases h; exact q
  · cases h
theorem p_isnot : VOp X (compareOp .IsNot) (RO pIsNot) := opO o_isnot fun a b d h Q q => by
  unfold pIsNot at h
  split at h
  · cases h; exact q
  · cases h
theorem p_rep : VOp X (binaryOp .Mult) (RO pRep) := opO o_rep fun a b d h Q q => by
  unfold pRep at h
  split at h
  · obtain ⟨c, rfl⟩ := ite_at h; exact ⟨c, q⟩
  · cases h
theorem p_repT : VOp X (binaryOp .Mult) (RO pRepT) := opO o_repT fun a b d h Q q => by
  unfold pRepT at h
  split at h
  · obtain ⟨c, rfl⟩ := ite_at h; exact ⟨c, q⟩
  · cases h
def pIadd (a b : Dt) : Option Dt := match a, b with
  | .int i, .int j => some (.int (i + j))
  | _, _ => none
theorem p_iadd : VOp X (inplaceOp .Add) (RO pIadd) := opO (r := fun a b Q => match a, b with | .int i, .int j => Q (.int (i + j)) | _, _ => False) o_iadd fun a b d h Q q => by
  unfold pIadd at h
  split at h
  · cases h; exact q
  · cases h
theorem ixO_imp {a b : Dt} {d : Dt} (h : pIx a b = some d) {Q : Dt → Prop} (q : Q d) : dIx a b Q := by
  unfold pIx at h
  unfold dIx
  split at h
  · simp only [h]; exact q
  · simp only [h]; exact q
  · split at h
    · next z i c =>
      refine ⟨c, ?_⟩
      cases hh : atI z.cps.toList i with
      | none => rw [hh] at h; cases h
      | some c => rw [hh] at h; cases h; exact q
    · cases h
  · cases h
end
end VL


set_option maxRecDepth 100000
set_option maxHeartbeats 2000000
namespace VL
open PySem PySem.Spec PyProof.Rows L2
theorem satO {α : Type} {o : Option α} {n : Nat} {Q : α → Nat → Prop} {E : XW} (h : sat (ofO o) n Q E) : ∃ a, o = some a ∧ Q a n := by
  cases o with
  | none => exact h.elim
  | some a => exact ⟨a, rfl, h⟩
theorem sat2 {α β : Type} {t : T α} {f : α → T β} {n : Nat} {Q : β → Nat → Prop} {E : XW} {Q' : α → Nat → Prop} (h : sat (bd t f) n Q E) (w : ∀ a n', sat (f a) n' Q E → Q' a n') : sat t n Q' E := sat_mono w (fun _ _ q => q) (sat_bd.mp h)
def asB : Dt → T Bool
  | .bool b => .ret b
  | _ => .fail
theorem satB {d : Dt} {n : Nat} {Q : Bool → Nat → Prop} {E : XW} (h : sat (asB d) n Q E) : isB (fun b => Q b n) d := by
  cases d <;> first | exact h | exact h.elim
section
variable {X : Cx} {U : WX} {a b c e : Expr} {es rest : List Expr} {pos p p2 : Pos} {ta tb tc te : XT} {xa xb xc : XB} {al : XA} {x : Str}
/-! ### names, constants -/
def xVar (i : Nat) (ρ : Nv) : T Dt := match ρ[i]? with
  | some (some (.dat d)) => .ret d
  | _ => .fail
theorem xe_var (i : Nat) {x : Str} (hN : X.N[i]? = some x := by rfl) (hv : Vis X.env.scope x := by first | exact Or.inl rfl | exact Or.inr (Or.inl rfl) | exact Or.inr (Or.inr rfl)) (hd : (x == ("__debug__" : Str)) = false := by decide)
    (hcd : (x == ("__classdict__" : Str)) = false := by decide) : VE X U (.Name x pos) (S (xVar i)) := wkE (ve_var i hN hv hd hcd) fun ρ n Q E h => by
  unfold S xVar at h
  unfold vVar
  split at h
  · next d e => (try simp only [e]); exact h
  · exact h.elim
def xC (d : Dt) (_ : Nv) : T Dt := .ret d
theorem xe_int {i j} : VE X U (.Constant (.int i) j pos) (S (xC (.int i))) := wkE ve_int fun _ _ _ _ q => q
theorem xe_bl {i j} : VE X U (.Constant (.bool i) j pos) (S (xC (.bool i))) := wkE ve_bl fun _ _ _ _ q => q
theorem xe_non {j} : VE X U (.Constant .none j pos) (S (xC .none)) := wkE ve_non fun _ _ _ _ q => q
theorem xe_str {x j} : VE X U (.Constant (.str x) j pos) (S (xC (.str x))) := wkE ve_str fun _ _ _ _ q => q
theorem xe_gint {x : Str} {i : Int} (hg : Gl X x) (hm : ∃ t, X.mg x = some (.int i t)) (hd : (x == ("__debug__" : Str)) = false := by decide) : VE X U (.Name x pos) (S (xC (.int i))) := wkE (ve_gint hg hm hd) fun _ _ _ _ q => q
theorem xe_gstr {x z : Str} (hg : Gl X x) (hm : ∃ t, X.mg x = some (.str z t)) (hd : (x == ("__debug__" : Str)) = false := by decide) : VE X U (.Name x pos) (S (xC (.str z))) := wkE (ve_gstr hg hm hd) fun _ _ _ _ q => q
/-! ### operators -/
def opK2 (q : Dt → Dt → Option Dt) (x y : Dt) : T Dt := ofO (q x y)
def opK (q : Dt → Dt → Option Dt) (tb : XT) (ρ : Nv) (x : Dt) : T Dt := bd (tb ρ) (opK2 q x)
def xOp (q : Dt → Dt → Option Dt) (ta tb : XT) (ρ : Nv) : T Dt := bd (ta ρ) (opK q tb ρ)
theorem xOp_ok {q : Dt → Dt → Option Dt} : ∀ ρ n Q E, S (xOp q ta tb) ρ n Q E → vOp (RO q) (S ta) (S tb) ρ n Q E := fun ρ n Q E h =>
  sat2 h fun d1 n1 h1 => sat2 h1 fun d2 n2 h2 => by
    obtain ⟨d, e, q⟩ := satO h2
    unfold RO
    simp only [e]
    exact q
theorem xe_op {op : Operator} {r : Dt → Dt → Option Dt} (ho : VOp X (binaryOp op) (RO r)) (ha : VE X U a (S ta)) (hb : VE X U b (S tb)) : VE X U (.BinOp a op b pos) (S (xOp r ta tb)) := wkE (ve_op ho ha hb) xOp_ok
theorem xe_cmp {op : CmpOp} {r : Dt → Dt → Option Dt} (ho : VOp X (compareOp op) (RO r)) (ha : VE X U a (S ta)) (hb : VE X U b (S tb)) (hm : behindInMarks op b = false := by first | exact nomark _ | rfl) : VE X U (.Compare a [op] [b] pos) (S (xOp r ta tb)) := wkE (ve_cmp ho ha hb hm) xOp_ok
def xTest (t : XT) (ρ : Nv) : T Bool := bd (t ρ) asB
theorem xTest_ok {t : XT} {t' : VT} (w : ∀ ρ n Q E, S t ρ n Q E → t' ρ n Q E) : ∀ ρ n Q E, S (xTest t) ρ n Q E → vTest t' ρ n Q E := fun ρ n Q E h => w _ _ _ _ (sat2 h fun d n1 h1 => satB h1)
theorem xt_cmp {op : CmpOp} {r : Dt → Dt → Option Dt} (ho : VOp X (compareOp op) (RO r)) (ha : VE X U a (S ta)) (hb : VE X U b (S tb)) (hm : behindInMarks op b = false := by first | exact nomark _ | rfl) : VTt X U (.Compare a [op] [b] pos) (S (xTest (xOp r ta tb))) := wkT (vt_cmp ho ha hb hm) (xTest_ok xOp_ok)
theorem xt_val {t : XT} (h : VE X U e (S t)) (he : ∀ whole, isTrue e X.env whole = (do let v ← whole; standAt e.pos; holding [v] (truthy v)) := by intro _; rfl) : VTt X U e (S (xTest t)) := wkT (vt_val h he) (xTest_ok fun _ _ _ _ q => q)
def chK4 (q' : Dt → Dt → Option Dt) (y : Dt) (tc : XT) (ρ : Nv) (k : Bool) : T Dt := if k = true then bd (tc ρ) (opK2 q' y) else .ret (.bool false)
def chK3 (q' : Dt → Dt → Option Dt) (y : Dt) (tc : XT) (ρ : Nv) (k : Dt) : T Dt := bd (asB k) (chK4 q' y tc ρ)
def chK2 (q q' : Dt → Dt → Option Dt) (x : Dt) (tc : XT) (ρ : Nv) (y : Dt) : T Dt := bd (ofO (q x y)) (chK3 q' y tc ρ)
def chK (q q' : Dt → Dt → Option Dt) (tb tc : XT) (ρ : Nv) (x : Dt) : T Dt := bd (tb ρ) (chK2 q q' x tc ρ)
def xChain (q q' : Dt → Dt → Option Dt) (ta tb tc : XT) (ρ : Nv) : T Dt := bd (ta ρ) (chK q q' tb tc ρ)
theorem xChain_ok {q q' : Dt → Dt → Option Dt} : ∀ ρ n Q E, S (xChain q q' ta tb tc) ρ n Q E → vChain (RO q) (RO q') (S ta) (S tb) (S tc) ρ n Q E := fun ρ n Q E h =>
  sat2 h fun d1 n1 h1 => sat2 h1 fun d2 n2 h2 => by
    obtain ⟨d, e, q⟩ := satO (sat2 h2 fun _ _ z => z)
    unfold RO
    simp only [e]
    have z := satB (sat2 q fun _ _ z => z)
    cases d with
    | bool k =>
      show (if k = true then _ else _)
      have z : sat (if k = true then _ else _) _ _ _ := z
      split
      · next hk =>
        rw [if_pos hk] at z
        exact sat2 z fun d3 n3 h3 => by
          obtain ⟨d', e', q'⟩ := satO h3
          simp only [e']
          exact q'
      · next hk => rw [if_neg hk] at z; exact z
    | _ => exact z.elim
theorem xe_chain {op op' : CmpOp} {r r' : Dt → Dt → Option Dt} (ho : VOp X (compareOp op) (RO r)) (ho' : VOp X (compareOp op') (RO r')) (ha : VE X U a (S ta)) (hb : VE X U b (S tb)) (hc : VE X U c (S tc)) (hm : lastMarks [op, op'] [b, c] = false := by with_unfolding_all rfl) :
    VE X U (.Compare a [op, op'] [b, c] pos) (S (xChain r r' ta tb tc)) := wkE (ve_chain ho ho' ha hb hc hm) xChain_ok
theorem xt_chain {op op' : CmpOp} {r r' : Dt → Dt → Option Dt} (ho : VOp X (compareOp op) (RO r)) (ho' : VOp X (compareOp op') (RO r')) (ha : VE X U a (S ta)) (hb : VE X U b (S tb)) (hc : VE X U c (S tc)) (hm : lastMarks [op, op'] [b, c] = false := by with_unfolding_all rfl) :
    VTt X U (.Compare a [op, op'] [b, c] pos) (S (xTest (xChain r r' ta tb tc))) := wkT (vt_chain ho ho' ha hb hc hm) (xTest_ok xChain_ok)
def pNeg (d : Dt) : Option Dt := match d with
  | .int i => some (.int (-i))
  | _ => none
def unK (q : Dt → Option Dt) (x : Dt) : T Dt := ofO (q x)
def xUn (q : Dt → Option Dt) (ta : XT) (ρ : Nv) : T Dt := bd (ta ρ) (unK q)
theorem xe_neg (ha : VE X U a (S ta)) : VE X U (.UnaryOp .USub a pos) (S (xUn pNeg ta)) := wkE (ve_neg ha) fun ρ n Q E h => sat2 h fun d1 n1 h1 => by
  obtain ⟨d, e, q⟩ := satO h1
  unfold pNeg at e
  split at e
  · cases e; exact q
  · cases e
/-! ### and, or, not, if -/
def andK (u : XB) (ρ : Nv) (c : Bool) : T Bool := if c = true then u ρ else .ret false
def xAnd (t u : XB) (ρ : Nv) : T Bool := bd (t ρ) (andK u ρ)
def orK (u : XB) (ρ : Nv) (c : Bool) : T Bool := if c = true then .ret true else u ρ
def xOr (t u : XB) (ρ : Nv) : T Bool := bd (t ρ) (orK u ρ)
def notK (c : Bool) : T Bool := .ret (!c)
def xNot (t : XB) (ρ : Nv) : T Bool := bd (t ρ) notK
theorem sat_ite {α : Type} {c : Prop} {_ : Decidable c} {t u : T α} {n : Nat} {Q : α → Nat → Prop} {E : XW} : sat (if c then t else u) n Q E ↔ if c then sat t n Q E else sat u n Q E := by split <;> exact Iff.rfl
theorem xw_and1 (ha : VTt X U a (S xa)) : VW X U (.BoolOp .And [a] pos) (S xa) := vw_and1 ha
theorem xw_or1 (ha : VTt X U a (S xa)) : VW X U (.BoolOp .Or [a] pos) (S xa) := vw_or1 ha
theorem xw_and (ha : VTt X U a (S xa)) (hb : VW X U (.BoolOp .And (b :: rest) pos) (S xb)) : VW X U (.BoolOp .And (a :: b :: rest) pos) (S (xAnd xa xb)) := wkW (vw_and ha hb) fun ρ n Q E h => sat2 h fun c n1 h1 => sat_ite.mp h1
theorem xw_or (ha : VTt X U a (S xa)) (hb : VW X U (.BoolOp .Or (b :: rest) pos) (S xb)) : VW X U (.BoolOp .Or (a :: b :: rest) pos) (S (xOr xa xb)) := wkW (vw_or ha hb) fun ρ n Q E h => sat2 h fun c n1 h1 => sat_ite.mp h1
theorem xt_w (h : VW X U a (S xa)) : VTt X U a (S xa) := vt_w h
theorem xt_not (ha : VTt X U a (S xa)) : VTt X U (.UnaryOp .Not a pos) (S (xNot xa)) := wkT (vt_not ha) fun ρ n Q E h => sat2 h fun c n1 h1 => h1
def andVK2 (tb : XT) (ρ : Nv) (c : Bool) : T Dt := if c = true then tb ρ else .ret (.bool false)
def andVK (tb : XT) (ρ : Nv) (d : Dt) : T Dt := bd (asB d) (andVK2 tb ρ)
def xAndV (ta tb : XT) (ρ : Nv) : T Dt := bd (ta ρ) (andVK tb ρ)
def orVK2 (tb : XT) (ρ : Nv) (c : Bool) : T Dt := if c = true then .ret (.bool true) else tb ρ
def orVK (tb : XT) (ρ : Nv) (d : Dt) : T Dt := bd (asB d) (orVK2 tb ρ)
def xOrV (ta tb : XT) (ρ : Nv) : T Dt := bd (ta ρ) (orVK tb ρ)
def notVK2 (c : Bool) : T Dt := .ret (.bool (!c))
def notVK (d : Dt) : T Dt := bd (asB d) notVK2
def xNotV (ta : XT) (ρ : Nv) : T Dt := bd (ta ρ) notVK
theorem isB_mono {Q Q' : Bool → Prop} {d : Dt} (w : ∀ b, Q b → Q' b) (h : isB Q d) : isB Q' d := by
  cases d <;> first | exact w _ h | exact h.elim
theorem xe_one {op} (h : VE X U a (S ta)) : VE X U (.BoolOp op [a] pos) (S ta) := ve_one h
theorem xe_and (ha : VE X U a (S ta)) (hb : VE X U (.BoolOp .And (b :: rest) pos) (S tb)) : VE X U (.BoolOp .And (a :: b :: rest) pos) (S (xAndV ta tb)) := wkE (ve_and ha hb) fun ρ n Q E h => sat2 h fun d n1 h1 => isB_mono (fun b z => sat_ite.mp z) (satB (sat2 h1 fun _ _ z => z))
theorem xe_or (ha : VE X U a (S ta)) (hb : VE X U (.BoolOp .Or (b :: rest) pos) (S tb)) : VE X U (.BoolOp .Or (a :: b :: rest) pos) (S (xOrV ta tb)) := wkE (ve_or ha hb) fun ρ n Q E h => sat2 h fun d n1 h1 => isB_mono (fun b z => sat_ite.mp z) (satB (sat2 h1 fun _ _ z => z))
theorem xe_not (ha : VE X U a (S ta)) : VE X U (.UnaryOp .Not a pos) (S (xNotV ta)) := wkE (ve_not ha) fun ρ n Q E h => sat2 h fun d n1 h1 => isB_mono (fun b z => z) (satB (sat2 h1 fun _ _ z => z))
def ifVK (ta tb : XT) (ρ : Nv) (c : Bool) : T Dt := if c = true then ta ρ else tb ρ
def xIf (t : XB) (ta tb : XT) (ρ : Nv) : T Dt := bd (t ρ) (ifVK ta tb ρ)
theorem xe_if (hc : VTt X U c (S xa)) (ha : VE X U a (S ta)) (hb : VE X U b (S tb)) : VE X U (.IfExp c a b pos) (S (xIf xa ta tb)) := wkE (ve_if hc ha hb) fun ρ n Q E h => sat2 h fun c n1 h1 => sat_ite.mp h1
def ifTK (ta tb : XB) (ρ : Nv) (c : Bool) : T Bool := if c = true then ta ρ else tb ρ
def xIfT (t ta tb : XB) (ρ : Nv) : T Bool := bd (t ρ) (ifTK ta tb ρ)
theorem xt_if (hc : VTt X U c (S xc)) (ha : VTt X U a (S xa)) (hb : VTt X U b (S xb)) : VTt X U (.IfExp c a b pos) (S (xIfT xc xa xb)) := wkT (vt_if hc ha hb) fun ρ n Q E h => sat2 h fun c n1 h1 => sat_ite.mp h1
/-! ### argument lists, displays -/
def xNil (_ : Nv) : T (List Dt) := .ret []
def consK2 (d : Dt) (ds : List Dt) : T (List Dt) := .ret (d :: ds)
def consK (tr : XA) (ρ : Nv) (d : Dt) : T (List Dt) := bd (tr ρ) (consK2 d)
def xCons (ta : XT) (tr : XA) (ρ : Nv) : T (List Dt) := bd (ta ρ) (consK tr ρ)
theorem xa_nil : VAa X U [] (S xNil) := wkA va_nil fun _ _ _ _ q => q
theorem xa_cons (ha : VE X U e (S ta)) (hr : VAa X U es (S al)) (hs : starEach (e :: es) X.env = (false, eval e X.env) :: starEach es X.env := by rfl) : VAa X U (e :: es) (S (xCons ta al)) := wkA (va_cons ha hr hs) fun ρ n Q E h => sat2 h fun d n1 h1 => sat2 h1 fun ds n2 h2 => h2
def tupK (ds : List Dt) : T Dt := if ds.length ≤ sizeLine then .ret (.tuple ds) else .fail
def xTup (t : XA) (ρ : Nv) : T Dt := bd (t ρ) tupK
theorem sat_guard {α : Type} {c : Prop} {_ : Decidable c} {a : α} {n : Nat} {Q : α → Nat → Prop} {E : XW} (h : sat (if c then .ret a else .fail) n Q E) : c ∧ Q a n := by
  split at h
  · next hc => exact ⟨hc, h⟩
  · exact h.elim
theorem xe_tup {x1} (h : VAa X U es (S al)) : VE X U (.Tuple es x1 pos) (S (xTup al)) := wkE (ve_tup h) fun ρ n Q E h => sat2 h fun ds n1 h1 => sat_guard h1
def lstK (ds : List Dt) : T (List Dt) := if ds.length ≤ sizeLine then .ret ds else .fail
def xLst (t : XA) (ρ : Nv) : T (List Dt) := bd (t ρ) lstK
theorem xo_lst (h : VAa X U es (S al)) : VO X U (.List es pos) (S (xLst al)) := wkO (vo_lst h) fun ρ n Q E h => sat2 h fun ds n1 h1 => sat_guard h1
def fzK (ds : List Dt) : T Dt := .ret (.list ds)
def xFz (t : XA) (ρ : Nv) : T Dt := bd (t ρ) fzK
theorem xe_fz (h : VO X U e (S al)) : VE X U e (S (xFz al)) := wkE (ve_fz h) fun ρ n Q E h => sat2 h fun ds n1 h1 => h1
/-! ### places, slices -/
theorem xe_ix (ha : VE X U a (S ta)) (hb : VE X U b (S tb)) (hs : PlainIx b := by exact fun _ _ => rfl) : VE X U (.Subscript a b pos) (S (xOp pIx ta tb)) := wkE (ve_ix ha hb hs) fun ρ n Q E h => sat2 h fun d1 n1 h1 => sat2 h1 fun d2 n2 h2 => by
  obtain ⟨d, e, q⟩ := satO h2
  exact ixO_imp e q
noncomputable def xIxO (k : Nat) (tb : XT) (ρ : Nv) : T Dt := match ρ[k]? with
  | some (some (.own ds)) => bd (tb ρ) (opK2 pIx (.list ds))
  | _ => .fail
theorem xe_ixO {k : Nat} {x : Str} {p : Pos} (hb : VE X U b (S tb)) (hN : X.N[k]? = some x := by rfl) (hv : Vis X.env.scope x := by first | exact Or.inl rfl | exact Or.inr (Or.inl rfl) | exact Or.inr (Or.inr rfl)) (hd : (x == ("__debug__" : Str)) = false := by decide)
    (hcd : (x == ("__classdict__" : Str)) = false := by decide) (hs : PlainIx b := by exact fun _ _ => rfl) : VE X U (.Subscript (.Name x p) b pos) (S (xIxO k tb)) := wkE (ve_ixO hb hN hv hd hcd hs) fun ρ n Q E h => by
  unfold S xIxO at h
  unfold vIxO
  split at h
  · next ds e =>
    try simp only [e]
    exact sat2 h fun d2 n2 h2 => by
      obtain ⟨d, e, q⟩ := satO h2
      exact ixO_imp e q
  · exact h.elim
def xpN (_ : Nv) : T (Option Int) := .ret none
def asI : Dt → T (Option Int)
  | .int i => .ret (some i)
  | _ => .fail
def xpS (te : XT) (ρ : Nv) : T (Option Int) := bd (te ρ) asI
theorem xp_none : VPo X U none (S xpN) := wkP vp_none fun _ _ _ _ q => q
theorem xp_some (h : VE X U e (S te)) : VPo X U (some e) (S (xpS te)) := wkP (vp_some h) fun ρ n Q E h => sat2 h fun d n1 h1 => by
  cases d <;> first | exact h1 | exact h1.elim
open Classical in
noncomputable def pSl (d : Dt) (lo hi : Option Int) : Option Dt := match d with
  | .tuple ds => some (.tuple (cutD ds lo hi))
  | .list ds => some (.list (cutD ds lo hi))
  | .str z => if z.length ≤ sizeLine then some (.str (cutS z lo hi)) else none
  | _ => none
noncomputable def slK3 (d : Dt) (lo hi : Option Int) : T Dt := ofO (pSl d lo hi)
noncomputable def slK2 (d : Dt) (th : XP) (ρ : Nv) (lo : Option Int) : T Dt := bd (th ρ) (slK3 d lo)
noncomputable def slK (tl th : XP) (ρ : Nv) (d : Dt) : T Dt := bd (tl ρ) (slK2 d th ρ)
noncomputable def xSl (te : XT) (tl th : XP) (ρ : Nv) : T Dt := bd (te ρ) (slK tl th ρ)
theorem xe_slice {lo hi : Option Expr} {tl th : XP} (he : VE X U e (S te)) (hl : VPo X U lo (S tl)) (hu : VPo X U hi (S th)) : VE X U (.Subscript e (.Slice lo hi none p2) pos) (S (xSl te tl th)) := wkE (ve_slice he hl hu) fun ρ n Q E h => sat2 h fun d n1 h1 => sat2 h1 fun l n2 h2 => sat2 h2 fun u n3 h3 => by
  obtain ⟨d', e, q⟩ := satO h3
  unfold pSl at e
  unfold dSl
  split at e
  · cases e; exact q
  · cases e; exact q
  · obtain ⟨c, rfl⟩ := ite_at e; exact ⟨c, q⟩
  · cases e
/-! ### built-in functions -/
def RC (q : List Dt → Option Dt) : RCD := fun ds Q => match q ds with
  | some d => Q d
  | none => False
theorem callO {f : Value} {r : RCD} {q : List Dt → Option Dt} (h : VCal X f r) (w : ∀ ds d, q ds = some d → ∀ Q : Dt → Prop, Q d → r ds Q) : VCal X f (RC q) := call_imp h fun xs H Q ⟨G, ds, Q0, sg, r, z, hq⟩ => ⟨G, ds, Q0, sg, r, by
  unfold RC at z
  split at z
  · next d e => exact w ds d e Q0 z
  · exact z.elim, hq⟩
def cbK (q : List Dt → Option Dt) (ds : List Dt) : T Dt := ofO (q ds)
def xCB (q : List Dt → Option Dt) (al : XA) (ρ : Nv) : T Dt := bd (al ρ) (cbK q)
theorem xCB_ok {q : List Dt → Option Dt} : ∀ ρ n Q E, S (xCB q al) ρ n Q E → vCB (RC q) (S al) ρ n Q E := fun ρ n Q E h => sat2 h fun ds n1 h1 => by
  obtain ⟨d, e, q⟩ := satO h1
  unfold RC
  simp only [e]
  exact q
theorem xe_callB {id : String} {q : List Dt → Option Dt} (hc : VCal X (.builtin id) (RC q)) (hg : Gl X x) (hm : X.mg x = none) (hv : bootBuiltins x = some (.builtin id)) (ha : VAa X U (e :: es) (S al)) (hn : x ≠ "__name__" := by decide) (hdb : (x == ("__debug__" : Str)) = false := by decide)
    (he : starEach (e :: es) X.env = (false, eval e X.env) :: starEach es X.env := by rfl) (hpl : (backTo pos (starEach es X.env)).any (·.1) = false := by rfl) : VE X U (.Call (.Name x p) (e :: es) [] pos) (S (xCB q al)) := wkE (ve_callB hc hg hm hv ha hn hdb he hpl) xCB_ok
theorem xe_callTy {id : String} {q : List Dt → Option Dt} (hc : VCal X (.type id) (RC q)) (hg : Gl X x) (hm : X.mg x = none) (hv : bootBuiltins x = some (.type id)) (ha : VAa X U (e :: es) (S al)) (hn : x ≠ "__name__" := by decide) (hdb : (x == ("__debug__" : Str)) = false := by decide)
    (he : starEach (e :: es) X.env = (false, eval e X.env) :: starEach es X.env := by rfl) (hpl : (backTo pos (starEach es X.env)).any (·.1) = false := by rfl) : VE X U (.Call (.Name x p) (e :: es) [] pos) (S (xCB q al)) := wkE (ve_callTy hc hg hm hv ha hn hdb he hpl) xCB_ok
def ROl (q : List Dt → Option (List Dt)) : RCO := fun ds Q => match q ds with
  | some d => Q d
  | none => False
def coK (q : List Dt → Option (List Dt)) (ds : List Dt) : T (List Dt) := ofO (q ds)
def xCO (q : List Dt → Option (List Dt)) (al : XA) (ρ : Nv) : T (List Dt) := bd (al ρ) (coK q)
theorem xo_callTy {id : String} {q : List Dt → Option (List Dt)} (hc : CallR X (.type id) (liftO X.K (ROl q))) (hg : Gl X x) (hm : X.mg x = none) (hv : bootBuiltins x = some (.type id)) (ha : VAa X U (e :: es) (S al)) (hn : x ≠ "__name__" := by decide) (hdb : (x == ("__debug__" : Str)) = false := by decide)
    (he : starEach (e :: es) X.env = (false, eval e X.env) :: starEach es X.env := by rfl) (hpl : (backTo pos (starEach es X.env)).any (·.1) = false := by rfl) : VO X U (.Call (.Name x p) (e :: es) [] pos) (S (xCO q al)) := wkO (vo_callTy hc hg hm hv ha hn hdb he hpl) fun ρ n Q E h => sat2 h fun ds n1 h1 => by
  obtain ⟨d, e, q⟩ := satO h1
  unfold ROl
  simp only [e]
  exact q
open Classical in
noncomputable def pLen (ds : List Dt) : Option Dt := match ds with
  | [.tuple xs] => some (.int (xs.length : Int))
  | [.list xs] => some (.int (xs.length : Int))
  | [.str z] => if z.length ≤ sizeLine then some (.int (z.length : Int)) else none
  | _ => none
theorem pc_len : VCal X (.builtin "len") (RC pLen) := callO c_len fun ds d h Q q => by
  unfold pLen at h
  split at h
  · cases h; exact q
  · cases h; exact q
  · obtain ⟨c, rfl⟩ := ite_at h; exact ⟨c, q⟩
  · cases h
def pMin2 (ds : List Dt) : Option Dt := match ds with
  | [.int i, .int j] => some (.int (if j < i then j else i))
  | _ => none
def pMax2 (ds : List Dt) : Option Dt := match ds with
  | [.int i, .int j] => some (.int (if j > i then j else i))
  | _ => none
theorem pc_min2 (hc : X.calm = true) : VCal X (.builtin "min") (RC pMin2) := callO (c_min2 hc) fun ds d h Q q => by
  unfold pMin2 at h
  split at h
  · cases h; exact q
  · cases h
theorem pc_max2 (hc : X.calm = true) : VCal X (.builtin "max") (RC pMax2) := callO (c_max2 hc) fun ds d h Q q => by
  unfold pMax2 at h
  split at h
  · cases h; exact q
  · cases h
def pAbs (ds : List Dt) : Option Dt := match ds with
  | [.int i] => some (.int (if i < 0 then -i else i))
  | _ => none
theorem pc_abs : VCal X (.builtin "abs") (RC pAbs) := callO c_abs fun ds d h Q q => by
  unfold pAbs at h
  split at h
  · cases h; exact q
  · cases h
def pInt (ds : List Dt) : Option Dt := match ds with
  | [.int i] => some (.int i)
  | _ => none
theorem pc_int : VCal X (.type "int") (RC pInt) := callO c_int fun ds d h Q q => by
  unfold pInt at h
  split at h
  · cases h; exact q
  · cases h
def pStr (ds : List Dt) : Option Dt := match ds with
  | [.int i] => if i.natAbs.log2 < 1920 then some (.str (toString i)) else none
  | _ => none
theorem pc_str : VCal X (.type "str") (RC pStr) := callO c_str fun ds d h Q q => by
  unfold pStr at h
  split at h
  · obtain ⟨c, rfl⟩ := ite_at h; exact ⟨c, q⟩
  · cases h
def pTuple (ds : List Dt) : Option Dt := match ds with
  | [.tuple xs] => some (.tuple xs)
  | [.list xs] => some (.tuple xs)
  | _ => none
theorem pc_tuple : VCal X (.type "tuple") (RC pTuple) := callO c_tuple fun ds d h Q q => by
  unfold pTuple at h
  split at h
  · cases h; exact q
  · cases h; exact q
  · cases h
def pList (ds : List Dt) : Option (List Dt) := match ds with
  | [.tuple xs] => some xs
  | [.list xs] => some xs
  | _ => none
theorem pc_list : CallR X (.type "list") (liftO X.K (ROl pList)) := call_imp c_list fun xs H Q ⟨G, ds, Q0, sg, r, z, hq⟩ => ⟨G, ds, Q0, sg, r, by
  unfold ROl at z
  split at z
  · next d e =>
    unfold pList at e
    split at e
    · cases e; exact z
    · cases e; exact z
    · cases e
  · exact z.elim, hq⟩
def pSum (ds : List Dt) : Option Dt := match ds with
  | [.list xs] => (intsD xs).map fun ns => .int ns.sum
  | _ => none
theorem pc_sum (hc : X.calm = true) : VCal X (.builtin "sum") (RC pSum) := callO (c_sum hc) fun ds d h Q q => by
  unfold pSum at h
  split at h
  · next xs =>
    cases e : intsD xs with
    | none => rw [e] at h; cases h
    | some ns => rw [e] at h; cases h; exact ⟨ns, e, q⟩
  · cases h
def boolsD : List Dt → Option (List Bool)
  | [] => some []
  | .bool i :: r => (boolsD r).map (i :: ·)
  | _ => none
theorem boolsD_map : ∀ ns : List Bool, boolsD (ns.map PyData.bool) = some ns
  | [] => rfl
  | n :: ns => by simp [boolsD, boolsD_map ns]
theorem boolsD_ok : ∀ {ds : List Dt} {ns : List Bool}, boolsD ds = some ns → ds = ns.map PyData.bool
  | [], _, h => by cases h; rfl
  | .bool i :: r, ns, h => by
    simp only [boolsD, Option.map_eq_some_iff] at h
    obtain ⟨m, h1, rfl⟩ := h
    simp [boolsD_ok h1]
  | .none :: _, _, h | .int _ :: _, _, h | .str _ :: _, _, h | .list _ :: _, _, h | .tuple _ :: _, _, h | .dict _ :: _, _, h => by cases h
def pAll (ds : List Dt) : Option Dt := match ds with
  | [.list xs] => (boolsD xs).map fun bs => .bool (bs.all _root_.id)
  | _ => none
theorem pc_all (hc : X.calm = true) : VCal X (.builtin "all") (RC pAll) := callO (c_all hc) fun ds d h Q q => by
  unfold pAll at h
  split at h
  · next xs =>
    cases e : boolsD xs with
    | none => rw [e] at h; cases h
    | some ns => rw [e] at h; cases h; exact ⟨ns, boolsD_ok e, q⟩
  · cases h
open Classical in
noncomputable def pRepr (ds : List Dt) : Option Dt := match ds with
  | [d] => if d.hasDict = false ∧ d.showable = true ∧ d.shown.length ≤ sizeLine ∧ d.depth ≤ 60 then some (.str d.shown) else none
  | _ => none
theorem pc_repr (hG : X.A.guards = some []) (hu : X.A.units + 64 < cLine) : VCal X (.builtin "repr") (RC pRepr) := callO (c_repr hG hu) fun ds d h Q q => by
  unfold pRepr at h
  split at h
  · obtain ⟨c, rfl⟩ := ite_at h; exact ⟨c.1, c.2.1, c.2.2.1, c.2.2.2, q⟩
  · cases h
def isiK (Tn : String) (d : Dt) : T Dt := .ret (.bool (isiD Tn d))
def xIsi (Tn : String) (te : XT) (ρ : Nv) : T Dt := bd (te ρ) (isiK Tn)
theorem xe_isi {T : String} {y : Str} {p2 p3 : Pos} (hg : Gl X "isinstance") (hm : X.mg "isinstance" = none) (hg2 : Gl X y) (hm2 : X.mg y = none) (hv2 : bootBuiltins y = some (.type T)) (hk : KitOk X.K T) (ha : VE X U e (S te))
    (hv : bootBuiltins "isinstance" = some (.builtin "isinstance") := by decide +kernel) (hn : y ≠ "__name__" := by decide) (hdb : (y == ("__debug__" : Str)) = false := by decide)
    (he : starEach [e, .Name y p2] X.env = (false, eval e X.env) :: starEach [.Name y p2] X.env := by rfl) (he2 : starEach [.Name y p2] X.env = (false, eval (.Name y p2) X.env) :: starEach [] X.env := by rfl) (hpl : (backTo pos (starEach [.Name y p2] X.env)).any (·.1) = false := by rfl) :
    VE X U (.Call (.Name "isinstance" p3) [e, .Name y p2] [] pos) (S (xIsi T te)) := wkE (ve_isi hg hm hg2 hm2 hv2 hk ha hv hn hdb he he2 hpl) fun ρ n Q E h => sat2 h fun d n1 h1 => h1
def xLenO (k : Nat) (ρ : Nv) : T Dt := match ρ[k]? with
  | some (some (.own ds)) => .ret (.int (ds.length : Int))
  | _ => .fail
theorem xe_lenO {k : Nat} {p : Pos} {x : Str} {p' : Pos} (hg : Gl X "len") (hm : X.mg "len" = none) (hv : bootBuiltins "len" = some (.builtin "len")) (hN : X.N[k]? = some x := by rfl) (hvs : Vis X.env.scope x := by first | exact Or.inl rfl | exact Or.inr (Or.inl rfl) | exact Or.inr (Or.inr rfl)) (hd : (x == ("__debug__" : Str)) = false := by decide)
    (hcd : (x == ("__classdict__" : Str)) = false := by decide) (he : starEach [.Name x p'] X.env = (false, eval (.Name x p') X.env) :: starEach [] X.env := by rfl) (hpl : (backTo pos (starEach [] X.env)).any (·.1) = false := by rfl) : VE X U (.Call (.Name "len" p) [.Name x p'] [] pos) (S (xLenO k)) := wkE (ve_lenO hg hm hv hN hvs hd hcd he hpl) fun ρ n Q E h => by
  unfold S xLenO at h
  unfold vLenO
  split at h
  · next d e => (try simp only [e]); exact h
  · exact h.elim
def xLenS (k : Nat) (ρ : Nv) : T Dt := match ρ[k]? with
  | some (some (.scr ns)) => .ret (.int (ns.length : Int))
  | _ => .fail
theorem xe_lenS {k : Nat} {p : Pos} {x : Str} {p' : Pos} (hg : Gl X "len") (hm : X.mg "len" = none) (hv : bootBuiltins "len" = some (.builtin "len")) (hN : X.N[k]? = some x := by rfl) (hvs : Vis X.env.scope x := by first | exact Or.inl rfl | exact Or.inr (Or.inl rfl) | exact Or.inr (Or.inr rfl)) (hd : (x == ("__debug__" : Str)) = false := by decide)
    (hcd : (x == ("__classdict__" : Str)) = false := by decide) (he : starEach [.Name x p'] X.env = (false, eval (.Name x p') X.env) :: starEach [] X.env := by rfl) (hpl : (backTo pos (starEach [] X.env)).any (·.1) = false := by rfl) : VE X U (.Call (.Name "len" p) [.Name x p'] [] pos) (S (xLenS k)) := wkE (ve_lenS hg hm hv hN hvs hd hcd he hpl) fun ρ n Q E h => by
  unfold S xLenS at h
  unfold vLenS
  split at h
  · next d e => (try simp only [e]); exact h
  · exact h.elim
end
end VL


set_option maxRecDepth 100000
set_option maxHeartbeats 2000000
namespace VL
open PySem PySem.Spec PyProof.Rows L2
abbrev noX : XW := fun _ _ => False
/-- an expression within a statement: what it raises leaves with the names as they are -/
def exS {α : Type} (t : T α) (ρ : Nv) (f : α → T Fl) : T Fl := bx t f fun x => .ret (.xc x ρ)
theorem exS_ret {α : Type} {a : α} {ρ : Nv} {f : α → T Fl} : exS (.ret a) ρ f = f a := rfl
theorem exS_exc {α : Type} {x : Exc} {ρ : Nv} {f : α → T Fl} : exS (.exc x) ρ f = .ret (.xc x ρ) := rfl
theorem exS_fail {α : Type} {ρ : Nv} {f : α → T Fl} : exS .fail ρ f = .fail := rfl
theorem exS_draw {α : Type} {m : Int} {k : Int → T α} {ρ : Nv} {f : α → T Fl} : exS (.draw m k) ρ f = .draw m fun r => exS (k r) ρ f := rfl
theorem exS_ite {α : Type} {c : Prop} [Decidable c] {t u : T α} {ρ : Nv} {f : α → T Fl} : exS (if c then t else u) ρ f = if c then exS t ρ f else exS u ρ f := by split <;> rfl
theorem exS_congr {α : Type} {t t' : T α} {ρ ρ' : Nv} {f : α → T Fl} (h : t = t') (h2 : ρ = ρ') : exS t ρ f = exS t' ρ' f := by rw [h, h2]
theorem satX {α : Type} {t : T α} {ρ : Nv} {f : α → T Fl} {V : VN} {n : Nat} {Q' : α → Nat → Prop} (h : sat (exS t ρ f) n (flV V) noX) (w : ∀ a n', sat (f a) n' (flV V) noX → Q' a n') : sat t n Q' (fun x n' => V.xc x ρ n') := sat_mono w (fun x n' q => q) (sat_bx.mp h)
section
variable {X : Cx} {U : WX} {e : Expr} {st : Stmt} {rest : List Stmt} {pos : Pos} {te : XT} {al : XA} {xb : XB} {t u : XS}
/-! ### statements -/
def sqF (u : XS) : Fl → T Fl
  | .nx ρ => u ρ
  | .rt w => .ret (.rt w)
  | .bk ρ => .ret (.bk ρ)
  | .ct ρ => .ret (.ct ρ)
  | .xc x ρ => .ret (.xc x ρ)
def xSeq (t u : XS) (ρ : Nv) : T Fl := bd (t ρ) (sqF u)
def xNext (ρ : Nv) : T Fl := .ret (.nx ρ)
theorem xs_nil : VSs X U [] (SS xNext) := wkSs vs_nil fun _ _ _ q => q
theorem xs_cons (h1 : VS X U st (SS t)) (h2 : VSs X U rest (SS u)) : VSs X U (st :: rest) (SS (xSeq t u)) := wkSs (vs_cons h1 h2) fun V ρ n h => sat2 h fun f n' h' => by
  cases f <;> exact h'
theorem xs_one (h1 : VS X U st (SS t)) : VSs X U [st] (SS t) := vs_one h1
theorem xs_pass : VS X U (.Pass pos) (SS xNext) := wkS vs_pass fun _ _ _ q => q
def xBreak (ρ : Nv) : T Fl := .ret (.bk ρ)
def xCont (ρ : Nv) : T Fl := .ret (.ct ρ)
theorem xs_break : VS X U (.Break pos) (SS xBreak) := wkS vs_break fun _ _ _ q => q
theorem xs_cont : VS X U (.Continue pos) (SS xCont) := wkS vs_cont fun _ _ _ q => q
def xNever (_ : Nv) : T Fl := .fail
theorem xs_never : VS X U st (SS xNever) := wkS vs_never fun _ _ _ q => q
def drpK (ρ : Nv) (_ : Dt) : T Fl := .ret (.nx ρ)
def xDrop (te : XT) (ρ : Nv) : T Fl := exS (te ρ) ρ (drpK ρ)
theorem xs_expr (he : VE X U e (S te)) (hs : swapsWith e none pos.line X.env = pure false := by rfl) : VS X U (.Expr e pos) (SS (xDrop te)) := wkS (vs_expr he hs) fun V ρ n h => satX h fun _ _ q => q
def retK (d : Dt) : T Fl := .ret (.rt (.dat d))
def xRet (te : XT) (ρ : Nv) : T Fl := exS (te ρ) ρ retK
theorem xs_ret (he : VE X U e (S te)) : VS X U (.Return (some e) pos) (SS (xRet te)) := wkS (vs_ret he) fun V ρ n h => satX h fun _ _ q => q
def retOK (d : List Dt) : T Fl := .ret (.rt (.own d))
def xRetO (te : XA) (ρ : Nv) : T Fl := exS (te ρ) ρ retOK
theorem xs_retO (he : VO X U e (S al)) : VS X U (.Return (some e) pos) (SS (xRetO al)) := wkS (vs_retO he) fun V ρ n h => satX h fun _ _ q => q
def xRetV (i : Nat) (ρ : Nv) : T Fl := match ρ[i]? with
  | some (some (.own ds)) => .ret (.rt (.own ds))
  | _ => .fail
theorem xs_retV (i : Nat) {x : Str} {pos' : Pos} (hN : X.N[i]? = some x := by rfl) (hv : Vis X.env.scope x := by first | exact Or.inl rfl | exact Or.inr (Or.inl rfl) | exact Or.inr (Or.inr rfl)) (hd : (x == ("__debug__" : Str)) = false := by decide)
    (hcd : (x == ("__classdict__" : Str)) = false := by decide) : VS X U (.Return (some (.Name x pos')) pos) (SS (xRetV i)) := wkS (vs_retV i hN hv hd hcd) fun V ρ n h => by
  unfold SS xRetV at h
  unfold vRetV
  split at h
  · next d e => (try simp only [e]); exact h
  · exact h.elim
def xRetN (_ : Nv) : T Fl := .ret (.rt (.dat .none))
theorem xs_retN : VS X U (.Return none pos) (SS xRetN) := wkS vs_retN fun _ _ _ q => q
def ifSK (t u : XS) (ρ : Nv) (b : Bool) : T Fl := if b = true then t ρ else u ρ
def xIfS (c : XB) (t u : XS) (ρ : Nv) : T Fl := exS (c ρ) ρ (ifSK t u ρ)
theorem xs_if {c : Expr} {a b : List Stmt} (hc : VTt X U c (S xb)) (ha : VSs X U a (SS t)) (hb : VSs X U b (SS u)) : VS X U (.If c a b pos) (SS (xIfS xb t u)) := wkS (vs_if hc ha hb) fun V ρ n h => satX h fun b n' q => sat_ite.mp q
def setK (i : Nat) (ρ : Nv) (d : Dt) : T Fl := .ret (.nx (ρ.set i (some (.dat d))))
def xSet (i : Nat) (te : XT) (ρ : Nv) : T Fl := exS (te ρ) ρ (setK i ρ)
theorem xs_set {i : Nat} {x : Str} {pos' : Pos} (hN : X.N.Nodup) (hi : X.N[i]? = some x) (hx : Loc X.env.scope x) (he : VE X U e (S te)) (hs : swapsWith e (some (.Name x pos')) pos.line X.env = pure false := by rfl) (hf : X.fn x = true ∨ X.env.scope.names.lookup x = some .local := by first | exact .inl rfl | exact .inr rfl | assumption) :
    VS X U (.Assign [.Name x pos'] e pos) (SS (xSet i te)) := wkS (vs_set hN hi hx he hs hf) fun V ρ n h => satX h fun _ _ q => q
def setOK (i : Nat) (ρ : Nv) (d : List Dt) : T Fl := .ret (.nx (ρ.set i (some (.own d))))
def xSetO (i : Nat) (te : XA) (ρ : Nv) : T Fl := exS (te ρ) ρ (setOK i ρ)
theorem xs_setO {i : Nat} {x : Str} {pos' : Pos} (hN : X.N.Nodup) (hi : X.N[i]? = some x) (hx : Loc X.env.scope x) (he : VO X U e (S al)) (hs : swapsWith e (some (.Name x pos')) pos.line X.env = pure false := by rfl) (hf : X.fn x = true ∨ X.env.scope.names.lookup x = some .local := by first | exact .inl rfl | exact .inr rfl | assumption) :
    VS X U (.Assign [.Name x pos'] e pos) (SS (xSetO i al)) := wkS (vs_setO hN hi hx he hs hf) fun V ρ n h => satX h fun _ _ q => q
def xFrz (i : Nat) (t : XS) (ρ : Nv) : T Fl := match ρ[i]? with
  | some (some (.own ds)) => t (ρ.set i (some (.dat (.list ds))))
  | _ => .fail
theorem xs_frz (i : Nat) (h : VS X U st (SS t)) : VS X U st (SS (xFrz i t)) := wkS (vs_frz i h) fun V ρ n h => by
  unfold SS xFrz at h
  unfold vFrz
  split at h
  · next d e => (try simp only [e]); exact h
  · exact h.elim
/-! targets -/
abbrev XG := Dt → Nv → Option Nv
abbrev XGs := List Dt → Nv → Option Nv
def RG (g : XG) : VGt := fun d ρ Q => match g d ρ with
  | some ρ' => Q ρ'
  | none => False
def RGs (g : XGs) : VGs := fun d ρ Q => match g d ρ with
  | some ρ' => Q ρ'
  | none => False
theorem RG.at {g : XG} {d : Dt} {ρ : Nv} {Q : Nv → Prop} (h : RG g d ρ Q) : ∃ ρ', g d ρ = some ρ' ∧ Q ρ' := by
  unfold RG at h
  split at h
  · next d e => exact ⟨d, e, h⟩
  · exact h.elim
theorem RGs.at {g : XGs} {d : List Dt} {ρ : Nv} {Q : Nv → Prop} (h : RGs g d ρ Q) : ∃ ρ', g d ρ = some ρ' ∧ Q ρ' := by
  unfold RGs at h
  split at h
  · next d e => exact ⟨d, e, h⟩
  · exact h.elim
theorem RG.of {g : XG} {d : Dt} {ρ ρ' : Nv} {Q : Nv → Prop} (e : g d ρ = some ρ') (q : Q ρ') : RG g d ρ Q := by
  unfold RG
  simp only [e]
  exact q
theorem RGs.of {g : XGs} {d : List Dt} {ρ ρ' : Nv} {Q : Nv → Prop} (e : g d ρ = some ρ') (q : Q ρ') : RGs g d ρ Q := by
  unfold RGs
  simp only [e]
  exact q
def ygN (i : Nat) : XG := fun d ρ => some (ρ.set i (some (.dat d)))
def ygsN : XGs := fun ds ρ => match ds with
  | [] => some ρ
  | _ => none
def ygsC (g : XG) (r : XGs) : XGs := fun ds ρ => match ds with
  | d :: ds => (g d ρ).bind (r ds)
  | [] => none
def ygT (k : Nat) (r : XGs) : XG := fun d ρ => match d with
  | .tuple ds => if ds.length = k then r ds ρ else none
  | _ => none
theorem wkGt {tg : Expr} {g g' : VGt} (h : PG X tg (upG X.K g)) (w : ∀ d ρ Q, g' d ρ Q → g d ρ Q) : PG X tg (upG X.K g') := pg_imp h fun v σ H Q ⟨C, ρ, n, G, O, d, Q0, I, r, q, hq⟩ => ⟨C, ρ, n, G, O, d, Q0, I, r, w _ _ _ q, hq⟩
theorem wkGs {tg : List Expr} {g g' : VGs} (h : PGs X tg (upGs X.K g)) (w : ∀ d ρ Q, g' d ρ Q → g d ρ Q) : PGs X tg (upGs X.K g') := pgs_imp h fun v σ H Q ⟨C, ρ, n, G, O, d, Q0, I, r, q, hq⟩ => ⟨C, ρ, n, G, O, d, Q0, I, r, w _ _ _ q, hq⟩
theorem yg_name {i : Nat} {x : Str} (hN : X.N.Nodup) (hi : X.N[i]? = some x) (hx : Loc X.env.scope x) (hf : X.fn x = true ∨ X.env.scope.names.lookup x = some .local := by first | exact .inl rfl | exact .inr rfl | assumption) : PG X (.Name x pos) (upG X.K (RG (ygN i))) :=
  wkGt (vg_name hN hi hx hf) fun d ρ Q q => q
theorem ygs_nil : PGs X [] (upGs X.K (RGs ygsN)) := wkGs vgs_nil fun d ρ Q q => by
  cases d <;> first | exact q | exact q.elim
theorem ygs_cons {e : Expr} {es : List Expr} {g : XG} {r : XGs} (h1 : PG X e (upG X.K (RG g))) (h2 : PGs X es (upGs X.K (RGs r))) (hs : (assignEach (e :: es) X.env).map (·.2) = assign e X.env :: (assignEach es X.env).map (·.2) := by rfl) : PGs X (e :: es) (upGs X.K (RGs (ygsC g r))) :=
  wkGs (vgs_cons h1 h2 hs) fun ds ρ Q q => by
    obtain ⟨ρ', e, q'⟩ := q.at
    cases ds with
    | nil => cases e
    | cons d ds =>
      simp only [ygsC, Option.bind_eq_some_iff] at e
      obtain ⟨ρ1, e1, e2⟩ := e
      exact RG.of e1 (RGs.of e2 q')
theorem yg_tup {es : List Expr} {k : Nat} {r : XGs} {n : Nat} (hc : X.calm = true) (h : PGs X es (upGs X.K (RGs r))) (hn : (assignEach es X.env).length = n := by rfl) (hst : (assignEach es X.env).findIdx? (·.1) = none := by rfl) : PG X (.Tuple es k pos) (upG X.K (RG (ygT n r))) :=
  wkGt (vg_tup hc h hn hst) fun d ρ Q q => by
    obtain ⟨ρ', e, q'⟩ := q.at
    unfold ygT at e
    split at e
    · split at e
      · next hl => exact ⟨hl, RGs.of e q'⟩
      · cases e
    · cases e
def nxK (ρ : Nv) : T Fl := .ret (.nx ρ)
def asgK (g : XG) (ρ : Nv) (d : Dt) : T Fl := bd (ofO (g d ρ)) nxK
def xAsg (te : XT) (g : XG) (ρ : Nv) : T Fl := exS (te ρ) ρ (asgK g ρ)
theorem satG {g : XG} {d : Dt} {ρ : Nv} {f : Nv → T Fl} {n : Nat} {Q : Fl → Nat → Prop} {E : XW} {Q' : Nv → Prop} (h : sat (bd (ofO (g d ρ)) f) n Q E) (w : ∀ ρ', sat (f ρ') n Q E → Q' ρ') : RG g d ρ Q' := by
  obtain ⟨ρ', e, q⟩ := satO (sat2 h fun _ _ z => z)
  exact RG.of e (w _ q)
theorem xs_asg {tg : Expr} {g : XG} (he : VE X U e (S te)) (hg : PG X tg (upG X.K (RG g))) (hs : swapsWithSole [tg] e pos.line X.env = pure false := by rfl) (hw : swappedStores [tg] e X.env = pure none := by rfl) (h1 : (assignEach [tg] X.env).map (·.2) = [assign tg X.env] := by rfl) :
    VS X U (.Assign [tg] e pos) (SS (xAsg te g)) := wkS (vs_asg he hg hs hw h1) fun V ρ n h => satX h fun d n' q => satG q fun _ z => z
def parK (i j : Nat) (ρ : Nv) (ds : List Dt) : T Fl := match ds with
  | [d1, d2] => .ret (.nx ((ρ.set i (some (.dat d1))).set j (some (.dat d2))))
  | _ => .fail
def xPar (i j : Nat) (al : XA) (ρ : Nv) : T Fl := exS (al ρ) ρ (parK i j ρ)
theorem xs_par {i j : Nat} {x y : Str} {a b : Expr} {px py pt : Pos} {kt k2 pt2} (hc : X.calm = true) (hN : X.N.Nodup) (hi : X.N[i]? = some x) (hj : X.N[j]? = some y) (hij : i ≠ j)
    (hx : X.env.scope.names.lookup x = some .local) (hy : X.env.scope.names.lookup y = some .local) (ha : VAa X U [a, b] (S al))
    (hw : swappedStores [.Tuple [.Name x px, .Name y py] kt pt] (.Tuple [a, b] k2 pt2) X.env = pure (some [x, y]) := by rfl) :
    VS X U (.Assign [.Tuple [.Name x px, .Name y py] kt pt] (.Tuple [a, b] k2 pt2) pos) (SS (xPar i j al)) := wkS (vs_par hc hN hi hj hij hx hy ha hw) fun V ρ n h => satX h fun ds n' q => by
  match ds, q with
  | [d1, d2], q => exact q
  | [], q => exact q.elim
  | [_], q => exact q.elim
  | _ :: _ :: _ :: _, q => exact q.elim
def augK (i : Nat) (r : Dt → Dt → Option Dt) (d0 : Dt) (ρ : Nv) (d : Dt) : T Fl := bd (ofO (r d0 d)) (setK i ρ)
def xAug (i : Nat) (r : Dt → Dt → Option Dt) (te : XT) (ρ : Nv) : T Fl := match ρ[i]? with
  | some (some (.dat d0)) => exS (te ρ) ρ (augK i r d0 ρ)
  | _ => .fail
theorem xs_aug {i : Nat} {x : Str} {op : Operator} {r : Dt → Dt → Option Dt} {pos' : Pos} (hN : X.N.Nodup) (hi : X.N[i]? = some x) (hx : Loc X.env.scope x) (he : VE X U e (S te)) (ho : VOp X (inplaceOp op) (RO r)) (hf : X.fn x = true ∨ X.env.scope.names.lookup x = some .local := by first | exact .inl rfl | exact .inr rfl | assumption) :
    VS X U (.AugAssign (.Name x pos') op e pos) (SS (xAug i r te)) := wkS (vs_aug hN hi hx he ho hf) fun V ρ n h => by
  unfold SS xAug at h
  unfold vAug
  split at h
  · next d0 e0 =>
    try simp only [e0]
    exact satX h fun d n' q => by
      obtain ⟨d', e', q⟩ := satO (sat2 q fun _ _ z => z)
      unfold RO
      simp only [e']
      exact q
  · exact h.elim
def appK (i : Nat) (ds : List Dt) (ρ : Nv) (d : Dt) : T Fl := if ds.length < sizeLine then .ret (.nx (ρ.set i (some (.own (ds ++ [d]))))) else .fail
def xAppend (i : Nat) (te : XT) (ρ : Nv) : T Fl := match ρ[i]? with
  | some (some (.own ds)) => exS (te ρ) ρ (appK i ds ρ)
  | _ => .fail
theorem xs_append {i : Nat} (h : PE X e (tBM X.K "list" rAppend (tVar i) (tCons (up X.K U (S te)) tNil))) (hs : swapsWith e none pos.line X.env = pure false := by rfl) :
    VS X U (.Expr e pos) (SS (xAppend i te)) := wkS (vs_append h hs) fun V ρ n h => by
  unfold SS xAppend at h
  unfold vAppend
  split at h
  · next d0 e0 =>
    try simp only [e0]
    exact satX h fun d n' q => sat_guard (Q := flV V) q
  · exact h.elim
end
/-! ### calls -/
def fnE : Fl → T W
  | .nx _ => .ret (.dat .none)
  | .rt w => .ret w
  | .bk _ => .fail
  | .ct _ => .fail
  | .xc x _ => .exc x
def bodyX (m k : Nat) (t : XS) : XFn := fun ws => if ws.length = k then bx (t (startE m ws)) fnE fun _ => .fail else .fail
theorem bodyX_ok {m k : Nat} {t : XS} : ∀ ws n Q E, SF (bodyX m k t) ws n Q E → bodyV m k (SS t) ws n Q E := fun ws n Q E h => by
  unfold SF bodyX at h
  split at h
  · next hl =>
    refine ⟨hl, sat_mono (fun f n' q => ?_) (fun x n' q => q) (sat_bx.mp h)⟩
    cases f <;> first | exact q | exact q.elim
  · exact h.elim
theorem Ok.ofX {P : Program} {w : World} {K : PySem.W.Frag} {mg : Str → Option Value} {base : Heap} {k m j : Nat} {x : Str} {ps : List Str} {t : XS} (h : Ok P w K mg base k x ps (bodyV m j (SS t))) : Ok P w K mg base k x ps (SF (bodyX m j t)) := h.weak bodyX_ok
theorem OkS.ofX {P : Program} {w : World} {K : PySem.W.Frag} {mg : Str → Option Value} {base : Heap} {k m j : Nat} {x : Str} {ps : List Str} {t : XS} (h : OkS P w K mg base k x ps (bodyV m j (SS t))) : OkS P w K mg base k x ps (SF (bodyX m j t)) := by
  obtain ⟨fd, F, r⟩ := h
  exact ⟨fd, F.weak bodyX_ok, r⟩
def rOfT : W → T Dt
  | .dat d => .ret d
  | .own ds => .ret (.list ds)
  | _ => .fail
def rOwT : W → T (List Dt)
  | .own ds => .ret ds
  | _ => .fail
theorem satR {w : W} {n : Nat} {Q : Dt → Nat → Prop} {E : XW} (h : sat (rOfT w) n Q E) : rOf Q w n := by
  cases w <;> first | exact h | exact h.elim
section
variable {X : Cx} {U : WX} {e e2 : Expr} {es : List Expr} {pos p kpos : Pos} {te : XT} {al : XAW} {x : Str} {k : Nat} {ps : List Str} {c : XFn}
def ywNil (_ : Nv) : T (List W) := .ret []
def wcK (w : W) (ws : List W) : T (List W) := .ret (w :: ws)
def wdK (r : XAW) (ρ : Nv) (d : Dt) : T (List W) := bd (r ρ) (wcK (.dat d))
def ywDat (te : XT) (r : XAW) (ρ : Nv) : T (List W) := bd (te ρ) (wdK r ρ)
def ywVar (i : Nat) (r : XAW) (ρ : Nv) : T (List W) := match ρ[i]? with
  | some (some .tok) => bd (r ρ) (wcK .tok)
  | some (some (.scr ns)) => bd (r ρ) (wcK (.scr ns))
  | _ => .fail
theorem yw_nil : VAg X U [] (S ywNil) := wkG wa_nil fun _ _ _ _ q => q
theorem yw_dat (ha : VE X U e (S te)) (hr : VAg X U es (S al)) (hs : starEach (e :: es) X.env = (false, eval e X.env) :: starEach es X.env := by rfl) : VAg X U (e :: es) (S (ywDat te al)) := wkG (wa_dat ha hr hs) fun ρ n Q E h => sat2 h fun d n1 h1 => sat2 h1 fun _ _ z => z
theorem yw_var (i : Nat) (hr : VAg X U es (S al)) (hN : X.N[i]? = some x := by rfl) (hv : Vis X.env.scope x := by first | exact Or.inl rfl | exact Or.inr (Or.inl rfl) | exact Or.inr (Or.inr rfl)) (hd : (x == ("__debug__" : Str)) = false := by decide)
    (hcd : (x == ("__classdict__" : Str)) = false := by decide) (hs : starEach (.Name x pos :: es) X.env = (false, eval (.Name x pos) X.env) :: starEach es X.env := by rfl) : VAg X U (.Name x pos :: es) (S (ywVar i al)) := wkG (wa_var i hr hN hv hd hcd hs) fun ρ n Q E h => by
  unfold S ywVar at h
  unfold wVar
  split at h
  · next e0 => (try simp only [e0]); exact sat2 h fun _ _ z => z
  · next ns e0 => (try simp only [e0]); exact sat2 h fun _ _ z => z
  · exact h.elim
def callK (c : XFn) (dw ws : List W) : T Dt := bd (c (ws ++ dw)) rOfT
def xCall (c : XFn) (dw : List W) (al : XAW) (ρ : Nv) : T Dt := bd (al ρ) (callK c dw)
def callOK (c : XFn) (dw ws : List W) : T (List Dt) := bd (c (ws ++ dw)) rOwT
def xCallO (c : XFn) (dw : List W) (al : XAW) (ρ : Nv) : T (List Dt) := bd (al ρ) (callOK c dw)
def callSK2 (c : XFn) (ws : List W) (d : Dt) : T Dt := bd (c (ws ++ [.dat d])) rOfT
def callSK (c : XFn) (te : XT) (ρ : Nv) (ws : List W) : T Dt := bd (te ρ) (callSK2 c ws)
def xCallS (c : XFn) (al : XAW) (te : XT) (ρ : Nv) : T Dt := bd (al ρ) (callSK c te ρ)
theorem xCall_ok {dw : List W} : ∀ ρ n Q E, S (xCall c dw al) ρ n Q E → vCall (SF c) dw (S al) ρ n Q E := fun ρ n Q E h => sat2 h fun ws n1 h1 => sat2 h1 fun w n2 h2 => satR h2
theorem xe_ok (F : Ok X.prog X.w X.K X.mg X.base k x ps (SF c)) (hG : X.A.guards = some []) (hr : Room k X.A) (tk : Takes X U) (hg : Gl X x) (ha : VAg X U (e :: es) (S al)) (hdb : (x == ("__debug__" : Str)) = false := by decide)
    (he : starEach (e :: es) X.env = (false, eval e X.env) :: starEach es X.env := by rfl) (hpl : (backTo pos (starEach es X.env)).any (·.1) = false := by rfl) : VE X U (.Call (.Name x p) (e :: es) [] pos) (S (xCall c [] al)) := wkE (ve_ok F hG hr tk hg ha hdb he hpl) xCall_ok
theorem xo_ok (F : Ok X.prog X.w X.K X.mg X.base k x ps (SF c)) (hG : X.A.guards = some []) (hr : Room k X.A) (tk : Takes X U) (hg : Gl X x) (ha : VAg X U (e :: es) (S al)) (hdb : (x == ("__debug__" : Str)) = false := by decide)
    (he : starEach (e :: es) X.env = (false, eval e X.env) :: starEach es X.env := by rfl) (hpl : (backTo pos (starEach es X.env)).any (·.1) = false := by rfl) : VO X U (.Call (.Name x p) (e :: es) [] pos) (S (xCallO c [] al)) := wkO (vo_ok F hG hr tk hg ha hdb he hpl) fun ρ n Q E h => sat2 h fun ws n1 h1 => sat2 h1 fun w n2 h2 => by
  cases w <;> first | exact h2 | exact h2.elim
theorem xe_okD (F : OkS X.prog X.w X.K X.mg X.base k x ps (SF c)) (hG : X.A.guards = some []) (hr : Room k X.A) (tk : Takes X U) (hg : Gl X x) (ha : VAg X U (e :: es) (S al)) (hdb : (x == ("__debug__" : Str)) = false := by decide)
    (he : starEach (e :: es) X.env = (false, eval e X.env) :: starEach es X.env := by rfl) (hpl : (backTo pos (starEach es X.env)).any (·.1) = false := by rfl) : VE X U (.Call (.Name x p) (e :: es) [] pos) (S (xCall c [.dat start00] al)) := wkE (ve_okD F hG hr tk hg ha hdb he hpl) xCall_ok
theorem xe_okS (F : OkS X.prog X.w X.K X.mg X.base k x ps (SF c)) (hG : X.A.guards = some []) (hr : Room k X.A) (tk : Takes X U) (hg : Gl X x) (ha : VAg X U (e :: es) (S al)) (hkw : VE X U e2 (S te)) (hdb : (x == ("__debug__" : Str)) = false := by decide)
    (hall : (backToKw pos (keywordEach [⟨some "state", e2, kpos⟩] X.env)).all (·.1.isSome) = true := by rfl) (hks : (backToKw pos (keywordEach [⟨some "state", e2, kpos⟩] X.env)).filterMap (·.1) = stN := by rfl)
    (he : starEach (e :: es) X.env = (false, eval e X.env) :: starEach es X.env := by rfl)
    (hpl : ((backTo pos (starEach (e :: es) X.env)).any (·.1) || (backToKw pos (keywordEach [⟨some "state", e2, kpos⟩] X.env)).any (·.1.isNone)) = false := by rfl) :
    VE X U (.Call (.Name x p) (e :: es) [⟨some "state", e2, kpos⟩] pos) (S (xCallS c al te)) := wkE (ve_okS F hG hr tk hg ha hkw hdb hall hks he hpl) fun ρ n Q E h => sat2 h fun ws n1 h1 => sat2 h1 fun d n2 h2 => sat2 h2 fun w n3 h3 => satR h3
end
/-! ### what is walked, loops -/
def lpF (L : XS) : Fl → T Fl
  | .nx ρ => L ρ
  | .rt w => .ret (.rt w)
  | .bk ρ => .ret (.nx ρ)
  | .ct ρ => L ρ
  | .xc x ρ => .ret (.xc x ρ)
def forT (g : XG) (tb : XS) : List Dt → XS
  | [] => fun ρ => .ret (.nx ρ)
  | d :: ds => fun ρ => bd (ofO (g d ρ)) fun ρ1 => bd (tb ρ1) (lpF (forT g tb ds))
theorem forT_ok {g : XG} {tb : XS} {V : VN} : ∀ (ds : List Dt) (ρ : Nv) (n : Nat), SS (forT g tb ds) V ρ n → vLoop (RG g) (SS tb) V ds ρ n
  | [], ρ, n, h => h
  | d :: ds, ρ, n, h => satG h fun ρ1 z => sat2 z fun f n' q => by
    cases f <;> first | exact forT_ok ds _ _ q | exact q
def forK (g : XG) (tb : XS) (ρ : Nv) (ds : List Dt) : T Fl := forT g tb ds ρ
def xFor (ti : XA) (g : XG) (tb : XS) (ρ : Nv) : T Fl := exS (ti ρ) ρ (forK g tb ρ)
def whN (xb : XB) (tb : XS) : Nat → XS
  | 0 => fun _ => .fail
  | k + 1 => fun ρ => exS (xb ρ) ρ fun b => if b = true then bd (tb ρ) (lpF (whN xb tb k)) else .ret (.nx ρ)
theorem whN_ok {xb : XB} {tb : XS} {V : VN} : ∀ (k : Nat) (ρ : Nv) (n : Nat), SS (whN xb tb k) V ρ n → vWhileN (S xb) (SS tb) V k ρ n
  | 0, ρ, n, h => h.elim
  | k + 1, ρ, n, h => satX h fun b n' q => by
    split at q
    · next hb =>
      rw [if_pos hb]
      exact sat2 q fun f n' q => by
        cases f <;> first | exact whN_ok k _ _ q | exact q
    · next hb => rw [if_neg hb]; exact q
/-- the fuel of a while -/
def FU : Nat := 1000000000
def xWhile (xb : XB) (tb : XS) (ρ : Nv) : T Fl := whN xb tb FU ρ
section
variable {X : Cx} {U : WX} {e iter tg : Expr} {es : List Expr} {pos p : Pos} {te : XT} {al ti : XA}
theorem xs_for {body : List Stmt} {g : XG} {tb : XS} (hp : PassesOwn (model X.prog X.w) X.A X.env X.xe) (hc : X.calm = true) (hi : VI X U tg iter (S ti)) (hg : PG X tg (upG X.K (RG g))) (hb : VSs X U body (SS tb)) (hs : ∀ x, foldedSetIterable iter X.env x = pure x := by intro _; rfl) : VS X U (.For tg iter body [] pos) (SS (xFor ti g tb)) :=
  wkS (vs_for hp hc hi hg hb hs) fun V ρ n h => satX h fun ds n' q => forT_ok ds ρ n' q
theorem xs_while {c : Expr} {body : List Stmt} {xb : XB} {tb : XS} (hp : PassesOwn (model X.prog X.w) X.A X.env X.xe) (hc : VTt X U c (S xb)) (hb : VSs X U body (SS tb)) : VS X U (.While c body [] pos) (SS (xWhile xb tb)) :=
  wkS (vs_while hp hc hb) fun V ρ n h => ⟨FU, whN_ok FU ρ n h⟩
def itT : Dt → T (List Dt)
  | .tuple ds => .ret ds
  | _ => .fail
def itL : Dt → T (List Dt)
  | .list ds => .ret ds
  | _ => .fail
def ziT (te : XT) (ρ : Nv) : T (List Dt) := bd (te ρ) itT
def ziL (te : XT) (ρ : Nv) : T (List Dt) := bd (te ρ) itL
theorem zi_tup (h : VE X U e (S te)) : VI X U tg e (S (ziT te)) := wkI (vi_tup h) fun ρ n Q E h => sat2 h fun d n1 h1 => by
  cases d <;> first | exact h1 | exact h1.elim
theorem zi_lst (h : VE X U e (S te)) : VI X U tg e (S (ziL te)) := wkI (vi_lst h) fun ρ n Q E h => sat2 h fun d n1 h1 => by
  cases d <;> first | exact h1 | exact h1.elim
noncomputable def rgT1 (ds : List Dt) : T (List Dt) := match ds with
  | [.int j] => @ite _ (-(2 ^ 62) ≤ j ∧ j < 2 ^ 62) (Classical.propDecidable _) (.ret (rngD 0 j.toNat)) .fail
  | _ => .fail
noncomputable def rgT2 (ds : List Dt) : T (List Dt) := match ds with
  | [.int i, .int j] => @ite _ (-(2 ^ 62) ≤ i ∧ i < 2 ^ 62 ∧ -(2 ^ 62) ≤ j ∧ j < 2 ^ 62) (Classical.propDecidable _) (.ret (rngD i (j - i).toNat)) .fail
  | _ => .fail
noncomputable def ziR1 (al : XA) (ρ : Nv) : T (List Dt) := bd (al ρ) rgT1
noncomputable def ziR2 (al : XA) (ρ : Nv) : T (List Dt) := bd (al ρ) rgT2
theorem zi_range1 {a : Expr} (hg : Gl X "range") (hm : X.mg "range" = none) (ha : VAa X U [a] (S al)) (hs : starEach [a] X.env = [(false, eval a X.env)] := by rfl) : VI X U tg (.Call (.Name "range" p) [a] [] pos) (S (ziR1 al)) :=
  wkI (vi_range1 hg hm ha hs) fun ρ n Q E h => sat2 h fun ds n1 h1 => by
    unfold rgT1 at h1
    split at h1
    · have := sat_guard h1; exact ⟨this.1.1, this.1.2, this.2⟩
    · exact h1.elim
theorem zi_range2 {a b : Expr} (hg : Gl X "range") (hm : X.mg "range" = none) (ha : VAa X U [a, b] (S al)) (hs : starEach [a, b] X.env = [(false, eval a X.env), (false, eval b X.env)] := by rfl) (hs2 : starEach [b] X.env = [(false, eval b X.env)] := by rfl) : VI X U tg (.Call (.Name "range" p) [a, b] [] pos) (S (ziR2 al)) :=
  wkI (vi_range2 hg hm ha hs hs2) fun ρ n Q E h => sat2 h fun ds n1 h1 => by
    unfold rgT2 at h1
    split at h1
    · have z := sat_guard h1; exact ⟨z.1, z.2⟩
    · exact h1.elim
def enT : List Dt → T (List Dt)
  | [.tuple xs] => .ret (enumD xs)
  | _ => .fail
def enL : List Dt → T (List Dt)
  | [.list xs] => .ret (enumD xs)
  | _ => .fail
def ziET (al : XA) (ρ : Nv) : T (List Dt) := bd (al ρ) enT
def ziEL (al : XA) (ρ : Nv) : T (List Dt) := bd (al ρ) enL
theorem zi_enumT {elts : List Expr} {kk : Nat} {tpos : Pos} (hg : Gl X "enumerate") (hm : X.mg "enumerate" = none) (ha : VAa X U [e] (S al)) (hs : starEach [e] X.env = [(false, eval e X.env)] := by rfl) : VI X U (.Tuple elts kk tpos) (.Call (.Name "enumerate" p) [e] [] pos) (S (ziET al)) :=
  wkI (vi_enumT hg hm ha hs) fun ρ n Q E h => sat2 h fun ds n1 h1 => by
    unfold enT at h1
    split at h1
    · exact h1
    · exact h1.elim
theorem zi_enumL {elts : List Expr} {kk : Nat} {tpos : Pos} (hg : Gl X "enumerate") (hm : X.mg "enumerate" = none) (ha : VAa X U [e] (S al)) (hs : starEach [e] X.env = [(false, eval e X.env)] := by rfl) : VI X U (.Tuple elts kk tpos) (.Call (.Name "enumerate" p) [e] [] pos) (S (ziEL al)) :=
  wkI (vi_enumL hg hm ha hs) fun ρ n Q E h => sat2 h fun ds n1 h1 => by
    unfold enL at h1
    split at h1
    · exact h1
    · exact h1.elim
/-! ### list displays by a for -/
def lcT (g : XG) (xt : XB) (te : XT) (ρ : Nv) : List Dt → List Dt → T (List Dt)
  | [], acc => .ret acc
  | d :: ds, acc => bd (ofO (g d ρ)) fun ρ1 => bx (xt ρ1) (fun b => if b = true then bx (te ρ1) (fun y => if acc.length < sizeLine then lcT g xt te ρ ds (acc ++ [y]) else .fail) fun _ => .fail else lcT g xt te ρ ds acc) fun _ => .fail
def noOwnB (ρ : Nv) : List Nat → Bool
  | [] => true
  | v :: vs => (match ρ[v]? with | some (some (.own _)) => false | _ => true) && noOwnB ρ vs
theorem noOwnB_ok {ρ : Nv} : ∀ {vs : List Nat}, noOwnB ρ vs = true → noOwn ρ vs
  | [], _ => trivial
  | v :: vs, h => by
    unfold noOwnB at h
    obtain ⟨h1, h2⟩ := Bool.and_eq_true_iff.mp h
    refine ⟨?_, noOwnB_ok h2⟩
    generalize ρ[v]? = o at h1
    match o, h1 with
    | none, _ => trivial
    | some none, _ => trivial
    | some (some (.dat _)), _ => trivial
    | some (some .tok), _ => trivial
    | some (some (.scr _)), _ => trivial
    | some (some (.err _ _)), _ => trivial
    | some (some (.own _)), h1 => cases h1
def lcK (g : XG) (xt : XB) (te : XT) (ρ : Nv) (ds : List Dt) : T (List Dt) := lcT g xt te ρ ds []
def xLc (ti : XA) (g : XG) (xt : XB) (te : XT) (vs : List Nat) (ρ : Nv) : T (List Dt) := if noOwnB ρ vs = true then bd (ti ρ) (lcK g xt te (wipeE ρ vs)) else .fail
theorem lcT_ok {g : XG} {xt : XB} {te : XT} {ρ : Nv} {Q : List Dt → Nat → Prop} {E : XW} : ∀ (ds acc : List Dt) (n : Nat), sat (lcT g xt te ρ ds acc) n Q E → vLcL (RG g) (S xt) (S te) ρ Q ds acc n
  | [], acc, n, h => h
  | d :: ds, acc, n, h => by
    obtain ⟨ρ1, e, q⟩ := satO (sat2 h fun _ _ z => z)
    refine RG.of e (sat_mono (fun b n1 z => ?_) (fun _ _ z => z) (sat_bx.mp q))
    split at z
    · next hb =>
      rw [if_pos hb]
      refine sat_mono (fun y n2 z => ?_) (fun _ _ z => z) (sat_bx.mp z)
      split at z
      · next hl => exact ⟨hl, lcT_ok ds _ n2 z⟩
      · exact z.elim
    · next hb => rw [if_neg hb]; exact lcT_ok ds _ n1 z
theorem xLc_ok {g : XG} {xt : XB} {vs : List Nat} : ∀ ρ n Q E, S (xLc ti g xt te vs) ρ n Q E → vLc (S ti) (RG g) (S xt) (S te) vs ρ n Q E := fun ρ n Q E h => by
  unfold S xLc at h
  split at h
  · next hb => exact ⟨noOwnB_ok hb, sat2 h fun ds n1 h1 => lcT_ok ds [] n1 h1⟩
  · exact h.elim
def xYes (_ : Nv) : T Bool := .ret true
theorem PairG.wk {K : PySem.W.Frag} {vs : List Nat} {gh : TG} {gv gv' : VGt} (h : PairG K vs gh gv) (w : ∀ d ρ Q, gv' d ρ Q → gv d ρ Q) : PairG K vs gh gv' := fun v σ H Q C ρ n G O d Q0 I r q k => h v σ H Q C ρ n G O d Q0 I r (w _ _ _ q) k
theorem ypair_name {K : PySem.W.Frag} {vs : List Nat} (i : Nat) (hi : i ∈ vs := by decide) : PairG K vs (gName i) (RG (ygN i)) := (pair_name i hi).wk fun _ _ _ q => q
theorem ypair_tup2 {K : PySem.W.Frag} {vs : List Nat} (i j : Nat) (hi : i ∈ vs := by decide) (hj : j ∈ vs := by decide) : PairG K vs (gTup K 2 (gCons (gName i) (gCons (gName j) gNil))) (RG (ygT 2 (ygsC (ygN i) (ygsC (ygN j) ygsN)))) := (pair_tup2 i j hi hj).wk fun d ρ Q q => by
  obtain ⟨ρ', e, q'⟩ := q.at
  unfold ygT at e
  split at e
  · split at e
    · next ds hl =>
      refine ⟨hl, ?_⟩
      match ds, hl, e with
      | [d1, d2], _, e => simp [ygsC, ygN, ygsN] at e; subst e; exact q'
    · cases e
  · cases e
end
section
variable {X : Cx} {U : WX} {elt tg iter : Expr} {ifs : List Expr} {scope : Scope} {own : List (Str × Nat)} {pos spos : Pos} {ti : XA} {g : XG} {gh : TG} {xt : XB} {te : XT}
theorem xpts_nil : PTs X [] (upB X.K U (S xYes)) := vpts_nil
theorem xpts_one {c : Expr} (h : VTt X U c (S xt)) : PTs X [c] (upB X.K U (S xt)) := vpts_one h
theorem xo_lc (hc : X.calm = true) (hN : X.N.Nodup) (hi : VI X U tg iter (S ti)) (ok : BlkOk X.N X.env.scope scope own)
    (hg : ∀ (s : Shared) (H : Hp) (C : Addr) (cl : List (Str × Addr)) (fp : List Addr), PG (X.blk s H scope (compEnvC scope cl C X.env) fp) tg gh) (pg : PairG X.K (own.map (·.2)) gh (RG g))
    (ht : ∀ (s : Shared) (H : Hp) (C : Addr) (cl : List (Str × Addr)) (fp : List Addr), PTs (X.blk s H scope (compEnvC scope cl C X.env) fp) ifs (upB X.K U0 (S xt)))
    (he : ∀ (s : Shared) (H : Hp) (C : Addr) (cl : List (Str × Addr)) (fp : List Addr), PE (X.blk s H scope (compEnvC scope cl C X.env) fp) elt (up X.K U0 (S te))) (hs : ∀ x, foldedSetIterable iter X.env x = pure x := by intro _; rfl) :
    VO X U (.ListComp elt [⟨tg, iter, ifs, 0⟩] scope pos) (S (xLc ti g xt te (own.map (·.2)))) := wkO (vo_lc hc hN hi ok hg pg ht he hs) xLc_ok
theorem xs_setLcO {i : Nat} {y : Str} {py : Pos} (hc : X.calm = true) (hN : X.N.Nodup) (hy : X.N[i]? = some y) (hyl : X.env.scope.names.lookup y = some .local)
    (hsw : swapsWith (.ListComp elt [⟨tg, iter, ifs, 0⟩] scope pos) (some (.Name y py)) spos.line X.env = pure true) (hi : VI X U tg iter (S ti)) (ok : BlkOk X.N X.env.scope scope own)
    (hg : ∀ (s : Shared) (H : Hp) (C : Addr) (cl : List (Str × Addr)) (fp : List Addr), PG (X.blk s H scope (compEnvC scope cl C X.env) fp) tg gh) (pg : PairG X.K (own.map (·.2)) gh (RG g))
    (ht : ∀ (s : Shared) (H : Hp) (C : Addr) (cl : List (Str × Addr)) (fp : List Addr), PTs (X.blk s H scope (compEnvC scope cl C X.env) fp) ifs (upB X.K U0 (S xt)))
    (he : ∀ (s : Shared) (H : Hp) (C : Addr) (cl : List (Str × Addr)) (fp : List Addr), PE (X.blk s H scope (compEnvC scope cl C X.env) fp) elt (up X.K U0 (S te))) (hs : ∀ x, foldedSetIterable iter X.env x = pure x := by intro _; rfl) :
    VS X U (.Assign [.Name y py] (.ListComp elt [⟨tg, iter, ifs, 0⟩] scope pos) spos) (SS (xSetO i (xLc ti g xt te (own.map (·.2))))) := wkS (vs_setLcO hc hN hy hyl hsw hi ok hg pg ht he hs) fun V ρ n h => xLc_ok _ _ _ _ (satX h fun _ _ q => q)
theorem xs_setLc {i : Nat} {y : Str} {py : Pos} (hc : X.calm = true) (hN : X.N.Nodup) (hy : X.N[i]? = some y) (hyl : X.env.scope.names.lookup y = some .local)
    (hsw : swapsWith (.ListComp elt [⟨tg, iter, ifs, 0⟩] scope pos) (some (.Name y py)) spos.line X.env = pure true) (hi : VI X U tg iter (S ti)) (ok : BlkOk X.N X.env.scope scope own)
    (hg : ∀ (s : Shared) (H : Hp) (C : Addr) (cl : List (Str × Addr)) (fp : List Addr), PG (X.blk s H scope (compEnvC scope cl C X.env) fp) tg gh) (pg : PairG X.K (own.map (·.2)) gh (RG g))
    (ht : ∀ (s : Shared) (H : Hp) (C : Addr) (cl : List (Str × Addr)) (fp : List Addr), PTs (X.blk s H scope (compEnvC scope cl C X.env) fp) ifs (upB X.K U0 (S xt)))
    (he : ∀ (s : Shared) (H : Hp) (C : Addr) (cl : List (Str × Addr)) (fp : List Addr), PE (X.blk s H scope (compEnvC scope cl C X.env) fp) elt (up X.K U0 (S te))) (hs : ∀ x, foldedSetIterable iter X.env x = pure x := by intro _; rfl) :
    VS X U (.Assign [.Name y py] (.ListComp elt [⟨tg, iter, ifs, 0⟩] scope pos) spos) (SS (xSet i (xFz (xLc ti g xt te (own.map (·.2)))))) := wkS (vs_setLc hc hN hy hyl hsw hi ok hg pg ht he hs) fun V ρ n h => xLc_ok _ _ _ _ (sat2 (satX h fun _ _ q => q) fun _ _ z => z)
def par3K (i j l : Nat) (ρ : Nv) (ds : List Dt) : T Fl := match ds with
  | [d1, d2, d3] => .ret (.nx (((ρ.set i (some (.dat d1))).set j (some (.dat d2))).set l (some (.dat d3))))
  | _ => .fail
def xPar3 (i j l : Nat) (al : XA) (ρ : Nv) : T Fl := exS (al ρ) ρ (par3K i j l ρ)
theorem xs_par3 {a b c : Expr} {al : XA} {i j l : Nat} {x y z : Str} {px py pz pt : Pos} {kt k2 pt2} (hc : X.calm = true) (hN : X.N.Nodup) (hi : X.N[i]? = some x) (hj : X.N[j]? = some y) (hl : X.N[l]? = some z) (hij : i ≠ j) (hil : i ≠ l) (hjl : j ≠ l)
    (hx : X.env.scope.names.lookup x = some .local) (hy : X.env.scope.names.lookup y = some .local) (hz : X.env.scope.names.lookup z = some .local) (ha : VAa X U [a, b, c] (S al))
    (hw : swappedStores [.Tuple [.Name x px, .Name y py, .Name z pz] kt pt] (.Tuple [a, b, c] k2 pt2) X.env = pure (some [x, y, z]))
    (hs : swapsWithSole [.Tuple [.Name x px, .Name y py, .Name z pz] kt pt] (.Tuple [a, b, c] k2 pt2) pos.line X.env = pure false := by rfl) :
    VS X U (.Assign [.Tuple [.Name x px, .Name y py, .Name z pz] kt pt] (.Tuple [a, b, c] k2 pt2) pos) (SS (xPar3 i j l al)) := wkS (vs_par3 hc hN hi hj hl hij hil hjl hx hy hz ha hw hs) fun V ρ n h => satX h fun ds n' q => by
  match ds, q with
  | [d1, d2, d3], q => exact q
  | [], q => exact q.elim
  | [_], q => exact q.elim
  | [_, _], q => exact q.elim
  | _ :: _ :: _ :: _ :: _, q => exact q.elim
def parOK2 (i j : Nat) (ρ : Nv) (ds : List Dt) (d : Dt) : T Fl := .ret (.nx ((ρ.set i (some (.own ds))).set j (some (.dat d))))
def parOK (i j : Nat) (te : XT) (ρ : Nv) (ds : List Dt) : T Fl := exS (te ρ) ρ (parOK2 i j ρ ds)
def xParO (i j : Nat) (tl : XA) (te : XT) (ρ : Nv) : T Fl := exS (tl ρ) ρ (parOK i j te ρ)
theorem xs_parO {a b : Expr} {tl : XA} {i j : Nat} {x y : Str} {px py pt : Pos} {kt k2 pt2} (hc : X.calm = true) (hN : X.N.Nodup) (hi : X.N[i]? = some x) (hj : X.N[j]? = some y) (hij : i ≠ j)
    (hx : X.env.scope.names.lookup x = some .local) (hy : X.env.scope.names.lookup y = some .local) (h1 : VO X U a (S tl)) (h2 : VE X U b (S te))
    (hw : swappedStores [.Tuple [.Name x px, .Name y py] kt pt] (.Tuple [a, b] k2 pt2) X.env = pure (some [x, y]))
    (he : starEach [a, b] X.env = (false, eval a X.env) :: starEach [b] X.env := by rfl) (he2 : starEach [b] X.env = (false, eval b X.env) :: starEach [] X.env := by rfl)
    (hs : swapsWithSole [.Tuple [.Name x px, .Name y py] kt pt] (.Tuple [a, b] k2 pt2) pos.line X.env = pure false := by rfl) :
    VS X U (.Assign [.Tuple [.Name x px, .Name y py] kt pt] (.Tuple [a, b] k2 pt2) pos) (SS (xParO i j tl te)) := wkS (vs_parO hc hN hi hj hij hx hy h1 h2 hw he he2 hs) fun V ρ n h => satX h fun ds n' q => satX q fun _ _ z => z
end
end VL


set_option maxRecDepth 100000
set_option maxHeartbeats 2000000
namespace VL
open PySem PySem.Spec PyProof.Rows L2
/-! ### a try with several clauses, each with a name or without -/
abbrev Tsu := Addr → Value → Option Addr → TS
/-- the ends of a suite whose name goes behind it -/
abbrev gone (i : Nat) (D : Ends) : Ends := ⟨fun z Z => D.nx (z.set i none) Z, D.rt, fun z Z => D.bk (z.set i none) Z, fun z Z => D.ct (z.set i none) Z⟩
def asT (i : Nat) (ts : Tsu) : Tsu := fun a cls d D σ H => ts a cls d (gone i D) (σ.set i (some (.ref a))) H
inductive HdsM (X : Cx) : List ExceptHandler → List (Value × Tsu) → Prop
  | nil : HdsM X [] []
  | cons {x : Str} {c : Value} {ts : Tsu} {b₀ : Stmt} {su : List Stmt} {np p' : Pos} {hr : List ExceptHandler} {l : List (Value × Tsu)} (hc : Names X x c)
      (hsu : ∀ (a : Addr) (oe : Obj) (cls : Value) (d : Option Addr) (pn : List (Addr × Obj)), Zc cls d oe → (∃ vs, oe.data = .fields vs) → PSs (X.suite a ((a, oe) :: pn)) (b₀ :: su) (ts a cls d)) (r : HdsM X hr l) :
      HdsM X (.ExceptHandler (some (.Name x np)) none (b₀ :: su) p' :: hr) ((c, ts) :: l)
  | as {x n : Str} {i : Nat} {c : Value} {ts : Tsu} {b₀ : Stmt} {su : List Stmt} {np p' : Pos} {hr : List ExceptHandler} {l : List (Value × Tsu)} (hc : Names X x c) (hi : X.N[i]? = some n) (hl : X.env.kindOf n = some .local)
      (hsu : ∀ (a : Addr) (oe : Obj) (cls : Value) (d : Option Addr) (pn : List (Addr × Obj)), Zc cls d oe → (∃ vs, oe.data = .fields vs) → PSs (X.suite a ((a, oe) :: pn)) (b₀ :: su) (ts a cls d)) (r : HdsM X hr l) :
      HdsM X (.ExceptHandler (some (.Name x np)) (some n) (b₀ :: su) p' :: hr) ((c, asT i ts) :: l)
section
variable {X : Cx} {body : List Stmt} {e0 : ExceptHandler} {er : List ExceptHandler} {l : List (Value × Tsu)} {pos : Pos} {tb : WX → TS} {Wo : WX}
theorem ps_try_mix (hN : X.N.Nodup) (st : X.stack = X.env :: X.outer) (fr : X.env.frame = some X.env.locals) (tk : Takes X Wo)
    (hb : ∀ (W : WX) (pn : List (Addr × Obj)) (xe : Value → Shared → Prop), Takes (X.tr pn xe) W → PassesOwn (model X.prog X.w) X.A X.env xe → PSs (X.tr pn xe) body (tb W))
    (hh : HdsM X (e0 :: er) l) : PS X (.Try body (e0 :: er) [] [] pos) (fun D σ H => tb (wMany X.K Wo D l) D σ H) := by
  constructor
  intro pins s σ H D I h
  have ok := I.ok
  have aFr : X.A.frames = some (X.env :: X.outer) := ok.frames.trans (by rw [st])
  apply wpAny_Try_except
  let after : Value → Shared → Prop := fun e s1 => wpAny (model X.prog X.w) X.A (noteFrame e X.env) (fun _ s2 => wpAny (model X.prog X.w) X.A (setFlight e none) (fun _ s3 => wpAny (model X.prog X.w) X.A (handleBy e X.env (e0 :: er)) (SP X pins D) X.xe s3) X.xe s2) X.xe s1
  have caught : Takes (X.tr (X.pn ++ pins) after) (wMany X.K Wo D l) := by
    rintro u t ⟨a, B, sI, pins', σ1, H1, cls, d, rfl, J0, nb, up, sky, na, os, ag, w⟩
    have J : Inv X pins σ1 H1 sI := J0.ofTry ok
    rw [show (X.tr (X.pn ++ pins) after).stack = X.env :: X.outer from st] at sky
    refine Sky.land Zc.steady aFr fr sky fun g fl up1 => ?_
    have J1 : Inv X pins σ1 H1 { t with heap := g } := J.landed nb fl.1 (up.trans up1) os ag
    obtain ⟨oe, vs, he, hz, hd⟩ := fl.there
    have off : a ∉ frs (X.env :: X.outer) := fun hm => by
      obtain ⟨_, o', e', no⟩ := fl.2.2.1.mem hm
      have := he.symm.trans e'
      cases this
      exact no _ hd
    have offL : a ≠ X.env.locals := fun z => off (List.mem_filterMap.mpr ⟨_, .head _, fr.trans (congrArg some z.symm)⟩)
    have offF : a ∉ X.fs := fun hm => by
      obtain ⟨e, he, q⟩ := List.mem_filterMap.mp hm
      exact off (List.mem_filterMap.mpr ⟨e, .tail _ he, q⟩)
    have S1 := J1.suite he hd na offL offF
    have go : ∀ {hs' : List ExceptHandler} {l' : List (Value × Tsu)}, HdsM X hs' l' → wMany X.K Wo D l' cls d σ1 H1 → wpAny (model X.prog X.w) X.A (handleBy (.ref a) X.env hs') (SP X pins D) X.xe { t with heap := g } := by
      intro hs' l' hk
      have look : ∀ {x : Str} {c : Value} {np : Pos} {Q E : Value → Shared → Prop}, Names X x c → Q c { t with heap := g } → wpAny (model X.prog X.w) (X.A.mark (some (.ref a))) (eval (.Name x np) X.env) Q E { t with heap := g } := fun {x c np Q E} hc q => by
        obtain ⟨hg, hdb, hm | ⟨hm, hv, hnn⟩⟩ := hc
        · exact ld_glob (X := X.suite a ((a, oe) :: (X.pn ++ pins))) S1 hg hm q hdb
        · exact ld_blt (X := X.suite a ((a, oe) :: (X.pn ++ pins))) S1 hg hm hv q hnn hdb
      have kind : ∀ {c : Value} {b : Bool}, PySem.W.exmOne X.K cls c = some b → PySem.W.Looks (model X.prog X.w) g (excMatches (.ref a) c) b := fun {c b} hb1 =>
        PySem.W.exm_one (M := model X.prog X.w) J1.kIn (fun A Q E s k q => wpAny_typeOf_ref (k _ _ he) (by rw [hz.1]; exact q)) hb1
      induction hk with
      | nil =>
        intro w
        apply wpAny_handleBy_nil
        obtain ⟨k1, k2, k3, oe', vs', Tb, oT, ts', he', hz', hd', h1, hr⟩ := id fl
        unfold PySem.passOn
        refine wpAny_bind (wpAny_field he' hd' h1 ?_)
        rw [if_neg (show ¬ ((Value.ref Tb == Value.none) = true) by simp)]
        have fin : wpAny (model X.prog X.w) X.A (setFlight (.ref a) X.env.frame) (fun _ z => wpAny (model X.prog X.w) X.A (throw (.ref a) : Sem Flow) (SP X pins D) X.xe z) X.xe { t with heap := g } := by
          rw [fr]
          exact HandSPX.setFlight_upZ fl fun g2 hh2 up2 => wpAny_throw (tk _ _ ⟨a, B, sI, pins, σ1, H1, cls, d, rfl, J, nb, (up.trans up1).trans up2, .inr (.inr (by rw [st]; exact hh2)), na, os, ag, w⟩)
        first
          | exact wpAny_bind (wpAny_pure (wpAny_bind fin))
          | exact wpAny_bind fin
      | @cons x c ts b₀ su np p' hr l2 hc hsu r ih =>
        rintro ⟨b, hb1, hy, hn⟩
        refine wpAny_handleBy_cons (codeAny_handlers_test (look hc ((kind hb1).here ?_))) (fun q => by cases q)
        cases b with
        | false => exact ih (hn rfl)
        | true =>
          refine codeAny_handlers_suite (HandSPX.lands_againZ fl fun g2 fl2 up2 => ?_)
          have J2 : Inv X pins σ1 H1 { t with heap := g2 } := J.landed nb fl2.1 ((up.trans up1).trans up2) os ag
          obtain ⟨oe2, vs2, he2, hz2, hd2⟩ := fl2.there
          refine wpAny_mono ((hsu a oe2 cls d (X.pn ++ pins) hz2 ⟨_, hd2⟩).run [] _ _ H1 _ (J2.suite he2 hd2 na offL offF) (hy rfl a na)) (fun f z hsp => ?_) (fun _ _ q => q.elim)
          cases f with
          | ret u => obtain ⟨v, σ6, H6, S6, r6, q6⟩ := hsp; exact ⟨v, σ6, H6, S6.unsuite ok, r6, q6⟩
          | next => obtain ⟨σ6, H6, S6, q6⟩ := hsp; exact ⟨σ6, H6, S6.unsuite ok, q6⟩
          | brk => obtain ⟨σ6, H6, S6, q6⟩ := hsp; exact ⟨σ6, H6, S6.unsuite ok, q6⟩
          | cont => obtain ⟨σ6, H6, S6, q6⟩ := hsp; exact ⟨σ6, H6, S6.unsuite ok, q6⟩
      | @as x n i c ts b₀ su np p' hr l2 hc hi hl hsu r ih =>
        rintro ⟨b, hb1, hy, hn⟩
        refine wpAny_handleBy_cons (codeAny_handlers_test (look hc ((kind hb1).here ?_))) (fun q => by cases q)
        cases b with
        | false => exact ih (hn rfl)
        | true =>
          refine codeAny_handlers_suite_as (HandSPX.lands_againZ fl fun g2 fl2 up2 => ?_)
          have J2 : Inv X pins σ1 H1 { t with heap := g2 } := J.landed nb fl2.1 ((up.trans up1).trans up2) os ag
          obtain ⟨oe2, vs2, he2, hz2, hd2⟩ := fl2.there
          refine store_ok (X := X.suite a ((a, oe2) :: (X.pn ++ pins))) (v := .ref a) (J2.suite he2 hd2 na offL offF) hN hi (.inl hl) rfl (fun s5 S5 => ?_) (.inr hl)
          refine wpAny_mono ((hsu a oe2 cls d (X.pn ++ pins) hz2 ⟨_, hd2⟩).run [] s5 _ H1 _ S5 (hy rfl a na)) (fun f z hsp => ?_) (fun _ _ q => q.elim)
          cases f with
          | ret u => obtain ⟨v, σ6, H6, S6, r6, q6⟩ := hsp; exact gone_ok (S6.unsuite ok) hN hi hl fun _ J7 => ⟨v, _, H6, J7, r6, q6⟩
          | next => obtain ⟨σ6, H6, S6, q6⟩ := hsp; exact gone_ok (S6.unsuite ok) hN hi hl fun _ J7 => ⟨_, H6, J7, q6⟩
          | brk => obtain ⟨σ6, H6, S6, q6⟩ := hsp; exact gone_ok (S6.unsuite ok) hN hi hl fun _ J7 => ⟨_, H6, J7, q6⟩
          | cont => obtain ⟨σ6, H6, S6, q6⟩ := hsp; exact gone_ok (S6.unsuite ok) hN hi hl fun _ J7 => ⟨_, H6, J7, q6⟩
    exact go hh w
  refine wpAny_mono ((hb _ (X.pn ++ pins) after caught PassesOwn.looking).run [] s σ H D (I.toTry _) h) (fun f s1 hsp => ?_) (fun e s1 q => q)
  cases f with
  | ret u => obtain ⟨v, σ6, H6, S6, r6, q6⟩ := hsp; exact ⟨v, σ6, H6, S6.ofTry ok, r6, q6⟩
  | next => obtain ⟨σ6, H6, S6, q6⟩ := hsp; exact wpAny_execs_nil ⟨σ6, H6, S6.ofTry ok, q6⟩
  | brk => obtain ⟨σ6, H6, S6, q6⟩ := hsp; exact ⟨σ6, H6, S6.ofTry ok, q6⟩
  | cont => obtain ⟨σ6, H6, S6, q6⟩ := hsp; exact ⟨σ6, H6, S6.ofTry ok, q6⟩
end
end VL


set_option maxRecDepth 100000
set_option maxHeartbeats 2000000
namespace VL
open PySem PySem.Spec PyProof.Rows L2
/-! ### raise and try as trees -/
abbrev Pt := Addr × Value × Option Addr
open Classical in
/-- what does not depend on where an error stands -/
noncomputable def anyT {α : Type} (k : Pt → T α) : T α := if h : ∃ t, ∀ p, k p = t then h.choose else .fail
theorem anyT_of {α : Type} {k : Pt → T α} {t : T α} (h : ∀ p, k p = t) : anyT k = t := by
  have e : ∃ t, ∀ p, k p = t := ⟨t, h⟩
  unfold anyT
  rw [dif_pos e]
  exact (e.choose_spec (0, .none, none)).symm.trans (h (0, .none, none))
theorem anyT_const {α : Type} {t : T α} : anyT (fun _ => t) = t := anyT_of fun _ => rfl
theorem sat_any {α : Type} {k : Pt → T α} {n : Nat} {Q : α → Nat → Prop} {E : XW} (h : sat (anyT k) n Q E) (p : Pt) : sat (k p) n Q E := by
  unfold anyT at h
  split at h
  · next e => rw [e.choose_spec p]; exact h
  · exact h.elim
inductive Hd where
  | pl (c : Str) (t : XS)
  | nm (c : Str) (i : Nat) (t : Pt → XS)
def unF (i : Nat) : Fl → T Fl
  | .nx ρ => .ret (.nx (ρ.set i none))
  | .rt w => .ret (.rt w)
  | .bk ρ => .ret (.bk (ρ.set i none))
  | .ct ρ => .ret (.ct (ρ.set i none))
  | .xc _ _ => .fail
noncomputable def hdlT : List Hd → Exc → XS
  | [], x => fun ρ => .ret (.xc x ρ)
  | .pl c t :: r, x => fun ρ => if x.name = c then t ρ else hdlT r x ρ
  | .nm c i t :: r, x => fun ρ => if x.name = c then anyT fun p => bd (t p (ρ.set i (some (.err p x)))) (unF i) else hdlT r x ρ
noncomputable def tyF (known : List Str) (hs : List Hd) : Fl → T Fl
  | .nx ρ => .ret (.nx ρ)
  | .rt w => .ret (.rt w)
  | .bk ρ => .ret (.bk ρ)
  | .ct ρ => .ret (.ct ρ)
  | .xc x ρ => if x.name ∈ known then hdlT hs x ρ else .fail
noncomputable def xTry (known : List Str) (tb : XS) (hs : List Hd) (ρ : Nv) : T Fl := bd (tb ρ) (tyF known hs)
section
variable {K : PySem.W.Frag} {C : Ct} {σ : L2.St} {ρ : Nv} {n : Nat} {G O H : Hp}
theorem In.setW (I : In K C σ ρ n G O H) (i : Nat) {v : V} {w : W} (r : RelW K C G O w v) (hw : ∀ ds, w ≠ .own ds) : In K C (σ.set i (some v)) (ρ.set i (some w)) n G O H := by
  refine ⟨I.toIo, by simp [I.len], fun j w' e => ?_, fun j k ds es a jk e1 e2 e3 e4 => ?_⟩
  · by_cases h : i = j
    · subst h
      by_cases hi : i < ρ.length
      · rw [List.getElem?_set_self hi] at e
        cases e
        exact ⟨v, by rw [List.getElem?_set_self (by rw [I.len]; exact hi)], r⟩
      · rw [List.getElem?_eq_none (by simpa using hi)] at e; cases e
    · rw [List.getElem?_set_ne h] at e
      obtain ⟨u, h1, h2⟩ := I.slot j w' e
      exact ⟨u, by rw [List.getElem?_set_ne h]; exact h1, h2⟩
  · have no : ∀ {j : Nat} {ds : List Dt}, (ρ.set i (some w))[j]? = some (some (W.own ds)) → i ≠ j := fun {j ds} e q => by
      subst q
      by_cases hi : i < ρ.length
      · rw [List.getElem?_set_self hi] at e; cases e; exact hw _ rfl
      · rw [List.getElem?_eq_none (by simpa using hi)] at e; cases e
    have hj := no e1
    have hk := no e2
    rw [List.getElem?_set_ne hj] at e1 e3
    rw [List.getElem?_set_ne hk] at e2 e4
    exact I.dis j k ds es a jk e1 e2 e3 e4
theorem In.unset (I : In K C σ ρ n G O H) (i : Nat) : In K C (σ.set i none) (ρ.set i none) n G O H := by
  have no : ∀ {j : Nat} {w : W}, (ρ.set i none)[j]? = some (some w) → i ≠ j := fun {j w} e q => by
    subst q
    by_cases hi : i < ρ.length
    · rw [List.getElem?_set_self hi] at e; cases e
    · rw [List.getElem?_eq_none (by simpa using hi)] at e; cases e
  refine ⟨I.toIo, by simp [I.len], fun j w e => ?_, fun j k ds es a jk e1 e2 e3 e4 => ?_⟩
  · have h := no e
    rw [List.getElem?_set_ne h] at e
    obtain ⟨u, h1, h2⟩ := I.slot j w e
    exact ⟨u, by rw [List.getElem?_set_ne h]; exact h1, h2⟩
  · have hj := no e1
    have hk := no e2
    rw [List.getElem?_set_ne hj] at e1 e3
    rw [List.getElem?_set_ne hk] at e2 e4
    exact I.dis j k ds es a jk e1 e2 e3 e4
def htX (K : PySem.W.Frag) (U : WX) : Hd → Value × Tsu
  | .pl c t => (.ref (He.ga K c), fun _ _ _ => upS K U (SS t))
  | .nm c i t => (.ref (He.ga K c), asT i fun a cls d => upS K U (SS (t (a, cls, d))))
def Hd.cls : Hd → Str
  | .pl c _ => c
  | .nm c _ _ => c
def goneV (i : Nat) (V : VN) : VN := ⟨fun ρ n => V.nx (ρ.set i none) n, V.rt, fun ρ n => V.bk (ρ.set i none) n, fun ρ n => V.ct (ρ.set i none) n, fun _ _ _ => False⟩
theorem hdlX_link {U : WX} {V : VN} {D : Ends} {known : List Str} (kx : KnX K known) (L : LkS K U C V D) {x : Exc} {cls : Value} {d : Option Addr} (hx : x.name ∈ known) (I : In K C σ ρ n G O H) (ea : ExcAt K G x cls d) :
    ∀ hs : List Hd, (∀ h ∈ hs, h.cls ∈ known) → sat (hdlT hs x ρ) n (flV V) noX → wMany K U D (hs.map (htX K U)) cls d σ H
  | [], _, q => L.xc x ρ n q cls d σ G O H I ea
  | .pl c t :: r, hk, q => by
    have e := kx x.name hx c (hk (.pl c t) (by simp))
    refine ⟨decide (x.name = c), by rw [ea.1]; exact e, fun b a ha => ?_, fun b => ?_⟩
    · unfold hdlT at q
      rw [if_pos (of_decide_eq_true b)] at q
      exact ⟨C, ρ, n, G, O, V, I, q, L⟩
    · unfold hdlT at q
      rw [if_neg (of_decide_eq_false b)] at q
      exact hdlX_link kx L hx I ea r (fun h hh => hk h (List.mem_cons_of_mem _ hh)) q
  | .nm c i t :: r, hk, q => by
    have e := kx x.name hx c (hk (.nm c i t) (by simp))
    refine ⟨decide (x.name = c), by rw [ea.1]; exact e, fun b a ha => ?_, fun b => ?_⟩
    · unfold hdlT at q
      rw [if_pos (of_decide_eq_true b)] at q
      have q := sat_any q (a, cls, d)
      refine ⟨C, ρ.set i (some (.err (a, cls, d) x)), n, G, O, goneV i V, I.setW i ⟨rfl, ea⟩ (fun ds z => by cases z), sat2 q fun f n' z => ?_, ?_⟩
      · cases f <;> first | exact z | exact z.elim
      · exact ⟨fun ρ' n' z σ' G' O' H' I' => L.nx _ n' z _ G' O' H' (I'.unset i), L.rt, fun ρ' n' z σ' G' O' H' I' => L.bk _ n' z _ G' O' H' (I'.unset i), fun ρ' n' z σ' G' O' H' I' => L.ct _ n' z _ G' O' H' (I'.unset i), fun x ρ' n' z => z.elim⟩
    · unfold hdlT at q
      rw [if_neg (of_decide_eq_false b)] at q
      exact hdlX_link kx L hx I ea r (fun h hh => hk h (List.mem_cons_of_mem _ hh)) q
end
inductive HdsX (X : Cx) (U : WX) : List ExceptHandler → List Hd → Prop
  | nil : HdsX X U [] []
  | cons {x : Str} {t : XS} {b₀ : Stmt} {su : List Stmt} {np p' : Pos} {hr : List ExceptHandler} {l : List Hd} (hc : Names X x (.ref (He.ga X.K x)))
      (hsu : ∀ (a : Addr) (oe : Obj) (pn : List (Addr × Obj)), VSs (X.suite a ((a, oe) :: pn)) U (b₀ :: su) (SS t)) (r : HdsX X U hr l) : HdsX X U (.ExceptHandler (some (.Name x np)) none (b₀ :: su) p' :: hr) (.pl x t :: l)
  | as {x n : Str} {i : Nat} {t : Pt → XS} {b₀ : Stmt} {su : List Stmt} {np p' : Pos} {hr : List ExceptHandler} {l : List Hd} (hc : Names X x (.ref (He.ga X.K x))) (hi : X.N[i]? = some n) (hl : X.env.kindOf n = some .local)
      (hsu : ∀ (a : Addr) (oe : Obj) (cls : Value) (d : Option Addr) (pn : List (Addr × Obj)), Zc cls d oe → (∃ vs, oe.data = .fields vs) → VSs (X.suite a ((a, oe) :: pn)) U (b₀ :: su) (SS (t (a, cls, d)))) (r : HdsX X U hr l) :
      HdsX X U (.ExceptHandler (some (.Name x np)) (some n) (b₀ :: su) p' :: hr) (.nm x i t :: l)
theorem HdsX.ok {X : Cx} {U : WX} {hds : List ExceptHandler} {l : List Hd} (h : HdsX X U hds l) : HdsM X hds (l.map (htX X.K U)) := by
  induction h with
  | nil => exact .nil
  | cons hc hsu r ih => exact .cons hc (fun a oe cls d pn _ _ => hsu a oe pn) ih
  | as hc hi hl hsu r ih => exact .as hc hi hl (fun a oe cls d pn z f => hsu a oe cls d pn z f) ih
section
variable {X : Cx} {U : WX} {body : List Stmt} {e : Expr} {es : List Expr} {e0 : ExceptHandler} {er : List ExceptHandler} {l : List Hd} {known : List Str} {tb : XS} {pos p p2 : Pos} {al : XA}
theorem xs_try (hN : X.N.Nodup) (hs : X.stack = X.env :: X.outer) (hf : X.env.frame = some X.env.locals) (tk : Takes X U) (kx : KnX X.K known) (hk : ∀ h ∈ l, h.cls ∈ known)
    (hb : ∀ (W : WX) (pn : List (Addr × Obj)) (xe : Value → Shared → Prop), Takes (X.tr pn xe) W → PassesOwn (model X.prog X.w) X.A X.env xe → VSs (X.tr pn xe) W body (SS tb))
    (hh : HdsX X U (e0 :: er) l) : VS X U (.Try body (e0 :: er) [] [] pos) (SS (xTry known tb l)) :=
  ps_imp (ps_try_mix (tb := fun W => upS X.K W (SS tb)) hN hs hf tk (fun W pn xe t1 t2 => hb W pn xe t1 t2) hh.ok) fun D σ H ⟨C, ρ, n, G, O, V, I, h, L⟩ =>
    ⟨C, ρ, n, G, O, ⟨V.nx, V.rt, V.bk, V.ct, fun x ρ' n' => x.name ∈ known ∧ sat (hdlT l x ρ') n' (flV V) noX⟩, I, sat2 h fun f n' z => by
      cases f with
      | xc x ρ' =>
        have z : sat (if x.name ∈ known then hdlT l x ρ' else .fail) n' (flV V) noX := z
        split at z
        · next hm => exact ⟨hm, z⟩
        · exact z.elim
      | _ => exact z, ⟨L.nx, L.rt, L.bk, L.ct, fun x ρ' n' ⟨q1, q2⟩ cls d σ' G' O' H' I' ea => hdlX_link kx L q1 I' ea l hk q2⟩⟩
def raiseK (x : Str) (flds : List Str) (ρ : Nv) (ds : List Dt) : T Fl := if ds.length = flds.length ∧ ds.length ≤ 1000 then .ret (.xc (mkX x flds ds) ρ) else .fail
def xRaise (x : Str) (flds : List Str) (al : XA) (ρ : Nv) : T Fl := exS (al ρ) ρ (raiseK x flds ρ)
theorem xs_raise {x : Str} {flds : List Str} (hc : X.calm = true) (tk : Takes X U) (R : RzC X.prog X.w X.K X.mg X.base x flds) (hr : Room 2 X.A) (hx : Passes (L2.CX X.prog X.w) X (fun _ _ _ => False)) (hg : Gl X x) (ha : VAa X U (e :: es) (S al))
    (hdb : (x == ("__debug__" : Str)) = false := by decide) (he : starEach (e :: es) X.env = (false, eval e X.env) :: starEach es X.env := by rfl) (hpl : (backTo p2 (starEach es X.env)).any (·.1) = false := by rfl) :
    VS X U (.Raise (some (.Call (.Name x p) (e :: es) [] p2)) none pos) (SS (xRaise x flds al)) := wkS (vs_raise hc tk R hr hx hg ha hdb he hpl) fun V ρ n h => satX h fun ds n' q => by
  obtain ⟨c, z⟩ := sat_guard (Q := flV V) q
  exact ⟨c.1, c.2, z⟩
open Classical in
/-- e.f, e an error in hand -/
noncomputable def xXf (p : Pt) (i : Nat) (c f : Str) (ρ : Nv) : T Dt := match ρ[i]? with
  | some (some (.err p' x)) => if p' = p ∧ x.name = c then ofO (x.fs.lookup f) else .fail
  | _ => .fail
theorem xe_xf {a : Addr} {oe : Obj} {cls : Value} {d : Option Addr} {pn : List (Addr × Obj)} {i : Nat} {x c f : Str} {px : Pos} (Tc : XfC X.K (He.ga X.K c)) (hno : PySem.W.findIn X.K (.ref (He.ga X.K c)) f = some none) (hz : Zc cls d oe) (hf : ∃ vs, oe.data = .fields vs)
    (hN : (X.suite a ((a, oe) :: pn)).N[i]? = some x := by rfl) (hv : Vis (X.suite a ((a, oe) :: pn)).env.scope x := by first | exact Or.inl rfl | exact Or.inr (Or.inl rfl) | exact Or.inr (Or.inr rfl)) (hd : (x == ("__debug__" : Str)) = false := by decide)
    (hcd : (x == ("__classdict__" : Str)) = false := by decide) (hb : attributeBase (.Name x px) f X.env (eval (.Name x px) X.env) = eval (.Name x px) X.env := by rfl) :
    VE (X.suite a ((a, oe) :: pn)) U (.Attribute (.Name x px) f pos) (S (xXf (a, cls, d) i c f)) := by
  refine pe_imp (pe_xf Tc hno hz hf (pe_var hN hv hd hcd) hb) fun σ H Q ⟨C, ρ, n, G, O, Q0, E0, I, h, hq, he⟩ => ?_
  unfold S xXf at h
  split at h
  · next p' y e0 =>
    split at h
    · next hp =>
      obtain ⟨rfl, rfl⟩ := hp
      obtain ⟨v, e1, r1, r2⟩ := I.slot i _ e0
      subst r1
      obtain ⟨dv, ef, q⟩ := satO h
      obtain ⟨k1, dd, fs, k2, k3, k4⟩ := r2
      obtain ⟨vv, e5, r5⟩ := k4 f dv ef
      exact ⟨_, e1, rfl, k1, dd, fs, vv, k2, I.gH _ _ k3, e5, hq _ n q vv G O H I (Same.refl _) r5⟩
    · exact h.elim
  · exact h.elim
end
end VL


set_option maxRecDepth 100000
set_option maxHeartbeats 2000000
namespace VL
open PySem PySem.Spec PyProof.Rows L2
section
variable {X : Cx} {U : WX} {pos : Pos}
theorem xe_dic0 : VE X U (.Dict [] [] pos) (S (xC (.dict []))) :=
  pe_imp pe_dnewK fun σ H Q ⟨C, ρ, n, G, O, Q0, E0, I, h, hq, he⟩ => fun p hp => hq _ n h _ _ _ _ (I.new hp) (In.newSame I.toIo hp) (.dic upd_same)
end
/-! ### facts for the plain side -/
theorem isi_T (d : Dt) : isiD "tuple" d = match d with | .tuple _ => true | _ => false := by cases d <;> rfl
theorem isi_B (d : Dt) : isiD "bool" d = match d with | .bool _ => true | _ => false := by cases d <;> rfl
theorem isi_I (d : Dt) : isiD "int" d = match d with | .int _ => true | .bool _ => true | _ => false := by cases d <;> rfl
theorem isi_S (d : Dt) : isiD "str" d = match d with | .str _ => true | _ => false := by cases d <;> rfl
theorem isi_L (d : Dt) : isiD "list" d = match d with | .list _ => true | _ => false := by cases d <;> rfl
theorem sizeL : sizeLine = 16777216 := rfl
theorem pAdd_int {i j : Int} : pAdd (.int i) (.int j) = some (.int (i + j)) := rfl
def mn (i j : Int) : Int := if j < i then j else i
def mx (i j : Int) : Int := if j > i then j else i
theorem pMin2_i {i j : Int} : pMin2 [.int i, .int j] = some (.int (mn i j)) := rfl
theorem pMax2_i {i j : Int} : pMax2 [.int i, .int j] = some (.int (mx i j)) := rfl
theorem pEqS {x y : Str} : pEq (.str x) (.str y) = some (.bool (x == y)) := by exact (if_pos (show shp (.str x) (.str y) from trivial)).trans (by simp [PyData.eqv])
theorem pNeS {x y : Str} : pNe (.str x) (.str y) = some (.bool (!(x == y))) := by exact (if_pos (show shp (.str x) (.str y) from trivial)).trans (by simp [PyData.eqv])
theorem pEqI {i j : Int} : pEq (.int i) (.int j) = some (.bool (decide (i = j))) := by
  unfold pEq
  rw [if_pos ⟨shaped_int, shaped_int⟩]
  simp only [PyData.eqv]
  by_cases h : i = j <;> simp [h]
theorem pNeI {i j : Int} : pNe (.int i) (.int j) = some (.bool (!decide (i = j))) := by
  unfold pNe
  rw [if_pos ⟨shaped_int, shaped_int⟩]
  simp only [PyData.eqv]
  by_cases h : i = j <;> simp [h]
theorem pRepr_of {w dp : Nat} {d : Dt} (a : Sh w dp d) (h : w ≤ 2 ^ 20) (h2 : dp ≤ 60) : pRepr [d] = some (.str d.shown) := by
  unfold pRepr
  exact if_pos ⟨a.nd, a.sh, PyData.shown_fits (by decide) (by decide) a.lv (Nat.le_trans a.wt h), Nat.le_trans a.dp h2⟩
/-! what is computed, by forms -/
theorem pIx_t {ds : List Dt} {i : Int} : pIx (.tuple ds) (.int i) = atI ds i := rfl
theorem pIx_l {ds : List Dt} {i : Int} : pIx (.list ds) (.int i) = atI ds i := rfl
theorem pLen_t {ds : List Dt} : pLen [.tuple ds] = some (.int (ds.length : Int)) := rfl
theorem pLen_l {ds : List Dt} : pLen [.list ds] = some (.int (ds.length : Int)) := rfl
theorem pAdd_i {i j : Int} : pAdd (.int i) (.int j) = some (.int (i + j)) := rfl
theorem pAdd_t {xs ys : List Dt} : pAdd (.tuple xs) (.tuple ys) = if xs.length + ys.length ≤ sizeLine then some (.tuple (xs ++ ys)) else none := by simp only [pAdd]
theorem pAdd_l {xs ys : List Dt} : pAdd (.list xs) (.list ys) = if xs.length + ys.length ≤ sizeLine then some (.list (xs ++ ys)) else none := by simp only [pAdd]
theorem pSub_i {i j : Int} : pSub (.int i) (.int j) = some (.int (i - j)) := rfl
theorem pMul_i {i j : Int} (h : CMul i j) : pMul (.int i) (.int j) = some (.int (i * j)) := if_pos h
theorem pDiv_i {i j : Int} (h0 : 0 < j) (h1 : j < 1073741824) : pDiv (.int i) (.int j) = some (.int (i / j)) := if_pos ⟨h0, h1⟩
theorem pMod_i {i j : Int} (h0 : 0 < j) : pMod (.int i) (.int j) = some (.int (i % j)) := if_pos h0
theorem pNeg_i {i : Int} : pNeg (.int i) = some (.int (-i)) := rfl
theorem pLt_i {i j : Int} : pLt (.int i) (.int j) = some (.bool (decide (i < j))) := rfl
theorem pLe_i {i j : Int} : pLe (.int i) (.int j) = some (.bool (decide (i ≤ j))) := rfl
theorem pGt_i {i j : Int} : pGt (.int i) (.int j) = some (.bool (decide (j < i))) := rfl
theorem pGe_i {i j : Int} : pGe (.int i) (.int j) = some (.bool (decide (j ≤ i))) := rfl
theorem pIs_n {d : Dt} : pIs d .none = some (.bool (isNoneD d)) := rfl
theorem pIsNot_n {d : Dt} : pIsNot d .none = some (.bool (!isNoneD d)) := rfl
theorem pIadd_i {i j : Int} : pIadd (.int i) (.int j) = some (.int (i + j)) := rfl
theorem pAbs_i {i : Int} : pAbs [.int i] = some (.int (if i < 0 then -i else i)) := rfl
theorem pInt_i {i : Int} : pInt [.int i] = some (.int i) := rfl
theorem pTuple_t {ds : List Dt} : pTuple [.tuple ds] = some (.tuple ds) := rfl
theorem pTuple_l {ds : List Dt} : pTuple [.list ds] = some (.tuple ds) := rfl
theorem pList_t {ds : List Dt} : pList [.tuple ds] = some ds := rfl
theorem pList_l {ds : List Dt} : pList [.list ds] = some ds := rfl
theorem pSl_t {ds : List Dt} {lo hi : Option Int} : pSl (.tuple ds) lo hi = some (.tuple (cutD ds lo hi)) := rfl
theorem pSl_l {ds : List Dt} {lo hi : Option Int} : pSl (.list ds) lo hi = some (.list (cutD ds lo hi)) := rfl
theorem pSum_i {ns : List Int} : pSum [.list (ns.map .int)] = some (.int ns.sum) := by simp only [pSum, intsD_map, Option.map_some]
theorem pAll_b {bs : List Bool} : pAll [.list (bs.map .bool)] = some (.bool (bs.all _root_.id)) := by simp only [pAll, boolsD_map, Option.map_some]
theorem pRepT_t {xs : List Dt} {k : Int} (h0 : 0 ≤ k) (h1 : k ≤ 4000) (h2 : xs.length ≤ 4000) : pRepT (.tuple xs) (.int k) = some (.tuple (List.replicate k.toNat xs).flatten) := if_pos ⟨h0, h1, h2⟩
theorem pRep_l {xs : List Dt} {k : Int} (h0 : -(2 ^ 63) ≤ k) (h1 : k < 2 ^ 63) (h2 : xs.length * k.toNat ≤ sizeLine) : pRep (.list xs) (.int k) = some (.list (List.replicate k.toNat xs).flatten) := if_pos ⟨h0, h1, h2⟩
theorem asB_b {b : Bool} : asB (.bool b) = .ret b := rfl
theorem asI_i {i : Int} : asI (.int i) = .ret (some i) := rfl
theorem itT_t {ds : List Dt} : itT (.tuple ds) = .ret ds := rfl
theorem itL_l {ds : List Dt} : itL (.list ds) = .ret ds := rfl
theorem enT_t {ds : List Dt} : enT [.tuple ds] = .ret (enumD ds) := rfl
theorem enL_l {ds : List Dt} : enL [.list ds] = .ret (enumD ds) := rfl
theorem rgT1_i {j : Int} (h0 : -(2 ^ 62) ≤ j) (h1 : j < 2 ^ 62) : rgT1 [.int j] = .ret (rngD 0 j.toNat) := if_pos ⟨h0, h1⟩
theorem rgT2_i {i j : Int} (h0 : -(2 ^ 62) ≤ i) (h1 : i < 2 ^ 62) (h2 : -(2 ^ 62) ≤ j) (h3 : j < 2 ^ 62) : rgT2 [.int i, .int j] = .ret (rngD i (j - i).toNat) := if_pos ⟨h0, h1, h2, h3⟩
theorem ygT_t {k : Nat} {r : XGs} {ds : List Dt} {ρ : Nv} : ygT k r (.tuple ds) ρ = if ds.length = k then r ds ρ else none := rfl
theorem rOfT_d {d : Dt} : rOfT (.dat d) = .ret d := rfl
theorem rOfT_o {ds : List Dt} : rOfT (.own ds) = .ret (.list ds) := rfl
theorem rOwT_o {ds : List Dt} : rOwT (.own ds) = .ret ds := rfl
theorem isN_n : isNoneD .none = true := rfl
theorem isN_b {b : Bool} : isNoneD (.bool b) = false := rfl
theorem isN_i {b : Int} : isNoneD (.int b) = false := rfl
theorem isN_s {b : Str} : isNoneD (.str b) = false := rfl
theorem isN_t {b : List Dt} : isNoneD (.tuple b) = false := rfl
theorem isN_l {b : List Dt} : isNoneD (.list b) = false := rfl
theorem isi_Tt {b : List Dt} : isiD "tuple" (.tuple b) = true := rfl
/-! plain data: ints, texts, None, and tuples and lists of them; no truth values -/
mutual
def plainD : Dt → Bool
  | .none => true
  | .bool _ => false
  | .int _ => true
  | .str _ => true
  | .list ds => plainA ds
  | .tuple ds => plainA ds
  | .dict _ => false
def plainA : List Dt → Bool
  | [] => true
  | d :: ds => plainD d && plainA ds
end
mutual
theorem eqv_iff : ∀ {a b : Dt}, plainD a = true → plainD b = true → (PyData.eqv a b = true ↔ a = b)
  | .none, b, _, hb => by cases b <;> simp [PyData.eqv, plainD] at hb ⊢
  | .bool _, b, ha, _ => by simp [plainD] at ha
  | .int _, b, _, hb => by cases b <;> simp [PyData.eqv, plainD] at hb ⊢
  | .str x, b, _, hb => by cases b <;> simp [PyData.eqv]
  | .list xs, b, ha, hb => by
    cases b with
    | list ys => simp only [plainD] at ha hb; simp only [PyData.eqv, eqvA_iff ha hb, PyData.list.injEq]
    | _ => simp [PyData.eqv]
  | .tuple xs, b, ha, hb => by
    cases b with
    | tuple ys => simp only [plainD] at ha hb; simp only [PyData.eqv, eqvA_iff ha hb, PyData.tuple.injEq]
    | _ => simp [PyData.eqv]
  | .dict _, b, ha, _ => by simp [plainD] at ha
theorem eqvA_iff : ∀ {a b : List Dt}, plainA a = true → plainA b = true → (PyData.eqvAll a b = true ↔ a = b)
  | [], b, _, _ => by cases b <;> simp [PyData.eqvAll]
  | x :: xs, b, ha, hb => by
    cases b with
    | nil => simp [PyData.eqvAll]
    | cons y ys =>
      simp only [plainA, Bool.and_eq_true] at ha hb
      simp only [PyData.eqvAll, Bool.and_eq_true, eqv_iff ha.1 hb.1, eqvA_iff ha.2 hb.2, List.cons.injEq]
end
theorem eqv_ne {a b : Dt} (ha : plainD a = true) (hb : plainD b = true) (h : a ≠ b) : PyData.eqv a b = false := by
  cases e : PyData.eqv a b with
  | false => rfl
  | true => exact absurd ((eqv_iff ha hb).mp e) h
theorem eqv_self {a : Dt} (ha : plainD a = true) : PyData.eqv a a = true := (eqv_iff ha ha).mpr rfl
theorem plainA_ints (ns : List Int) : plainA (ns.map PyData.int) = true := by
  induction ns with
  | nil => rfl
  | cons n ns ih => simp only [List.map_cons, plainA, plainD, ih, Bool.and_self]
/-- shaped, by parts -/
structure Shp (dp : Nat) (d : Dt) : Prop where
  lay : d.canLay0 = true
  dep : d.depth ≤ dp
structure ShpA (dp : Nat) (ds : List Dt) : Prop where
  lay : PyData.canLayAll0 ds = true
  dep : PyData.depthAll ds ≤ dp
theorem Shp.shaped {dp : Nat} {d : Dt} (h : Shp dp d) (hd : dp ≤ 64) : SeqAt.shaped d = true := by
  unfold SeqAt.shaped
  rw [h.lay, decide_eq_true (Nat.le_trans h.dep hd)]
  rfl
theorem Shp.int {dp : Nat} (i : Int) : Shp dp (.int i) := ⟨by simp [PyData.canLay0], by simp [PyData.depth]⟩
theorem Shp.none {dp : Nat} : Shp dp .none := ⟨by simp [PyData.canLay0], by simp [PyData.depth]⟩
theorem Shp.bool {dp : Nat} (b : Bool) : Shp dp (.bool b) := ⟨by simp [PyData.canLay0], by simp [PyData.depth]⟩
theorem ShpA.nil {dp : Nat} : ShpA dp [] := ⟨by simp [PyData.canLayAll0], by simp [PyData.depthAll]⟩
theorem ShpA.cons {dp : Nat} {d : Dt} {ds : List Dt} (a : Shp dp d) (b : ShpA dp ds) : ShpA dp (d :: ds) := ⟨by simp [PyData.canLayAll0, a.lay, b.lay], by simp only [PyData.depthAll]; have := a.dep; have := b.dep; omega⟩
theorem ShpA.of {dp : Nat} : ∀ {ds : List Dt}, (∀ d ∈ ds, Shp dp d) → ShpA dp ds
  | [], _ => .nil
  | d :: ds, h => .cons (h d (by simp)) (ShpA.of fun x hx => h x (List.mem_cons_of_mem _ hx))
theorem Shp.tup {dp : Nat} {ds : List Dt} (a : ShpA dp ds) : Shp (dp + 1) (.tuple ds) := ⟨by simp only [PyData.canLay0, a.lay], by simp only [PyData.depth]; have := a.dep; omega⟩
theorem Shp.lst {dp : Nat} {ds : List Dt} (a : ShpA dp ds) : Shp (dp + 1) (.list ds) := ⟨by simp only [PyData.canLay0, a.lay], by simp only [PyData.depth]; have := a.dep; omega⟩
theorem Shp.le {dp dp' : Nat} {d : Dt} (a : Shp dp d) (h : dp ≤ dp') : Shp dp' d := ⟨a.lay, Nat.le_trans a.dep h⟩
theorem ShpA.ints {dp : Nat} (ns : List Int) : ShpA dp (ns.map PyData.int) := .of fun d hd => by
  obtain ⟨i, _, rfl⟩ := List.mem_map.mp hd
  exact .int i
theorem shp_of {a b : Dt} (ha : SeqAt.shaped a = true) (hb : SeqAt.shaped b = true) : shp a b := by
  cases a <;> cases b <;> first | exact trivial | exact ⟨ha, hb⟩
theorem pEq_of {dp : Nat} {a b : Dt} (ha : Shp dp a) (hb : Shp dp b) (h : dp ≤ 64) : pEq a b = some (.bool (PyData.eqv a b)) := if_pos (shp_of (ha.shaped h) (hb.shaped h))
theorem pNe_of {dp : Nat} {a b : Dt} (ha : Shp dp a) (hb : Shp dp b) (h : dp ≤ 64) : pNe a b = some (.bool (!PyData.eqv a b)) := if_pos (shp_of (ha.shaped h) (hb.shaped h))
/-! loops -/
theorem forT_nil {g : XG} {tb : XS} {ρ : Nv} : forT g tb [] ρ = .ret (.nx ρ) := rfl
theorem forT_cons {g : XG} {tb : XS} {d : Dt} {ds : List Dt} {ρ : Nv} : forT g tb (d :: ds) ρ = bd (ofO (g d ρ)) fun ρ1 => bd (tb ρ1) (lpF (forT g tb ds)) := rfl
/-- one turn; ct: the loop goes on -/
def turnT (g : XG) (tb : XS) (d : Dt) (ρ : Nv) : T Fl := bd (ofO (g d ρ)) fun ρ1 => bd (tb ρ1) (lpF fun ρ => .ret (.ct ρ))
theorem for_turn {g : XG} {tb : XS} {d : Dt} {ds : List Dt} {ρ : Nv} : forT g tb (d :: ds) ρ = bd (turnT g tb d ρ) fun f => match f with | .ct ρ => forT g tb ds ρ | f => .ret f := by
  rw [forT_cons]
  unfold turnT
  generalize forT g tb ds = L
  cases g d ρ with
  | none => rfl
  | some ρ1 =>
    simp only [ofO_some, bd_ret]
    generalize tb ρ1 = t
    induction t with
    | ret f => cases f <;> rfl
    | exc x => rfl
    | fail => rfl
    | draw m k ih => simp only [bd_draw]; exact congrArg (T.draw m) (funext fun r => ih r)
/-- a loop that goes on: its state is folded -/
theorem for_fold {σ δ : Type} {g : XG} {tb : XS} (env : σ → Nv) (enc : δ → Dt) (step : σ → δ → σ) (I : σ → Prop) : ∀ (ds : List δ) (s : σ), I s → (∀ s d, d ∈ ds → I s → I (step s d) ∧ turnT g tb (enc d) (env s) = .ret (.ct (env (step s d)))) →
    forT g tb (ds.map enc) (env s) = .ret (.nx (env (ds.foldl step s)))
  | [], s, _, _ => rfl
  | d :: ds, s, hI, h => by
    obtain ⟨h1, h2⟩ := h s d (by simp) hI
    rw [List.map_cons, for_turn, h2, List.foldl_cons, bd_ret]
    exact for_fold env enc step I ds (step s d) h1 (fun s d hd => h s d (List.mem_cons_of_mem _ hd))
/-- a loop that looks for the first item that ends it -/
theorem for_first {δ ι : Type} {g : XG} {tb : XS} (env : δ → Nv) (enc : ι → Dt) (bad : ι → Option Fl) : ∀ (ds : List ι) (v : δ), (∀ v d, d ∈ ds → (∃ f, bad d = some f ∧ (∀ ρ, f ≠ .ct ρ) ∧ turnT g tb (enc d) (env v) = .ret f) ∨ (bad d = none ∧ ∃ v', turnT g tb (enc d) (env v) = .ret (.ct (env v')))) →
    (∃ f, ds.findSome? bad = some f ∧ forT g tb (ds.map enc) (env v) = .ret f) ∨ (ds.findSome? bad = none ∧ ∃ v', forT g tb (ds.map enc) (env v) = .ret (.nx (env v')))
  | [], v, _ => .inr ⟨rfl, v, rfl⟩
  | d :: ds, v, h => by
    rw [List.map_cons, for_turn, List.findSome?_cons]
    rcases h v d (by simp) with ⟨f, e1, e2, e3⟩ | ⟨e1, v', e3⟩
    · refine .inl ⟨f, by rw [e1], ?_⟩
      rw [e3, bd_ret]
      cases f with
      | ct ρ => exact absurd rfl (e2 ρ)
      | _ => rfl
    · rw [e1, e3]
      exact for_first env enc bad ds v' fun v d hd => h v d (List.mem_cons_of_mem _ hd)
theorem findSome_zip {α β : Type} (p : α → Bool) (f : Nat → β) : ∀ (xs : List α) (k : Nat), (xs.zipIdx k).findSome? (fun q => if p q.1 = true then some (f q.2) else none) = (xs.findIdx? p).map (fun i => f (k + i))
  | [], k => rfl
  | x :: xs, k => by
    rw [List.zipIdx_cons, List.findSome?_cons, List.findIdx?_cons]
    cases e : p x with
    | true => simp
    | false =>
      simp only [Bool.false_eq_true, if_false]
      rw [findSome_zip p f xs (k + 1), Option.map_map]
      congr 1
      funext i
      simp only [Function.comp]
      congr 1
      omega
theorem enumD_zip (xs : List Dt) : enumD xs = xs.zipIdx.map fun q => PyData.tuple [.int (q.2 : Int), q.1] := by
  unfold enumD
  rw [List.mapIdx_eq_zipIdx_map]
theorem lcT_nil {g : XG} {xt : XB} {te : XT} {ρ : Nv} {acc : List Dt} : lcT g xt te ρ [] acc = .ret acc := rfl
theorem lcT_cons {g : XG} {xt : XB} {te : XT} {ρ : Nv} {d : Dt} {ds acc : List Dt} : lcT g xt te ρ (d :: ds) acc = bd (ofO (g d ρ)) fun ρ1 => bx (xt ρ1) (fun b => if b = true then bx (te ρ1) (fun y => if acc.length < sizeLine then lcT g xt te ρ ds (acc ++ [y]) else .fail) fun _ => .fail else lcT g xt te ρ ds acc) fun _ => .fail := rfl
/-- a display by a for: each item makes one -/
theorem lc_map {δ : Type} {g : XG} {te : XT} {ρ : Nv} (enc : δ → Dt) (f : δ → Dt) : ∀ (ds : List δ) (acc : List Dt), acc.length + ds.length ≤ sizeLine → (∀ d ∈ ds, bd (ofO (g (enc d) ρ)) te = .ret (f d)) → lcT g xYes te ρ (ds.map enc) acc = .ret (acc ++ ds.map f)
  | [], acc, _, _ => by simp [lcT_nil]
  | d :: ds, acc, hl, h => by
    have h1 := h d (by simp)
    rw [List.length_cons] at hl
    have ih := lc_map (te := te) enc f ds (acc ++ [f d]) (by simp only [List.length_append, List.length_cons, List.length_nil]; omega) (fun d hd => h d (List.mem_cons_of_mem _ hd))
    rw [List.map_cons, lcT_cons]
    cases e : g (enc d) ρ with
    | none => rw [e] at h1; cases h1
    | some ρ1 =>
      rw [e] at h1
      simp only [ofO_some, bd_ret] at h1 ⊢
      simp only [xYes, bx_ret, h1, if_true]
      rw [if_pos (by omega), ih]
      simp
/-- with a test -/
theorem lc_filter {δ : Type} {g : XG} {xt : XB} {te : XT} {ρ : Nv} (enc : δ → Dt) (c : δ → Bool) (f : δ → Dt) : ∀ (ds : List δ) (acc : List Dt), acc.length + ds.length ≤ sizeLine → (∀ d ∈ ds, bd (ofO (g (enc d) ρ)) xt = .ret (c d)) → (∀ d ∈ ds, c d = true → bd (ofO (g (enc d) ρ)) te = .ret (f d)) → lcT g xt te ρ (ds.map enc) acc = .ret (acc ++ (ds.filter c).map f)
  | [], acc, _, _, _ => by simp [lcT_nil]
  | d :: ds, acc, hl, h, h' => by
    have h1 := h d (by simp)
    have h2 := h' d (by simp)
    rw [List.length_cons] at hl
    have ih := fun acc hl => lc_filter (te := te) enc c f ds acc hl (fun d hd => h d (List.mem_cons_of_mem _ hd)) (fun d hd => h' d (List.mem_cons_of_mem _ hd))
    rw [List.map_cons, lcT_cons]
    cases e : g (enc d) ρ with
    | none => rw [e] at h1; cases h1
    | some ρ1 =>
      rw [e] at h1 h2
      simp only [ofO_some, bd_ret] at h1 h2 ⊢
      simp only [h1, bx_ret]
      cases hc : c d with
      | true =>
        simp only [h2 hc, bx_ret, if_true]
        rw [if_pos (by omega), ih _ (by simp only [List.length_append, List.length_cons, List.length_nil]; omega)]
        simp [hc]
      | false =>
        simp only [Bool.false_eq_true, if_false]
        rw [ih _ (by omega)]
        simp [hc]
end VL


set_option maxRecDepth 100000
set_option maxHeartbeats 2000000
namespace VL
open PySem PySem.Spec PyProof.Rows L2
/-! ### drawn things: at most k draws, then P -/
def Dr {α : Type} (k : Nat) (t : T α) (P : α → Prop) : Prop := ∀ n Q E, n + k ≤ 1000000000000 → (∀ a n', P a → n' ≤ n + k → Q a n') → sat t n Q E
section
variable {α β : Type} {k j : Nat} {P : α → Prop} {R : β → Prop}
theorem Dr.ret {a : α} (h : P a) : Dr k (.ret a) P := fun n Q E _ hq => hq a n h (by omega)
theorem Dr.mono {t : T α} {P' : α → Prop} (h : Dr k t P) (hk : k ≤ j) (hp : ∀ a, P a → P' a) : Dr j t P' := fun n Q E hn hq => h n Q E (by omega) fun a n' ha hn' => hq a n' (hp a ha) (by omega)
theorem Dr.le {t : T α} (h : Dr k t P) (hk : k ≤ j) : Dr j t P := h.mono hk fun _ q => q
theorem Dr.draw {m : Int} {f : Int → T α} (h0 : 0 < m) (h1 : m < 1073741824) (h : ∀ r, 0 ≤ r → r < m → Dr k (f r) P) : Dr (k + 1) (.draw m f) P := fun n Q E hn hq => ⟨h0, h1, by omega, fun r r0 r1 => h r r0 r1 (n + 1) Q E (by omega) fun a n' ha hn' => hq a n' ha (by omega)⟩
theorem Dr.bx {t : T α} {f : α → T β} {g : Exc → T β} (h : Dr k t P) (hf : ∀ a, P a → Dr j (f a) R) : Dr (k + j) (VL.bx t f g) R := fun n Q E hn hq => sat_bx.mpr (h n _ _ (by omega) fun a n' ha hn' => hf a ha n' Q E (by omega) fun b n2 hb hn2 => hq b n2 hb (by omega))
theorem Dr.bd {t : T α} {f : α → T β} (h : Dr k t P) (hf : ∀ a, P a → Dr j (f a) R) : Dr (k + j) (VL.bd t f) R := h.bx hf
theorem Dr.exS {t : T α} {ρ : Nv} {f : α → T Fl} {R : Fl → Prop} (h : Dr k t P) (hf : ∀ a, P a → Dr j (f a) R) : Dr (k + j) (VL.exS t ρ f) R := h.bx hf
/-- a statement, then the others -/
theorem Dr.seq {t u : XS} {ρ : Nv} {J : Nv → Prop} {R : Fl → Prop} (k j : Nat) (h : Dr k (t ρ) (fun f => ∃ ρ', f = .nx ρ' ∧ J ρ')) (hu : ∀ ρ', J ρ' → Dr j (u ρ') R) : Dr (k + j) (xSeq t u ρ) R := by
  unfold xSeq
  refine Dr.bd h fun f hf => ?_
  obtain ⟨ρ', rfl, hJ⟩ := hf
  exact hu ρ' hJ
/-- a statement whose end is known -/
theorem Dr.step {t u : XS} {ρ ρ' : Nv} {R : Fl → Prop} (e : t ρ = .ret (.nx ρ')) (hu : Dr k (u ρ') R) : Dr k (xSeq t u ρ) R := by
  unfold xSeq
  rw [e, bd_ret]
  exact hu
/-- a loop -/
theorem Dr.forT {g : XG} {tb : XS} {R : Fl → Prop} (J : List Dt → Nv → Prop) (h0 : ∀ ρ, J [] ρ → R (.nx ρ)) (h : ∀ d ds ρ, J (d :: ds) ρ → ∃ ρ1, g d ρ = some ρ1 ∧ Dr k (tb ρ1) (fun f => (∃ ρ', (f = .nx ρ' ∨ f = .ct ρ') ∧ J ds ρ') ∨ (∃ w, f = .rt w ∧ R (.rt w)) ∨ (∃ ρ', f = .bk ρ' ∧ R (.nx ρ')))) :
    ∀ (ds : List Dt) (ρ : Nv), J ds ρ → Dr (k * ds.length) (VL.forT g tb ds ρ) R
  | [], ρ, hJ => Dr.ret (h0 ρ hJ)
  | d :: ds, ρ, hJ => by
    obtain ⟨ρ1, e, q⟩ := h d ds ρ hJ
    rw [forT_cons, e, ofO_some, bd_ret, List.length_cons, Nat.mul_add, Nat.mul_one, Nat.add_comm]
    refine Dr.bd q fun f hf => ?_
    rcases hf with ⟨ρ', rfl | rfl, hJ'⟩ | ⟨w, rfl, hw⟩ | ⟨ρ', rfl, hw⟩
    · exact Dr.forT J h0 h ds ρ' hJ'
    · exact Dr.forT J h0 h ds ρ' hJ'
    · exact Dr.ret hw
    · exact Dr.ret hw
/-- a list that is drawn item by item -/
theorem Dr.lcT {g : XG} {te : XT} {ρ : Nv} {R : Dt → Prop} : ∀ (ds acc : List Dt), acc.length + ds.length ≤ sizeLine → (∀ d ∈ ds, ∃ ρ1, g d ρ = some ρ1 ∧ Dr k (te ρ1) R) → Dr (k * ds.length) (VL.lcT g xYes te ρ ds acc) (fun ys => ∃ zs, ys = acc ++ zs ∧ zs.length = ds.length ∧ ∀ z ∈ zs, R z)
  | [], acc, _, _ => Dr.ret ⟨[], by simp, rfl, by simp⟩
  | d :: ds, acc, hl, h => by
    obtain ⟨ρ1, e, q⟩ := h d (by simp)
    rw [List.length_cons] at hl
    rw [lcT_cons, e, ofO_some, bd_ret, List.length_cons, Nat.mul_add, Nat.mul_one, Nat.add_comm]
    simp only [xYes, bx_ret, if_true]
    refine Dr.bx q fun y hy => ?_
    rw [if_pos (by omega)]
    refine (Dr.lcT ds (acc ++ [y]) (by simp only [List.length_append, List.length_cons, List.length_nil]; omega) fun d hd => h d (List.mem_cons_of_mem _ hd)).mono (Nat.le_refl _) fun ys hys => ?_
    obtain ⟨zs, rfl, h1, h2⟩ := hys
    exact ⟨y :: zs, by simp, by simp [h1], fun z hz => by
      rcases List.mem_cons.mp hz with rfl | hz
      · exact hy
      · exact h2 z hz⟩
/-- a list of what is drawn, as such -/
theorem ints_of {R : Int → Prop} : ∀ {zs : List Dt}, (∀ z ∈ zs, ∃ i, z = .int i ∧ R i) → ∃ ns : List Int, zs = ns.map .int ∧ ∀ i ∈ ns, R i
  | [], _ => ⟨[], rfl, by simp⟩
  | z :: zs, h => by
    obtain ⟨i, rfl, hi⟩ := h z (by simp)
    obtain ⟨ns, rfl, hn⟩ := ints_of (zs := zs) fun z hz => h z (List.mem_cons_of_mem _ hz)
    exact ⟨i :: ns, rfl, fun j hj => by
      rcases List.mem_cons.mp hj with rfl | hj
      · exact hi
      · exact hn j hj⟩
/-- a call of a def that draws -/
theorem Dr.call {c : XFn} {ws : List W} {R : Dt → Prop} (h : Dr k (c ws) (fun w => ∃ d, w = .dat d ∧ R d)) : Dr k (VL.bd (c ws) rOfT) R := by
  have := Dr.bd (j := 0) (R := R) h (f := rOfT) fun w hw => by
    obtain ⟨d, rfl, hd⟩ := hw
    exact Dr.ret hd
  exact this
/-- a def's body -/
theorem Dr.body {m a : Nat} {t : XS} {ws : List W} {R : W → Prop} (hl : ws.length = a) (h : Dr k (t (startE m ws)) (fun f => ∃ w, f = .rt w ∧ R w)) : Dr k (bodyX m a t ws) R := by
  unfold bodyX
  rw [if_pos hl]
  have := Dr.bx (j := 0) (R := R) h (f := fnE) (g := fun _ => .fail) fun f hf => by
    obtain ⟨w, rfl, hw⟩ := hf
    exact Dr.ret hw
  exact this
/-- the law -/
theorem Dr.law {t : XS} {ρ : Nv} (h : Dr k (t ρ) (fun f => f = .rt (.dat (.bool true)))) (hk : k ≤ 1000000000000) : SS t lawEnd ρ 0 := h 0 _ _ (by omega) fun f n' hf _ => by subst hf; rfl
end
/-! small facts -/
theorem pRep2 {d : Dt} : pRep (.list [d]) (.int 2) = some (.list [d, d]) := pRep_l (xs := [d]) (k := 2) (by decide) (by decide) (by simp [sizeL])
theorem pRep3 {d : Dt} : pRep (.list [d]) (.int 3) = some (.list [d, d, d]) := pRep_l (xs := [d]) (k := 3) (by decide) (by decide) (by simp [sizeL])
theorem pRep4 {d : Dt} : pRep (.list [d]) (.int 4) = some (.list [d, d, d, d]) := pRep_l (xs := [d]) (k := 4) (by decide) (by decide) (by simp [sizeL])
theorem pRepT1 {d : Dt} {k : Int} (h0 : 0 ≤ k) (h1 : k ≤ 4000) : pRepT (.tuple [d]) (.int k) = some (.tuple (List.replicate k.toNat d)) := by rw [pRepT_t h0 h1 (by simp)]; simp
theorem pNe_self {dp : Nat} {d : Dt} (h : Shp dp d) (hd : dp ≤ 64) (hp : plainD d = true) : pNe d d = some (.bool false) := by rw [pNe_of h h hd, eqv_self hp]; rfl
theorem pEq_self {dp : Nat} {d : Dt} (h : Shp dp d) (hd : dp ≤ 64) (hp : plainD d = true) : pEq d d = some (.bool true) := by rw [pEq_of h h hd, eqv_self hp]
theorem Shp.str {dp : Nat} {s : Str} (h : PyData.canLay0 (.str s) = true) : Shp dp (.str s) := ⟨h, by simp [PyData.depth]⟩
theorem at5 {α : Type} {a b c d e f : α} {l : List α} : atI (a :: b :: c :: d :: e :: f :: l) 5 = some f := atI_nat (j := 5) rfl
theorem at6 {α : Type} {a b c d e f g : α} {l : List α} : atI (a :: b :: c :: d :: e :: f :: g :: l) 6 = some g := atI_nat (j := 6) rfl
theorem at7 {α : Type} {a b c d e f g h : α} {l : List α} : atI (a :: b :: c :: d :: e :: f :: g :: h :: l) 7 = some h := atI_nat (j := 7) rfl
theorem find_first {p : Dt → Bool} {pre post : List Dt} {o : Dt} (hp : ∀ x ∈ pre, p x = false) (ho : p o = true) : (pre ++ o :: post).findIdx? p = some pre.length := by
  induction pre with
  | nil => simp [List.findIdx?_cons, ho]
  | cons x pre ih =>
    rw [List.cons_append, List.findIdx?_cons, hp x (by simp), ih fun x hx => hp x (List.mem_cons_of_mem _ hx)]
    simp
theorem reprNe {w dp : Nat} {d : Dt} (a : Sh w dp d) (h : w ≤ 2 ^ 20) (h2 : dp ≤ 60) {ρ : Nv} {ta tb : XT} (e1 : ta ρ = .ret d) (e2 : tb ρ = .ret d) : xOp pNe (xCB pRepr (xCons ta xNil)) (xCB pRepr (xCons tb xNil)) ρ = .ret (.bool false) := by
  simp only [xOp, opK, opK2, xCB, cbK, xCons, consK, consK2, xNil, e1, e2, bd_ret, pRepr_of a h h2, ofO_some, pNeS, beq_self_eq_true, Bool.not_true]
end VL


set_option maxRecDepth 100000
set_option maxHeartbeats 4000000
/-! ### errors straight under OverflowError or LookupError, with one field -/
namespace PySem.OEG
open PySem PySem.W PySem.Calls PyProof.Rows PySem.HandSPX
section
open Builtin Builtin.ObjectAttr
variable {prog : Program} {w : World} {A : Around} {R : Result → Shared → Prop} {hp : Heap} {g : Array GenState} {d : Drawn} {t : Nat} {os : OsState}
/-- the first field of an exception over B -/
theorem osa_first {K : W.Frag} {B : String} {bmB : List Value} {name : Str} {tk : Tok} {v : Value} {x C : Addr} {fv : Array Value} {cd : ClassData} (SF : StoreFacts B bmB "object.__setattr__" "object")
    (X : K.In hp) (hx : hp.get? x = some { cls := .ref C, data := .fields fv }) (ho : W.excOver K C bmB = true) (hcd : W.clsIn K C = some cd) (hh : cd.hasDict = true) (ht : W.takerIn K C name = some none)
    (hq : ∀ h' tk' dx, (∀ b o, b ≠ x → hp.get? b = some o → h'.get? b = some o) → hp.objs.size ≤ dx → dx ≠ x → h'.get? x = some { cls := .ref C, dict := some dx, data := .fields fv } → h'.Ns1 dx (fun y => if y = name then some v else none) → R (.ok (.ret .none)) ⟨h', g, d, tk', os⟩) :
    codeAny (model prog w) A (.call (.builtin "object.__setattr__") ⟨[.ref x, .str name tk, v], []⟩) R ⟨hp, g, d, t, os⟩ := by
  have apart : x ≠ hp.objs.size := Nat.ne_of_lt (Heap.lt_size hx)
  have Lc : W.Looks (model prog w) hp (classData C) cd := W.looks_clsIn X hcd
  refine W.osa_openX SF X (⟨hx, rfl, rfl, trivial⟩ : W.InstAt hp x { cls := .ref C, data := .fields fv } C none) ho ht fun b => ?_
  dsimp only
  obtain ⟨nm, bs, mro, ns, qn, hd, sn, sb, ab, col, del⟩ := cd
  cases (show hd = true from hh)
  unfold storeInOwnDict ownDictForStores
  repeat (first | with_reducible refine store_in_new ?_ ?_ | with_reducible refine wpAny_loadPart_at hx ?_ | with_reducible refine Lc.at ?_ | wp_step)
  · exact ⟨_, #[], _, (Heap.get?_update_ne _ _ _ _ apart.symm).trans (Heap.get?_push_at rfl rfl), rfl, fun e z => by simp at z, fun _ => rfl⟩
  · intro h' tk' hn' hs
    refine hq h' tk' hp.objs.size (fun b o hb z => ?_) (Nat.le_refl _) apart.symm ?_ hn'
    · exact (hs.2 b (Nat.ne_of_lt (Heap.lt_size z))).trans ((Heap.get?_update_ne _ _ _ _ hb).trans (Heap.get?_push_of_some _ z))
    · exact (hs.2 x apart).trans (Heap.get?_update_self _ (Heap.get?_push_of_some _ hx) rfl)
end
end PySem.OEG
namespace VL
open PySem PySem.Spec PyProof.Rows L2
/-- what the written part says of such a class -/
structure OexG (K : PySem.W.Frag) (C : Addr) (B newId initId : String) (bmB : List Value) : Prop where
  fb : ExcBaseFacts B newId initId bmB
  sf : StoreFacts B bmB "object.__setattr__" "object"
  ini : PySem.W.excInitIn K C bmB newId = true
  ovr : PySem.W.excOver K C bmB = true
  hd : PySem.W.hasDictIn K C = true
  sa : PySem.W.findIn K (.ref C) "__setattr__" = some (some (.builtin "object.__setattr__"))
  exC : PySem.W.subIn K (.ref C) (.type "BaseException") = some true
  tyC : PySem.W.typeIn K (.ref C) = some (.type "type")
  kC : PySem.W.keepIn K (.ref C) = true
section
variable {X : Cx} {pins : List (Addr × Obj)} {σ : L2.St} {H : Hp} {s : Shared} {a C : Addr} {f : Str} {y : V} {u : Value} {Q : Unit → Shared → Prop} {E : Value → Shared → Prop} {A : Around} {B newId initId : String} {bmB : List Value}
theorem taker_none {K : PySem.W.Frag} (h : PySem.W.findIn K (.ref C) f = some none) : PySem.W.takerIn K C f = some none := by
  unfold PySem.W.takerIn
  rw [h]
  rfl
theorem ost_first (Tg : OexG X.K C B newId initId bmB) (I : Inv X pins σ H s) (e : H a = some (exo a C none)) (hno : PySem.W.findIn X.K (.ref C) f = some none) (ry : RelV y u)
    (h : ∀ dx s', H dx = none → dx ≠ a → Inv X pins σ (L2.upd (L2.upd H dx (exd dx [(f, y)])) a (exo a C (some dx))) s' → Q () s') : wpAny (model X.prog X.w) A (setAttr (.ref a) f u) Q E s := by
  obtain ⟨cd, hcd, hh⟩ := PySem.W.any_some Tg.hd
  obtain ⟨t1, ho⟩ := exo_at I.hok e
  obtain ⟨hp, g, d, t, os⟩ := s
  refine PySem.W.set_plain I.kIn (ox := { cls := .ref C, dict := none, data := .fields #[.ref t1, .none, .none, .none, .bool false, .none] }) (od := none) ⟨ho, rfl, rfl, trivial⟩ Tg.sa ?_
  refine PySem.OEG.osa_first Tg.sf I.kIn ho Tg.ovr hcd hh (taker_none hno) fun h' tk' dx kp fresh dne hx hn => ?_
  have free : H dx = none := I.hok.fresh fresh
  have off : ∀ {b : Addr} {o : Obj}, hp.get? b = some o → b ≠ dx := fun z => Nat.ne_of_lt (Nat.lt_of_lt_of_le (Heap.lt_size z) fresh)
  have notA : ∀ {b : Addr}, H b = none → b ≠ a := fun n z => by subst z; rw [e] at n; cases n
  have grown : Un X.fs [] H (L2.upd (L2.upd H dx (exd dx [(f, y)])) a (exo a C (some dx))) hp h' :=
    { keep := fun b o z n _ _ => kp b o (notA n) z
      slot := fun b o z n _ _ => ⟨o.slots, kp b o (notA n) z⟩
      free := fun b o z n _ => (upd_ne (notA n)).trans ((upd_ne (off z)).trans n)
      there := fun b o z _ => if hb : b = a then ⟨_, hb ▸ hx⟩ else ⟨o, kp b o hb z⟩
      tups := fun b xs z => (upd_ne (at_ne e z exo_tup)).trans ((upd_ne (ne_of_none z free)).trans z)
      frzs := fun b o v z => (upd_ne (at_ne e z exo_frz)).trans ((upd_ne (ne_of_none z free)).trans z)
      tbls := fun b ps z => ⟨#[], by rw [upd_ne (at_ne e z exo_tbl), upd_ne (ne_of_none z free), z]; simp⟩ }
  refine h dx _ free dne (I.un (t' := tk') grown fun b o z => ?_)
  by_cases hb : b = a
  · cases hb
    cases upd_same.symm.trans z
    exact exo_ok hx
  · rw [upd_ne hb] at z
    by_cases hd : b = dx
    · cases hd
      cases upd_same.symm.trans z
      exact exd_ok hn (relO_put (fs := []) ry fun _ => trivial)
    · rw [upd_ne hd] at z
      refine (I.hok b o z).stay (fun c v hc q => kp c v ?_ q) (fun c hc => (upd_ne (at_ne e hc exo_own)).trans ((upd_ne (ne_of_none hc free)).trans hc)) (fun c xs hc => (upd_ne (at_ne e hc exo_tup)).trans ((upd_ne (ne_of_none hc free)).trans hc))
      rcases hc with hc | hc
      · exact hc ▸ hb
      · exact at_ne e hc exo_own
end
/-- self.f = e, in such a class's __init__ -/
def tOs1 (K : PySem.W.Frag) (B newId initId : String) (bmB : List Value) (f : Str) (to te : TE) : TS := fun D σ H => te σ H fun y H1 => to σ H1 fun x H2 => ∃ a C : Addr, x = .ref a ∧ OexG K C B newId initId bmB ∧ PySem.W.findIn K (.ref C) f = some none ∧ H2 a = some (exo a C none) ∧
  ∀ dx, H2 dx = none → dx ≠ a → D.nx σ (L2.upd (L2.upd H2 dx (exd dx [(f, y)])) a (exo a C (some dx)))
section
variable {X : Cx} {U : WX} {o e : Expr} {es : List Expr} {to te : TE} {ta : TA} {f : Str} {p p' p1 p2 pos : Pos} {B newId initId : String} {bmB : List Value}
theorem ps_os1 (ho : PE X o to) (he : PE X e te) (hs : swapsWith e (some (.Attribute o f p')) pos.line X.env = pure false := by rfl) : PS X (.Assign [.Attribute o f p'] e pos) (tOs1 X.K B newId initId bmB f to te) := by
  constructor
  intro pins s σ H D I h
  refine plainObj_wpAny_Assign_Attribute (thn (he.run pins s σ H _ I h) fun v s1 ⟨y, H1, I1, r1, q1⟩ => thn (ho.run pins s1 σ H1 _ I1 q1) fun w s2 ⟨x, H2, I2, r2, a, C, ex, Tg, hno, ea, q⟩ => ?_) hs
  cases ex
  cases r2
  exact ost_first Tg I2 ea hno r1 fun dx s' n ne J => ⟨σ, _, J, q dx n ne⟩
theorem pmk_one {CX : CXT} {x : Str} {C fI : Addr} {k : Nat} {fd : FuncData} {ps : List Str} {sp : Sp} {ds : List Value} {dvs : List V} (hd : Vals dvs ds) (Tg : OexG X.K C B newId initId bmB) (iC : PySem.W.findIn X.K (.ref C) "__init__" = some (some (.ref fI))) (tI : PySem.W.typeIn X.K (.ref fI) = some (.type "function"))
    (F1 : FnOk X.prog X.w X.K X.mg X.base CX k fI fd ps sp) (hr : Room (k + 1) X.A) (hb : Binds X.K fd ps ds) (hx : Passes CX X (fun _ _ _ => False)) (hg : Gl X x) (hm : X.mg x = some (.ref C)) (ha : PA X (e :: es) ta)
    (hdb : (x == ("__debug__" : Str)) = false := by decide) (he : starEach (e :: es) X.env = (false, eval e X.env) :: starEach es X.env := by rfl) (hpl : (backTo pos (starEach es X.env)).any (·.1) = false := by rfl) :
    PMk X (.Call (.Name x p) (e :: es) [] pos) (tMkO C sp dvs ta) := by
  intro pins s σ H Q I h
  refine wpAny_Call_Name_kw (ld_glob I hg hm (PySem.W.callWith_K (h₀ := X.base) I.ok.mod.kin Tg.kC (thn (ha.run pos pins s σ H _ I h) fun us s1 ⟨vs, H1, I1, r1, hz, q1⟩ => ⟨I1.kIn, ?_⟩) he hpl) hdb)
  show wpAny _ _ (call (.ref C) us) _ _ _
  obtain ⟨hp, g, dr, tk, os⟩ := s1
  obtain ⟨nm, N, qn, bs, bm, hdct, sn, sub, ab, col, dd, k0, k1, k2, k3, k5, hC, hT⟩ := PySem.W.excInit_of I1.kIn Tg.ini
  have big : hp.objs.size ≤ (hp.objs.size + 1) := Nat.le_succ _
  have hq := q1 (hp.objs.size + 1) (I1.hok.fresh big)
  have kept : ∀ b o, hp.get? b = some o → ((hp.push (PySem.W.kdv_tup us)).push (PySem.HandSPX.excO C hp.objs.size)).get? b = some o := fun b o z => Heap.get?_push_of_some _ (Heap.get?_push_of_some _ z)
  have there : ((hp.push (PySem.W.kdv_tup us)).push (PySem.HandSPX.excO C hp.objs.size)).get? (hp.objs.size + 1) = some (PySem.HandSPX.excO C hp.objs.size) := by heap_get
  have I2 : Inv X pins σ (L2.upd H1 (hp.objs.size + 1) (exo (hp.objs.size + 1) C none)) ⟨((hp.push (PySem.W.kdv_tup us)).push (PySem.HandSPX.excO C hp.objs.size)), g, dr, tk, os⟩ := I1.laid (t' := tk) (a := (hp.objs.size + 1)) (o := exo (hp.objs.size + 1) C none) (h' := ((hp.push (PySem.W.kdv_tup us)).push (PySem.HandSPX.excO C hp.objs.size))) kept big (exo_ok there)
  have r2 : Vals (V.ref (hp.objs.size + 1) :: (vs ++ dvs)) (Value.ref (hp.objs.size + 1) :: (us ++ ds)) := .cons rfl (r1.append hd)
  have hl : (Value.ref (hp.objs.size + 1) :: us ++ ds).length = ps.length := r2.length.symm.trans (F1.len _ _ _ _ hq)
  have hus : us.length ≤ sizeLine := by
    have := Paired.length r1
    rw [sizeLine_eq]
    omega
  refine wpAny_call (PySem.HandSPX.call_own Tg.fb hT hC (PySem.W.looks_findIn I1.kIn iC) (fun self => PySem.W.bind_fn I1.kIn self tI) hus (codeAny_mono (F1.run _ X.stack _ _ ⟨Value.ref (hp.objs.size + 1) :: us, []⟩ (Value.ref (hp.objs.size + 1) :: (us ++ ds)) _ _ (fun _ _ _ => False) (hr.make C us []) (I2.env0.make C us []) (hb _ (Value.ref (hp.objs.size + 1) :: us) I2.kIn hl) r2 hq) fun r s' z => ?_))
  rcases r with er | fl
  · exact hx pins σ _ _ er s' I2 z
  · cases fl with
    | ret v =>
      obtain ⟨v, H2, os2, bare2, un2, hok2, rv, ev, d, fs, ea, ed, hd1, q2⟩ := z
      cases ev
      obtain ⟨h2, g2, d2, t2, os'⟩ := s'
      exact ⟨rv, mk_end (raises_own Tg.exC Tg.tyC) I1 big kept un2 hok2 os2 bare2 ea ed hd1 q2⟩
    | next => exact z.elim
    | brk => exact z.elim
    | cont => exact z.elim
end
/-- what such an __init__ does -/
def spOne (K : PySem.W.Frag) (B newId initId : String) (bmB : List Value) (f : Str) : Sp := fun vs H Q _ => ∃ (a C : Addr) (y : V), vs = [.ref a, y] ∧ OexG K C B newId initId bmB ∧ PySem.W.findIn K (.ref C) f = some none ∧ H a = some (exo a C none) ∧
  ∀ dx, H dx = none → dx ≠ a → Q .non (L2.upd (L2.upd H dx (exd dx [(f, y)])) a (exo a C (some dx)))
structure RzG (P : Program) (w : World) (K : PySem.W.Frag) (mg : Str → Option Value) (base : Heap) (B newId initId : String) (bmB : List Value) (x f : Str) : Prop where
  cls : OexG K (He.ga K x) B newId initId bmB
  g : mg x = some (.ref (He.ga K x))
  no1 : PySem.W.findIn K (.ref (He.ga K x)) f = some none
  ini : ∃ (fI : Addr) (fd : FuncData) (ps : List Str), PySem.W.findIn K (.ref (He.ga K x)) "__init__" = some (some (.ref fI)) ∧ PySem.W.typeIn K (.ref fI) = some (.type "function") ∧ FnOk P w K mg base (L2.CX P w) 1 fI fd ps (spOne K B newId initId bmB f) ∧ Binds K fd ps []
theorem RzG.no {P : Program} {w : World} {K : PySem.W.Frag} {mg : Str → Option Value} {base : Heap} {B newId initId : String} {bmB : List Value} {x f : Str} (R : RzG P w K mg base B newId initId bmB x f) : ∀ g ∈ [f], PySem.W.findIn K (.ref (He.ga K x)) g = some none := fun g hg => by
  rw [List.mem_singleton] at hg
  subst hg
  exact R.no1
section
variable {X : Cx} {U : WX} {e : Expr} {es : List Expr} {al : XA} {p p2 pos : Pos} {B newId initId : String} {bmB : List Value}
theorem xs_raiseG {x f : Str} (hc : X.calm = true) (tk : Takes X U) (R : RzG X.prog X.w X.K X.mg X.base B newId initId bmB x f) (hr : Room 2 X.A) (hx : Passes (L2.CX X.prog X.w) X (fun _ _ _ => False)) (hg : Gl X x) (ha : VAa X U (e :: es) (S al))
    (hdb : (x == ("__debug__" : Str)) = false := by decide) (he : starEach (e :: es) X.env = (false, eval e X.env) :: starEach es X.env := by rfl) (hpl : (backTo p2 (starEach es X.env)).any (·.1) = false := by rfl) :
    VS X U (.Raise (some (.Call (.Name x p) (e :: es) [] p2)) none pos) (SS (xRaise x [f] al)) := by
  obtain ⟨fI, fd, ps, h1, h2, F, Bi⟩ := R.ini
  refine ps_imp (ps_raise hc tk (pmk_one .nil R.cls h1 h2 F hr Bi hx hg R.g ha hdb he hpl)) fun D σ H ⟨C, ρ, n, G, O, V, I, h, L⟩ => ?_
  refine ⟨C, ρ, n, G, O, _, _, I, satX h fun ds n' q => sat_guard (Q := flV V) q, fun ds n' ⟨q0, q⟩ vs G' O' H' I' s' r => ⟨by rw [DRs.length r]; exact q0.2, fun a ha => ?_⟩, L.lkx σ ρ⟩
  match ds, vs, r, q0 with
  | [d1], [y], .cons rd .nil, _ =>
    refine ⟨a, He.ga X.K x, y, rfl, R.cls, R.no1, upd_same, fun dx hdx hne => ⟨rfl, dx, [(f, y)], upd_same, by rw [upd_ne hne, upd_same], by rw [upd_ne hne] at hdx; exact hdx, ?_⟩⟩
    rw [upd_ne hne] at hdx
    have eH : L2.upd (L2.del (L2.upd (L2.upd (L2.upd H' a (exo a (He.ga X.K x) none)) dx (exd dx [(f, y)])) a (exo a (He.ga X.K x) (some dx))) a) dx (.xd [(f, y)]) = L2.upd H' dx (.xd [(f, y)]) := by
      funext b
      by_cases b1 : b = dx
      · subst b1; rw [upd_same, upd_same]
      · rw [upd_ne b1, upd_ne b1]
        by_cases b2 : b = a
        · subst b2; rw [L2.del_same]; exact ha.symm
        · rw [L2.del_ne b2, upd_ne b2, upd_ne b1, upd_ne b2]
    rw [eH]
    have J := I'.new (o := .xd [(f, y)]) hdx
    refine L.lkx σ ρ _ n' q _ _ _ _ _ J ⟨rfl, dx, [(f, y)], rfl, upd_same, fun g dv ef => ?_⟩
    have ef : ([(f, d1)] : List (Str × Dt)).lookup g = some dv := ef
    rw [List.lookup_cons] at ef ⊢
    cases hgf : g == f with
    | true => rw [hgf] at ef; cases ef; exact ⟨y, rfl, DR.same (In.newSame (o := .xd [(f, y)]) I'.toIo hdx) rd⟩
    | false => rw [hgf] at ef; cases ef
end
abbrev oeT : List Value := [.type "OverflowError", .type "ArithmeticError", .type "Exception", .type "BaseException", .type "object"]
abbrev leT : List Value := [.type "LookupError", .type "Exception", .type "BaseException", .type "object"]
def oegB (K : PySem.W.Frag) (C : Addr) (newId : String) (bmB : List Value) : Bool := PySem.W.excInitIn K C bmB newId && (PySem.W.excOver K C bmB && (PySem.W.hasDictIn K C && (decide (PySem.W.findIn K (.ref C) "__setattr__" = some (some (.builtin "object.__setattr__"))) &&
  (decide (PySem.W.subIn K (.ref C) (.type "BaseException") = some true) && (decide (PySem.W.typeIn K (.ref C) = some (.type "type")) && PySem.W.keepIn K (.ref C))))))
theorem oegB_ok {K : PySem.W.Frag} {C : Addr} {B newId initId : String} {bmB : List Value} (fb : ExcBaseFacts B newId initId bmB) (sf : StoreFacts B bmB "object.__setattr__" "object") (h : oegB K C newId bmB = true) : OexG K C B newId initId bmB := by
  unfold oegB at h
  simp only [Bool.and_eq_true, decide_eq_true_eq] at h
  obtain ⟨h1, h2, h3, h4, h5, h6, h7⟩ := h
  exact ⟨fb, sf, h1, h2, h3, h4, h5, h6, h7⟩
def rgB (K : PySem.W.Frag) (x f : Str) (newId : String) (bmB : List Value) : Bool := oegB K (He.ga K x) newId bmB && (decide (PySem.W.findIn K (.ref (He.ga K x)) f = some none) && (decide (PySem.W.findIn K (.ref (He.ga K x)) "__init__" = some (some (.ref (iA K x)))) && decide (PySem.W.typeIn K (.ref (iA K x)) = some (.type "function"))))
theorem rg_of {P : Program} {w : World} {K : PySem.W.Frag} {mg : Str → Option Value} {base : Heap} {B newId initId : String} {bmB : List Value} {x f : Str} (fb : ExcBaseFacts B newId initId bmB) (sf : StoreFacts B bmB "object.__setattr__" "object") (h : rgB K x f newId bmB = true) (g : mg x = some (.ref (He.ga K x)))
    {fd : FuncData} {ps : List Str} (F : OexG K (He.ga K x) B newId initId bmB → FnOk P w K mg base (L2.CX P w) 1 (iA K x) fd ps (spOne K B newId initId bmB f)) (Bi : Binds K fd ps []) : RzG P w K mg base B newId initId bmB x f := by
  unfold rgB at h
  simp only [Bool.and_eq_true, decide_eq_true_eq] at h
  obtain ⟨h0, h1, h2, h3⟩ := h
  have c := oegB_ok fb sf h0
  exact ⟨c, g, h1, _, _, _, h2, h3, F c, Bi⟩
theorem one_read {K : PySem.W.Frag} {f : Str} {H : Hp} {B newId initId : String} {bmB : List Value} {vs : List V} {Q : VK} {E : XK} (h : spOne K B newId initId bmB f vs H Q E) : ∃ a y, vs = [.ref a, y] ∧ ∀ σ : L2.St, σ[0]? = some (some (.ref a)) → σ[1]? = some (some y) → ∀ D : Ends, (∀ σ' H', Q .non H' → D.nx σ' H') → tOs1 K B newId initId bmB f (tVar 0) (tVar 1) D σ H := by
  obtain ⟨a, C, y, rfl, Tg, no, ha, q⟩ := h
  exact ⟨a, y, rfl, fun σ e0 e1 D hD => ⟨y, e1, .ref a, e0, a, C, rfl, Tg, no, ha, fun dx hdx hne => hD _ _ (q dx hdx hne)⟩⟩
end VL


set_option maxRecDepth 100000
set_option maxHeartbeats 2000000
namespace VL
open PySem PySem.Spec PyProof.Rows L2
/-! ### list displays by two fors -/
theorem inner_lc {K : PySem.W.Frag} {C : Ct} {σ : L2.St} {ρ : Nv} {D : Addr} (hD0 : C.H0 D = none) (gD0 : C.G0 D = none) {vs1 : List Nat} {gh1 : TG} {g1 : VGt} {xt1 : VB} {te : VT} {J1 : It} {G1 : Hp} {ds1 : List Dt} (pg : PairG K vs1 gh1 g1) (w : WalkD K J1 G1 ds1) (no : noOwn ρ vs1)
    (Qe : List Dt → Nat → Prop) (Nx : Hp → Prop) (fin : ∀ acc' n' G' O' H' xs', Qe acc' n' → In K C σ ρ n' G' O' H' → Same G1 G' → G' D = none → O' D = some (.lst xs') → DRs K G' xs' acc' → Nx H')
    {acc : List Dt} {n : Nat} {O H : Hp} {xs : List V} (I : In K C σ ρ n G1 O H) (gD : G1 D = none) (oD : O D = some (.lst xs)) (r : DRs K G1 xs acc) (fr : ∀ (j : Nat) (es : List Dt), ρ[j]? = some (some (.own es)) → σ[j]? ≠ some (some (.ref D))) (q : vLcL g1 xt1 te (wipeE ρ vs1) Qe ds1 acc n) :
    ∃ W1 : Nat → Nat → Hp → Prop, (∃ m, W1 0 m H) ∧ ∀ j k H, W1 j k H → (J1.stop j H ∧ Nx H) ∨ (J1.go j H ∧ ∃ Nx1 : Hp → Prop, (∀ H', Nx1 H' → ∃ k', k' < k ∧ W1 (j + 1) k' H') ∧ ∀ x H', J1.yld j H x H' → gh1 x (wipe σ vs1) H' fun σ3 H5 => wipe σ3 vs1 = wipe σ vs1 ∧
      upB K U0 xt1 σ3 H5 fun b H6 => if b = true then up K U0 te σ3 H6 fun y H7 => ∃ acc, H7 D = some (.lst acc) ∧ acc.length < sizeLine ∧ Nx1 (L2.upd H7 D (.lst (acc ++ [y]))) else Nx1 H6) := by
  refine ⟨fun i m H' => ∃ acc n2 G2 O2 xs, In K C σ ρ n2 G2 O2 H' ∧ Same G1 G2 ∧ i ≤ ds1.length ∧ m = ds1.length - i ∧ G2 D = none ∧ O2 D = some (.lst xs) ∧ DRs K G2 xs acc ∧ vLcL g1 xt1 te (wipeE ρ vs1) Qe (ds1.drop i) acc n2,
    ⟨_, acc, n, G1, O, xs, I, Same.refl _, Nat.zero_le _, rfl, gD, oD, r, q⟩, ?_⟩
  rintro i m H2 ⟨acc, n2, G2, O2, xs, J2, s2, hi, rfl, gD, oD, r2, q2⟩
  by_cases hlt : i < ds1.length
  · refine .inr ⟨w.go i H2 (s2.trans J2.gH) hlt, fun H' => ∃ acc n2 G2 O2 xs, In K C σ ρ n2 G2 O2 H' ∧ Same G1 G2 ∧ G2 D = none ∧ O2 D = some (.lst xs) ∧ DRs K G2 xs acc ∧ vLcL g1 xt1 te (wipeE ρ vs1) Qe (ds1.drop (i + 1)) acc n2, ?_, fun x H3 y => ?_⟩
    · rintro H' ⟨acc', n3, G3, O3, xs', J3, s3, g3, o3, r3, q3⟩
      exact ⟨ds1.length - (i + 1), by omega, acc', n3, G3, O3, xs', J3, s3, hlt, rfl, g3, o3, r3, q3⟩
    · have ed : ds1[i]? = some ds1[i] := by simp [hlt]
      obtain ⟨G4, sh, sg, sgh, nw, rd⟩ := w.yld i H2 x H3 G2 ds1[i] s2 J2.gH y ed
      have J4 := J2.pure sh sg sgh nw
      have g4 : G4 D = none := by
        cases q : G4 D with
        | none => rfl
        | some u =>
          rcases nw D u q with z | z
          · rw [gD] at z; cases z
          · rw [J2.oH _ _ oD] at z; cases z
      have o4 : grow O2 H2 H3 D = some (.lst xs) := grow_same J2.oH _ _ oD
      have J5 := ((J4.hide g4 hD0 o4 fr).to (G1 := G4) (Same.refl _) (J4.g0)).wipe vs1
      rw [List.drop_eq_getElem_cons hlt] at q2
      refine pg x _ H3 _ _ _ _ _ _ ds1[i] _ J5 rd q2 fun ρ6 q6 e6 σ6 J6 w6 => ?_
      have eS : wipe σ6 vs1 = wipe σ vs1 := w6.trans (wipe_idem σ vs1 vs1 fun _ h => h)
      have eW : wipeE ρ6 vs1 = wipeE ρ vs1 := e6.trans (wipeE_idem ρ vs1 vs1 fun _ h => h)
      refine ⟨eS, ?_⟩
      have back : ∀ {n' : Nat} {G' O' H' : Hp}, In K ((C.hide D xs).at G4) σ6 ρ6 n' G' O' H' → In K C σ ρ n' G' O' H' ∧ O' D = some (.lst xs) ∧ G' D = none ∧ Same G4 G' := fun {n' G' O' H'} J7 => by
        have nb : New C.G0 (L2.upd C.H0 D (.lst xs)) G4 := by
          intro a o e
          have hD' : a ≠ D := ne_of_none e g4
          rcases J4.nG a o e with z | z
          · exact .inl z
          · exact .inr (by rw [upd_ne hD']; exact z)
        obtain ⟨b1, b2, b3, _⟩ := (J7.back (C := C.hide D xs) J4.g0 nb).show hD0 I.oh gD0
        have v7 := b1.wipe vs1
        rw [eW, eS] at v7
        exact ⟨J4.unwipe v7 J7.g0 no, b2, b3, J7.g0⟩
      refine ⟨_, ρ6, n2, G4, _, _, _, J6, q6, fun b n1 qb G7 O7 H7 J7 s7 => ?_, lkx0⟩
      cases b with
      | true =>
        rw [if_pos rfl] at qb ⊢
        refine ⟨_, ρ6, n1, G7, O7, _, _, J7, qb, fun y n8 qy v G8 O8 H8 J8 s8 ry => ?_, lkx0⟩
        obtain ⟨K8, o8, g8, s48⟩ := back J8
        have r8 : DRs K G8 (xs ++ [v]) (acc ++ [y]) := (DRs.same (sg.trans s48) r2).append (.cons ry .nil)
        exact ⟨xs, K8.oH _ _ o8, by rw [r2.length]; exact qy.1, acc ++ [y], n8, G8, _, xs ++ [v], K8.mutD g8 hD0 o8 fr, (s2.trans sg).trans s48, g8, upd_same, r8, qy.2⟩
      | false =>
        rw [if_neg Bool.false_ne_true] at qb ⊢
        obtain ⟨K7, o7, g7, s47⟩ := back J7
        exact ⟨acc, n1, G7, O7, xs, K7, (s2.trans sg).trans s47, g7, o7, DRs.same (sg.trans s47) r2, qb⟩
  · have e : i = ds1.length := by omega
    subst e
    rw [List.drop_length] at q2
    exact .inl ⟨w.stop H2 (s2.trans J2.gH), fin acc n2 G2 O2 H2 xs q2 J2 s2 gD oD r2⟩
def vLc2L (g : VGt) (xt : VB) (ti1 : VA) (g1 : VGt) (xt1 : VB) (te : VT) (vs1 : List Nat) (ρ : Nv) (Q : List Dt → Nat → Prop) : List Dt → List Dt → Nat → Prop
  | [], acc, n => Q acc n
  | d :: ds, acc, n => g d ρ fun ρ1 => xt ρ1 n (fun b n1 => if b = true then noOwn ρ1 vs1 ∧ ti1 ρ1 n1 (fun ds1 n2 => vLcL g1 xt1 te (wipeE ρ1 vs1) (fun acc' n' => vLc2L g xt ti1 g1 xt1 te vs1 ρ Q ds acc' n') ds1 acc n2) (fun _ _ => False) else vLc2L g xt ti1 g1 xt1 te vs1 ρ Q ds acc n1) fun _ _ => False
def vLc2 (ti : VA) (g : VGt) (xt : VB) (ti1 : VA) (g1 : VGt) (xt1 : VB) (te : VT) (vs vs1 : List Nat) : VA := fun ρ n Q E => noOwn ρ vs ∧ ti ρ n (fun ds n' => vLc2L g xt ti1 g1 xt1 te vs1 (wipeE ρ vs) Q ds [] n') E
theorem up_lc2 {K : PySem.W.Frag} {U : WX} {ti ti1 : VA} {g g1 : VGt} {gh gh1 : TG} {xt xt1 : VB} {te : VT} {vs vs1 : List Nat} (pg : PairG K vs gh g) (pg1 : PairG K vs1 gh1 g1) :
    ∀ σ H Q, upO K U (vLc2 ti g xt ti1 g1 xt1 te vs vs1) σ H Q → tLc2 (upI K U ti) gh (upB K U0 xt) (upI K U0 ti1) gh1 (upB K U0 xt1) (up K U0 te) vs vs1 σ H Q := fun σ H Q ⟨C, ρ, n, G, O, Q0, E0, I, h, hq, he⟩ => by
  refine ⟨C, ρ, n, G, O, _, E0, I, h.2, fun ds n' q J G1 O1 H1 I1 s1 w D hD => ?_, he⟩
  have I2 := (fresh_new (K := K) (xs := []) (ds := []) I1 hD .nil)
  have gD0 : C.G0 D = none := by
    cases q : C.G0 D with | none => rfl | some u => rw [I1.gH _ _ (I1.g0 _ _ q)] at hD; cases hD
  have hD0 : C.H0 D = none := I1.h0 D hD
  refine ⟨fun i m H' => ∃ acc n2 G2 O2 xs, In K C σ ρ n2 G2 O2 H' ∧ Same G1 G2 ∧ i ≤ ds.length ∧ m = ds.length - i ∧ G2 D = none ∧ O2 D = some (.lst xs) ∧ DRs K G2 xs acc ∧ (∀ (j : Nat) (es : List Dt), ρ[j]? = some (some (.own es)) → σ[j]? ≠ some (some (.ref D))) ∧ vLc2L g xt ti1 g1 xt1 te vs1 (wipeE ρ vs) Q0 (ds.drop i) acc n2,
    ⟨_, [], n', G1, _, [], I2.1, Same.refl _, Nat.zero_le _, rfl, ?_⟩, ?_⟩
  · obtain ⟨xs, f1, f2, f3, f4, f5⟩ := I2.2
    have e : xs = [] := by cases f4; rfl
    subst e
    exact ⟨f1, f3, f4, f5, q⟩
  rintro i m H2 ⟨acc, n2, G2, O2, xs, J2, s2, hi, rfl, gD, oD, r2, fr, q2⟩
  by_cases hlt : i < ds.length
  · refine .inr ⟨w.go i H2 (s2.trans J2.gH) hlt, fun H' => ∃ acc n2 G2 O2 xs, In K C σ ρ n2 G2 O2 H' ∧ Same G1 G2 ∧ G2 D = none ∧ O2 D = some (.lst xs) ∧ DRs K G2 xs acc ∧ (∀ (j : Nat) (es : List Dt), ρ[j]? = some (some (.own es)) → σ[j]? ≠ some (some (.ref D))) ∧ vLc2L g xt ti1 g1 xt1 te vs1 (wipeE ρ vs) Q0 (ds.drop (i + 1)) acc n2, ?_, fun x H3 y => ?_⟩
    · rintro H' ⟨acc', n3, G3, O3, xs', J3, s3, g3, o3, r3, f3, q3⟩
      exact ⟨ds.length - (i + 1), by omega, acc', n3, G3, O3, xs', J3, s3, hlt, rfl, g3, o3, r3, f3, q3⟩
    · have ed : ds[i]? = some ds[i] := by simp [hlt]
      obtain ⟨G4, sh, sg, sgh, nw, rd⟩ := w.yld i H2 x H3 G2 ds[i] s2 J2.gH y ed
      have J4 := J2.pure sh sg sgh nw
      have g4 : G4 D = none := by
        cases q : G4 D with
        | none => rfl
        | some u =>
          rcases nw D u q with z | z
          · rw [gD] at z; cases z
          · rw [J2.oH _ _ oD] at z; cases z
      have o4 : grow O2 H2 H3 D = some (.lst xs) := grow_same J2.oH _ _ oD
      have J5 := ((J4.hide g4 hD0 o4 fr).to (G1 := G4) (Same.refl _) (J4.g0)).wipe vs
      rw [List.drop_eq_getElem_cons hlt] at q2
      refine pg x _ H3 _ _ _ _ _ _ ds[i] _ J5 rd q2 fun ρ6 q6 e6 σ6 J6 w6 => ?_
      have eS : wipe σ6 vs = wipe σ vs := w6.trans (wipe_idem σ vs vs fun _ h => h)
      have eW : wipeE ρ6 vs = wipeE ρ vs := e6.trans (wipeE_idem ρ vs vs fun _ h => h)
      refine ⟨eS, ?_⟩
      have nb : New C.G0 (L2.upd C.H0 D (.lst xs)) G4 := by
        intro a o e
        have hD' : a ≠ D := ne_of_none e g4
        rcases J4.nG a o e with z | z
        · exact .inl z
        · exact .inr (by rw [upd_ne hD']; exact z)
      have un : ∀ {n' : Nat} {G' O' H' : Hp}, In K C σ6 ρ6 n' G' O' H' → Same G4 G' → In K C σ ρ n' G' O' H' := fun {n' G' O' H'} b1 s => by
        have v7 := b1.wipe vs
        rw [eW, eS] at v7
        exact J4.unwipe v7 s h.1
      refine ⟨_, ρ6, n2, G4, _, _, _, J6, q6, fun b n1 qb G7 O7 H7 J7 s7 => ?_, lkx0⟩
      cases b with
      | true =>
        rw [if_pos rfl] at qb ⊢
        refine ⟨_, ρ6, n1, G7, O7, _, _, J7, qb.2, fun ds1 n8 q8 J1 G8 O8 H8 J8 s8 w8 => ?_, lkx0⟩
        obtain ⟨b1, b2, b3, b4⟩ := (J8.back (C := C.hide D xs) J4.g0 nb).show hD0 I.oh gD0
        have r8 := DRs.same (sg.trans J8.g0) r2
        exact inner_lc hD0 gD0 pg1 w8 qb.1 _ _ (fun acc' n' G' O' H' xs' qe I' s' g' o' r' => ⟨acc', n', G', O', xs', un I' (J8.g0.trans s'), ((s2.trans sg).trans J8.g0).trans s', g', o', r', fr, qe⟩) b1 b3 b2 r8 b4 q8
      | false =>
        rw [if_neg Bool.false_ne_true] at qb ⊢
        obtain ⟨b1, b2, b3, _⟩ := (J7.back (C := C.hide D xs) J4.g0 nb).show hD0 I.oh gD0
        exact ⟨acc, n1, G7, O7, xs, un b1 J7.g0, (s2.trans sg).trans J7.g0, b3, b2, DRs.same (sg.trans J7.g0) r2, fr, qb⟩
  · have e : i = ds.length := by omega
    subst e
    rw [List.drop_length] at q2
    exact .inl ⟨w.stop H2 (s2.trans J2.gH), hq acc n2 q2 D G2 O2 H2 J2 (s1.trans s2) ⟨xs, gD, hD0, oD, r2, fr⟩⟩
/-! as a tree -/
def lcI (g1 : XG) (xt1 : XB) (te : XT) (ρ : Nv) : List Dt → List Dt → T (List Dt) := lcT g1 xt1 te ρ
def lc2T (g : XG) (xt : XB) (ti1 : XA) (g1 : XG) (xt1 : XB) (te : XT) (vs1 : List Nat) (ρ : Nv) : List Dt → List Dt → T (List Dt)
  | [], acc => .ret acc
  | d :: ds, acc => bd (ofO (g d ρ)) fun ρ1 => bx (xt ρ1) (fun b => if b = true then (if noOwnB ρ1 vs1 = true then bx (ti1 ρ1) (fun ds1 => bd (lcT g1 xt1 te (wipeE ρ1 vs1) ds1 acc) fun acc' => lc2T g xt ti1 g1 xt1 te vs1 ρ ds acc') (fun _ => .fail) else .fail) else lc2T g xt ti1 g1 xt1 te vs1 ρ ds acc) fun _ => .fail
def lc2K (g : XG) (xt : XB) (ti1 : XA) (g1 : XG) (xt1 : XB) (te : XT) (vs1 : List Nat) (ρ : Nv) (ds : List Dt) : T (List Dt) := lc2T g xt ti1 g1 xt1 te vs1 ρ ds []
def xLc2 (ti : XA) (g : XG) (xt : XB) (ti1 : XA) (g1 : XG) (xt1 : XB) (te : XT) (vs vs1 : List Nat) (ρ : Nv) : T (List Dt) := if noOwnB ρ vs = true then bd (ti ρ) (lc2K g xt ti1 g1 xt1 te vs1 (wipeE ρ vs)) else .fail
theorem lcT_ok2 {g : XG} {xt : XB} {te : XT} {ρ : Nv} {Q Q' : List Dt → Nat → Prop} (w : ∀ a n, Q a n → Q' a n) : ∀ (ds acc : List Dt) (n : Nat), sat (lcT g xt te ρ ds acc) n Q noX → vLcL (RG g) (S xt) (S te) ρ Q' ds acc n
  | [], acc, n, h => w _ _ h
  | d :: ds, acc, n, h => by
    obtain ⟨ρ1, e, q⟩ := satO (sat2 h fun _ _ z => z)
    refine RG.of e (sat_mono (fun b n1 z => ?_) (fun _ _ z => z) (sat_bx.mp q))
    split at z
    · next hb =>
      rw [if_pos hb]
      refine sat_mono (fun y n2 z => ?_) (fun _ _ z => z) (sat_bx.mp z)
      split at z
      · next hl => exact ⟨hl, lcT_ok2 w ds _ n2 z⟩
      · exact z.elim
    · next hb => rw [if_neg hb]; exact lcT_ok2 w ds _ n1 z
theorem lc2T_ok {g : XG} {xt : XB} {ti1 : XA} {g1 : XG} {xt1 : XB} {te : XT} {vs1 : List Nat} {ρ : Nv} {Q : List Dt → Nat → Prop} : ∀ (ds acc : List Dt) (n : Nat), sat (lc2T g xt ti1 g1 xt1 te vs1 ρ ds acc) n Q noX → vLc2L (RG g) (S xt) (S ti1) (RG g1) (S xt1) (S te) vs1 ρ Q ds acc n
  | [], acc, n, h => h
  | d :: ds, acc, n, h => by
    obtain ⟨ρ1, e, q⟩ := satO (sat2 h fun _ _ z => z)
    refine RG.of e (sat_mono (fun b n1 z => ?_) (fun _ _ z => z) (sat_bx.mp q))
    split at z
    · next hb =>
      rw [if_pos hb]
      split at z
      · next ho =>
        refine ⟨noOwnB_ok ho, sat_mono (fun ds1 n2 z => ?_) (fun _ _ z => z) (sat_bx.mp z)⟩
        exact lcT_ok2 (fun a n' q => lc2T_ok ds a n' q) ds1 acc n2 (sat_bd.mp z)
      · exact z.elim
    · next hb => rw [if_neg hb]; exact lc2T_ok ds _ n1 z
/-- no error in a tree -/
theorem lcT_noX {g : XG} {xt : XB} {te : XT} {ρ : Nv} {Q : List Dt → Nat → Prop} {E : XW} : ∀ (ds acc : List Dt) (n : Nat), sat (lcT g xt te ρ ds acc) n Q E → sat (lcT g xt te ρ ds acc) n Q noX
  | [], acc, n, h => h
  | d :: ds, acc, n, h => by
    rw [lcT_cons] at h ⊢
    cases e : g d ρ with
    | none => rw [e] at h; exact h.elim
    | some ρ1 =>
      rw [e] at h
      simp only [ofO_some, bd_ret] at h ⊢
      have h' := sat_bx.mp h
      refine sat_bx.mpr (sat_mono (fun b n1 z => ?_) (fun _ _ z => False.elim z) h')
      split at z
      · next hb =>
        rw [if_pos hb]
        have z' := sat_bx.mp z
        refine sat_bx.mpr (sat_mono (fun y n2 z => ?_) (fun _ _ z => False.elim z) z')
        split at z
        · next hl => rw [if_pos hl]; exact lcT_noX ds _ n2 z
        · exact z.elim
      · next hb => rw [if_neg hb]; exact lcT_noX ds _ n1 z
theorem lc2T_noX {g : XG} {xt : XB} {ti1 : XA} {g1 : XG} {xt1 : XB} {te : XT} {vs1 : List Nat} {ρ : Nv} {Q : List Dt → Nat → Prop} {E : XW} : ∀ (ds acc : List Dt) (n : Nat), sat (lc2T g xt ti1 g1 xt1 te vs1 ρ ds acc) n Q E → sat (lc2T g xt ti1 g1 xt1 te vs1 ρ ds acc) n Q noX
  | [], acc, n, h => h
  | d :: ds, acc, n, h => by
    unfold lc2T at h ⊢
    cases e : g d ρ with
    | none => rw [e] at h; exact h.elim
    | some ρ1 =>
      rw [e] at h
      simp only [ofO_some, bd_ret] at h ⊢
      have h' := sat_bx.mp h
      refine sat_bx.mpr (sat_mono (fun b n1 z => ?_) (fun _ _ z => False.elim z) h')
      split at z
      · next hb =>
        rw [if_pos hb]
        split at z
        · next ho =>
          rw [if_pos ho]
          have z' := sat_bx.mp z
          refine sat_bx.mpr (sat_mono (fun ds1 n2 z => ?_) (fun _ _ z => False.elim z) z')
          exact sat_bd.mpr (sat_mono (fun a n' q => lc2T_noX ds a n' q) (fun _ _ z => z) (lcT_noX ds1 acc n2 (sat_bd.mp z)))
        · exact z.elim
      · next hb => rw [if_neg hb]; exact lc2T_noX ds _ n1 z
theorem xLc2_ok {ti : XA} {g : XG} {xt : XB} {ti1 : XA} {g1 : XG} {xt1 : XB} {te : XT} {vs vs1 : List Nat} : ∀ ρ n Q E, S (xLc2 ti g xt ti1 g1 xt1 te vs vs1) ρ n Q E → vLc2 (S ti) (RG g) (S xt) (S ti1) (RG g1) (S xt1) (S te) vs vs1 ρ n Q E := fun ρ n Q E h => by
  unfold S xLc2 at h
  split at h
  · next hb => exact ⟨noOwnB_ok hb, sat2 h fun ds n1 h1 => lc2T_ok ds [] n1 (lc2T_noX ds [] n1 h1)⟩
  · exact h.elim
section
variable {X : Cx} {U : WX} {elt tg iter tg1 iter1 : Expr} {ifs ifs1 : List Expr} {scope : Scope} {own : List (Str × Nat)} {pos spos : Pos} {ti ti1 : XA} {g g1 : XG} {gh gh1 : TG} {xt xt1 : XB} {te : XT} {vs1 : List Nat}
theorem xo_lc2 (hc : X.calm = true) (hN : X.N.Nodup) (hi : VI X U tg iter (S ti)) (ok : BlkOk X.N X.env.scope scope own) (hv : ∀ i ∈ vs1, i ∈ own.map (·.2))
    (hg : ∀ (s : Shared) (H : Hp) (C : Addr) (cl : List (Str × Addr)) (fp : List Addr), PG (X.blk s H scope (compEnvC scope cl C X.env) fp) tg gh) (pg : PairG X.K (own.map (·.2)) gh (RG g))
    (ht : ∀ (s : Shared) (H : Hp) (C : Addr) (cl : List (Str × Addr)) (fp : List Addr), PTs (X.blk s H scope (compEnvC scope cl C X.env) fp) ifs (upB X.K U0 (S xt)))
    (hi1 : ∀ (s : Shared) (H : Hp) (C : Addr) (cl : List (Str × Addr)) (fp : List Addr), PI (X.blk s H scope (compEnvC scope cl C X.env) fp) tg1 iter1 (upI X.K U0 (S ti1)))
    (hg1 : ∀ (s : Shared) (H : Hp) (C : Addr) (cl : List (Str × Addr)) (fp : List Addr), PG (X.blk s H scope (compEnvC scope cl C X.env) fp) tg1 gh1) (pg1 : PairG X.K vs1 gh1 (RG g1))
    (ht1 : ∀ (s : Shared) (H : Hp) (C : Addr) (cl : List (Str × Addr)) (fp : List Addr), PTs (X.blk s H scope (compEnvC scope cl C X.env) fp) ifs1 (upB X.K U0 (S xt1)))
    (he : ∀ (s : Shared) (H : Hp) (C : Addr) (cl : List (Str × Addr)) (fp : List Addr), PE (X.blk s H scope (compEnvC scope cl C X.env) fp) elt (up X.K U0 (S te))) (hs : ∀ x, foldedSetIterable iter X.env x = pure x := by intro _; rfl) (hs1 : ∀ (e : PySem.Env) x, foldedSetIterable iter1 e x = pure x := by intro _ _; rfl) :
    VO X U (.ListComp elt [⟨tg, iter, ifs, 0⟩, ⟨tg1, iter1, ifs1, 0⟩] scope pos) (S (xLc2 ti g xt ti1 g1 xt1 te (own.map (·.2)) vs1)) := wkO (pe_imp (pe_lc2 hc hN hi ok hv hg ht hi1 hg1 ht1 he hs hs1) (up_lc2 pg pg1)) xLc2_ok
end
end VL


set_option maxRecDepth 100000
set_option maxHeartbeats 2000000
namespace VL
open PySem PySem.Spec PyProof.Rows L2
/-- a run of numbers -/
def ixs (lo : Int) (n : Nat) : List Int := (List.range n).map fun i : Nat => lo + (i : Int)
theorem rngD_ixs (lo : Int) (n : Nat) : rngD lo n = (ixs lo n).map .int := by
  unfold rngD ixs
  rw [List.map_map]
  rfl
theorem ixs_len (lo : Int) (n : Nat) : (ixs lo n).length = n := by simp [ixs]
theorem mem_ixs {lo : Int} {n : Nat} {x : Int} : x ∈ ixs lo n ↔ lo ≤ x ∧ x < lo + n := by
  unfold ixs
  rw [List.mem_map]
  constructor
  · rintro ⟨i, hi, rfl⟩
    rw [List.mem_range] at hi
    omega
  · rintro ⟨h0, h1⟩
    exact ⟨(x - lo).toNat, by rw [List.mem_range]; omega, by omega⟩
/-- a display by two fors, each item makes one -/
theorem lc2_map {δ ε : Type} {g : XG} {ti1 : XA} {g1 : XG} {te : XT} {vs1 : List Nat} {ρ : Nv} (enc : δ → Dt) (enc1 : ε → Dt) (ds1 : δ → List ε) (f : δ → ε → Dt) : ∀ (ds : List δ) (acc : List Dt), acc.length + (ds.flatMap ds1).length ≤ sizeLine →
    (∀ d ∈ ds, ∃ ρ1, g (enc d) ρ = some ρ1 ∧ noOwnB ρ1 vs1 = true ∧ ti1 ρ1 = .ret ((ds1 d).map enc1) ∧ ∀ e ∈ ds1 d, bd (ofO (g1 (enc1 e) (wipeE ρ1 vs1))) te = .ret (f d e)) →
    lc2T g xYes ti1 g1 xYes te vs1 ρ (ds.map enc) acc = .ret (acc ++ ds.flatMap fun d => (ds1 d).map (f d))
  | [], acc, _, _ => by simp [lc2T]
  | d :: ds, acc, hl, h => by
    obtain ⟨ρ1, e1, e2, e3, e4⟩ := h d (by simp)
    rw [List.flatMap_cons, List.length_append] at hl
    have m := lc_map (g := g1) (te := te) (ρ := wipeE ρ1 vs1) enc1 (f d) (ds1 d) acc (by omega) e4
    have ih := lc2_map (te := te) (ti1 := ti1) enc enc1 ds1 f ds (acc ++ (ds1 d).map (f d)) (by rw [List.length_append, List.length_map]; omega) (fun d hd => h d (List.mem_cons_of_mem _ hd))
    rw [List.map_cons]
    unfold lc2T
    simp only [e1, ofO_some, bd_ret, xYes, bx_ret, if_true, e2, e3, m, ih, List.flatMap_cons, List.append_assoc]
theorem Sh.str {s : Str} (h : PyData.leavesShort 13 (.str s) = true) (h2 : PyData.weight (.str s) ≤ 40) (h3 : PyData.showable (.str s) = true) : Sh 40 0 (.str s) := ⟨h3, h, h2, by simp [PyData.depth], by simp only [PyData.hasDict]⟩
end VL


set_option maxRecDepth 100000
set_option maxHeartbeats 2000000
namespace VL
open PySem PySem.Spec PyProof.Rows L2
/-! ### in, not in -/
theorem units5 {k : Nat} {A : Around} (r : Room k A) : A.units + 65 < cLine := by have := r.un; omega
noncomputable def pInB (d y : Dt) : Option Bool := match y with
  | .list ds => @ite _ (SeqAt.shaped d = true ∧ SeqAt.shaped (.list ds) = true) (Classical.propDecidable _) (some (ds.any fun z => PyData.eqv z d)) none
  | .tuple ds => (match d with
    | .int i => (intsD ds).map fun ns => decide (i ∈ ns)
    | _ => none)
  | _ => none
noncomputable def pIn (d y : Dt) : Option Dt := (pInB d y).map .bool
noncomputable def pNotIn (d y : Dt) : Option Dt := (pInB d y).map fun b => .bool (!b)
theorem inV_ints (i : Int) : ∀ ns : List Int, inV (.int i) (ns.map V.int) = decide (i ∈ ns)
  | [] => by simp [inV]
  | n :: ns => by
    have ih := inV_ints i ns
    unfold inV at ih ⊢
    rw [List.map_cons, List.any_cons, ih]
    by_cases h : n = i
    · subst h; simp [eqV]
    · have h' : ¬ i = n := fun z => h z.symm
      simp [eqV, h, h']
section
variable {X : Cx}
theorem pIn_gen {f : Value → Value → Sem Value} (neg : Bool) (o1 : OpR X f (fun x y H Q => ∃ d ds, Dp X.K H x d ∧ Dp X.K H y (.list ds) ∧ SeqAt.shaped d = true ∧ SeqAt.shaped (.list ds) = true ∧ Q (.bl (if neg then !ds.any (fun z => PyData.eqv z d) else ds.any fun z => PyData.eqv z d)) H)) (o2 : OpR X f (rIn X.K neg)) :
    VOp X f (RO fun d y => (pInB d y).map fun b => .bool (if neg then !b else b)) := by
  intro pins s σ H x y v u Q I rx ry ⟨G, d1, d2, Q0, sg, r1, r2, q, hq⟩
  obtain ⟨dd, e, q'⟩ := q.at
  clear q
  obtain ⟨b, eb, rfl⟩ := Option.map_eq_some_iff.mp e
  unfold pInB at eb
  split at eb
  · next ds =>
    obtain ⟨⟨c1, c2⟩, rfl⟩ := ite_at eb
    refine o1 pins s σ H x y v u Q I rx ry ⟨d1, ds, DR.dp (PyData.hasDict_of_canLay _ (SeqAt.canLay_of_shaped c1)) (DR.same sg r1), DR.dp (PyData.hasDict_of_canLay _ (SeqAt.canLay_of_shaped c2)) (DR.same sg r2), c1, c2, ?_⟩
    exact hq _ q' _ G H (Same.refl _) (Same.refl _) sg New.refl (.bl _)
  · next ds =>
    split at eb
    · next i =>
      obtain ⟨ns, e1, rfl⟩ := Option.map_eq_some_iff.mp eb
      have e2 := intsD_ok e1
      subst e2
      cases r1
      cases r2 with
      | tup a2 q2 =>
        have q3 := DRs.ints_of q2
        subst q3
        refine o2 pins s σ H _ _ v u Q I rx ry ⟨_, _, rfl, .inr (sameT sg a2), rfl, ?_, ?_⟩
        · rw [List.all_map]; simp [flatV]
        · rw [inV_ints]
          exact hq _ q' _ G H (Same.refl _) (Same.refl _) sg New.refl (.bl _)
    · cases eb
  · cases eb
theorem p_in (hu : X.A.units + 65 < cLine) : VOp X (compareOp .In) (RO pIn) := wkOp (pIn_gen false (op_inD hu) op_in_seq) fun a b Q q => q
theorem p_notIn (hu : X.A.units + 65 < cLine) : VOp X (compareOp .NotIn) (RO pNotIn) := wkOp (pIn_gen true (op_notInD hu) op_notIn_seq) fun a b Q q => q
end
theorem pNotIn_t {i : Int} {ns : List Int} : pNotIn (.int i) (.tuple (ns.map .int)) = some (.bool (!decide (i ∈ ns))) := by simp only [pNotIn, pInB, intsD_map, Option.map_some]
theorem pIn_t {i : Int} {ns : List Int} : pIn (.int i) (.tuple (ns.map .int)) = some (.bool (decide (i ∈ ns))) := by simp only [pIn, pInB, intsD_map, Option.map_some]
theorem pInB_l {d : Dt} {ds : List Dt} (h1 : SeqAt.shaped d = true) (h2 : SeqAt.shaped (.list ds) = true) : pInB d (.list ds) = some (ds.any fun z => PyData.eqv z d) := if_pos ⟨h1, h2⟩
theorem pIn_l {d : Dt} {ds : List Dt} (h1 : SeqAt.shaped d = true) (h2 : SeqAt.shaped (.list ds) = true) : pIn d (.list ds) = some (.bool (ds.any fun z => PyData.eqv z d)) := by unfold pIn; rw [pInB_l h1 h2]; rfl
theorem pNotIn_l {d : Dt} {ds : List Dt} (h1 : SeqAt.shaped d = true) (h2 : SeqAt.shaped (.list ds) = true) : pNotIn d (.list ds) = some (.bool (!ds.any fun z => PyData.eqv z d)) := by unfold pNotIn; rw [pInB_l h1 h2]; rfl
/-! ### zip -/
def zipD (xs ys : List Dt) : List Dt := List.zipWith (fun x y => PyData.tuple [x, y]) xs ys
theorem zipD_length (xs ys : List Dt) : (zipD xs ys).length = min xs.length ys.length := by simp [zipD]
theorem zipD_get {xs ys : List Dt} {i : Nat} {d : Dt} (h : (zipD xs ys)[i]? = some d) : ∃ x y, xs[i]? = some x ∧ ys[i]? = some y ∧ d = .tuple [x, y] := by
  unfold zipD at h
  rw [List.getElem?_zipWith] at h
  cases e1 : xs[i]? with
  | none => rw [e1] at h; cases h
  | some x =>
    cases e2 : ys[i]? with
    | none => rw [e1, e2] at h; cases h
    | some y => rw [e1, e2] at h; cases h; exact ⟨x, y, rfl, rfl, rfl⟩
theorem walkD_zipT {K : PySem.W.Frag} {G : Hp} {a b : Addr} {xs ys : List V} {ds es : List Dt} (h : SqT K G a xs) (r : DRs K G xs ds) (h2 : SqT K G b ys) (r2 : DRs K G ys es) : WalkD K (RZ.ItzT K a b) G (zipD ds es) where
  stop := fun H s => ⟨xs, ys, sameT s h, sameT s h2, by rw [zipD_length, r.length, r2.length]; omega⟩
  go := fun i H s hi => by
    rw [zipD_length] at hi
    exact ⟨xs, ys, xs[i]'(by rw [r.length]; omega), ys[i]'(by rw [r2.length]; omega), sameT s h, sameT s h2, by simp, by simp⟩
  yld := fun i H x H' G1 d s1 s2 y e => by
    obtain ⟨T, u, w, e1, hT, e2, y1, y2⟩ := y
    subst e1 e2
    obtain ⟨dx, dy, hx, hy, rfl⟩ := zipD_get e
    obtain ⟨v, hv, rv⟩ := r.get hx
    obtain ⟨v2, hv2, rv2⟩ := r2.get hy
    have z1 := y1 xs (sameT (s1.trans s2) h)
    have z2 := y2 ys (sameT (s1.trans s2) h2)
    rw [hv] at z1
    rw [hv2] at z2
    cases z1
    cases z2
    have n := gfree s2 hT
    exact ⟨L2.upd G1 T _, same_upd hT, same_upd n, same_upd2 s2, new_upd hT, .tup (SqT.of upd_same) (.cons (DR.same (s1.trans (same_upd n)) rv) (.cons (DR.same (s1.trans (same_upd n)) rv2) .nil))⟩
theorem walkD_zipL {K : PySem.W.Frag} {G : Hp} {a b : Addr} {xs ys : List V} {ds es : List Dt} (h : G a = some (.lst xs)) (r : DRs K G xs ds) (h2 : G b = some (.lst ys)) (r2 : DRs K G ys es) : WalkD K (Itz K a b) G (zipD ds es) where
  stop := fun H s => ⟨xs, ys, SqL.of (s _ _ h), SqL.of (s _ _ h2), by rw [zipD_length, r.length, r2.length]; omega⟩
  go := fun i H s hi => by
    rw [zipD_length] at hi
    exact ⟨xs, ys, xs[i]'(by rw [r.length]; omega), ys[i]'(by rw [r2.length]; omega), SqL.of (s _ _ h), SqL.of (s _ _ h2), by simp, by simp⟩
  yld := fun i H x H' G1 d s1 s2 y e => by
    obtain ⟨T, u, w, e1, hT, e2, y1, y2⟩ := y
    subst e1 e2
    obtain ⟨dx, dy, hx, hy, rfl⟩ := zipD_get e
    obtain ⟨v, hv, rv⟩ := r.get hx
    obtain ⟨v2, hv2, rv2⟩ := r2.get hy
    have z1 := y1 xs (SqL.of ((s1.trans s2) _ _ h))
    have z2 := y2 ys (SqL.of ((s1.trans s2) _ _ h2))
    rw [hv] at z1
    rw [hv2] at z2
    cases z1
    cases z2
    have n := gfree s2 hT
    exact ⟨L2.upd G1 T _, same_upd hT, same_upd n, same_upd2 s2, new_upd hT, .tup (SqT.of upd_same) (.cons (DR.same (s1.trans (same_upd n)) rv) (.cons (DR.same (s1.trans (same_upd n)) rv2) .nil))⟩
def zpT : List Dt → T (List Dt)
  | [.tuple xs, .tuple ys] => .ret (zipD xs ys)
  | [.list xs, .list ys] => .ret (zipD xs ys)
  | _ => .fail
def ziZ (al : XA) (ρ : Nv) : T (List Dt) := bd (al ρ) zpT
section
variable {X : Cx} {U : WX} {a b e e2 : Expr} {pos p p2 pos2 : Pos} {al : XA} {ta tb : XT} {elts : List Expr} {kk : Nat} {tpos : Pos}
theorem zi_zip (hg : Gl X "zip") (hm : X.mg "zip" = none) (ha : VAa X U [e, e2] (S al)) (hs : starEach [e, e2] X.env = (false, eval e X.env) :: starEach [e2] X.env := by rfl) (hpl : (backTo pos (starEach [e2] X.env)).any (·.1) = false := by rfl) :
    VI X U (.Tuple elts kk tpos) (.Call (.Name "zip" p) [e, e2] [] pos) (S (ziZ al)) :=
  pi_imp (RZ.pi_zipA hg hm ha hs hpl) fun σ H R ⟨C, ρ, n, G, O, Q0, E0, I, h, hq, he⟩ => ⟨C, ρ, n, G, O, fun ds n' => sat (zpT ds) n' Q0 E0, E0, I, sat2 h fun _ _ z => z, fun ds n' q vs G' O' H' I' s' r => by
    unfold zpT at q
    dsimp only at q
    split at q
    · next xs ys =>
      match vs, r with
      | [_, _], .cons (.tup a1 r1) (.cons (.tup a2 r2) .nil) => exact ⟨_, _, _, _, rfl, .inr ⟨sameT I'.gH a1, sameT I'.gH a2, hq _ n' q _ G' O' H' I' s' (walkD_zipT a1 r1 a2 r2)⟩⟩
    · next xs ys =>
      match vs, r with
      | [_, _], .cons (.lst a1 r1) (.cons (.lst a2 r2) .nil) => exact ⟨_, _, _, _, rfl, .inl ⟨SqL.of (I'.gH _ _ a1), SqL.of (I'.gH _ _ a2), hq _ n' q _ G' O' H' I' s' (walkD_zipL a1 r1 a2 r2)⟩⟩
    · exact q.elim, he⟩
/-! ### list(range(..)) -/
noncomputable def lrT2 (i j : Dt) : T (List Dt) := match i, j with
  | .int i, .int j => @ite _ (RgOk i j) (Classical.propDecidable _) (.ret (rngD i (j - i).toNat)) .fail
  | _, _ => .fail
noncomputable def lrK2 (tb : XT) (ρ : Nv) (i : Dt) : T (List Dt) := bd (tb ρ) (lrT2 i)
noncomputable def xLr2 (ta tb : XT) (ρ : Nv) : T (List Dt) := bd (ta ρ) (lrK2 tb ρ)
noncomputable def lrT1 (j : Dt) : T (List Dt) := lrT2 (.int 0) j
noncomputable def xLr1 (ta : XT) (ρ : Nv) : T (List Dt) := bd (ta ρ) lrT1
theorem rgV_D {K : PySem.W.Frag} {G : Hp} (i j : Int) : DRs K G (rgV i j) (rngD i (j - i).toNat) := by
  have e : rngD i (j - i).toNat = (ixs i (j - i).toNat).map .int := rngD_ixs _ _
  have e2 : rgV i j = (ixs i (j - i).toNat).map V.int := by
    unfold rgV ixs
    rw [List.map_map]
    rfl
  rw [e, e2]
  exact DRs.ints _
theorem xo_listR2 (hc : X.calm = true) (hg : Gl X "list") (hm : X.mg "list" = none) (hg2 : Gl X "range") (hm2 : X.mg "range" = none) (ha : VE X U a (S ta)) (hb : VE X U b (S tb))
    (na : starEach [a, b] X.env = (false, eval a X.env) :: starEach [b] X.env := by rfl) (nb : starEach [b] X.env = (false, eval b X.env) :: starEach [] X.env := by rfl) (hp : (backTo pos2 (starEach [b] X.env)).any (·.1) = false := by rfl)
    (nr : starEach [.Call (.Name "range" p2) [a, b] [] pos2] X.env = (false, eval (.Call (.Name "range" p2) [a, b] [] pos2) X.env) :: starEach [] X.env := by rfl) :
    VO X U (.Call (.Name "list" p) [.Call (.Name "range" p2) [a, b] [] pos2] [] pos) (S (xLr2 ta tb)) :=
  pe_imp (pe_listRg hc hg hm (prg_2 hg2 hm2 ha hb na nb hp) nr) fun σ H Q ⟨C, ρ, n, G, O, Q0, E0, I, h, hq, he⟩ =>
    ⟨C, ρ, n, G, O, _, E0, I, sat2 h fun _ _ z => z, fun d1 n1 h1 v1 G1 O1 H1 I1 s1 r1 => ⟨C, ρ, n1, G1, O1, _, E0, I1, sat2 h1 fun _ _ z => z, fun d2 n2 h2 v2 G2 O2 H2 I2 s2 r2 => by
      unfold lrT2 at h2
      split at h2
      · next i j =>
        obtain ⟨ok, q⟩ := sat_guard h2
        cases r1
        cases r2
        exact ⟨i, j, rfl, rfl, ok, fun q' hq' => hq _ n2 q q' G2 _ _ (fresh_new I2 hq' (rgV_D i j)).1 (s1.trans s2) (fresh_new I2 hq' (rgV_D i j)).2⟩
      · exact h2.elim, he⟩, he⟩
theorem xo_listR1 (hc : X.calm = true) (hg : Gl X "list") (hm : X.mg "list" = none) (hg2 : Gl X "range") (hm2 : X.mg "range" = none) (ha : VE X U a (S ta))
    (na : starEach [a] X.env = (false, eval a X.env) :: starEach [] X.env := by rfl)
    (nr : starEach [.Call (.Name "range" p2) [a] [] pos2] X.env = (false, eval (.Call (.Name "range" p2) [a] [] pos2) X.env) :: starEach [] X.env := by rfl) :
    VO X U (.Call (.Name "list" p) [.Call (.Name "range" p2) [a] [] pos2] [] pos) (S (xLr1 ta)) :=
  pe_imp (pe_listRg hc hg hm (prg_1 hg2 hm2 ha na) nr) fun σ H Q ⟨C, ρ, n, G, O, Q0, E0, I, h, hq, he⟩ =>
    ⟨C, ρ, n, G, O, _, E0, I, sat2 h fun _ _ z => z, fun d2 n2 h2 v2 G2 O2 H2 I2 s2 r2 => by
      unfold lrT1 lrT2 at h2
      split at h2
      · next x y i j e1 =>
        cases e1
        obtain ⟨ok, q⟩ := sat_guard h2
        cases r2
        exact ⟨j, rfl, ok, fun q' hq' => hq _ n2 q q' G2 _ _ (fresh_new I2 hq' (rgV_D 0 j)).1 s2 (fresh_new I2 hq' (rgV_D 0 j)).2⟩
      · exact h2.elim, he⟩
theorem lrT2_i {i j : Int} (h : RgOk i j) : lrT2 (.int i) (.int j) = .ret (rngD i (j - i).toNat) := if_pos h
theorem lrT1_i {j : Int} (h : RgOk 0 j) : lrT1 (.int j) = .ret (rngD 0 j.toNat) := (if_pos h).trans (by rw [Int.sub_zero])
end
end VL


set_option maxRecDepth 100000
set_option maxHeartbeats 2000000
namespace VL
open PySem PySem.Spec PyProof.Rows L2
/-! ### t[::-1] -/
section
variable {prog : Program} {w : World} {A : Around} {E : Value → Shared → Prop} {s : Shared}
theorem revAdj (n : Nat) : Builtin.Slice.sliceAdjust none none (-1) (n : Int) = ((n : Int) - 1, -1) := by
  have h1 : ((-1 : Int) < 0) := by decide
  unfold Builtin.Slice.sliceAdjust
  simp only [h1, if_true]
theorem revPl (n : Nat) : Builtin.Slice.slicePlaces ((n : Int) - 1) (-1) (-1) = n := by
  unfold Builtin.Slice.slicePlaces
  have h1 : ¬ ((-1 : Int) > 0) := by decide
  simp only [h1, if_false, show (- -1 : Int) = 1 from rfl, Int.ediv_one]
  split <;> omega
theorem revApplied {sl : Addr} {vl vu vk : Value} {n : Nat} {Q : Int × Int × Nat → Shared → Prop} (hs : s.heap.IsSliceOf sl vl vu vk) (pl : IsPart vl none) (pu : IsPart vu none) (pk : IsPart vk (some (-1)))
    (h : Q ((n : Int) - 1, -1, n) s) : wpAny (model prog w) A (Builtin.Slice.sliceApplied (.ref sl) (pure (n : Int))) Q E s := by
  obtain ⟨os, hos, hcs, hds⟩ := id hs
  unfold Builtin.Slice.sliceApplied Builtin.Slice.sliceFields
  refine wpAny_bind (wpAny_bind (wpAny_field hos hds (x := vl) rfl (wpAny_bind (wpAny_field hos hds (x := vu) rfl (wpAny_bind (wpAny_field hos hds (x := vk) rfl (wpAny_pure ?_)))))))
  refine wpAny_bind (HT.slicePart_ pk ?_)
  show wpAny _ _ (if ((-1 : Int) == 0) = true then _ else _) _ _ s
  rw [if_neg (by decide)]
  refine wpAny_bind (HT.slicePart_ pl (wpAny_bind (HT.slicePart_ pu (wpAny_bind (wpAny_pure ?_)))))
  show wpAny _ _ (match Builtin.Slice.sliceAdjust none none (-1) (n : Int) with | (lo, hi) => pure (lo, (-1 : Int), Builtin.Slice.slicePlaces lo hi (-1))) _ _ s
  rw [revAdj n]
  show wpAny _ _ (pure ((n : Int) - 1, (-1 : Int), Builtin.Slice.slicePlaces ((n : Int) - 1) (-1) (-1))) _ _ s
  rw [revPl]
  exact wpAny_pure h
theorem revPick (xs : Array Value) : ((List.range xs.size).filterMap fun (m : Nat) => xs[(((xs.size : Int) - 1) + (m : Int) * (-1)).toNat]?).toArray = xs.toList.reverse.toArray := by
  have e : ((List.range xs.size).filterMap fun (m : Nat) => xs[(((xs.size : Int) - 1) + (m : Int) * (-1)).toNat]?) = ((List.range xs.size).map fun k => xs.size - 1 - k).filterMap (xs[·]?) := by
    rw [List.filterMap_map]
    have key : ∀ l : List Nat, (∀ m ∈ l, m < xs.size) → (l.filterMap fun (m : Nat) => xs[(((xs.size : Int) - 1) + (m : Int) * (-1)).toNat]?) = l.filterMap ((fun x => xs[x]?) ∘ fun k => xs.size - 1 - k) := by
      intro l
      induction l with
      | nil => intro _; rfl
      | cons m l ih =>
        intro hm
        have h1 := hm m (by simp)
        have e1 : (((xs.size : Int) - 1) + (m : Int) * (-1)).toNat = xs.size - 1 - m := by omega
        rw [List.filterMap_cons, List.filterMap_cons, ih fun m hm' => hm m (List.mem_cons_of_mem _ hm')]
        simp only [Function.comp, e1]
    exact key _ fun m hm => List.mem_range.mp hm
  rw [e, PySem.W.krv_range, List.filterMap_reverse, PySem.W.krv_all]
theorem getItem_tuple_rev {t sl : Addr} {items : Array Value} {vl vu vk : Value} {Q : Value → Shared → Prop} (ht : IsTup s.heap t items) (hs : s.heap.IsSliceOf sl vl vu vk) (pl : IsPart vl none) (pu : IsPart vu none) (pk : IsPart vk (some (-1)))
    (h : Q (.ref s.heap.objs.size) { s with heap := s.heap.push { cls := .type "tuple", data := .seq items.toList.reverse.toArray } })
    (hsz : items.size ≤ sizeLine) : wpAny (model prog w) A (getItem (.ref t) (.ref sl)) Q E s := by
  have htake : sizeOk (.seq items.toList.reverse.toArray) := by
    show items.toList.reverse.toArray.size ≤ sizeLine
    rw [List.size_toArray, List.length_reverse, Array.length_toList]
    omega
  obtain ⟨os, hos, hcs, hds⟩ := id hs
  have hTs : s.TypeIs (.ref sl) "slice" := ⟨os, hos, hcs⟩
  unfold getItem
  try with_reducible refine wpAny_holding ?_
  first | refine wpAny_bind (wpAny_pure ?_) | skip
  refine wpAny_bind (wpAny_sequenceKey ht.typeIs (by decide) ?_)
  refine wpAny_bind (wpAny_callSpecial?_slot (name := Str.ofString "__getitem__") ht.typeIs PyProof.Rows.slot_tuple_getitem
    (wpAny_call_entry PyProof.Rows.slot_tuple_getitem ht.typeIs PyProof.Rows.entry_tuple_getitem ?_ (PyProof.Rows.args_tuple_getitem _ _)))
  show wpAny _ _ (Builtin.Tuple.tupleItemsOf (.ref t) >>= _) _ _ s
  refine wpAny_bind (tupleItemsOf_ ht ?_)
  refine wpAny_bind (wpAny_typeOf hTs ?_)
  rw [if_pos (by decide)]
  refine wpAny_bind (revApplied hs pl pu pk ?_)
  have hno : ¬ ((((items.size : Int) - 1) == 0 && (-1 : Int) == 1 && items.size == items.size) = true) := by
    intro q
    rw [Bool.and_eq_true, Bool.and_eq_true] at q
    exact absurd q.1.2 (by decide)
  show wpAny _ _ (if (((items.size : Int) - 1) == 0 && (-1 : Int) == 1 && items.size == items.size) = true then _ else _) _ _ s
  rw [if_neg hno, revPick]
  first
    | exact wpAny_bind (m := Builtin.Tuple.tupleExact _) (wpAny_newObj_type (wpAny_pure ⟨_, rfl, wpAny_pure h⟩) htake)
    | exact wpAny_bind (m := Builtin.Tuple.tupleExact _) (wpAny_newObj_type (wpAny_bind (wpAny_pure (wpAny_pure ⟨_, rfl, wpAny_pure h⟩))) htake)
    | exact wpAny_bind (wpAny_bind (m := Builtin.Tuple.tupleExact _) (wpAny_newObj_type (wpAny_pure (wpAny_pure ⟨_, rfl, wpAny_pure h⟩)) htake))
    | exact wpAny_bind (wpAny_bind (m := Builtin.Tuple.tupleExact _) (wpAny_newObj_type (wpAny_pure ⟨_, rfl, wpAny_pure h⟩) htake))
end
section
variable {X : Cx} {U : WX} {e : Expr} {te : XT}
def tRevT (K : PySem.W.Frag) (te : TE) : TE := fun σ H Q => te σ H fun x H1 => ∃ a xs, x = .ref a ∧ SqT K H1 a xs ∧ ∀ p, H1 p = none → Q (.ref p) (L2.upd H1 p (.tup xs.reverse))
theorem pe_revT {te : TE} {k : Nat} {p1 p2 p3 pos : Pos} (he : PE X e te) : PE X (.Subscript e (.Slice none none (some (.UnaryOp .USub (.Constant (.int 1) k p1) p2)) p3) pos) (tRevT X.K te) := by
  refine ⟨fun pins s σ H Q I h => ?_⟩
  refine Subscript_ (thn (he.run pins s σ H _ I h) fun v s1 ⟨x, H1, I1, r1, q1⟩ => ?_)
  obtain ⟨a, xs, ex, hx, q⟩ := q1
  subst ex
  cases r1
  have hst : PO X (some (.UnaryOp .USub (.Constant (.int 1) k p1) p2)) (tPart (tUn (rU fun i => .int (-i)) (tC (.int 1)))) := po_some (pe_un un_neg pe_int)
  refine wpAny_Slice (thn (po_none.run pins s1 σ H1 (fun o H2 => o = none ∧ H2 = H1) I1 ⟨rfl, rfl⟩) fun vl s2 ⟨l, H2, I2, pl, el, e2⟩ => ?_)
  subst el e2
  refine thn (po_none.run pins s2 σ H2 (fun o H3 => o = none ∧ H3 = H2) I2 ⟨rfl, rfl⟩) fun vu s3 ⟨u, H3, I3, pu, eu, e3⟩ => ?_
  subst eu e3
  refine thn (hst.run pins s3 σ H3 (fun o H4 => o = some (-1) ∧ H4 = H3) I3 ⟨1, rfl, -1, rfl, rfl, rfl⟩) fun vs s4 ⟨o, H4, I4, ps, eo, e4⟩ => ?_
  subst eo e4
  have I5 : Inv X pins σ H4 { s4 with heap := s4.heap.push { cls := .type "slice", data := .fields #[vl, vu, vs] } } := I4.kept (t' := s4.toks) fun b ob q => Heap.get?_push_of_some _ q
  obtain ⟨its, r, ht, hz⟩ := I5.tuple hx
  have hlen := r.length
  show wpAny (model X.prog X.w) X.A (subscriptTail e (.Slice none none (some (.UnaryOp .USub (.Constant (.int 1) k p1) p2)) p3) (.ref a) (.ref s4.heap.objs.size)) (EP X pins σ Q) X.xe { s4 with heap := s4.heap.push { cls := .type "slice", data := .fields #[vl, vu, vs] } }
  refine tail_any (ops := [.ref a, .ref s4.heap.objs.size]) ht.typeIs (PyProof.Rows.slot_tuple_getitem.lookup) ?_ (by with_unfolding_all rfl)
  refine getItem_tuple_rev ht (Heap.IsSliceOf.new _ vl vu vs) pl pu ps ?_ (by rw [List.size_toArray]; omega)
  refine ⟨.ref _, _, I5.laid (t' := s4.toks) (o := .tup xs.reverse) (fun b ob q => Heap.get?_push_of_some _ q) (Nat.le_refl _) ?_, rfl, q _ (I5.hok.fresh (Nat.le_refl _))⟩
  exact ⟨by rw [List.length_reverse]; exact hz, _, r.reverse, IsTup.new _ _⟩
/-- x[::-1] of a tuple -/
def pRev : Dt → Option Dt
  | .tuple ds => some (.tuple ds.reverse)
  | _ => none
theorem DRs.reverse {K : PySem.W.Frag} {G : Hp} : ∀ {ds : List Dt} {xs : List V}, DRs K G xs ds → DRs K G xs.reverse ds.reverse
  | [], _, .nil => .nil
  | d :: ds, x :: xs, .cons a r => by
    rw [List.reverse_cons, List.reverse_cons]
    exact (DRs.reverse r).append (.cons a .nil)
def xRev (te : XT) (ρ : Nv) : T Dt := bd (te ρ) (unK pRev)
theorem xe_rev {k : Nat} {p1 p2 p3 pos : Pos} (he : VE X U e (S te)) : VE X U (.Subscript e (.Slice none none (some (.UnaryOp .USub (.Constant (.int 1) k p1) p2)) p3) pos) (S (xRev te)) :=
  pe_imp (pe_revT he) fun σ H Q ⟨C, ρ, n, G, O, Q0, E0, I, h, hq, hE⟩ => by
    refine ⟨C, ρ, n, G, O, fun d n' => sat (unK pRev d) n' Q0 E0, E0, I, sat2 h fun _ _ z => z, fun d n1 h1 v G1 O1 H1 I1 s1 r1 => ?_, hE⟩
    unfold unK at h1
    obtain ⟨d', e, q⟩ := satO h1
    unfold pRev at e
    split at e
    · next ds =>
      cases e
      cases r1 with
      | tup a r =>
        refine ⟨_, _, rfl, sameT I1.gH a, fun p hp => ?_⟩
        have hG : G1 p = none := gfree I1.gH hp
        exact hq _ n1 q _ (L2.upd G1 p (.tup _)) _ _ (I1.pure (same_upd hp) (same_upd hG) (same_upd2 I1.gH) (new_upd hp)) (s1.trans (same_upd hG)) (.tup (SqT.of upd_same) (DRs.same (same_upd hG) r).reverse)
    · cases e
/-! ### is, is not of bools -/
def pIsB (a b : Dt) : Option Dt := match a, b with
  | .bool a, .bool b => some (.bool (decide (a = b)))
  | _, _ => none
def pNotB (a b : Dt) : Option Dt := match a, b with
  | .bool a, .bool b => some (.bool (!decide (a = b)))
  | _, _ => none
theorem p_isB : VOp X (compareOp .Is) (RO pIsB) := by
  intro pins s σ H x y v u Q I rx ry ⟨G, d1, d2, Q0, sg, r1, r2, q, hq⟩
  obtain ⟨dd, e, q'⟩ := q.at
  unfold pIsB at e
  split at e
  · cases e
    cases r1
    cases r2
    exact op_isBl pins s σ H _ _ v u Q I rx ry ⟨_, _, rfl, rfl, hq _ q' _ G H (Same.refl _) (Same.refl _) sg New.refl (.bl _)⟩
  · cases e
theorem p_notB : VOp X (compareOp .IsNot) (RO pNotB) := by
  intro pins s σ H x y v u Q I rx ry ⟨G, d1, d2, Q0, sg, r1, r2, q, hq⟩
  obtain ⟨dd, e, q'⟩ := q.at
  unfold pNotB at e
  split at e
  · cases e
    cases r1
    cases r2
    exact op_notBl pins s σ H _ _ v u Q I rx ry ⟨_, _, rfl, rfl, hq _ q' _ G H (Same.refl _) (Same.refl _) sg New.refl (.bl _)⟩
  · cases e
theorem pIsB_b {a b : Bool} : pIsB (.bool a) (.bool b) = some (.bool (decide (a = b))) := rfl
theorem pNotB_b {a b : Bool} : pNotB (.bool a) (.bool b) = some (.bool (!decide (a = b))) := rfl
end
end VL


set_option maxRecDepth 100000
set_option maxHeartbeats 4000000
namespace LW
open PySem PySem.Spec PyProof.Rows L2 VL
/-! ### the text by places -/
def top (i : Nat) : Stmt := PySem.Challenge.pw_stepsound_k02_whole_faults_of_coders.main.body.getD i (.Pass ⟨0, 0, 0, 0⟩)
abbrev s__law_begun : Stmt := top 12
abbrev s__law_next : Stmt := top 13
abbrev s_is_whole : Stmt := top 5
abbrev s_cd_is_move : Stmt := top 6
abbrev s_cd_row_fault : Stmt := top 7
abbrev s_coder_fault : Stmt := top 8
abbrev s_is_coder : Stmt := top 9
abbrev s_need_coder : Stmt := top 10
abbrev s__law_is_whole : Stmt := top 14
abbrev s__law_outcome : Stmt := top 15
abbrev s__law_is_move : Stmt := top 16
abbrev s__law_fault : Stmt := top 17
abbrev s__law_wide : Stmt := top 18
abbrev s__law_put : Stmt := top 19
abbrev s__law_spoiled : Stmt := top 20
abbrev s_law : Stmt := top 21
def clsAt (s : Stmt) (j : Nat) : Stmt := match s with
  | .ClassDef _ _ _ body _ _ _ _ _ _ _ => body.getD j (.Pass ⟨0, 0, 0, 0⟩)
  | _ => .Pass ⟨0, 0, 0, 0⟩
abbrev i_BadCoder : Stmt := clsAt (top 1) 0
theorem sci_BadCoder : FnScope ["self", "part", "number"] ["self", "part", "number"] (defScope i_BadCoder) := ⟨rfl, rfl, rfl, by decide +kernel, rfl, by decide +kernel, by decide +kernel⟩
abbrev kn : List Str := ["BadCoder"]
abbrev nm__law_begun : List Str := ["script", "cell"]
theorem sc__law_begun : FnScope nm__law_begun ["script"] (defScope s__law_begun) := ⟨rfl, rfl, rfl, by decide +kernel, rfl, by decide +kernel, by decide +kernel⟩
abbrev nm__law_next : List Str := ["m", "many", "rest", "k", "cell", "mixed"]
theorem sc__law_next : FnScope nm__law_next ["m", "many"] (defScope s__law_next) := ⟨rfl, rfl, rfl, by decide +kernel, rfl, by decide +kernel, by decide +kernel⟩
abbrev nm_is_whole : List Str := ["value", "least", "most"]
theorem sc_is_whole : FnScope nm_is_whole ["value", "least", "most"] (defScope s_is_whole) := ⟨rfl, rfl, rfl, by decide +kernel, rfl, by decide +kernel, by decide +kernel⟩
abbrev nm_cd_is_move : List Str := ["move"]
theorem sc_cd_is_move : FnScope nm_cd_is_move ["move"] (defScope s_cd_is_move) := ⟨rfl, rfl, rfl, by decide +kernel, rfl, by decide +kernel, by decide +kernel⟩
abbrev nm_cd_row_fault : List Str := ["part", "row", "least", "most", "number", "thing"]
theorem sc_cd_row_fault : FnScope nm_cd_row_fault ["part", "row", "least", "most"] (defScope s_cd_row_fault) := ⟨rfl, rfl, rfl, by decide +kernel, rfl, by decide +kernel, by decide +kernel⟩
abbrev nm_coder_fault : List Str := ["thing", "low", "high", "steps", "moves", "fade", "fault"]
theorem sc_coder_fault : FnScope nm_coder_fault ["thing"] (defScope s_coder_fault) := ⟨rfl, rfl, rfl, by decide +kernel, rfl, by decide +kernel, by decide +kernel⟩
abbrev nm_is_coder : List Str := ["thing"]
theorem sc_is_coder : FnScope nm_is_coder ["thing"] (defScope s_is_coder) := ⟨rfl, rfl, rfl, by decide +kernel, rfl, by decide +kernel, by decide +kernel⟩
abbrev nm_need_coder : List Str := ["thing", "fault"]
theorem sc_need_coder : FnScope nm_need_coder ["thing"] (defScope s_need_coder) := ⟨rfl, rfl, rfl, by decide +kernel, rfl, by decide +kernel, by decide +kernel⟩
abbrev nm__law_is_whole : List Str := ["thing", "least", "most"]
theorem sc__law_is_whole : FnScope nm__law_is_whole ["thing", "least", "most"] (defScope s__law_is_whole) := ⟨rfl, rfl, rfl, by decide +kernel, rfl, by decide +kernel, by decide +kernel⟩
abbrev nm__law_outcome : List Str := ["thing", "found", "e"]
theorem sc__law_outcome : FnScope nm__law_outcome ["thing"] (defScope s__law_outcome) := ⟨rfl, rfl, rfl, by decide +kernel, rfl, by decide +kernel, by decide +kernel⟩
abbrev nm__law_is_move : List Str := ["thing"]
theorem sc__law_is_move : FnScope nm__law_is_move ["thing"] (defScope s__law_is_move) := ⟨rfl, rfl, rfl, by decide +kernel, rfl, by decide +kernel, by decide +kernel⟩
abbrev nm__law_fault : List Str := ["thing", "wrong", "k", "step", "move"]
theorem sc__law_fault : FnScope nm__law_fault ["thing"] (defScope s__law_fault) := ⟨rfl, rfl, rfl, by decide +kernel, rfl, by decide +kernel, by decide +kernel⟩
abbrev nm__law_wide : List Str := ["m", "low", "high", "steps", "k", "moves", "fade"]
theorem sc__law_wide : FnScope nm__law_wide ["m"] (defScope s__law_wide) := ⟨rfl, rfl, rfl, by decide +kernel, rfl, by decide +kernel, by decide +kernel⟩
abbrev nm__law_put : List Str := ["row", "at", "thing"]
theorem sc__law_put : FnScope nm__law_put ["row", "at", "thing"] (defScope s__law_put) := ⟨rfl, rfl, rfl, by decide +kernel, rfl, by decide +kernel, by decide +kernel⟩
abbrev nm__law_spoiled : List Str := ["m", "coder", "at", "some", "row", "place"]
theorem sc__law_spoiled : FnScope nm__law_spoiled ["m", "coder"] (defScope s__law_spoiled) := ⟨rfl, rfl, rfl, by decide +kernel, rfl, by decide +kernel, by decide +kernel⟩
abbrev nm_law : List Str := ["script", "m", "turn", "coder", "thing", "k", "due"]
theorem sc_law : FnScope nm_law ["script"] (defScope s_law) := ⟨rfl, rfl, rfl, by decide +kernel, rfl, by decide +kernel, by decide +kernel⟩
abbrev kw_ (x : Str) (K : PySem.W.Frag) : List (Str × V) := [("state", .ref (kwAt (x, none) "state" K))]
/-! ### what the top has left -/
structure Tx (K : PySem.W.Frag) (mg : Str → Option Value) : Prop where
  d__law_begun : ∃ fd, FunD K "_law_begun" "_law_begun" (defArgs s__law_begun) (defBody s__law_begun) (defScope s__law_begun) [] [] (He.ga K "_law_begun") fd
  g__law_begun : mg "_law_begun" = some (.ref (He.ga K "_law_begun"))
  d__law_next : ∃ fd, FunD K "_law_next" "_law_next" (defArgs s__law_next) (defBody s__law_next) (defScope s__law_next) [] [] (He.ga K "_law_next") fd
  g__law_next : mg "_law_next" = some (.ref (He.ga K "_law_next"))
  d_is_whole : ∃ fd, FunD K "is_whole" "is_whole" (defArgs s_is_whole) (defBody s_is_whole) (defScope s_is_whole) [] [] (He.ga K "is_whole") fd
  g_is_whole : mg "is_whole" = some (.ref (He.ga K "is_whole"))
  d_cd_is_move : ∃ fd, FunD K "cd_is_move" "cd_is_move" (defArgs s_cd_is_move) (defBody s_cd_is_move) (defScope s_cd_is_move) [] [] (He.ga K "cd_is_move") fd
  g_cd_is_move : mg "cd_is_move" = some (.ref (He.ga K "cd_is_move"))
  d_cd_row_fault : ∃ fd, FunD K "cd_row_fault" "cd_row_fault" (defArgs s_cd_row_fault) (defBody s_cd_row_fault) (defScope s_cd_row_fault) [] [] (He.ga K "cd_row_fault") fd
  g_cd_row_fault : mg "cd_row_fault" = some (.ref (He.ga K "cd_row_fault"))
  d_coder_fault : ∃ fd, FunD K "coder_fault" "coder_fault" (defArgs s_coder_fault) (defBody s_coder_fault) (defScope s_coder_fault) [] [] (He.ga K "coder_fault") fd
  g_coder_fault : mg "coder_fault" = some (.ref (He.ga K "coder_fault"))
  d_is_coder : ∃ fd, FunD K "is_coder" "is_coder" (defArgs s_is_coder) (defBody s_is_coder) (defScope s_is_coder) [] [] (He.ga K "is_coder") fd
  g_is_coder : mg "is_coder" = some (.ref (He.ga K "is_coder"))
  d_need_coder : ∃ fd, FunD K "need_coder" "need_coder" (defArgs s_need_coder) (defBody s_need_coder) (defScope s_need_coder) [] [] (He.ga K "need_coder") fd
  g_need_coder : mg "need_coder" = some (.ref (He.ga K "need_coder"))
  d__law_is_whole : ∃ fd, FunD K "_law_is_whole" "_law_is_whole" (defArgs s__law_is_whole) (defBody s__law_is_whole) (defScope s__law_is_whole) [] [] (He.ga K "_law_is_whole") fd
  g__law_is_whole : mg "_law_is_whole" = some (.ref (He.ga K "_law_is_whole"))
  d__law_outcome : ∃ fd, FunD K "_law_outcome" "_law_outcome" (defArgs s__law_outcome) (defBody s__law_outcome) (defScope s__law_outcome) [] [] (He.ga K "_law_outcome") fd
  g__law_outcome : mg "_law_outcome" = some (.ref (He.ga K "_law_outcome"))
  d__law_is_move : ∃ fd, FunD K "_law_is_move" "_law_is_move" (defArgs s__law_is_move) (defBody s__law_is_move) (defScope s__law_is_move) [] [] (He.ga K "_law_is_move") fd
  g__law_is_move : mg "_law_is_move" = some (.ref (He.ga K "_law_is_move"))
  d__law_fault : ∃ fd, FunD K "_law_fault" "_law_fault" (defArgs s__law_fault) (defBody s__law_fault) (defScope s__law_fault) [] [] (He.ga K "_law_fault") fd
  g__law_fault : mg "_law_fault" = some (.ref (He.ga K "_law_fault"))
  d__law_wide : ∃ fd, FunD K "_law_wide" "_law_wide" (defArgs s__law_wide) (defBody s__law_wide) (defScope s__law_wide) [] [] (He.ga K "_law_wide") fd
  g__law_wide : mg "_law_wide" = some (.ref (He.ga K "_law_wide"))
  d__law_put : ∃ fd, FunD K "_law_put" "_law_put" (defArgs s__law_put) (defBody s__law_put) (defScope s__law_put) [] [] (He.ga K "_law_put") fd
  g__law_put : mg "_law_put" = some (.ref (He.ga K "_law_put"))
  d__law_spoiled : ∃ fd, FunD K "_law_spoiled" "_law_spoiled" (defArgs s__law_spoiled) (defBody s__law_spoiled) (defScope s__law_spoiled) [] [] (He.ga K "_law_spoiled") fd
  g__law_spoiled : mg "_law_spoiled" = some (.ref (He.ga K "_law_spoiled"))
  d_law : ∃ fd, FunD K "law" "law" (defArgs s_law) (defBody s_law) (defScope s_law) [] [] (He.ga K "law") fd
  g_law : mg "law" = some (.ref (He.ga K "law"))
  g_BadCoder : mg "BadCoder" = some (.ref (He.ga K "BadCoder"))
  z_BadCoder : rzB K "BadCoder" ["part", "number"] = true
  d_BadCoder : ∃ fd, FunD K "__init__" "BadCoder.__init__" (defArgs i_BadCoder) (defBody i_BadCoder) (defScope i_BadCoder) [] [] (iA K "BadCoder") fd
  kx : KnX K kn
  xf_BadCoder : xfB K (He.ga K "BadCoder") = true
  b_bool : mg "bool" = none
  b_enumerate : mg "enumerate" = none
  b_int : mg "int" = none
  b_isinstance : mg "isinstance" = none
  b_len : mg "len" = none
  b_list : mg "list" = none
  b_min : mg "min" = none
  b_range : mg "range" = none
  b_repr : mg "repr" = none
  b_tuple : mg "tuple" = none
  c_MOST_STEPS : ∃ t, mg "MOST_STEPS" = some (.int 16 t)
  c_MOST_MOVES : ∃ t, mg "MOST_MOVES" = some (.int 16 t)
  k_bool : KitOk K "bool"
  k_int : KitOk K "int"
  k_tuple : KitOk K "tuple"
/-! ### the mirrors -/
/-- a draw: any number below many; the counter goes on -/
def v__law_next : VFn := fun ws n Q _ => match ws with
  | [.tok, .dat (.int many)] => 0 < many ∧ many < 1073741824 ∧ n < 1000000000000 ∧ ∀ r, 0 ≤ r → r < many → Q (.dat (.int r)) (n + 1)
  | _ => False
def w__law_next : XFn := fun ws => match ws with
  | [.tok, .dat (.int many)] => .draw many fun r => .ret (.dat (.int r))
  | _ => .fail
theorem nextX : ∀ ws n Q E, SF w__law_next ws n Q E → v__law_next ws n Q E := fun ws n Q E h => by
  unfold SF w__law_next at h
  unfold v__law_next
  split at h
  · exact h
  · exact h.elim
noncomputable def t_is_whole : XS :=
  xRet (xAndV (xIsi "int" (xVar 0)) (xAndV (xNotV (xIsi "bool" (xVar 0))) (xChain pLe pLe (xVar 1) (xVar 0) (xVar 2))))
noncomputable def w_is_whole : XFn := sealed (bodyX 3 3 t_is_whole)
theorem wd_is_whole : w_is_whole = bodyX 3 3 t_is_whole := sealed_eq _
noncomputable def t_cd_is_move : XS :=
  xRet (xAndV (xIsi "tuple" (xVar 0)) (xAndV (xOp pEq (xCB pLen (xCons (xVar 0) (xNil))) (xC (.int 2))) (xAndV (xCall w_is_whole [] (ywDat (xOp pIx (xVar 0) (xC (.int 0))) (ywDat (xUn pNeg (xC (.int 32))) (ywDat (xC (.int 32)) (ywNil))))) (xCall w_is_whole [] (ywDat (xOp pIx (xVar 0) (xC (.int 1))) (ywDat (xUn pNeg (xC (.int 15))) (ywDat (xC (.int 15)) (ywNil))))))))
noncomputable def w_cd_is_move : XFn := sealed (bodyX 1 1 t_cd_is_move)
theorem wd_cd_is_move : w_cd_is_move = bodyX 1 1 t_cd_is_move := sealed_eq _
noncomputable def b_cd_row_fault_0 : XS :=
  xIfS (xNot (xIfT (xTest (xOp pEq (xVar 0) (xC (.str "steps")))) (xTest (xCall w_is_whole [] (ywDat (xVar 5) (ywDat (xC (.int 1)) (ywDat (xC (.int 9999)) (ywNil)))))) (xTest (xCall w_cd_is_move [] (ywDat (xVar 5) (ywNil)))))) (xRet (xTup (xCons (xVar 0) (xCons (xVar 4) (xNil))))) (xNext)
noncomputable def t_cd_row_fault : XS :=
  xSeq (xIfS (xOr (xNot (xTest (xIsi "tuple" (xVar 1)))) (xNot (xTest (xChain pLe pLe (xVar 2) (xCB pLen (xCons (xVar 1) (xNil))) (xVar 3))))) (xRet (xTup (xCons (xVar 0) (xCons (xC .none) (xNil))))) (xNext))
  (xSeq (xFor (ziET (xCons (xVar 1) (xNil))) (ygT 2 (ygsC (ygN 4) (ygsC (ygN 5) (ygsN)))) b_cd_row_fault_0)
  (xRet (xC .none)))
noncomputable def w_cd_row_fault : XFn := sealed (bodyX 6 4 t_cd_row_fault)
theorem wd_cd_row_fault : w_cd_row_fault = bodyX 6 4 t_cd_row_fault := sealed_eq _
noncomputable def t_coder_fault : XS :=
  xSeq (xIfS (xOr (xNot (xTest (xIsi "tuple" (xVar 0)))) (xTest (xOp pNe (xCB pLen (xCons (xVar 0) (xNil))) (xC (.int 5))))) (xRet (xTup (xCons (xC (.str "form")) (xCons (xC .none) (xNil))))) (xNext))
  (xSeq (xAsg (xVar 0) (ygT 5 (ygsC (ygN 1) (ygsC (ygN 2) (ygsC (ygN 3) (ygsC (ygN 4) (ygsC (ygN 5) (ygsN))))))))
  (xSeq (xIfS (xNot (xTest (xCall w_is_whole [] (ywDat (xVar 1) (ywDat (xUn pNeg (xC (.int 32768))) (ywDat (xC (.int 0)) (ywNil))))))) (xRet (xTup (xCons (xC (.str "low")) (xCons (xC .none) (xNil))))) (xNext))
  (xSeq (xIfS (xNot (xTest (xCall w_is_whole [] (ywDat (xVar 2) (ywDat (xC (.int 0)) (ywDat (xC (.int 32767)) (ywNil))))))) (xRet (xTup (xCons (xC (.str "high")) (xCons (xC .none) (xNil))))) (xNext))
  (xSeq (xSet 6 (xCall w_cd_row_fault [] (ywDat (xC (.str "steps")) (ywDat (xVar 3) (ywDat (xC (.int 1)) (ywDat (xC (.int 16)) (ywNil)))))))
  (xSeq (xIfS (xTest (xOp pIs (xVar 6) (xC .none))) (xSet 6 (xCall w_cd_row_fault [] (ywDat (xC (.str "moves")) (ywDat (xVar 4) (ywDat (xC (.int 2)) (ywDat (xC (.int 16)) (ywNil))))))) (xNext))
  (xSeq (xIfS (xAnd (xTest (xOp pIs (xVar 6) (xC .none))) (xAnd (xNot (xTest (xCall w_is_whole [] (ywDat (xVar 5) (ywDat (xC (.int 2)) (ywDat (xC (.int 99)) (ywNil))))))) (xNot (xTest (xCall w_is_whole [] (ywDat (xVar 5) (ywDat (xC (.int 0)) (ywDat (xC (.int 0)) (ywNil))))))))) (xSet 6 (xTup (xCons (xC (.str "fade")) (xCons (xC .none) (xNil))))) (xNext))
  (xRet (xVar 6))))))))
noncomputable def w_coder_fault : XFn := sealed (bodyX 7 1 t_coder_fault)
theorem wd_coder_fault : w_coder_fault = bodyX 7 1 t_coder_fault := sealed_eq _
noncomputable def t_is_coder : XS :=
  xRet (xOp pIs (xCall w_coder_fault [] (ywDat (xVar 0) (ywNil))) (xC .none))
noncomputable def w_is_coder : XFn := sealed (bodyX 1 1 t_is_coder)
theorem wd_is_coder : w_is_coder = bodyX 1 1 t_is_coder := sealed_eq _
noncomputable def t_need_coder : XS :=
  xSeq (xSet 1 (xCall w_coder_fault [] (ywDat (xVar 0) (ywNil))))
  (xSeq (xIfS (xTest (xOp pIsNot (xVar 1) (xC .none))) (xRaise "BadCoder" ["part", "number"] (xCons (xOp pIx (xVar 1) (xC (.int 0))) (xCons (xOp pIx (xVar 1) (xC (.int 1))) (xNil)))) (xNext))
  (xRet (xVar 0)))
noncomputable def w_need_coder : XFn := sealed (bodyX 2 1 t_need_coder)
theorem wd_need_coder : w_need_coder = bodyX 2 1 t_need_coder := sealed_eq _
noncomputable def t__law_is_whole : XS :=
  xRet (xAndV (xIsi "int" (xVar 0)) (xAndV (xNotV (xIsi "bool" (xVar 0))) (xChain pLe pLe (xVar 1) (xVar 0) (xVar 2))))
noncomputable def w__law_is_whole : XFn := sealed (bodyX 3 3 t__law_is_whole)
theorem wd__law_is_whole : w__law_is_whole = bodyX 3 3 t__law_is_whole := sealed_eq _
noncomputable def h__law_outcome_0 : Pt → XS :=
  fun p2 => xSet 1 (xTup (xCons (xXf p2 2 "BadCoder" "part") (xCons (xXf p2 2 "BadCoder" "number") (xNil))))
noncomputable def y__law_outcome_1 : XS :=
  xSet 1 (xIf (xTest (xOp pEq (xCB pRepr (xCons (xCall w_need_coder [] (ywDat (xVar 0) (ywNil))) (xNil))) (xCB pRepr (xCons (xVar 0) (xNil))))) (xC .none) (xC (.str "another")))
noncomputable def t__law_outcome : XS :=
  xSeq (xSet 1 (xC (.str "begun")))
  (xSeq (xTry kn y__law_outcome_1 [.nm "BadCoder" 2 h__law_outcome_0])
  (xRet (xVar 1)))
noncomputable def w__law_outcome : XFn := sealed (bodyX 3 1 t__law_outcome)
theorem wd__law_outcome : w__law_outcome = bodyX 3 1 t__law_outcome := sealed_eq _
noncomputable def t__law_is_move : XS :=
  xSeq (xIfS (xOr (xNot (xTest (xIsi "tuple" (xVar 0)))) (xTest (xOp pNe (xCB pLen (xCons (xVar 0) (xNil))) (xC (.int 2))))) (xRet (xC (.bool false))) (xNext))
  (xRet (xAndV (xCall w__law_is_whole [] (ywDat (xOp pIx (xVar 0) (xC (.int 0))) (ywDat (xUn pNeg (xC (.int 32))) (ywDat (xC (.int 32)) (ywNil))))) (xCall w__law_is_whole [] (ywDat (xOp pIx (xVar 0) (xC (.int 1))) (ywDat (xUn pNeg (xC (.int 15))) (ywDat (xC (.int 15)) (ywNil)))))))
noncomputable def w__law_is_move : XFn := sealed (bodyX 1 1 t__law_is_move)
theorem wd__law_is_move : w__law_is_move = bodyX 1 1 t__law_is_move := sealed_eq _
noncomputable def c__law_fault_0 : XB :=
  xNot (xTest (xCall w__law_is_whole [] (ywDat (xVar 3) (ywDat (xC (.int 1)) (ywDat (xC (.int 9999)) (ywNil))))))
noncomputable def e__law_fault_1 : XT :=
  xVar 2
noncomputable def c__law_fault_2 : XB :=
  xNot (xTest (xCall w__law_is_move [] (ywDat (xVar 4) (ywNil))))
noncomputable def e__law_fault_3 : XT :=
  xVar 2
noncomputable def t__law_fault : XS :=
  xSeq (xIfS (xOr (xNot (xTest (xIsi "tuple" (xVar 0)))) (xTest (xOp pNe (xCB pLen (xCons (xVar 0) (xNil))) (xC (.int 5))))) (xRet (xTup (xCons (xC (.str "form")) (xCons (xC .none) (xNil))))) (xNext))
  (xSeq (xIfS (xNot (xTest (xCall w__law_is_whole [] (ywDat (xOp pIx (xVar 0) (xC (.int 0))) (ywDat (xUn pNeg (xC (.int 32768))) (ywDat (xC (.int 0)) (ywNil))))))) (xRet (xTup (xCons (xC (.str "low")) (xCons (xC .none) (xNil))))) (xNext))
  (xSeq (xIfS (xNot (xTest (xCall w__law_is_whole [] (ywDat (xOp pIx (xVar 0) (xC (.int 1))) (ywDat (xC (.int 0)) (ywDat (xC (.int 32767)) (ywNil))))))) (xRet (xTup (xCons (xC (.str "high")) (xCons (xC .none) (xNil))))) (xNext))
  (xSeq (xIfS (xOr (xNot (xTest (xIsi "tuple" (xOp pIx (xVar 0) (xC (.int 2)))))) (xNot (xTest (xChain pLe pLe (xC (.int 1)) (xCB pLen (xCons (xOp pIx (xVar 0) (xC (.int 2))) (xNil))) (xC (.int 16)))))) (xRet (xTup (xCons (xC (.str "steps")) (xCons (xC .none) (xNil))))) (xNext))
  (xSeq (xSet 1 (xFz (xLc (ziET (xCons (xOp pIx (xVar 0) (xC (.int 2))) (xNil))) (ygT 2 (ygsC (ygN 2) (ygsC (ygN 3) ygsN))) c__law_fault_0 e__law_fault_1 [2, 3])))
  (xSeq (xIfS (xTest (xOp pNe (xVar 1) (xFz (xLst (xNil))))) (xRet (xTup (xCons (xC (.str "steps")) (xCons (xOp pIx (xVar 1) (xC (.int 0))) (xNil))))) (xNext))
  (xSeq (xIfS (xOr (xNot (xTest (xIsi "tuple" (xOp pIx (xVar 0) (xC (.int 3)))))) (xNot (xTest (xChain pLe pLe (xC (.int 2)) (xCB pLen (xCons (xOp pIx (xVar 0) (xC (.int 3))) (xNil))) (xC (.int 16)))))) (xRet (xTup (xCons (xC (.str "moves")) (xCons (xC .none) (xNil))))) (xNext))
  (xSeq (xSet 1 (xFz (xLc (ziET (xCons (xOp pIx (xVar 0) (xC (.int 3))) (xNil))) (ygT 2 (ygsC (ygN 2) (ygsC (ygN 4) ygsN))) c__law_fault_2 e__law_fault_3 [2, 4])))
  (xSeq (xIfS (xTest (xOp pNe (xVar 1) (xFz (xLst (xNil))))) (xRet (xTup (xCons (xC (.str "moves")) (xCons (xOp pIx (xVar 1) (xC (.int 0))) (xNil))))) (xNext))
  (xRet (xIf (xOr (xTest (xCall w__law_is_whole [] (ywDat (xOp pIx (xVar 0) (xC (.int 4))) (ywDat (xC (.int 2)) (ywDat (xC (.int 99)) (ywNil)))))) (xTest (xCall w__law_is_whole [] (ywDat (xOp pIx (xVar 0) (xC (.int 4))) (ywDat (xC (.int 0)) (ywDat (xC (.int 0)) (ywNil))))))) (xC .none) (xTup (xCons (xC (.str "fade")) (xCons (xC .none) (xNil))))))))))))))
noncomputable def w__law_fault : XFn := sealed (bodyX 5 1 t__law_fault)
theorem wd__law_fault : w__law_fault = bodyX 5 1 t__law_fault := sealed_eq _
noncomputable def e__law_wide_0 : XT :=
  xOp pIx (xFz (xLst (xCons (xC (.int 1)) (xCons (xC (.int 9999)) (xCons (xOp pAdd (xC (.int 1)) (xCall w__law_next [] (ywVar 0 (ywDat (xC (.int 9999)) (ywNil))))) (xNil)))))) (xCall w__law_next [] (ywVar 0 (ywDat (xC (.int 3)) (ywNil))))
noncomputable def b__law_wide_1 : XS :=
  xAppend 5 (xTup (xCons (xOp pSub (xCall w__law_next [] (ywVar 0 (ywDat (xC (.int 65)) (ywNil)))) (xC (.int 32))) (xCons (xOp pSub (xCall w__law_next [] (ywVar 0 (ywDat (xC (.int 31)) (ywNil)))) (xC (.int 15))) (xNil))))
noncomputable def t__law_wide : XS :=
  xSeq (xPar 1 2 (xCons (xFz (xLst (xCons (xC (.int 0)) (xCons (xUn pNeg (xC (.int 1))) (xCons (xUn pNeg (xC (.int 32768))) (xCons (xOp pSub (xC (.int 0)) (xCall w__law_next [] (ywVar 0 (ywDat (xC (.int 32769)) (ywNil))))) (xNil))))))) (xCons (xFz (xLst (xCons (xC (.int 0)) (xCons (xC (.int 1)) (xCons (xC (.int 32767)) (xCons (xCall w__law_next [] (ywVar 0 (ywDat (xC (.int 32768)) (ywNil)))) (xNil))))))) (xNil))))
  (xSeq (xSet 3 (xFz (xLc (ziR1 (xCons (xOp pAdd (xC (.int 1)) (xCall w__law_next [] (ywVar 0 (ywDat (xC (.int 16)) (ywNil))))) (xNil))) (ygN 4) xYes e__law_wide_0 [4])))
  (xSeq (xSetO 5 (xLst (xNil)))
  (xSeq (xFor (ziR1 (xCons (xOp pAdd (xC (.int 2)) (xCall w__law_next [] (ywVar 0 (ywDat (xC (.int 15)) (ywNil))))) (xNil))) (ygN 4) b__law_wide_1)
  (xSeq (xSet 6 (xOp pIx (xFz (xLst (xCons (xC (.int 0)) (xCons (xC (.int 2)) (xCons (xC (.int 99)) (xCons (xOp pAdd (xC (.int 2)) (xCall w__law_next [] (ywVar 0 (ywDat (xC (.int 98)) (ywNil))))) (xNil))))))) (xCall w__law_next [] (ywVar 0 (ywDat (xC (.int 4)) (ywNil))))))
  (xFrz 5 (xRet (xTup (xCons (xOp pIx (xVar 1) (xCall w__law_next [] (ywVar 0 (ywDat (xC (.int 4)) (ywNil))))) (xCons (xOp pIx (xVar 2) (xCall w__law_next [] (ywVar 0 (ywDat (xC (.int 4)) (ywNil))))) (xCons (xCB pTuple (xCons (xVar 3) (xNil))) (xCons (xCB pTuple (xCons (xVar 5) (xNil))) (xCons (xVar 6) (xNil)))))))))))))
noncomputable def w__law_wide : XFn := sealed (bodyX 7 1 t__law_wide)
theorem wd__law_wide : w__law_wide = bodyX 7 1 t__law_wide := sealed_eq _
noncomputable def t__law_put : XS :=
  xRet (xOp pAdd (xOp pAdd (xSl (xVar 0) (xpN) (xpS (xVar 1))) (xTup (xCons (xVar 2) (xNil)))) (xSl (xVar 0) (xpS (xOp pAdd (xVar 1) (xC (.int 1)))) (xpN)))
noncomputable def w__law_put : XFn := sealed (bodyX 3 3 t__law_put)
theorem wd__law_put : w__law_put = bodyX 3 3 t__law_put := sealed_eq _
noncomputable def t__law_spoiled : XS :=
  xSeq (xSet 2 (xCall w__law_next [] (ywVar 0 (ywDat (xC (.int 7)) (ywNil)))))
  (xSeq (xIfS (xTest (xOp pLt (xVar 2) (xC (.int 2)))) (xSeq (xSet 3 (xFz (xLst (xCons (xC .none) (xCons (xC (.bool true)) (xCons (xC (.str "0")) (xCons (xTup (xCons (xC (.int 0)) (xNil))) (xCons (xFz (xLst (xCons (xC (.int 0)) (xNil)))) (xCons (xC (.int 0)) (xCons (xC (.int 1)) (xCons (xUn pNeg (xC (.int 1))) (xCons (xUn pNeg (xC (.int 32768))) (xCons (xUn pNeg (xC (.int 32769))) (xCons (xC (.int 32767)) (xCons (xC (.int 32768)) (xCons (xOp pPow (xC (.int 10)) (xC (.int 30))) (xNil)))))))))))))))))
  (xRet (xCall w__law_put [] (ywDat (xVar 1) (ywDat (xVar 2) (ywDat (xOp pIx (xVar 3) (xCall w__law_next [] (ywVar 0 (ywDat (xC (.int 13)) (ywNil))))) (ywNil))))))) (xNext))
  (xSeq (xIfS (xTest (xOp pEq (xVar 2) (xC (.int 4)))) (xSeq (xSet 3 (xFz (xLst (xCons (xC .none) (xCons (xC (.bool true)) (xCons (xC (.bool false)) (xCons (xC (.str "2")) (xCons (xTup (xCons (xC (.int 2)) (xNil))) (xCons (xFz (xLst (xCons (xC (.int 2)) (xNil)))) (xCons (xC (.int 1)) (xCons (xC (.int 0)) (xCons (xC (.int 2)) (xCons (xC (.int 99)) (xCons (xC (.int 100)) (xCons (xUn pNeg (xC (.int 2))) (xCons (xOp pPow (xC (.int 10)) (xC (.int 30))) (xNil)))))))))))))))))
  (xRet (xCall w__law_put [] (ywDat (xVar 1) (ywDat (xC (.int 4)) (ywDat (xOp pIx (xVar 3) (xCall w__law_next [] (ywVar 0 (ywDat (xC (.int 13)) (ywNil))))) (ywNil))))))) (xNext))
  (xSeq (xIfS (xTest (xOp pGt (xVar 2) (xC (.int 4)))) (xSeq (xSet 3 (xFz (xLst (xCons (xFz (xCO pList (xCons (xVar 1) (xNil)))) (xCons (xSl (xVar 1) (xpN) (xpS (xC (.int 4)))) (xCons (xOp pAdd (xVar 1) (xTup (xCons (xC (.int 0)) (xNil)))) (xCons (xC .none) (xCons (xC (.dict [])) (xCons (xC (.str "coder")) (xCons (xTup (xNil)) (xCons (xC (.int 5)) (xCons (xRev (xVar 1)) (xCons (xVar 1) (xNil))))))))))))))
  (xRet (xOp pIx (xVar 3) (xCall w__law_next [] (ywVar 0 (ywDat (xC (.int 10)) (ywNil))))))) (xNext))
  (xSeq (xSet 4 (xOp pIx (xVar 1) (xVar 2)))
  (xSeq (xIfS (xOr (xNot (xTest (xIsi "tuple" (xVar 4)))) (xTest (xOp pEq (xVar 4) (xTup (xNil))))) (xRet (xVar 1)) (xNext))
  (xSeq (xSet 5 (xCall w__law_next [] (ywVar 0 (ywDat (xCB pLen (xCons (xVar 4) (xNil))) (ywNil)))))
  (xSeq (xIfS (xTest (xOp pEq (xCall w__law_next [] (ywVar 0 (ywDat (xC (.int 4)) (ywNil)))) (xC (.int 0)))) (xSeq (xSet 3 (xFz (xLst (xCons (xFz (xCO pList (xCons (xVar 4) (xNil)))) (xCons (xTup (xNil)) (xCons (xSl (xVar 4) (xpN) (xpS (xC (.int 1)))) (xCons (xOp pRepT (xVar 4) (xC (.int 17))) (xCons (xC .none) (xCons (xOp pAdd (xVar 4) (xSl (xVar 4) (xpN) (xpS (xC (.int 1))))) (xCons (xC (.str "row")) (xCons (xC (.dict [])) (xNil))))))))))))
  (xRet (xCall w__law_put [] (ywDat (xVar 1) (ywDat (xVar 2) (ywDat (xOp pIx (xVar 3) (xCall w__law_next [] (ywVar 0 (ywDat (xC (.int 8)) (ywNil))))) (ywNil))))))) (xNext))
  (xSeq (xSet 3 (xFz (xLst (xCons (xC .none) (xCons (xC (.bool true)) (xCons (xC (.str "1")) (xCons (xTup (xCons (xC (.int 1)) (xNil))) (xCons (xFz (xLst (xCons (xC (.int 1)) (xNil)))) (xCons (xC (.int 0)) (xCons (xC (.int 10000)) (xCons (xUn pNeg (xC (.int 1))) (xCons (xC (.int 9999)) (xCons (xOp pPow (xC (.int 10)) (xC (.int 30))) (xNil))))))))))))))
  (xSeq (xIfS (xTest (xOp pEq (xVar 2) (xC (.int 3)))) (xSet 3 (xFz (xLst (xCons (xC .none) (xCons (xTup (xCons (xC (.int 1)) (xNil))) (xCons (xTup (xCons (xC (.int 1)) (xCons (xC (.int 0)) (xCons (xC (.int 0)) (xNil))))) (xCons (xFz (xLst (xCons (xC (.int 1)) (xCons (xC (.int 0)) (xNil))))) (xCons (xTup (xCons (xC (.int 33)) (xCons (xC (.int 0)) (xNil)))) (xCons (xTup (xCons (xUn pNeg (xC (.int 33))) (xCons (xC (.int 0)) (xNil)))) (xCons (xTup (xCons (xC (.int 0)) (xCons (xC (.int 16)) (xNil)))) (xCons (xTup (xCons (xC (.int 0)) (xCons (xUn pNeg (xC (.int 16))) (xNil)))) (xCons (xTup (xCons (xC (.bool true)) (xCons (xC (.int 0)) (xNil)))) (xCons (xTup (xCons (xC (.int 0)) (xCons (xC (.str "1")) (xNil)))) (xCons (xTup (xCons (xC (.int 32)) (xCons (xUn pNeg (xC (.int 15))) (xNil)))) (xNil))))))))))))))) (xNext))
  (xRet (xCall w__law_put [] (ywDat (xVar 1) (ywDat (xVar 2) (ywDat (xCall w__law_put [] (ywDat (xVar 4) (ywDat (xVar 5) (ywDat (xOp pIx (xVar 3) (xCall w__law_next [] (ywVar 0 (ywDat (xCB pLen (xCons (xVar 3) (xNil))) (ywNil))))) (ywNil))))) (ywNil)))))))))))))))
noncomputable def w__law_spoiled : XFn := sealed (bodyX 6 2 t__law_spoiled)
theorem wd__law_spoiled : w__law_spoiled = bodyX 6 2 t__law_spoiled := sealed_eq _
noncomputable def b_law_0 : XS :=
  xSeq (xIfS (xAnd (xTest (xIsi "tuple" (xVar 4))) (xTest (xOp pEq (xCB pLen (xCons (xVar 4) (xNil))) (xC (.int 5))))) (xSet 4 (xCall w__law_spoiled [] (ywVar 1 (ywDat (xVar 4) (ywNil))))) (xNext))
  (xSeq (xSet 6 (xCall w__law_fault [] (ywDat (xVar 4) (ywNil))))
  (xIfS (xOr (xTest (xOp pNe (xCB pRepr (xCons (xCall w__law_outcome [] (ywDat (xVar 4) (ywNil))) (xNil))) (xCB pRepr (xCons (xVar 6) (xNil))))) (xTest (xOp pNe (xCB pRepr (xCons (xCall w_is_coder [] (ywDat (xVar 4) (ywNil))) (xNil))) (xCB pRepr (xCons (xOp pIs (xVar 6) (xC .none)) (xNil)))))) (xRet (xC (.bool false))) (xNext)))
noncomputable def b_law_1 : XS :=
  xSeq (xSet 3 (xCall w__law_wide [] (ywVar 1 (ywNil))))
  (xSeq (xIfS (xOr (xTest (xOp pIsNot (xCall w__law_outcome [] (ywDat (xVar 3) (ywNil))) (xC .none))) (xTest (xOp pNotB (xCall w_is_coder [] (ywDat (xVar 3) (ywNil))) (xC (.bool true))))) (xRet (xC (.bool false))) (xNext))
  (xSeq (xSet 4 (xVar 3))
  (xFor (ziR1 (xCons (xC (.int 2)) (xNil))) (ygN 5) b_law_0)))
noncomputable def t_law : XS :=
  xSeq (xFor (ziR1 (xCons (xOp pAdd (xC (.int 2)) (xCB pMin2 (xCons (xLenS 0) (xCons (xC (.int 5)) (xNil))))) (xNil))) (ygN 2) b_law_1)
  (xRet (xC (.bool true)))
section
variable {P : Program} {w : World} {K : PySem.W.Frag} {mg : Str → Option Value} {base : Heap}
theorem okBegun (T : Tx K mg) : ∃ fd, FnG P w K mg base 1 (He.ga K "_law_begun") fd ["script"] (spBegun K) ∧ Binds K fd ["script"] [] ∧ PySem.W.keepIn K (.ref (He.ga K "_law_begun")) = true ∧ mg "_law_begun" = some (.ref (He.ga K "_law_begun")) := by
  obtain ⟨fd, F⟩ := T.d__law_begun
  have S := sc__law_begun
  refine ⟨fd, fnG_of (k := 0) F S (fun vs H Q E h => ?_) (fun cdv A outer s H vs Q E hg hr h => ?_), F.bindsN fun _ _ _ _ _ _ us hl => match us, hl with | [_], _ => rfl, F.kp, T.g__law_begun⟩
  · obtain ⟨a, ns, rfl, _⟩ := h
    rfl
  · obtain ⟨a, ns, rfl, hs, hl, k⟩ := h
    refine ⟨_, pss_one (ps_ret (pe_disp (pps_cons pe_str (pe_callTy call_list_of rfl T.b_list (by decide +kernel) (pa_cons (pv 0) pa_nil)) (pps_cons pe_str (pe_lc (own := [("cell", 1)]) rfl S.nd (pi_list (pv 0))
      (blkOk_by (own := [("cell", 1)]) (N := nm__law_begun) (sc := defScope s__law_begun) (by decide +kernel)) (fun _ _ _ _ _ => pg_name (i := 1) S.nd rfl (Or.inl rfl)) (fun _ _ _ _ _ => pts_one (pt_cmpR op_ge (pv 1) (pe_op op_pow pe_int pe_int) (nomark _))) (fun _ _ _ _ _ => pv 1))
      (pps_cons pe_str pe_int pps_nil))) (by rfl) (by rfl) (fun z => by cases z) (by decide))), ?_⟩
    intro p hp
    have s1 : Same H (L2.upd H p (.dK [])) := same_upd hp
    refine ⟨_, rfl, a, _, rfl, .inl (s1.seq hs), fun lc hlc => ?_⟩
    have s2 := same_upd (o := .lst (ns.map V.int)) hlc
    refine ⟨_, rfl, a, rfl, ⟨_, (s1.trans s2).seq hs⟩, fun ll hll => ?_⟩
    have s3 : ∀ xs : List V, Same (L2.upd (L2.upd H p (.dK [])) lc (.lst (ns.map V.int))) (L2.upd (L2.upd (L2.upd H p (.dK [])) lc (.lst (ns.map V.int))) ll (.lst xs)) := fun xs => same_upd hll
    refine lc_list (K := K) (a := a) (xs := ns.map V.int) (fun i H' => ∃ ms : List Int, ms.length ≤ i ∧ H' = L2.upd (L2.upd (L2.upd H p (.dK [])) lc (.lst (ns.map V.int))) ll (.lst (ms.map V.int))) ⟨[], Nat.le_refl _, rfl⟩ ?_ ?_ ?_
    · rintro i H' _ ⟨ms, _, rfl⟩
      exact ((s1.trans s2).trans (s3 _)).seq hs
    · rintro i x H' hi ⟨ms, hm, rfl⟩
      obtain ⟨u, rfl⟩ : ∃ u, x = V.int u := by
        rw [List.getElem?_map] at hi
        cases e : ns[i]? with
        | none => rw [e] at hi; cases hi
        | some u => rw [e] at hi; exact ⟨u, (Option.some.inj hi).symm⟩
      have hi63 : i < 63 := by
        have q := (List.getElem?_eq_some_iff.mp hi).1
        rw [List.length_map] at q
        omega
      refine ⟨rfl, _, rfl, _, _, rfl, rfl, ⟨by decide, by decide, by decide⟩, _, _, rfl, rfl, _, rfl, ?_⟩
      refine ite2 (fun _ => ?_) (fun _ => ⟨ms, by omega, rfl⟩)
      refine ⟨_, rfl, _, upd_same, ?_, ms ++ [u], by simp; omega, by rw [upd_upd, List.map_append]; rfl⟩
      rw [List.length_map]
      exact Nat.lt_of_le_of_lt hm (Nat.lt_of_lt_of_le hi63 (by decide))
    · rintro H' ⟨ms, hm, rfl⟩
      rw [List.length_map] at hm
      have e1 : lc ≠ p := fun z => by subst z; rw [upd_same] at hlc; cases hlc
      have e2 : ll ≠ p := fun z => by subst z; rw [upd_ne e1.symm, upd_same] at hll; cases hll
      have e3 : ll ≠ lc := fun z => by subst z; rw [upd_same] at hll; cases hll
      have hlc0 : H lc = none := by rw [upd_ne e1] at hlc; exact hlc
      have hll0 : H ll = none := by rw [upd_ne e3, upd_ne e2] at hll; exact hll
      refine ⟨by rw [upd_ne e2.symm, upd_ne e1.symm, upd_same], mKvs lc ll 0, rfl, (by show 3 ≤ 15; decide), ?_⟩
      rw [m_merge]
      have sf : Same H (L2.upd (L2.upd (L2.upd (L2.upd H p (.dK [])) lc (.lst (ns.map V.int))) ll (.lst (ms.map V.int))) p (.dK (mKvs lc ll 0))) := fun b o e => by
        rw [upd_ne (ne_of_none e hp)]
        exact ((s1.trans s2).trans (s3 _)) _ _ e
      refine k p _ sf ⟨sf, hp, lc, ll, ns, ms, 0, hlc0, hll0, e3.symm, upd_same, ?_, ?_, Int.le_refl _, Int.le_refl _, hl, by omega⟩ hp
      · rw [upd_ne e1, upd_ne e3.symm, upd_same]
      · rw [upd_ne e2, upd_same]
theorem okNext (T : Tx K mg) : Ok P w K mg base 1 "_law_next" ["m", "many"] v__law_next := by
  obtain ⟨fd, F⟩ := T.d__law_next
  have S := sc__law_next
  refine ⟨fd, fnG_of (k := 0) F S (fun vs H Q E h => ?_) (fun cdv A outer s H vs Q E hg hr h => ?_), F.bindsN fun _ _ _ _ _ _ us hl => match us, hl with | [_, _], _ => rfl, F.kp, T.g__law_next⟩
  · obtain ⟨C, n, ws, Q0, E0, e0, io, r, h, _⟩ := h
    match ws, r, h with
    | [.tok, .dat (.int many)], r, _ => rw [r.length]; rfl
  · obtain ⟨C, n, ws, Q0, E0, e0, io, r, h, hq, he⟩ := h
    match ws, vs, r, h with
    | [.tok, .dat (.int many)], [v1, v2], ⟨⟨m, em, e1⟩, r2, _⟩, ⟨h1, h2, h3, h4⟩ =>
      subst e1
      cases r2
      subst e0
      have hu1 := hu_of hr
      have hu := hr.units
      have M0 : Mach m n C.O0 C.H0 := by
        have := io.good
        rw [em] at this
        exact this
      -- what is handed back
      have fin : ∀ (H' : Hp) (x : Int), Mach m (n + 1) C.O0 H' → (∀ a, H' a = none → C.H0 a = none) → 0 ≤ x → x < many → Q (.int x) H' := fun H' x M d x0 x1 =>
        hq (.dat (.int x)) (n + 1) (h4 x x0 x1) (.int x) C.G0 C.O0 H' ⟨by rw [em]; exact M, io.go, io.g0, io.o0, io.oh, io.nO, io.nG, d⟩ (.int x)
      have up1 : ∀ {H' : Hp}, Mach m n C.O0 H' → Mach m (n + 1) C.O0 H' := fun M => by
        obtain ⟨q1, q2, lc, ll, cs, ls, z, a1, a2, a3, a4, a5, a6, a7, a8, a9⟩ := M
        exact ⟨q1, q2, lc, ll, cs, ls, z, a1, a2, a3, a4, a5, a6, a7, by omega, a9⟩
      have left := fun (X : Cx) => @pe_dget X
      refine ⟨_, pss_cons (ps_while (passes_of (K := fun e s2 => L2.CX P w outer C.H0 s E e s2) rfl)
          (PW.pt (pw_and (pt_cmpR (op_neD hu) (pe_dget hu1 (pv 0) pe_str (fun _ _ => rfl)) (pe_lst pa_nil) (nomark _))
            (pw_and1 (pt_cmpR op_eq (pe_ix ix_list (pe_dget hu1 (pv 0) pe_str (fun _ _ => rfl)) pe_int (fun _ _ => rfl)) pe_int (nomark _)))))
          (pss_one (ps_dput hu1 (pv 0) pe_str (pe_slice sl_list (pe_dget hu1 (pv 0) pe_str (fun _ _ => rfl)) (po_some pe_int) po_none) rfl)))
        (pss_cons (ps_if (pt_cmpR (op_neD hu) (pe_dget hu1 (pv 0) pe_str (fun _ _ => rfl)) (pe_lst pa_nil) (nomark _))
          (pss_cons (ps_set (i := 2) S.nd rfl (Or.inl rfl) (pe_callTy call_int1 rfl T.b_int (by decide +kernel) (pa_cons (pe_ix ix_list (pe_dget hu1 (pv 0) pe_str (fun _ _ => rfl)) pe_int (fun _ _ => rfl)) pa_nil)))
            (pss_cons (ps_asg (pe_op op_fdiv (pv 2) (pv 1)) (pg_sub (pe_dget hu1 (pv 0) pe_str (fun _ _ => rfl)) pe_int set_list))
              (pss_one (ps_ret (pe_op op_mod (pv 2) (pv 1)))))) pss_nil)
        (pss_cons (ps_set (i := 3) S.nd rfl (Or.inl rfl) (pe_op op_add (pe_dget hu1 (pv 0) pe_str (fun _ _ => rfl)) pe_int))
        (pss_cons (ps_dput hu1 (pv 0) pe_str (pv 3) rfl)
        (pss_cons (ps_set (i := 4) S.nd rfl (Or.inl rfl) (pe_ifExp (pt_cmpR (op_neD hu) (pe_dget hu1 (pv 0) pe_str (fun _ _ => rfl)) (pe_lst pa_nil) (nomark _))
            (pe_ix ix_list (pe_dget hu1 (pv 0) pe_str (fun _ _ => rfl)) (pe_op op_mod (pe_callTy call_int1 rfl T.b_int (by decide +kernel) (pa_cons (pv 3) pa_nil)) (pe_callB call_len_seq rfl T.b_len (by decide +kernel) (pa_cons (pe_dget hu1 (pv 0) pe_str (fun _ _ => rfl)) pa_nil))) (fun _ _ => rfl)) pe_int))
        (pss_cons (ps_set (i := 5) S.nd rfl (Or.inl rfl) (pe_op op_mul (pe_callTy call_int1 rfl T.b_int (by decide +kernel) (pa_cons (pe_op op_add (pe_op op_add (pe_op op_mod (pe_callTy call_int1 rfl T.b_int (by decide +kernel) (pa_cons (pv 4) pa_nil)) pe_int) (pe_op op_mul pe_int (pv 3))) (pe_op op_mul (pe_op op_mul pe_int (pv 3)) (pv 3))) pa_nil)) pe_int))
        (pss_cons (ps_set (i := 5) S.nd rfl (Or.inl rfl) (pe_op op_mul (pe_callTy call_int1 rfl T.b_int (by decide +kernel) (pa_cons (pe_op op_add (pe_op op_mod (pe_callTy call_int1 rfl T.b_int (by decide +kernel) (pa_cons (pv 5) pa_nil)) pe_int) (pe_op op_mul pe_int (pv 3))) pa_nil)) pe_int))
        (pss_one (ps_ret (pe_op op_mod (pe_callTy call_int1 rfl T.b_int (by decide +kernel) (pa_cons (pe_op op_fdiv (pe_op op_mod (pe_callTy call_int1 rfl T.b_int (by decide +kernel) (pa_cons (pv 5) pa_nil)) pe_int) pe_int) pa_nil)) (pv 1)))))))))), ?_⟩
      obtain ⟨lc, ll0, cs, ls0, z, M1⟩ := M0.mk'
      refine seq_by (fun σ' H' => σ' = L2.start nm__law_next [V.ref m, V.int many] ∧ ∃ ll ls, MK m n C.O0 H' lc ll cs ls z ∧ ∀ a, H' a = none → C.H0 a = none) ?_ (fun N hN => ?_)
      rotate_left
      · refine ⟨fun k σ' H' => σ' = _ ∧ ∃ ll ls, MK m n C.O0 H' lc ll cs ls z ∧ ls.length = k ∧ ∀ a, H' a = none → C.H0 a = none, ⟨ls0.length, rfl, ll0, ls0, M1, rfl, fun _ h => h⟩, ?_⟩
        rintro k σ' H' ⟨rfl, ll, ls, M, rfl, dm⟩
        refine ⟨_, rfl, _, _, rfl, M.gl, by decide, fun p hp => ?_⟩
        have Mp := M.garb (o := .lst []) hp
        have dp := dom_upd (p := p) (o := .lst []) dm
        refine ne_nil Mp.hl upd_same (fun hne => ⟨_, rfl, ?_⟩) (fun he => ⟨_, rfl, ?_⟩)
        · obtain ⟨x, xs, rfl⟩ : ∃ x xs, ls = x :: xs := by
            cases ls with
            | nil => exact absurd rfl hne
            | cons x xs => exact ⟨x, xs, rfl⟩
          refine ⟨_, rfl, _, _, rfl, Mp.gl, _, _, _, _, rfl, rfl, SqL.of Mp.hl, atI_ints (j := 0) rfl, rfl, _, rfl, ?_⟩
          refine ite2 (fun _ => ?_) (fun _ => hN _ _ ⟨rfl, _, _, Mp, dp⟩)
          refine ⟨fun σ' H' => σ' = L2.start nm__law_next [V.ref m, V.int many] ∧ ∃ ll, MK m n C.O0 H' lc ll cs xs z ∧ ∀ a, H' a = none → C.H0 a = none, ?_, ?_⟩
          · rintro σ' H' ⟨rfl, l2, M2, d2⟩
            exact ⟨xs.length, by simp, rfl, l2, xs, M2, rfl, d2⟩
          · refine ⟨_, rfl, _, _, rfl, Mp.gl, _, rfl, _, _, rfl, SqL.of Mp.hl, fun l hl => ?_⟩
            rw [cut1_ints]
            have Ml := Mp.garb (o := .lst (((x :: xs).drop 1).map V.int)) hl
            have hl2 : C.O0 l = none := by
              cases e : C.O0 l with
              | none => rfl
              | some o => have := Mp.same _ _ e; rw [hl] at this; cases this
            have q := Ml.pl (l := l) (ms := (x :: xs).drop 1) upd_same hl2 (ne_of_none Mp.hc hl) (by have := M.nl; simp at this ⊢; omega)
            exact ⟨_, rfl, _, _, rfl, q.1, rfl, l, q.2, dom_upd (dom_upd dp)⟩
        · exact hN _ _ ⟨rfl, _, _, Mp, dp⟩
      · rintro σ' H' ⟨rfl, ll, ls, M, dm⟩
        refine seq_by (fun σ' H' => σ' = L2.start nm__law_next [V.ref m, V.int many] ∧ ∃ ll ls, MK m n C.O0 H' lc ll cs ls z ∧ ∀ a, H' a = none → C.H0 a = none) ?_ (fun N hN => ?_)
        rotate_left
        · refine ⟨_, rfl, _, _, rfl, M.gl, by decide, fun p hp => ?_⟩
          have Mp := M.garb (o := .lst []) hp
          have dp := dom_upd (p := p) (o := .lst []) dm
          refine ne_nil Mp.hl upd_same (fun hne => ⟨_, rfl, ?_⟩) (fun he => ⟨_, rfl, ?_⟩)
          · obtain ⟨x, xs, rfl⟩ : ∃ x xs, ls = x :: xs := by
              cases ls with
              | nil => exact absurd rfl hne
              | cons x xs => exact ⟨x, xs, rfl⟩
            refine ⟨_, rfl, _, _, rfl, Mp.gl, _, _, _, _, rfl, rfl, SqL.of Mp.hl, atI_ints (j := 0) rfl, .inl ⟨_, rfl, ?_⟩⟩
            refine ⟨_, rfl, _, rfl, _, _, rfl, rfl, ⟨h1, h2⟩, _, rfl, _, _, rfl, Mp.gl, _, _, _, 0, rfl, rfl, Mp.hl, ixN0 (by simp), ?_⟩
            refine ⟨_, rfl, _, rfl, _, _, rfl, rfl, h1, ?_⟩
            have q := Mp.ph (ms := (x / many) :: xs) (by have := M.nl; simp at this ⊢; omega)
            exact fin _ _ (up1 q.mach) (dom_upd dp) (Int.emod_nonneg _ (by omega)) (Int.emod_lt_of_pos _ h1)
          · exact hN _ _ ⟨rfl, _, _, Mp, dp⟩
        · rintro σ' H' ⟨rfl, ll, ls, M, dm⟩
          have hk : (0 : Int) ≤ z + 1 := by have := M.z0; omega
          have hk2 : z + 1 ≤ ((n + 1 : Nat) : Int) := by have := M.z1; omega
          have hk3 : z + 1 < 2 ^ 64 := by have := M.z1; omega
          refine ⟨_, rfl, _, _, rfl, M.ga, _, _, rfl, rfl, ?_⟩
          have q := M.pa (y := z + 1) (n' := n + 1) hk hk2
          refine ⟨_, rfl, _, rfl, _, _, rfl, q.1, ?_⟩
          have M2 := q.2
          have d2 := dom_upd (p := m) (o := .dK (mKvs lc ll (z + 1))) dm
          generalize L2.upd H' m (.dK (mKvs lc ll (z + 1))) = H2 at M2 d2
          dsimp only
          refine seq_by (fun σ' H' => ∃ c : Int, σ' = List.set (List.set (L2.start nm__law_next [V.ref m, V.int many]) 3 (some (.int (z + 1)))) 4 (some (.int c)) ∧ Mach m (n + 1) C.O0 H' ∧ ∀ a, H' a = none → C.H0 a = none) ?_ (fun N hN => ?_)
          rotate_left
          · refine ⟨_, rfl, _, _, rfl, M2.gc, by decide, fun p hp => ?_⟩
            have Mp := M2.garb (o := .lst []) hp
            have dp := dom_upd (p := p) (o := .lst []) d2
            refine ne_nil Mp.hc upd_same (fun hne => ⟨_, rfl, ?_⟩) (fun he => ⟨_, rfl, ?_⟩)
            · have hlen : 0 < cs.length := List.length_pos_iff.mpr hne
              have hr0 : 0 ≤ (z + 1) % (cs.length : Int) := Int.emod_nonneg _ (by omega)
              have hr1 : (z + 1) % (cs.length : Int) < cs.length := Int.emod_lt_of_pos _ (by omega)
              obtain ⟨j, hj⟩ : ∃ j : Nat, (z + 1) % (cs.length : Int) = (j : Int) := ⟨((z + 1) % (cs.length : Int)).toNat, (Int.toNat_of_nonneg hr0).symm⟩
              have hjl : j < cs.length := by omega
              refine ⟨_, rfl, _, _, rfl, Mp.gc, _, rfl, .inl ⟨_, rfl, _, rfl, _, _, rfl, Mp.gc, _, _, rfl, .inl (SqL.of Mp.hc), _, _, rfl, rfl, ?_, ?_⟩⟩
              · rw [List.length_map]; omega
              refine ⟨_, _, _, .int cs[j], rfl, rfl, SqL.of Mp.hc, ?_, ?_⟩
              · rw [List.length_map, hj]
                exact atI_ints (List.getElem?_eq_getElem hjl)
              · exact hN _ _ ⟨cs[j], rfl, Mp.mach, dp⟩
            · exact hN _ _ ⟨3, rfl, Mp.mach, dp⟩
          · rintro σ' H' ⟨c, rfl, M3, d3⟩
            have z29 : (0 : Int) < 2147483629 := by decide
            have z30 : (0 : Int) < 2147483647 := by decide
            have z31 : (0 : Int) < 2147483587 := by decide
            have z11 : (0 : Int) < 11 ∧ (11 : Int) < 1073741824 := by decide
            refine ⟨_, rfl, .inl ⟨_, rfl, _, _, rfl, rfl, z29, _, rfl, _, _, rfl, rfl, .inl (by decide), _, _, rfl, rfl, _, rfl, _, _, rfl, rfl, .inl (by decide), _, rfl, _, _, rfl, rfl, .inr ⟨by omega, hk3⟩, _, _, rfl, rfl, .inl ⟨_, rfl, _, _, rfl, rfl, .inr (by decide), ?_⟩⟩⟩
            refine ⟨_, rfl, .inl ⟨_, rfl, _, _, rfl, rfl, z30, _, rfl, _, _, rfl, rfl, .inl (by decide), _, _, rfl, rfl, .inl ⟨_, rfl, _, _, rfl, rfl, .inr (by decide), ?_⟩⟩⟩
            refine ⟨_, rfl, .inl ⟨_, rfl, _, _, rfl, rfl, z31, _, _, rfl, rfl, z11, .inl ⟨_, rfl, _, rfl, _, _, rfl, rfl, h1, ?_⟩⟩⟩
            exact fin _ _ M3 d3 (Int.emod_nonneg _ (by omega)) (Int.emod_lt_of_pos _ h1)
theorem rz_BadCoder (T : Tx K mg) : RzC P w K mg base "BadCoder" ["part", "number"] := by
  obtain ⟨fd, F⟩ := T.d_BadCoder
  have S := sci_BadCoder
  refine rz_of T.z_BadCoder T.g_BadCoder (by decide) (F.ok (k := 0) S (fun vs H Q E h => ?_) (fun cdv A outer s H vs Q E hr h => ?_)) (F.bindsN fun _ _ _ _ _ _ us hl => match us, hl with | [_, _, _], _ => rfl)
  · obtain ⟨a, y, z, rfl, rd⟩ := init2_read h
    rfl
  · obtain ⟨a, y, z, rfl, rd⟩ := init2_read h
    exact ⟨_, pss_cons (ps_ost (pv 0) (pv 1)) (pss_one (ps_ost (pv 0) (pv 2))), rd _ rfl rfl rfl _ fun _ _ q => q⟩
theorem ok_is_whole (T : Tx K mg) : Ok P w K mg base 1 "is_whole" ["value", "least", "most"] (SF w_is_whole) := by
  rw [wd_is_whole]
  apply Ok.ofX
  obtain ⟨fd, F⟩ := T.d_is_whole
  have S := sc_is_whole
  refine ⟨fd, fnV F S fun cdv A outer s H E hg hr => ?_, F.bindsN fun _ _ _ _ _ _ us hl => match us, hl with | [_, _, _], _ => rfl, F.kp, T.g_is_whole⟩
  · have hG : (cxOf (L2.CX P w) P w K mg base nm_is_whole "is_whole" (defScope s_is_whole) (He.ga K "is_whole") cdv A outer s H E).A.guards = some [] := hg
    have hu := hr.units
    have hu5 := units5 hr
    have tk := takes_of (X := cxOf (L2.CX P w) P w K mg base nm_is_whole "is_whole" (defScope s_is_whole) (He.ga K "is_whole") cdv A outer s H E) (E := E) rfl rfl rfl rfl
    have hp := passes_of (X := cxOf (L2.CX P w) P w K mg base nm_is_whole "is_whole" (defScope s_is_whole) (He.ga K "is_whole") cdv A outer s H E) (K := fun e s2 => L2.CX P w outer H s E e s2) rfl
    exact (xs_one (xs_ret (xe_and (xe_isi rfl T.b_isinstance rfl T.b_int (by decide +kernel) T.k_int (xe_var 0)) (xe_and (xe_not (xe_isi rfl T.b_isinstance rfl T.b_bool (by decide +kernel) T.k_bool (xe_var 0))) (xe_one (xe_chain p_le p_le (xe_var 1) (xe_var 0) (xe_var 2)))))))
theorem ok_cd_is_move (T : Tx K mg) (C_is_whole : Ok P w K mg base 1 "is_whole" ["value", "least", "most"] (SF w_is_whole)) : Ok P w K mg base 2 "cd_is_move" ["move"] (SF w_cd_is_move) := by
  rw [wd_cd_is_move]
  apply Ok.ofX
  obtain ⟨fd, F⟩ := T.d_cd_is_move
  have S := sc_cd_is_move
  refine ⟨fd, fnV F S fun cdv A outer s H E hg hr => ?_, F.bindsN fun _ _ _ _ _ _ us hl => match us, hl with | [_], _ => rfl, F.kp, T.g_cd_is_move⟩
  · have hG : (cxOf (L2.CX P w) P w K mg base nm_cd_is_move "cd_is_move" (defScope s_cd_is_move) (He.ga K "cd_is_move") cdv A outer s H E).A.guards = some [] := hg
    have hu := hr.units
    have hu5 := units5 hr
    have tk := takes_of (X := cxOf (L2.CX P w) P w K mg base nm_cd_is_move "cd_is_move" (defScope s_cd_is_move) (He.ga K "cd_is_move") cdv A outer s H E) (E := E) rfl rfl rfl rfl
    have hp := passes_of (X := cxOf (L2.CX P w) P w K mg base nm_cd_is_move "cd_is_move" (defScope s_cd_is_move) (He.ga K "cd_is_move") cdv A outer s H E) (K := fun e s2 => L2.CX P w outer H s E e s2) rfl
    exact (xs_one (xs_ret (xe_and (xe_isi rfl T.b_isinstance rfl T.b_tuple (by decide +kernel) T.k_tuple (xe_var 0)) (xe_and (xe_cmp (p_eq hu) (xe_callB pc_len rfl T.b_len (by decide +kernel) (xa_cons (xe_var 0) xa_nil)) xe_int) (xe_and (xe_ok C_is_whole hG (hr.mono (by decide)) tk rfl (yw_dat (xe_ix (xe_var 0) xe_int) (yw_dat (xe_neg xe_int) (yw_dat xe_int yw_nil)))) (xe_one (xe_ok C_is_whole hG (hr.mono (by decide)) tk rfl (yw_dat (xe_ix (xe_var 0) xe_int) (yw_dat (xe_neg xe_int) (yw_dat xe_int yw_nil))))))))))
theorem ok_cd_row_fault (T : Tx K mg) (C_cd_is_move : Ok P w K mg base 2 "cd_is_move" ["move"] (SF w_cd_is_move)) (C_is_whole : Ok P w K mg base 1 "is_whole" ["value", "least", "most"] (SF w_is_whole)) : Ok P w K mg base 3 "cd_row_fault" ["part", "row", "least", "most"] (SF w_cd_row_fault) := by
  rw [wd_cd_row_fault]
  apply Ok.ofX
  obtain ⟨fd, F⟩ := T.d_cd_row_fault
  have S := sc_cd_row_fault
  refine ⟨fd, fnV F S fun cdv A outer s H E hg hr => ?_, F.bindsN fun _ _ _ _ _ _ us hl => match us, hl with | [_, _, _, _], _ => rfl, F.kp, T.g_cd_row_fault⟩
  · have hG : (cxOf (L2.CX P w) P w K mg base nm_cd_row_fault "cd_row_fault" (defScope s_cd_row_fault) (He.ga K "cd_row_fault") cdv A outer s H E).A.guards = some [] := hg
    have hu := hr.units
    have hu5 := units5 hr
    have tk := takes_of (X := cxOf (L2.CX P w) P w K mg base nm_cd_row_fault "cd_row_fault" (defScope s_cd_row_fault) (He.ga K "cd_row_fault") cdv A outer s H E) (E := E) rfl rfl rfl rfl
    have hp := passes_of (X := cxOf (L2.CX P w) P w K mg base nm_cd_row_fault "cd_row_fault" (defScope s_cd_row_fault) (He.ga K "cd_row_fault") cdv A outer s H E) (K := fun e s2 => L2.CX P w outer H s E e s2) rfl
    exact (xs_cons (xs_if (xt_w (xw_or (xt_not (xt_val (xe_isi rfl T.b_isinstance rfl T.b_tuple (by decide +kernel) T.k_tuple (xe_var 1)))) (xw_or1 (xt_not (xt_chain p_le p_le (xe_var 2) (xe_callB pc_len rfl T.b_len (by decide +kernel) (xa_cons (xe_var 1) xa_nil)) (xe_var 3)))))) (xs_one (xs_ret (xe_tup (xa_cons (xe_var 0) (xa_cons xe_non xa_nil))))) xs_nil)
      (xs_cons (xs_for hp rfl (zi_enumT rfl T.b_enumerate (xa_cons (xe_var 1) xa_nil)) (yg_tup rfl (ygs_cons (yg_name (i := 4) S.nd rfl (by first | exact Or.inl rfl | exact Or.inr rfl)) (ygs_cons (yg_name (i := 5) S.nd rfl (by first | exact Or.inl rfl | exact Or.inr rfl)) ygs_nil))) (xs_one (xs_if (xt_not (xt_if (xt_cmp (p_eq hu) (xe_var 0) xe_str) (xt_val (xe_ok C_is_whole hG (hr.mono (by decide)) tk rfl (yw_dat (xe_var 5) (yw_dat xe_int (yw_dat xe_int yw_nil))))) (xt_val (xe_ok C_cd_is_move hG (hr.mono (by decide)) tk rfl (yw_dat (xe_var 5) yw_nil))))) (xs_one (xs_ret (xe_tup (xa_cons (xe_var 0) (xa_cons (xe_var 4) xa_nil))))) xs_nil)))
      (xs_one (xs_ret xe_non))))
theorem ok_coder_fault (T : Tx K mg) (C_cd_row_fault : Ok P w K mg base 3 "cd_row_fault" ["part", "row", "least", "most"] (SF w_cd_row_fault)) (C_is_whole : Ok P w K mg base 1 "is_whole" ["value", "least", "most"] (SF w_is_whole)) : Ok P w K mg base 4 "coder_fault" ["thing"] (SF w_coder_fault) := by
  rw [wd_coder_fault]
  apply Ok.ofX
  obtain ⟨fd, F⟩ := T.d_coder_fault
  have S := sc_coder_fault
  refine ⟨fd, fnV F S fun cdv A outer s H E hg hr => ?_, F.bindsN fun _ _ _ _ _ _ us hl => match us, hl with | [_], _ => rfl, F.kp, T.g_coder_fault⟩
  · have hG : (cxOf (L2.CX P w) P w K mg base nm_coder_fault "coder_fault" (defScope s_coder_fault) (He.ga K "coder_fault") cdv A outer s H E).A.guards = some [] := hg
    have hu := hr.units
    have hu5 := units5 hr
    have tk := takes_of (X := cxOf (L2.CX P w) P w K mg base nm_coder_fault "coder_fault" (defScope s_coder_fault) (He.ga K "coder_fault") cdv A outer s H E) (E := E) rfl rfl rfl rfl
    have hp := passes_of (X := cxOf (L2.CX P w) P w K mg base nm_coder_fault "coder_fault" (defScope s_coder_fault) (He.ga K "coder_fault") cdv A outer s H E) (K := fun e s2 => L2.CX P w outer H s E e s2) rfl
    exact (xs_cons (xs_if (xt_w (xw_or (xt_not (xt_val (xe_isi rfl T.b_isinstance rfl T.b_tuple (by decide +kernel) T.k_tuple (xe_var 0)))) (xw_or1 (xt_cmp (p_ne hu) (xe_callB pc_len rfl T.b_len (by decide +kernel) (xa_cons (xe_var 0) xa_nil)) xe_int)))) (xs_one (xs_ret (xe_tup (xa_cons xe_str (xa_cons xe_non xa_nil))))) xs_nil)
      (xs_cons (xs_asg (xe_var 0) (yg_tup rfl (ygs_cons (yg_name (i := 1) S.nd rfl (by first | exact Or.inl rfl | exact Or.inr rfl)) (ygs_cons (yg_name (i := 2) S.nd rfl (by first | exact Or.inl rfl | exact Or.inr rfl)) (ygs_cons (yg_name (i := 3) S.nd rfl (by first | exact Or.inl rfl | exact Or.inr rfl)) (ygs_cons (yg_name (i := 4) S.nd rfl (by first | exact Or.inl rfl | exact Or.inr rfl)) (ygs_cons (yg_name (i := 5) S.nd rfl (by first | exact Or.inl rfl | exact Or.inr rfl)) ygs_nil)))))))
      (xs_cons (xs_if (xt_not (xt_val (xe_ok C_is_whole hG (hr.mono (by decide)) tk rfl (yw_dat (xe_var 1) (yw_dat (xe_neg xe_int) (yw_dat xe_int yw_nil)))))) (xs_one (xs_ret (xe_tup (xa_cons xe_str (xa_cons xe_non xa_nil))))) xs_nil)
      (xs_cons (xs_if (xt_not (xt_val (xe_ok C_is_whole hG (hr.mono (by decide)) tk rfl (yw_dat (xe_var 2) (yw_dat xe_int (yw_dat xe_int yw_nil)))))) (xs_one (xs_ret (xe_tup (xa_cons xe_str (xa_cons xe_non xa_nil))))) xs_nil)
      (xs_cons (xs_set (i := 6) S.nd rfl (by first | exact Or.inl rfl | exact Or.inr rfl) (xe_ok C_cd_row_fault hG (hr.mono (by decide)) tk rfl (yw_dat xe_str (yw_dat (xe_var 3) (yw_dat xe_int (yw_dat (xe_gint rfl T.c_MOST_STEPS) yw_nil))))))
      (xs_cons (xs_if (xt_cmp p_is (xe_var 6) xe_non) (xs_one (xs_set (i := 6) S.nd rfl (by first | exact Or.inl rfl | exact Or.inr rfl) (xe_ok C_cd_row_fault hG (hr.mono (by decide)) tk rfl (yw_dat xe_str (yw_dat (xe_var 4) (yw_dat xe_int (yw_dat (xe_gint rfl T.c_MOST_MOVES) yw_nil))))))) xs_nil)
      (xs_cons (xs_if (xt_w (xw_and (xt_cmp p_is (xe_var 6) xe_non) (xw_and (xt_not (xt_val (xe_ok C_is_whole hG (hr.mono (by decide)) tk rfl (yw_dat (xe_var 5) (yw_dat xe_int (yw_dat xe_int yw_nil)))))) (xw_and1 (xt_not (xt_val (xe_ok C_is_whole hG (hr.mono (by decide)) tk rfl (yw_dat (xe_var 5) (yw_dat xe_int (yw_dat xe_int yw_nil)))))))))) (xs_one (xs_set (i := 6) S.nd rfl (by first | exact Or.inl rfl | exact Or.inr rfl) (xe_tup (xa_cons xe_str (xa_cons xe_non xa_nil))))) xs_nil)
      (xs_one (xs_ret (xe_var 6))))))))))
theorem ok_is_coder (T : Tx K mg) (C_coder_fault : Ok P w K mg base 4 "coder_fault" ["thing"] (SF w_coder_fault)) : Ok P w K mg base 5 "is_coder" ["thing"] (SF w_is_coder) := by
  rw [wd_is_coder]
  apply Ok.ofX
  obtain ⟨fd, F⟩ := T.d_is_coder
  have S := sc_is_coder
  refine ⟨fd, fnV F S fun cdv A outer s H E hg hr => ?_, F.bindsN fun _ _ _ _ _ _ us hl => match us, hl with | [_], _ => rfl, F.kp, T.g_is_coder⟩
  · have hG : (cxOf (L2.CX P w) P w K mg base nm_is_coder "is_coder" (defScope s_is_coder) (He.ga K "is_coder") cdv A outer s H E).A.guards = some [] := hg
    have hu := hr.units
    have hu5 := units5 hr
    have tk := takes_of (X := cxOf (L2.CX P w) P w K mg base nm_is_coder "is_coder" (defScope s_is_coder) (He.ga K "is_coder") cdv A outer s H E) (E := E) rfl rfl rfl rfl
    have hp := passes_of (X := cxOf (L2.CX P w) P w K mg base nm_is_coder "is_coder" (defScope s_is_coder) (He.ga K "is_coder") cdv A outer s H E) (K := fun e s2 => L2.CX P w outer H s E e s2) rfl
    exact (xs_one (xs_ret (xe_cmp p_is (xe_ok C_coder_fault hG (hr.mono (by decide)) tk rfl (yw_dat (xe_var 0) yw_nil)) xe_non)))
theorem ok_need_coder (T : Tx K mg) (C_coder_fault : Ok P w K mg base 4 "coder_fault" ["thing"] (SF w_coder_fault)) (Z_BadCoder : RzC P w K mg base "BadCoder" ["part", "number"]) : Ok P w K mg base 5 "need_coder" ["thing"] (SF w_need_coder) := by
  rw [wd_need_coder]
  apply Ok.ofX
  obtain ⟨fd, F⟩ := T.d_need_coder
  have S := sc_need_coder
  refine ⟨fd, fnV F S fun cdv A outer s H E hg hr => ?_, F.bindsN fun _ _ _ _ _ _ us hl => match us, hl with | [_], _ => rfl, F.kp, T.g_need_coder⟩
  · have hG : (cxOf (L2.CX P w) P w K mg base nm_need_coder "need_coder" (defScope s_need_coder) (He.ga K "need_coder") cdv A outer s H E).A.guards = some [] := hg
    have hu := hr.units
    have hu5 := units5 hr
    have tk := takes_of (X := cxOf (L2.CX P w) P w K mg base nm_need_coder "need_coder" (defScope s_need_coder) (He.ga K "need_coder") cdv A outer s H E) (E := E) rfl rfl rfl rfl
    have hp := passes_of (X := cxOf (L2.CX P w) P w K mg base nm_need_coder "need_coder" (defScope s_need_coder) (He.ga K "need_coder") cdv A outer s H E) (K := fun e s2 => L2.CX P w outer H s E e s2) rfl
    exact (xs_cons (xs_set (i := 1) S.nd rfl (by first | exact Or.inl rfl | exact Or.inr rfl) (xe_ok C_coder_fault hG (hr.mono (by decide)) tk rfl (yw_dat (xe_var 0) yw_nil)))
      (xs_cons (xs_if (xt_cmp p_isnot (xe_var 1) xe_non) (xs_one (xs_raise rfl tk Z_BadCoder (hr.mono (by decide)) passes0 rfl (xa_cons (xe_ix (xe_var 1) xe_int) (xa_cons (xe_ix (xe_var 1) xe_int) xa_nil)))) xs_nil)
      (xs_one (xs_ret (xe_var 0)))))
theorem ok__law_is_whole (T : Tx K mg) : Ok P w K mg base 1 "_law_is_whole" ["thing", "least", "most"] (SF w__law_is_whole) := by
  rw [wd__law_is_whole]
  apply Ok.ofX
  obtain ⟨fd, F⟩ := T.d__law_is_whole
  have S := sc__law_is_whole
  refine ⟨fd, fnV F S fun cdv A outer s H E hg hr => ?_, F.bindsN fun _ _ _ _ _ _ us hl => match us, hl with | [_, _, _], _ => rfl, F.kp, T.g__law_is_whole⟩
  · have hG : (cxOf (L2.CX P w) P w K mg base nm__law_is_whole "_law_is_whole" (defScope s__law_is_whole) (He.ga K "_law_is_whole") cdv A outer s H E).A.guards = some [] := hg
    have hu := hr.units
    have hu5 := units5 hr
    have tk := takes_of (X := cxOf (L2.CX P w) P w K mg base nm__law_is_whole "_law_is_whole" (defScope s__law_is_whole) (He.ga K "_law_is_whole") cdv A outer s H E) (E := E) rfl rfl rfl rfl
    have hp := passes_of (X := cxOf (L2.CX P w) P w K mg base nm__law_is_whole "_law_is_whole" (defScope s__law_is_whole) (He.ga K "_law_is_whole") cdv A outer s H E) (K := fun e s2 => L2.CX P w outer H s E e s2) rfl
    exact (xs_one (xs_ret (xe_and (xe_isi rfl T.b_isinstance rfl T.b_int (by decide +kernel) T.k_int (xe_var 0)) (xe_and (xe_not (xe_isi rfl T.b_isinstance rfl T.b_bool (by decide +kernel) T.k_bool (xe_var 0))) (xe_one (xe_chain p_le p_le (xe_var 1) (xe_var 0) (xe_var 2)))))))
theorem ok__law_outcome (T : Tx K mg) (C_need_coder : Ok P w K mg base 5 "need_coder" ["thing"] (SF w_need_coder)) (Z_BadCoder : RzC P w K mg base "BadCoder" ["part", "number"]) : Ok P w K mg base 6 "_law_outcome" ["thing"] (SF w__law_outcome) := by
  rw [wd__law_outcome]
  apply Ok.ofX
  obtain ⟨fd, F⟩ := T.d__law_outcome
  have S := sc__law_outcome
  refine ⟨fd, fnV F S fun cdv A outer s H E hg hr => ?_, F.bindsN fun _ _ _ _ _ _ us hl => match us, hl with | [_], _ => rfl, F.kp, T.g__law_outcome⟩
  · have hG : (cxOf (L2.CX P w) P w K mg base nm__law_outcome "_law_outcome" (defScope s__law_outcome) (He.ga K "_law_outcome") cdv A outer s H E).A.guards = some [] := hg
    have hu := hr.units
    have hu5 := units5 hr
    have tk := takes_of (X := cxOf (L2.CX P w) P w K mg base nm__law_outcome "_law_outcome" (defScope s__law_outcome) (He.ga K "_law_outcome") cdv A outer s H E) (E := E) rfl rfl rfl rfl
    have hp := passes_of (X := cxOf (L2.CX P w) P w K mg base nm__law_outcome "_law_outcome" (defScope s__law_outcome) (He.ga K "_law_outcome") cdv A outer s H E) (K := fun e s2 => L2.CX P w outer H s E e s2) rfl
    exact (xs_cons (xs_set (i := 1) S.nd rfl (by first | exact Or.inl rfl | exact Or.inr rfl) xe_str)
      (xs_cons (xs_try S.nd rfl rfl tk T.kx (by decide) (fun W2 pn2 xe2 tk2 hp => (xs_one (xs_set (i := 1) S.nd rfl (by first | exact Or.inl rfl | exact Or.inr rfl) (xe_if (xt_cmp (p_eq hu) (xe_callB (pc_repr hG hu) rfl T.b_repr (by decide +kernel) (xa_cons (xe_ok C_need_coder hG (hr.mono (by decide)) tk2 rfl (yw_dat (xe_var 0) yw_nil)) xa_nil)) (xe_callB (pc_repr hG hu) rfl T.b_repr (by decide +kernel) (xa_cons (xe_var 0) xa_nil))) xe_non xe_str)))) (HdsX.as (i := 2) ⟨rfl, by decide, Or.inl T.g_BadCoder⟩ rfl rfl (fun a2 oe2 cls2 d2 pn2 hz2 hf2 => (xs_one (xs_set (i := 1) S.nd rfl (by first | exact Or.inl rfl | exact Or.inr rfl) (xe_tup (xa_cons (xe_xf (i := 2) (xfB_ok T.xf_BadCoder) (Z_BadCoder.no _ (by decide)) hz2 hf2) (xa_cons (xe_xf (i := 2) (xfB_ok T.xf_BadCoder) (Z_BadCoder.no _ (by decide)) hz2 hf2) xa_nil)))))) HdsX.nil))
      (xs_one (xs_ret (xe_var 1)))))
theorem ok__law_is_move (T : Tx K mg) (C__law_is_whole : Ok P w K mg base 1 "_law_is_whole" ["thing", "least", "most"] (SF w__law_is_whole)) : Ok P w K mg base 2 "_law_is_move" ["thing"] (SF w__law_is_move) := by
  rw [wd__law_is_move]
  apply Ok.ofX
  obtain ⟨fd, F⟩ := T.d__law_is_move
  have S := sc__law_is_move
  refine ⟨fd, fnV F S fun cdv A outer s H E hg hr => ?_, F.bindsN fun _ _ _ _ _ _ us hl => match us, hl with | [_], _ => rfl, F.kp, T.g__law_is_move⟩
  · have hG : (cxOf (L2.CX P w) P w K mg base nm__law_is_move "_law_is_move" (defScope s__law_is_move) (He.ga K "_law_is_move") cdv A outer s H E).A.guards = some [] := hg
    have hu := hr.units
    have hu5 := units5 hr
    have tk := takes_of (X := cxOf (L2.CX P w) P w K mg base nm__law_is_move "_law_is_move" (defScope s__law_is_move) (He.ga K "_law_is_move") cdv A outer s H E) (E := E) rfl rfl rfl rfl
    have hp := passes_of (X := cxOf (L2.CX P w) P w K mg base nm__law_is_move "_law_is_move" (defScope s__law_is_move) (He.ga K "_law_is_move") cdv A outer s H E) (K := fun e s2 => L2.CX P w outer H s E e s2) rfl
    exact (xs_cons (xs_if (xt_w (xw_or (xt_not (xt_val (xe_isi rfl T.b_isinstance rfl T.b_tuple (by decide +kernel) T.k_tuple (xe_var 0)))) (xw_or1 (xt_cmp (p_ne hu) (xe_callB pc_len rfl T.b_len (by decide +kernel) (xa_cons (xe_var 0) xa_nil)) xe_int)))) (xs_one (xs_ret xe_bl)) xs_nil)
      (xs_one (xs_ret (xe_and (xe_ok C__law_is_whole hG (hr.mono (by decide)) tk rfl (yw_dat (xe_ix (xe_var 0) xe_int) (yw_dat (xe_neg xe_int) (yw_dat xe_int yw_nil)))) (xe_one (xe_ok C__law_is_whole hG (hr.mono (by decide)) tk rfl (yw_dat (xe_ix (xe_var 0) xe_int) (yw_dat (xe_neg xe_int) (yw_dat xe_int yw_nil)))))))))
theorem ok__law_fault (T : Tx K mg) (C__law_is_move : Ok P w K mg base 2 "_law_is_move" ["thing"] (SF w__law_is_move)) (C__law_is_whole : Ok P w K mg base 1 "_law_is_whole" ["thing", "least", "most"] (SF w__law_is_whole)) : Ok P w K mg base 3 "_law_fault" ["thing"] (SF w__law_fault) := by
  rw [wd__law_fault]
  apply Ok.ofX
  obtain ⟨fd, F⟩ := T.d__law_fault
  have S := sc__law_fault
  refine ⟨fd, fnV F S fun cdv A outer s H E hg hr => ?_, F.bindsN fun _ _ _ _ _ _ us hl => match us, hl with | [_], _ => rfl, F.kp, T.g__law_fault⟩
  · have hG : (cxOf (L2.CX P w) P w K mg base nm__law_fault "_law_fault" (defScope s__law_fault) (He.ga K "_law_fault") cdv A outer s H E).A.guards = some [] := hg
    have hu := hr.units
    have hu5 := units5 hr
    have tk := takes_of (X := cxOf (L2.CX P w) P w K mg base nm__law_fault "_law_fault" (defScope s__law_fault) (He.ga K "_law_fault") cdv A outer s H E) (E := E) rfl rfl rfl rfl
    have hp := passes_of (X := cxOf (L2.CX P w) P w K mg base nm__law_fault "_law_fault" (defScope s__law_fault) (He.ga K "_law_fault") cdv A outer s H E) (K := fun e s2 => L2.CX P w outer H s E e s2) rfl
    exact (xs_cons (xs_if (xt_w (xw_or (xt_not (xt_val (xe_isi rfl T.b_isinstance rfl T.b_tuple (by decide +kernel) T.k_tuple (xe_var 0)))) (xw_or1 (xt_cmp (p_ne hu) (xe_callB pc_len rfl T.b_len (by decide +kernel) (xa_cons (xe_var 0) xa_nil)) xe_int)))) (xs_one (xs_ret (xe_tup (xa_cons xe_str (xa_cons xe_non xa_nil))))) xs_nil)
      (xs_cons (xs_if (xt_not (xt_val (xe_ok C__law_is_whole hG (hr.mono (by decide)) tk rfl (yw_dat (xe_ix (xe_var 0) xe_int) (yw_dat (xe_neg xe_int) (yw_dat xe_int yw_nil)))))) (xs_one (xs_ret (xe_tup (xa_cons xe_str (xa_cons xe_non xa_nil))))) xs_nil)
      (xs_cons (xs_if (xt_not (xt_val (xe_ok C__law_is_whole hG (hr.mono (by decide)) tk rfl (yw_dat (xe_ix (xe_var 0) xe_int) (yw_dat xe_int (yw_dat xe_int yw_nil)))))) (xs_one (xs_ret (xe_tup (xa_cons xe_str (xa_cons xe_non xa_nil))))) xs_nil)
      (xs_cons (xs_if (xt_w (xw_or (xt_not (xt_val (xe_isi rfl T.b_isinstance rfl T.b_tuple (by decide +kernel) T.k_tuple (xe_ix (xe_var 0) xe_int)))) (xw_or1 (xt_not (xt_chain p_le p_le xe_int (xe_callB pc_len rfl T.b_len (by decide +kernel) (xa_cons (xe_ix (xe_var 0) xe_int) xa_nil)) xe_int))))) (xs_one (xs_ret (xe_tup (xa_cons xe_str (xa_cons xe_non xa_nil))))) xs_nil)
      (xs_cons (xs_setLc (i := 1) (own := [("k", 2), ("step", 3)]) rfl S.nd rfl rfl (sw_true rfl rfl rfl (by decide +kernel)) (zi_enumT rfl T.b_enumerate (xa_cons (xe_ix (xe_var 0) xe_int) xa_nil)) (blkOk_by (own := [("k", 2), ("step", 3)]) (N := nm__law_fault) (sc := defScope s__law_fault) (by decide +kernel)) (fun _ _ _ _ _ => pg_tup rfl (pgs_cons (pg_name (i := 2) S.nd rfl (Or.inl rfl)) (pgs_cons (pg_name (i := 3) S.nd rfl (Or.inl rfl)) pgs_nil))) (ypair_tup2 2 3) (fun _ _ _ _ _ => xpts_one (xt_not (xt_val (xe_ok C__law_is_whole hG (hr.mono (by decide)) takes0 rfl (yw_dat (xe_var 3) (yw_dat xe_int (yw_dat xe_int yw_nil))))))) (fun _ _ _ _ _ => (xe_var 2)))
      (xs_cons (xs_if (xt_cmp (p_ne hu) (xe_var 1) (xe_fz (xo_lst xa_nil))) (xs_one (xs_ret (xe_tup (xa_cons xe_str (xa_cons (xe_ix (xe_var 1) xe_int) xa_nil))))) xs_nil)
      (xs_cons (xs_if (xt_w (xw_or (xt_not (xt_val (xe_isi rfl T.b_isinstance rfl T.b_tuple (by decide +kernel) T.k_tuple (xe_ix (xe_var 0) xe_int)))) (xw_or1 (xt_not (xt_chain p_le p_le xe_int (xe_callB pc_len rfl T.b_len (by decide +kernel) (xa_cons (xe_ix (xe_var 0) xe_int) xa_nil)) xe_int))))) (xs_one (xs_ret (xe_tup (xa_cons xe_str (xa_cons xe_non xa_nil))))) xs_nil)
      (xs_cons (xs_setLc (i := 1) (own := [("k", 2), ("move", 4)]) rfl S.nd rfl rfl (sw_true rfl rfl rfl (by decide +kernel)) (zi_enumT rfl T.b_enumerate (xa_cons (xe_ix (xe_var 0) xe_int) xa_nil)) (blkOk_by (own := [("k", 2), ("move", 4)]) (N := nm__law_fault) (sc := defScope s__law_fault) (by decide +kernel)) (fun _ _ _ _ _ => pg_tup rfl (pgs_cons (pg_name (i := 2) S.nd rfl (Or.inl rfl)) (pgs_cons (pg_name (i := 4) S.nd rfl (Or.inl rfl)) pgs_nil))) (ypair_tup2 2 4) (fun _ _ _ _ _ => xpts_one (xt_not (xt_val (xe_ok C__law_is_move hG (hr.mono (by decide)) takes0 rfl (yw_dat (xe_var 4) yw_nil))))) (fun _ _ _ _ _ => (xe_var 2)))
      (xs_cons (xs_if (xt_cmp (p_ne hu) (xe_var 1) (xe_fz (xo_lst xa_nil))) (xs_one (xs_ret (xe_tup (xa_cons xe_str (xa_cons (xe_ix (xe_var 1) xe_int) xa_nil))))) xs_nil)
      (xs_one (xs_ret (xe_if (xt_w (xw_or (xt_val (xe_ok C__law_is_whole hG (hr.mono (by decide)) tk rfl (yw_dat (xe_ix (xe_var 0) xe_int) (yw_dat xe_int (yw_dat xe_int yw_nil))))) (xw_or1 (xt_val (xe_ok C__law_is_whole hG (hr.mono (by decide)) tk rfl (yw_dat (xe_ix (xe_var 0) xe_int) (yw_dat xe_int (yw_dat xe_int yw_nil)))))))) xe_non (xe_tup (xa_cons xe_str (xa_cons xe_non xa_nil)))))))))))))))
theorem ok__law_wide (T : Tx K mg) (C__law_next : Ok P w K mg base 1 "_law_next" ["m", "many"] (SF w__law_next)) : Ok P w K mg base 2 "_law_wide" ["m"] (SF w__law_wide) := by
  rw [wd__law_wide]
  apply Ok.ofX
  obtain ⟨fd, F⟩ := T.d__law_wide
  have S := sc__law_wide
  refine ⟨fd, fnV F S fun cdv A outer s H E hg hr => ?_, F.bindsN fun _ _ _ _ _ _ us hl => match us, hl with | [_], _ => rfl, F.kp, T.g__law_wide⟩
  · have hG : (cxOf (L2.CX P w) P w K mg base nm__law_wide "_law_wide" (defScope s__law_wide) (He.ga K "_law_wide") cdv A outer s H E).A.guards = some [] := hg
    have hu := hr.units
    have hu5 := units5 hr
    have tk := takes_of (X := cxOf (L2.CX P w) P w K mg base nm__law_wide "_law_wide" (defScope s__law_wide) (He.ga K "_law_wide") cdv A outer s H E) (E := E) rfl rfl rfl rfl
    have hp := passes_of (X := cxOf (L2.CX P w) P w K mg base nm__law_wide "_law_wide" (defScope s__law_wide) (He.ga K "_law_wide") cdv A outer s H E) (K := fun e s2 => L2.CX P w outer H s E e s2) rfl
    exact (xs_cons (xs_par (i := 1) (j := 2) rfl S.nd rfl rfl (by decide) rfl rfl (xa_cons (xe_fz (xo_lst (xa_cons xe_int (xa_cons (xe_neg xe_int) (xa_cons (xe_neg xe_int) (xa_cons (xe_op p_sub xe_int (xe_ok C__law_next hG (hr.mono (by decide)) tk rfl (yw_var 0 (yw_dat xe_int yw_nil)))) xa_nil)))))) (xa_cons (xe_fz (xo_lst (xa_cons xe_int (xa_cons xe_int (xa_cons xe_int (xa_cons (xe_ok C__law_next hG (hr.mono (by decide)) tk rfl (yw_var 0 (yw_dat xe_int yw_nil))) xa_nil)))))) xa_nil)) rfl)
      (xs_cons (xs_setLc (i := 3) (own := [("k", 4)]) rfl S.nd rfl rfl (sw_true rfl rfl rfl (by decide +kernel)) (zi_range1 rfl T.b_range (xa_cons (xe_op p_add xe_int (xe_ok C__law_next hG (hr.mono (by decide)) tk rfl (yw_var 0 (yw_dat xe_int yw_nil)))) xa_nil)) (blkOk_by (own := [("k", 4)]) (N := nm__law_wide) (sc := defScope s__law_wide) (by decide +kernel)) (fun _ _ _ _ _ => pg_name (i := 4) S.nd rfl (Or.inl rfl)) (ypair_name 4) (fun _ _ _ _ _ => xpts_nil) (fun _ _ _ _ _ => (xe_ix (xe_fz (xo_lst (xa_cons xe_int (xa_cons xe_int (xa_cons (xe_op p_add xe_int (xe_ok C__law_next hG (hr.mono (by decide)) takes0 rfl (yw_var 0 (yw_dat xe_int yw_nil)))) xa_nil))))) (xe_ok C__law_next hG (hr.mono (by decide)) takes0 rfl (yw_var 0 (yw_dat xe_int yw_nil))))))
      (xs_cons (xs_setO (i := 5) S.nd rfl (by first | exact Or.inl rfl | exact Or.inr rfl) (xo_lst xa_nil))
      (xs_cons (xs_for hp rfl (zi_range1 rfl T.b_range (xa_cons (xe_op p_add xe_int (xe_ok C__law_next hG (hr.mono (by decide)) tk rfl (yw_var 0 (yw_dat xe_int yw_nil)))) xa_nil)) (yg_name (i := 4) S.nd rfl (by first | exact Or.inl rfl | exact Or.inr rfl)) (xs_one (xs_append (pe_bm PySem.F.plainAttrs_list PySem.F.slot_list_append PySem.F.type_list_append mt_append (pv 5) (pa_cons (xe_tup (xa_cons (xe_op p_sub (xe_ok C__law_next hG (hr.mono (by decide)) tk rfl (yw_var 0 (yw_dat xe_int yw_nil))) xe_int) (xa_cons (xe_op p_sub (xe_ok C__law_next hG (hr.mono (by decide)) tk rfl (yw_var 0 (yw_dat xe_int yw_nil))) xe_int) xa_nil))) pa_nil)))))
      (xs_cons (xs_set (i := 6) S.nd rfl (by first | exact Or.inl rfl | exact Or.inr rfl) (xe_ix (xe_fz (xo_lst (xa_cons xe_int (xa_cons xe_int (xa_cons xe_int (xa_cons (xe_op p_add xe_int (xe_ok C__law_next hG (hr.mono (by decide)) tk rfl (yw_var 0 (yw_dat xe_int yw_nil)))) xa_nil)))))) (xe_ok C__law_next hG (hr.mono (by decide)) tk rfl (yw_var 0 (yw_dat xe_int yw_nil)))))
      (xs_one (xs_frz 5 (xs_ret (xe_tup (xa_cons (xe_ix (xe_var 1) (xe_ok C__law_next hG (hr.mono (by decide)) tk rfl (yw_var 0 (yw_dat xe_int yw_nil)))) (xa_cons (xe_ix (xe_var 2) (xe_ok C__law_next hG (hr.mono (by decide)) tk rfl (yw_var 0 (yw_dat xe_int yw_nil)))) (xa_cons (xe_callTy pc_tuple rfl T.b_tuple (by decide +kernel) (xa_cons (xe_var 3) xa_nil)) (xa_cons (xe_callTy pc_tuple rfl T.b_tuple (by decide +kernel) (xa_cons (xe_var 5) xa_nil)) (xa_cons (xe_var 6) xa_nil))))))))))))))
theorem ok__law_put (T : Tx K mg) : Ok P w K mg base 1 "_law_put" ["row", "at", "thing"] (SF w__law_put) := by
  rw [wd__law_put]
  apply Ok.ofX
  obtain ⟨fd, F⟩ := T.d__law_put
  have S := sc__law_put
  refine ⟨fd, fnV F S fun cdv A outer s H E hg hr => ?_, F.bindsN fun _ _ _ _ _ _ us hl => match us, hl with | [_, _, _], _ => rfl, F.kp, T.g__law_put⟩
  · have hG : (cxOf (L2.CX P w) P w K mg base nm__law_put "_law_put" (defScope s__law_put) (He.ga K "_law_put") cdv A outer s H E).A.guards = some [] := hg
    have hu := hr.units
    have hu5 := units5 hr
    have tk := takes_of (X := cxOf (L2.CX P w) P w K mg base nm__law_put "_law_put" (defScope s__law_put) (He.ga K "_law_put") cdv A outer s H E) (E := E) rfl rfl rfl rfl
    have hp := passes_of (X := cxOf (L2.CX P w) P w K mg base nm__law_put "_law_put" (defScope s__law_put) (He.ga K "_law_put") cdv A outer s H E) (K := fun e s2 => L2.CX P w outer H s E e s2) rfl
    exact (xs_one (xs_ret (xe_op p_add (xe_op p_add (xe_slice (xe_var 0) xp_none (xp_some (xe_var 1))) (xe_tup (xa_cons (xe_var 2) xa_nil))) (xe_slice (xe_var 0) (xp_some (xe_op p_add (xe_var 1) xe_int)) xp_none))))
theorem ok__law_spoiled (T : Tx K mg) (C__law_next : Ok P w K mg base 1 "_law_next" ["m", "many"] (SF w__law_next)) (C__law_put : Ok P w K mg base 1 "_law_put" ["row", "at", "thing"] (SF w__law_put)) : Ok P w K mg base 2 "_law_spoiled" ["m", "coder"] (SF w__law_spoiled) := by
  rw [wd__law_spoiled]
  apply Ok.ofX
  obtain ⟨fd, F⟩ := T.d__law_spoiled
  have S := sc__law_spoiled
  refine ⟨fd, fnV F S fun cdv A outer s H E hg hr => ?_, F.bindsN fun _ _ _ _ _ _ us hl => match us, hl with | [_, _], _ => rfl, F.kp, T.g__law_spoiled⟩
  · have hG : (cxOf (L2.CX P w) P w K mg base nm__law_spoiled "_law_spoiled" (defScope s__law_spoiled) (He.ga K "_law_spoiled") cdv A outer s H E).A.guards = some [] := hg
    have hu := hr.units
    have hu5 := units5 hr
    have tk := takes_of (X := cxOf (L2.CX P w) P w K mg base nm__law_spoiled "_law_spoiled" (defScope s__law_spoiled) (He.ga K "_law_spoiled") cdv A outer s H E) (E := E) rfl rfl rfl rfl
    have hp := passes_of (X := cxOf (L2.CX P w) P w K mg base nm__law_spoiled "_law_spoiled" (defScope s__law_spoiled) (He.ga K "_law_spoiled") cdv A outer s H E) (K := fun e s2 => L2.CX P w outer H s E e s2) rfl
    exact (xs_cons (xs_set (i := 2) S.nd rfl (by first | exact Or.inl rfl | exact Or.inr rfl) (xe_ok C__law_next hG (hr.mono (by decide)) tk rfl (yw_var 0 (yw_dat xe_int yw_nil))))
      (xs_cons (xs_if (xt_cmp p_lt (xe_var 2) xe_int) (xs_cons (xs_set (i := 3) S.nd rfl (by first | exact Or.inl rfl | exact Or.inr rfl) (xe_fz (xo_lst (xa_cons xe_non (xa_cons xe_bl (xa_cons xe_str (xa_cons (xe_tup (xa_cons xe_int xa_nil)) (xa_cons (xe_fz (xo_lst (xa_cons xe_int xa_nil))) (xa_cons xe_int (xa_cons xe_int (xa_cons (xe_neg xe_int) (xa_cons (xe_neg xe_int) (xa_cons (xe_neg xe_int) (xa_cons xe_int (xa_cons xe_int (xa_cons (xe_op p_pow xe_int xe_int) xa_nil))))))))))))))))
      (xs_one (xs_ret (xe_ok C__law_put hG (hr.mono (by decide)) tk rfl (yw_dat (xe_var 1) (yw_dat (xe_var 2) (yw_dat (xe_ix (xe_var 3) (xe_ok C__law_next hG (hr.mono (by decide)) tk rfl (yw_var 0 (yw_dat xe_int yw_nil)))) yw_nil))))))) xs_nil)
      (xs_cons (xs_if (xt_cmp (p_eq hu) (xe_var 2) xe_int) (xs_cons (xs_set (i := 3) S.nd rfl (by first | exact Or.inl rfl | exact Or.inr rfl) (xe_fz (xo_lst (xa_cons xe_non (xa_cons xe_bl (xa_cons xe_bl (xa_cons xe_str (xa_cons (xe_tup (xa_cons xe_int xa_nil)) (xa_cons (xe_fz (xo_lst (xa_cons xe_int xa_nil))) (xa_cons xe_int (xa_cons xe_int (xa_cons xe_int (xa_cons xe_int (xa_cons xe_int (xa_cons (xe_neg xe_int) (xa_cons (xe_op p_pow xe_int xe_int) xa_nil))))))))))))))))
      (xs_one (xs_ret (xe_ok C__law_put hG (hr.mono (by decide)) tk rfl (yw_dat (xe_var 1) (yw_dat xe_int (yw_dat (xe_ix (xe_var 3) (xe_ok C__law_next hG (hr.mono (by decide)) tk rfl (yw_var 0 (yw_dat xe_int yw_nil)))) yw_nil))))))) xs_nil)
      (xs_cons (xs_if (xt_cmp p_gt (xe_var 2) xe_int) (xs_cons (xs_set (i := 3) S.nd rfl (by first | exact Or.inl rfl | exact Or.inr rfl) (xe_fz (xo_lst (xa_cons (xe_fz (xo_callTy pc_list rfl T.b_list (by decide +kernel) (xa_cons (xe_var 1) xa_nil))) (xa_cons (xe_slice (xe_var 1) xp_none (xp_some xe_int)) (xa_cons (xe_op p_add (xe_var 1) (xe_tup (xa_cons xe_int xa_nil))) (xa_cons xe_non (xa_cons xe_dic0 (xa_cons xe_str (xa_cons (xe_tup xa_nil) (xa_cons xe_int (xa_cons (xe_rev (xe_var 1)) (xa_cons (xe_var 1) xa_nil)))))))))))))
      (xs_one (xs_ret (xe_ix (xe_var 3) (xe_ok C__law_next hG (hr.mono (by decide)) tk rfl (yw_var 0 (yw_dat xe_int yw_nil))))))) xs_nil)
      (xs_cons (xs_set (i := 4) S.nd rfl (by first | exact Or.inl rfl | exact Or.inr rfl) (xe_ix (xe_var 1) (xe_var 2)))
      (xs_cons (xs_if (xt_w (xw_or (xt_not (xt_val (xe_isi rfl T.b_isinstance rfl T.b_tuple (by decide +kernel) T.k_tuple (xe_var 4)))) (xw_or1 (xt_cmp (p_eq hu) (xe_var 4) (xe_tup xa_nil))))) (xs_one (xs_ret (xe_var 1))) xs_nil)
      (xs_cons (xs_set (i := 5) S.nd rfl (by first | exact Or.inl rfl | exact Or.inr rfl) (xe_ok C__law_next hG (hr.mono (by decide)) tk rfl (yw_var 0 (yw_dat (xe_callB pc_len rfl T.b_len (by decide +kernel) (xa_cons (xe_var 4) xa_nil)) yw_nil))))
      (xs_cons (xs_if (xt_cmp (p_eq hu) (xe_ok C__law_next hG (hr.mono (by decide)) tk rfl (yw_var 0 (yw_dat xe_int yw_nil))) xe_int) (xs_cons (xs_set (i := 3) S.nd rfl (by first | exact Or.inl rfl | exact Or.inr rfl) (xe_fz (xo_lst (xa_cons (xe_fz (xo_callTy pc_list rfl T.b_list (by decide +kernel) (xa_cons (xe_var 4) xa_nil))) (xa_cons (xe_tup xa_nil) (xa_cons (xe_slice (xe_var 4) xp_none (xp_some xe_int)) (xa_cons (xe_op p_repT (xe_var 4) xe_int) (xa_cons xe_non (xa_cons (xe_op p_add (xe_var 4) (xe_slice (xe_var 4) xp_none (xp_some xe_int))) (xa_cons xe_str (xa_cons xe_dic0 xa_nil)))))))))))
      (xs_one (xs_ret (xe_ok C__law_put hG (hr.mono (by decide)) tk rfl (yw_dat (xe_var 1) (yw_dat (xe_var 2) (yw_dat (xe_ix (xe_var 3) (xe_ok C__law_next hG (hr.mono (by decide)) tk rfl (yw_var 0 (yw_dat xe_int yw_nil)))) yw_nil))))))) xs_nil)
      (xs_cons (xs_set (i := 3) S.nd rfl (by first | exact Or.inl rfl | exact Or.inr rfl) (xe_fz (xo_lst (xa_cons xe_non (xa_cons xe_bl (xa_cons xe_str (xa_cons (xe_tup (xa_cons xe_int xa_nil)) (xa_cons (xe_fz (xo_lst (xa_cons xe_int xa_nil))) (xa_cons xe_int (xa_cons xe_int (xa_cons (xe_neg xe_int) (xa_cons xe_int (xa_cons (xe_op p_pow xe_int xe_int) xa_nil)))))))))))))
      (xs_cons (xs_if (xt_cmp (p_eq hu) (xe_var 2) xe_int) (xs_one (xs_set (i := 3) S.nd rfl (by first | exact Or.inl rfl | exact Or.inr rfl) (xe_fz (xo_lst (xa_cons xe_non (xa_cons (xe_tup (xa_cons xe_int xa_nil)) (xa_cons (xe_tup (xa_cons xe_int (xa_cons xe_int (xa_cons xe_int xa_nil)))) (xa_cons (xe_fz (xo_lst (xa_cons xe_int (xa_cons xe_int xa_nil)))) (xa_cons (xe_tup (xa_cons xe_int (xa_cons xe_int xa_nil))) (xa_cons (xe_tup (xa_cons (xe_neg xe_int) (xa_cons xe_int xa_nil))) (xa_cons (xe_tup (xa_cons xe_int (xa_cons xe_int xa_nil))) (xa_cons (xe_tup (xa_cons xe_int (xa_cons (xe_neg xe_int) xa_nil))) (xa_cons (xe_tup (xa_cons xe_bl (xa_cons xe_int xa_nil))) (xa_cons (xe_tup (xa_cons xe_int (xa_cons xe_str xa_nil))) (xa_cons (xe_tup (xa_cons xe_int (xa_cons (xe_neg xe_int) xa_nil))) xa_nil))))))))))))))) xs_nil)
      (xs_one (xs_ret (xe_ok C__law_put hG (hr.mono (by decide)) tk rfl (yw_dat (xe_var 1) (yw_dat (xe_var 2) (yw_dat (xe_ok C__law_put hG (hr.mono (by decide)) tk rfl (yw_dat (xe_var 4) (yw_dat (xe_var 5) (yw_dat (xe_ix (xe_var 3) (xe_ok C__law_next hG (hr.mono (by decide)) tk rfl (yw_var 0 (yw_dat (xe_callB pc_len rfl T.b_len (by decide +kernel) (xa_cons (xe_var 3) xa_nil)) yw_nil)))) yw_nil)))) yw_nil))))))))))))))))
theorem ok_law (T : Tx K mg) {fd : FuncData} (F : FunD K "law" "law" (defArgs s_law) (defBody s_law) (defScope s_law) [] [] (He.ga K "law") fd) (C__law_fault : Ok P w K mg base 3 "_law_fault" ["thing"] (SF w__law_fault)) (C__law_outcome : Ok P w K mg base 6 "_law_outcome" ["thing"] (SF w__law_outcome)) (C__law_spoiled : Ok P w K mg base 2 "_law_spoiled" ["m", "coder"] (SF w__law_spoiled)) (C__law_wide : Ok P w K mg base 2 "_law_wide" ["m"] (SF w__law_wide)) (C_is_coder : Ok P w K mg base 5 "is_coder" ["thing"] (SF w_is_coder)) (ht : ∀ ns : List Int, ns.length ≤ 63 → SS t_law lawEnd ((startE 7 [.scr ns]).set 1 (some .tok)) 0) : FnG P w K mg base 8 (He.ga K "law") fd ["script"] (spLaw K) := by
  obtain ⟨fdB, FB, bB, kB, gB⟩ := okBegun (P := P) (w := w) (base := base) T
  have S := sc_law
  refine lawG (k := 7) F S (by decide) (fun cdv A outer s H E hg hr => ?_) (fun cdv A outer s H E hg hr => ?_) ht
  · have hG : (cxOf (L2.CX P w) P w K mg base nm_law "law" (defScope s_law) (He.ga K "law") cdv A outer s H E).A.guards = some [] := hg
    have tk := takes_of (X := cxOf (L2.CX P w) P w K mg base nm_law "law" (defScope s_law) (He.ga K "law") cdv A outer s H E) (E := E) rfl rfl rfl rfl
    exact ps_set (i := 1) S.nd rfl (by first | exact Or.inl rfl | exact Or.inr rfl) (pe_callG FB hG (hr.mono (by decide)) tk rfl gB kB bB .nil (pa_cons (pv 0) pa_nil))
  · have hG : (cxOf (L2.CX P w) P w K mg base nm_law "law" (defScope s_law) (He.ga K "law") cdv A outer s H E).A.guards = some [] := hg
    have hu := hr.units
    have hu5 := units5 hr
    have tk := takes_of (X := cxOf (L2.CX P w) P w K mg base nm_law "law" (defScope s_law) (He.ga K "law") cdv A outer s H E) (E := E) rfl rfl rfl rfl
    have hp := passes_of (X := cxOf (L2.CX P w) P w K mg base nm_law "law" (defScope s_law) (He.ga K "law") cdv A outer s H E) (K := fun e s2 => L2.CX P w outer H s E e s2) rfl
    exact (xs_cons (xs_for hp rfl (zi_range1 rfl T.b_range (xa_cons (xe_op p_add xe_int (xe_callB (pc_min2 rfl) rfl T.b_min (by decide +kernel) (xa_cons (xe_lenS (k := 0) rfl T.b_len (by decide +kernel)) (xa_cons xe_int xa_nil)))) xa_nil)) (yg_name (i := 2) S.nd rfl (by first | exact Or.inl rfl | exact Or.inr rfl)) (xs_cons (xs_set (i := 3) S.nd rfl (by first | exact Or.inl rfl | exact Or.inr rfl) (xe_ok C__law_wide hG (hr.mono (by decide)) tk rfl (yw_var 1 yw_nil)))
      (xs_cons (xs_if (xt_w (xw_or (xt_cmp p_isnot (xe_ok C__law_outcome hG (hr.mono (by decide)) tk rfl (yw_dat (xe_var 3) yw_nil)) xe_non) (xw_or1 (xt_cmp p_notB (xe_ok C_is_coder hG (hr.mono (by decide)) tk rfl (yw_dat (xe_var 3) yw_nil)) xe_bl)))) (xs_one (xs_ret xe_bl)) xs_nil)
      (xs_cons (xs_set (i := 4) S.nd rfl (by first | exact Or.inl rfl | exact Or.inr rfl) (xe_var 3))
      (xs_one (xs_for hp rfl (zi_range1 rfl T.b_range (xa_cons xe_int xa_nil)) (yg_name (i := 5) S.nd rfl (by first | exact Or.inl rfl | exact Or.inr rfl)) (xs_cons (xs_if (xt_w (xw_and (xt_val (xe_isi rfl T.b_isinstance rfl T.b_tuple (by decide +kernel) T.k_tuple (xe_var 4))) (xw_and1 (xt_cmp (p_eq hu) (xe_callB pc_len rfl T.b_len (by decide +kernel) (xa_cons (xe_var 4) xa_nil)) xe_int)))) (xs_one (xs_set (i := 4) S.nd rfl (by first | exact Or.inl rfl | exact Or.inr rfl) (xe_ok C__law_spoiled hG (hr.mono (by decide)) tk rfl (yw_var 1 (yw_dat (xe_var 4) yw_nil))))) xs_nil)
      (xs_cons (xs_set (i := 6) S.nd rfl (by first | exact Or.inl rfl | exact Or.inr rfl) (xe_ok C__law_fault hG (hr.mono (by decide)) tk rfl (yw_dat (xe_var 4) yw_nil)))
      (xs_one (xs_if (xt_w (xw_or (xt_cmp (p_ne hu) (xe_callB (pc_repr hG hu) rfl T.b_repr (by decide +kernel) (xa_cons (xe_ok C__law_outcome hG (hr.mono (by decide)) tk rfl (yw_dat (xe_var 4) yw_nil)) xa_nil)) (xe_callB (pc_repr hG hu) rfl T.b_repr (by decide +kernel) (xa_cons (xe_var 6) xa_nil))) (xw_or1 (xt_cmp (p_ne hu) (xe_callB (pc_repr hG hu) rfl T.b_repr (by decide +kernel) (xa_cons (xe_ok C_is_coder hG (hr.mono (by decide)) tk rfl (yw_dat (xe_var 4) yw_nil)) xa_nil)) (xe_callB (pc_repr hG hu) rfl T.b_repr (by decide +kernel) (xa_cons (xe_cmp p_is (xe_var 6) xe_non) xa_nil)))))) (xs_one (xs_ret xe_bl)) xs_nil))))))))))
      (xs_one (xs_ret xe_bl)))
end
theorem all_ok {P : Program} {w : World} {K : PySem.W.Frag} {mg : Str → Option Value} {base : Heap} (T : Tx K mg) {fd : FuncData} (F : FunD K "law" "law" (defArgs s_law) (defBody s_law) (defScope s_law) [] [] (He.ga K "law") fd) (ht : ∀ ns : List Int, ns.length ≤ 63 → SS t_law lawEnd ((startE 7 [.scr ns]).set 1 (some .tok)) 0) : FnG P w K mg base 8 (He.ga K "law") fd ["script"] (spLaw K) := by
  have C__law_next := (okNext (P := P) (w := w) (base := base) T).weak (c' := SF w__law_next) nextX
  have Z_BadCoder := rz_BadCoder (P := P) (w := w) (base := base) T
  have C_is_whole := ok_is_whole (P := P) (w := w) (base := base) T
  have C_cd_is_move := ok_cd_is_move (P := P) (w := w) (base := base) T C_is_whole
  have C_cd_row_fault := ok_cd_row_fault (P := P) (w := w) (base := base) T C_cd_is_move C_is_whole
  have C_coder_fault := ok_coder_fault (P := P) (w := w) (base := base) T C_cd_row_fault C_is_whole
  have C_is_coder := ok_is_coder (P := P) (w := w) (base := base) T C_coder_fault
  have C_need_coder := ok_need_coder (P := P) (w := w) (base := base) T C_coder_fault Z_BadCoder
  have C__law_is_whole := ok__law_is_whole (P := P) (w := w) (base := base) T
  have C__law_outcome := ok__law_outcome (P := P) (w := w) (base := base) T C_need_coder Z_BadCoder
  have C__law_is_move := ok__law_is_move (P := P) (w := w) (base := base) T C__law_is_whole
  have C__law_fault := ok__law_fault (P := P) (w := w) (base := base) T C__law_is_move C__law_is_whole
  have C__law_wide := ok__law_wide (P := P) (w := w) (base := base) T C__law_next
  have C__law_put := ok__law_put (P := P) (w := w) (base := base) T
  have C__law_spoiled := ok__law_spoiled (P := P) (w := w) (base := base) T C__law_next C__law_put
  exact ok_law T F C__law_fault C__law_outcome C__law_spoiled C__law_wide C_is_coder ht
/-! ### the head -/
def e__law_begun : He.DefD := ⟨("_law_begun", none), "_law_begun", "_law_begun", defArgs s__law_begun, defBody s__law_begun, defScope s__law_begun, [], []⟩
def e__law_next : He.DefD := ⟨("_law_next", none), "_law_next", "_law_next", defArgs s__law_next, defBody s__law_next, defScope s__law_next, [], []⟩
def e_is_whole : He.DefD := ⟨("is_whole", none), "is_whole", "is_whole", defArgs s_is_whole, defBody s_is_whole, defScope s_is_whole, [], []⟩
def e_cd_is_move : He.DefD := ⟨("cd_is_move", none), "cd_is_move", "cd_is_move", defArgs s_cd_is_move, defBody s_cd_is_move, defScope s_cd_is_move, [], []⟩
def e_cd_row_fault : He.DefD := ⟨("cd_row_fault", none), "cd_row_fault", "cd_row_fault", defArgs s_cd_row_fault, defBody s_cd_row_fault, defScope s_cd_row_fault, [], []⟩
def e_coder_fault : He.DefD := ⟨("coder_fault", none), "coder_fault", "coder_fault", defArgs s_coder_fault, defBody s_coder_fault, defScope s_coder_fault, [], []⟩
def e_is_coder : He.DefD := ⟨("is_coder", none), "is_coder", "is_coder", defArgs s_is_coder, defBody s_is_coder, defScope s_is_coder, [], []⟩
def e_need_coder : He.DefD := ⟨("need_coder", none), "need_coder", "need_coder", defArgs s_need_coder, defBody s_need_coder, defScope s_need_coder, [], []⟩
def e__law_is_whole : He.DefD := ⟨("_law_is_whole", none), "_law_is_whole", "_law_is_whole", defArgs s__law_is_whole, defBody s__law_is_whole, defScope s__law_is_whole, [], []⟩
def e__law_outcome : He.DefD := ⟨("_law_outcome", none), "_law_outcome", "_law_outcome", defArgs s__law_outcome, defBody s__law_outcome, defScope s__law_outcome, [], []⟩
def e__law_is_move : He.DefD := ⟨("_law_is_move", none), "_law_is_move", "_law_is_move", defArgs s__law_is_move, defBody s__law_is_move, defScope s__law_is_move, [], []⟩
def e__law_fault : He.DefD := ⟨("_law_fault", none), "_law_fault", "_law_fault", defArgs s__law_fault, defBody s__law_fault, defScope s__law_fault, [], []⟩
def e__law_wide : He.DefD := ⟨("_law_wide", none), "_law_wide", "_law_wide", defArgs s__law_wide, defBody s__law_wide, defScope s__law_wide, [], []⟩
def e__law_put : He.DefD := ⟨("_law_put", none), "_law_put", "_law_put", defArgs s__law_put, defBody s__law_put, defScope s__law_put, [], []⟩
def e__law_spoiled : He.DefD := ⟨("_law_spoiled", none), "_law_spoiled", "_law_spoiled", defArgs s__law_spoiled, defBody s__law_spoiled, defScope s__law_spoiled, [], []⟩
def e_law : He.DefD := ⟨("law", none), "law", "law", defArgs s_law, defBody s_law, defScope s_law, [], []⟩
def e_BadCoder : He.DefD := ⟨("BadCoder", some "__init__"), "__init__", "BadCoder.__init__", defArgs i_BadCoder, defBody i_BadCoder, defScope i_BadCoder, [], []⟩
def fn : List He.DefD := [e__law_begun, e__law_next, e_is_whole, e_cd_is_move, e_cd_row_fault, e_coder_fault, e_is_coder, e_need_coder, e__law_is_whole, e__law_outcome, e__law_is_move, e__law_fault, e__law_wide, e__law_put, e__law_spoiled, e_law, e_BadCoder]
def fa : List He.Fa := [.glo "_law_begun", .glo "_law_next", .glo "is_whole", .glo "cd_is_move", .glo "cd_row_fault", .glo "coder_fault", .glo "is_coder", .glo "need_coder", .glo "_law_is_whole", .glo "_law_outcome", .glo "_law_is_move", .glo "_law_fault", .glo "_law_wide", .glo "_law_put", .glo "_law_spoiled", .glo "law", .glo "BadCoder", .free "bool", .free "enumerate", .free "int", .free "isinstance", .free "len", .free "list", .free "min", .free "range", .free "repr", .free "tuple", .int "MOST_STEPS" 16, .int "MOST_MOVES" 16]
def ex (K : PySem.W.Frag) : Bool := kitB K "bool" && (kitB K "int" && (kitB K "tuple" && (rzB K "BadCoder" ["part", "number"] && (knB K kn && (xfB K (He.ga K "BadCoder"))))))
abbrev R : PySem.W.OpenRow := PySem.W.OpenLaw.row PySem.Challenge.rw_stepsound_k02_whole_faults_of_coders
abbrev hk : PySem.W.Hook := hookX 4 fa fn ex
abbrev ob : PySem.W.SharedT → He.AlD × Bool := obX 4 fa fn ex
def names : List PySem.Str := ([("BadCoder" : PySem.Str), ("MOST_STEPS" : PySem.Str), ("MOST_MOVES" : PySem.Str), ("is_whole" : PySem.Str), ("cd_is_move" : PySem.Str), ("cd_row_fault" : PySem.Str), ("coder_fault" : PySem.Str), ("is_coder" : PySem.Str), ("need_coder" : PySem.Str), ("_law_begun" : PySem.Str), ("_law_next" : PySem.Str), ("_law_is_whole" : PySem.Str), ("_law_outcome" : PySem.Str), ("_law_is_move" : PySem.Str), ("_law_fault" : PySem.Str), ("_law_wide" : PySem.Str), ("_law_put" : PySem.Str), ("_law_spoiled" : PySem.Str)] : List PySem.Str)
theorem run (w : World) : HandSHeadRun.RunEq R (PySem.W.view R.prog [21]) hk ob 6000 names w := by
  intro os
  kernel_rfl
theorem tx {K : PySem.W.Frag} {h : Heap} {mg : Str → Option Value} (X : K.In h) (G : h.Ns mainGlobals mg) (c : He.SaysD fa fn K) (x : ex K = true) : Tx K mg := by
  unfold ex at x
  obtain ⟨x0, x⟩ := He.ba x
  obtain ⟨x1, x⟩ := He.ba x
  obtain ⟨x2, x⟩ := He.ba x
  obtain ⟨x3, x⟩ := He.ba x
  obtain ⟨x4, x⟩ := He.ba x
  have x5 := x
  constructor
  · exact c.def_ 0 (d := e__law_begun) rfl
  · exact He.glo_ok X G (c.fact 0 (f := .glo "_law_begun") rfl)
  · exact c.def_ 1 (d := e__law_next) rfl
  · exact He.glo_ok X G (c.fact 1 (f := .glo "_law_next") rfl)
  · exact c.def_ 2 (d := e_is_whole) rfl
  · exact He.glo_ok X G (c.fact 2 (f := .glo "is_whole") rfl)
  · exact c.def_ 3 (d := e_cd_is_move) rfl
  · exact He.glo_ok X G (c.fact 3 (f := .glo "cd_is_move") rfl)
  · exact c.def_ 4 (d := e_cd_row_fault) rfl
  · exact He.glo_ok X G (c.fact 4 (f := .glo "cd_row_fault") rfl)
  · exact c.def_ 5 (d := e_coder_fault) rfl
  · exact He.glo_ok X G (c.fact 5 (f := .glo "coder_fault") rfl)
  · exact c.def_ 6 (d := e_is_coder) rfl
  · exact He.glo_ok X G (c.fact 6 (f := .glo "is_coder") rfl)
  · exact c.def_ 7 (d := e_need_coder) rfl
  · exact He.glo_ok X G (c.fact 7 (f := .glo "need_coder") rfl)
  · exact c.def_ 8 (d := e__law_is_whole) rfl
  · exact He.glo_ok X G (c.fact 8 (f := .glo "_law_is_whole") rfl)
  · exact c.def_ 9 (d := e__law_outcome) rfl
  · exact He.glo_ok X G (c.fact 9 (f := .glo "_law_outcome") rfl)
  · exact c.def_ 10 (d := e__law_is_move) rfl
  · exact He.glo_ok X G (c.fact 10 (f := .glo "_law_is_move") rfl)
  · exact c.def_ 11 (d := e__law_fault) rfl
  · exact He.glo_ok X G (c.fact 11 (f := .glo "_law_fault") rfl)
  · exact c.def_ 12 (d := e__law_wide) rfl
  · exact He.glo_ok X G (c.fact 12 (f := .glo "_law_wide") rfl)
  · exact c.def_ 13 (d := e__law_put) rfl
  · exact He.glo_ok X G (c.fact 13 (f := .glo "_law_put") rfl)
  · exact c.def_ 14 (d := e__law_spoiled) rfl
  · exact He.glo_ok X G (c.fact 14 (f := .glo "_law_spoiled") rfl)
  · exact c.def_ 15 (d := e_law) rfl
  · exact He.glo_ok X G (c.fact 15 (f := .glo "law") rfl)
  · exact He.glo_ok X G (c.fact 16 (f := .glo "BadCoder") rfl)
  · exact x3
  · exact c.def_ 16 (d := e_BadCoder) rfl
  · exact knB_ok x4
  · exact x5
  · exact He.free_ok X G (c.fact 17 (f := .free "bool") rfl)
  · exact He.free_ok X G (c.fact 18 (f := .free "enumerate") rfl)
  · exact He.free_ok X G (c.fact 19 (f := .free "int") rfl)
  · exact He.free_ok X G (c.fact 20 (f := .free "isinstance") rfl)
  · exact He.free_ok X G (c.fact 21 (f := .free "len") rfl)
  · exact He.free_ok X G (c.fact 22 (f := .free "list") rfl)
  · exact He.free_ok X G (c.fact 23 (f := .free "min") rfl)
  · exact He.free_ok X G (c.fact 24 (f := .free "range") rfl)
  · exact He.free_ok X G (c.fact 25 (f := .free "repr") rfl)
  · exact He.free_ok X G (c.fact 26 (f := .free "tuple") rfl)
  · exact He.int_ok X G (c.fact 27 (f := .int "MOST_STEPS" 16) rfl)
  · exact He.int_ok X G (c.fact 28 (f := .int "MOST_MOVES" 16) rfl)
  · exact kitB_ok x0
  · exact kitB_ok x1
  · exact kitB_ok x2
end LW


set_option maxRecDepth 100000
set_option maxHeartbeats 1000000
namespace LW
open PySem PySem.Spec PyProof.Rows L2 VL
/-! ### the plain side: coders -/
def inR (a v b : Int) : Bool := decide (a ≤ v) && decide (v ≤ b)
theorem inR_true {a v b : Int} : inR a v b = true ↔ a ≤ v ∧ v ≤ b := by simp [inR]
theorem inR_of {a v b : Int} (h1 : a ≤ v) (h2 : v ≤ b) : inR a v b = true := inR_true.mpr ⟨h1, h2⟩
theorem inR_no {a v b : Int} (h : ¬ (a ≤ v ∧ v ≤ b)) : inR a v b = false := by
  cases e : inR a v b with
  | false => rfl
  | true => exact absurd (inR_true.mp e) h
def wh (d : Dt) (a b : Int) : Bool := match d with
  | .int v => inR a v b
  | _ => false
theorem r_whole (d : Dt) (a b : Int) : w_is_whole [.dat d, .dat (.int a), .dat (.int b)] = .ret (.dat (.bool (wh d a b))) := by
  rw [wd_is_whole]
  cases d <;> simp only [t_is_whole, wh, inR, opK2, opK, chK4, chK3, chK2, chK, unK, andK, orK, notK, andVK2, andVK, orVK2, orVK, notVK2, notVK, ifVK, ifTK, consK2, consK, tupK, lstK, fzK, slK3, slK2, slK, cbK, coK, isiK, drpK, retK, retOK, ifSK, setK, setOK, nxK, asgK, parK, par3K, augK, appK, wcK, wdK, callK, callOK, callSK2, callSK, forK, lcK, parOK2, parOK, raiseK, bodyX, startE, xSeq, sqF, xNext, xBreak, xCont, xNever, xIfS, xRet, xRetN, xRetV, xRetO, xSet, xSetO, xDrop, xAsg, ygT_t, ygsC, ygsN, ygN, xPar, xPar3, xParO, xAug, xAppend, xFrz, xVar, xC, xOp, xUn, pNeg_i, xTest, asB_b, xAnd, xOr, xNot, xAndV, xOrV, xNotV, xIf, xIfT, xChain, xNil, xCons, xTup, xLst, xFz, xCall, xCallO, xCallS, rOfT_d, rOfT_o, rOwT_o, ywNil, ywDat, ywVar, xCB, xCO, xIsi, xSl, xRev, pRev, xpN, xpS, asI_i, xIxO, xLenO, xLenS, xFor, xWhile, ziT, ziL, itT_t, itL_l, ziR1, ziR2, ziET, ziEL, ziZ, zpT, lrK2, xLr2, xLr1, enT_t, enL_l, xLc, lc2K, xLc2, noOwnB, wipeE, xYes, xRaise, xTry, tyF, xXf, pAdd_i, pAdd_t, pAdd_l, pSub_i, pLt_i, pLe_i, pGt_i, pGe_i, pIs_n, pIsNot_n, pIsB_b, pNotB_b, isN_n, isN_b, isN_i, isN_s, isN_t, isN_l, pIx_t, pIx_l, pLen_t, pLen_l, pMin2_i, pMax2_i, pAbs_i, pInt_i, pTuple_t, pTuple_l, pList_t, pList_l, pIadd_i, pSl_t, pSl_l, pEqI, pNeI, pEqS, pNeS, at0, at1, at2, at3, at4, at5, at6, at7, bx_ret, bx_exc, bx_fail, bd_ret, bd_exc, bd_fail, exS_ret, exS_exc, exS_fail, ofO_some, ofO_none, fnE, isi_T, isi_B, isi_I, isi_S, isi_L, sizeL, Option.bind_some, Option.map_some, Option.some.injEq, Int.reduceEq, Int.reduceLE, Int.reduceLT, Int.reduceNeg, Int.reduceAdd, Int.reduceSub, Int.reduceMul, decide_true, decide_false, decide_eq_true_eq, decide_not, eq_self, Int.cast_ofNat_Int, reduceCtorEq, List.length_cons, List.length_nil, List.map_cons, List.map_nil, List.replicate, List.cons_append, List.nil_append, List.append_nil, List.getElem?_cons_zero, List.getElem?_cons_succ, List.getElem?_nil, List.set_cons_zero, List.set_cons_succ, Nat.reduceAdd, Nat.reduceSub, Nat.reduceEqDiff, Nat.reduceLeDiff, Nat.reduceLT, Nat.zero_add, Nat.add_zero, true_and, and_true, false_and, and_false, Bool.not_true, Bool.not_false, Bool.true_and, Bool.and_true, Bool.false_and, Bool.and_false, Bool.or_false, Bool.false_or, Bool.or_true, Bool.true_or, Bool.not_eq_true', if_true, if_false, Bool.false_eq_true, Bool.not_eq_true, ↓reduceIte, ite_true, ite_false, Bool.true_eq_false, not_true_eq_false, not_false_eq_true, Nat.zero_le]
  next v =>
  by_cases h : a ≤ v <;> simp only [h, opK2, opK, chK4, chK3, chK2, chK, unK, andK, orK, notK, andVK2, andVK, orVK2, orVK, notVK2, notVK, ifVK, ifTK, consK2, consK, tupK, lstK, fzK, slK3, slK2, slK, cbK, coK, isiK, drpK, retK, retOK, ifSK, setK, setOK, nxK, asgK, parK, par3K, augK, appK, wcK, wdK, callK, callOK, callSK2, callSK, forK, lcK, parOK2, parOK, raiseK, bodyX, startE, xSeq, sqF, xNext, xBreak, xCont, xNever, xIfS, xRet, xRetN, xRetV, xRetO, xSet, xSetO, xDrop, xAsg, ygT_t, ygsC, ygsN, ygN, xPar, xPar3, xParO, xAug, xAppend, xFrz, xVar, xC, xOp, xUn, pNeg_i, xTest, asB_b, xAnd, xOr, xNot, xAndV, xOrV, xNotV, xIf, xIfT, xChain, xNil, xCons, xTup, xLst, xFz, xCall, xCallO, xCallS, rOfT_d, rOfT_o, rOwT_o, ywNil, ywDat, ywVar, xCB, xCO, xIsi, xSl, xRev, pRev, xpN, xpS, asI_i, xIxO, xLenO, xLenS, xFor, xWhile, ziT, ziL, itT_t, itL_l, ziR1, ziR2, ziET, ziEL, ziZ, zpT, lrK2, xLr2, xLr1, enT_t, enL_l, xLc, lc2K, xLc2, noOwnB, wipeE, xYes, xRaise, xTry, tyF, xXf, pAdd_i, pAdd_t, pAdd_l, pSub_i, pLt_i, pLe_i, pGt_i, pGe_i, pIs_n, pIsNot_n, pIsB_b, pNotB_b, isN_n, isN_b, isN_i, isN_s, isN_t, isN_l, pIx_t, pIx_l, pLen_t, pLen_l, pMin2_i, pMax2_i, pAbs_i, pInt_i, pTuple_t, pTuple_l, pList_t, pList_l, pIadd_i, pSl_t, pSl_l, pEqI, pNeI, pEqS, pNeS, at0, at1, at2, at3, at4, at5, at6, at7, bx_ret, bx_exc, bx_fail, bd_ret, bd_exc, bd_fail, exS_ret, exS_exc, exS_fail, ofO_some, ofO_none, fnE, isi_T, isi_B, isi_I, isi_S, isi_L, sizeL, Option.bind_some, Option.map_some, Option.some.injEq, Int.reduceEq, Int.reduceLE, Int.reduceLT, Int.reduceNeg, Int.reduceAdd, Int.reduceSub, Int.reduceMul, decide_true, decide_false, decide_eq_true_eq, decide_not, eq_self, Int.cast_ofNat_Int, reduceCtorEq, List.length_cons, List.length_nil, List.map_cons, List.map_nil, List.replicate, List.cons_append, List.nil_append, List.append_nil, List.getElem?_cons_zero, List.getElem?_cons_succ, List.getElem?_nil, List.set_cons_zero, List.set_cons_succ, Nat.reduceAdd, Nat.reduceSub, Nat.reduceEqDiff, Nat.reduceLeDiff, Nat.reduceLT, Nat.zero_add, Nat.add_zero, true_and, and_true, false_and, and_false, Bool.not_true, Bool.not_false, Bool.true_and, Bool.and_true, Bool.false_and, Bool.and_false, Bool.or_false, Bool.false_or, Bool.or_true, Bool.true_or, Bool.not_eq_true', if_true, if_false, Bool.false_eq_true, Bool.not_eq_true, ↓reduceIte, ite_true, ite_false, Bool.true_eq_false, not_true_eq_false, not_false_eq_true, Nat.zero_le]
def mvB (d : Dt) : Bool := match d with
  | .tuple [a, b] => wh a (-32) 32 && wh b (-15) 15
  | _ => false
theorem r_move (d : Dt) : w_cd_is_move [.dat d] = .ret (.dat (.bool (mvB d))) := by
  rw [wd_cd_is_move]
  cases d <;> simp only [t_cd_is_move, mvB, opK2, opK, chK4, chK3, chK2, chK, unK, andK, orK, notK, andVK2, andVK, orVK2, orVK, notVK2, notVK, ifVK, ifTK, consK2, consK, tupK, lstK, fzK, slK3, slK2, slK, cbK, coK, isiK, drpK, retK, retOK, ifSK, setK, setOK, nxK, asgK, parK, par3K, augK, appK, wcK, wdK, callK, callOK, callSK2, callSK, forK, lcK, parOK2, parOK, raiseK, bodyX, startE, xSeq, sqF, xNext, xBreak, xCont, xNever, xIfS, xRet, xRetN, xRetV, xRetO, xSet, xSetO, xDrop, xAsg, ygT_t, ygsC, ygsN, ygN, xPar, xPar3, xParO, xAug, xAppend, xFrz, xVar, xC, xOp, xUn, pNeg_i, xTest, asB_b, xAnd, xOr, xNot, xAndV, xOrV, xNotV, xIf, xIfT, xChain, xNil, xCons, xTup, xLst, xFz, xCall, xCallO, xCallS, rOfT_d, rOfT_o, rOwT_o, ywNil, ywDat, ywVar, xCB, xCO, xIsi, xSl, xRev, pRev, xpN, xpS, asI_i, xIxO, xLenO, xLenS, xFor, xWhile, ziT, ziL, itT_t, itL_l, ziR1, ziR2, ziET, ziEL, ziZ, zpT, lrK2, xLr2, xLr1, enT_t, enL_l, xLc, lc2K, xLc2, noOwnB, wipeE, xYes, xRaise, xTry, tyF, xXf, pAdd_i, pAdd_t, pAdd_l, pSub_i, pLt_i, pLe_i, pGt_i, pGe_i, pIs_n, pIsNot_n, pIsB_b, pNotB_b, isN_n, isN_b, isN_i, isN_s, isN_t, isN_l, pIx_t, pIx_l, pLen_t, pLen_l, pMin2_i, pMax2_i, pAbs_i, pInt_i, pTuple_t, pTuple_l, pList_t, pList_l, pIadd_i, pSl_t, pSl_l, pEqI, pNeI, pEqS, pNeS, at0, at1, at2, at3, at4, at5, at6, at7, bx_ret, bx_exc, bx_fail, bd_ret, bd_exc, bd_fail, exS_ret, exS_exc, exS_fail, ofO_some, ofO_none, fnE, isi_T, isi_B, isi_I, isi_S, isi_L, sizeL, Option.bind_some, Option.map_some, Option.some.injEq, Int.reduceEq, Int.reduceLE, Int.reduceLT, Int.reduceNeg, Int.reduceAdd, Int.reduceSub, Int.reduceMul, decide_true, decide_false, decide_eq_true_eq, decide_not, eq_self, Int.cast_ofNat_Int, reduceCtorEq, List.length_cons, List.length_nil, List.map_cons, List.map_nil, List.replicate, List.cons_append, List.nil_append, List.append_nil, List.getElem?_cons_zero, List.getElem?_cons_succ, List.getElem?_nil, List.set_cons_zero, List.set_cons_succ, Nat.reduceAdd, Nat.reduceSub, Nat.reduceEqDiff, Nat.reduceLeDiff, Nat.reduceLT, Nat.zero_add, Nat.add_zero, true_and, and_true, false_and, and_false, Bool.not_true, Bool.not_false, Bool.true_and, Bool.and_true, Bool.false_and, Bool.and_false, Bool.or_false, Bool.false_or, Bool.or_true, Bool.true_or, Bool.not_eq_true', if_true, if_false, Bool.false_eq_true, Bool.not_eq_true, ↓reduceIte, ite_true, ite_false, Bool.true_eq_false, not_true_eq_false, not_false_eq_true, Nat.zero_le]
  next ds =>
  match ds with
  | [] => simp only [mvB, opK2, opK, chK4, chK3, chK2, chK, unK, andK, orK, notK, andVK2, andVK, orVK2, orVK, notVK2, notVK, ifVK, ifTK, consK2, consK, tupK, lstK, fzK, slK3, slK2, slK, cbK, coK, isiK, drpK, retK, retOK, ifSK, setK, setOK, nxK, asgK, parK, par3K, augK, appK, wcK, wdK, callK, callOK, callSK2, callSK, forK, lcK, parOK2, parOK, raiseK, bodyX, startE, xSeq, sqF, xNext, xBreak, xCont, xNever, xIfS, xRet, xRetN, xRetV, xRetO, xSet, xSetO, xDrop, xAsg, ygT_t, ygsC, ygsN, ygN, xPar, xPar3, xParO, xAug, xAppend, xFrz, xVar, xC, xOp, xUn, pNeg_i, xTest, asB_b, xAnd, xOr, xNot, xAndV, xOrV, xNotV, xIf, xIfT, xChain, xNil, xCons, xTup, xLst, xFz, xCall, xCallO, xCallS, rOfT_d, rOfT_o, rOwT_o, ywNil, ywDat, ywVar, xCB, xCO, xIsi, xSl, xRev, pRev, xpN, xpS, asI_i, xIxO, xLenO, xLenS, xFor, xWhile, ziT, ziL, itT_t, itL_l, ziR1, ziR2, ziET, ziEL, ziZ, zpT, lrK2, xLr2, xLr1, enT_t, enL_l, xLc, lc2K, xLc2, noOwnB, wipeE, xYes, xRaise, xTry, tyF, xXf, pAdd_i, pAdd_t, pAdd_l, pSub_i, pLt_i, pLe_i, pGt_i, pGe_i, pIs_n, pIsNot_n, pIsB_b, pNotB_b, isN_n, isN_b, isN_i, isN_s, isN_t, isN_l, pIx_t, pIx_l, pLen_t, pLen_l, pMin2_i, pMax2_i, pAbs_i, pInt_i, pTuple_t, pTuple_l, pList_t, pList_l, pIadd_i, pSl_t, pSl_l, pEqI, pNeI, pEqS, pNeS, at0, at1, at2, at3, at4, at5, at6, at7, bx_ret, bx_exc, bx_fail, bd_ret, bd_exc, bd_fail, exS_ret, exS_exc, exS_fail, ofO_some, ofO_none, fnE, isi_T, isi_B, isi_I, isi_S, isi_L, sizeL, Option.bind_some, Option.map_some, Option.some.injEq, Int.reduceEq, Int.reduceLE, Int.reduceLT, Int.reduceNeg, Int.reduceAdd, Int.reduceSub, Int.reduceMul, decide_true, decide_false, decide_eq_true_eq, decide_not, eq_self, Int.cast_ofNat_Int, reduceCtorEq, List.length_cons, List.length_nil, List.map_cons, List.map_nil, List.replicate, List.cons_append, List.nil_append, List.append_nil, List.getElem?_cons_zero, List.getElem?_cons_succ, List.getElem?_nil, List.set_cons_zero, List.set_cons_succ, Nat.reduceAdd, Nat.reduceSub, Nat.reduceEqDiff, Nat.reduceLeDiff, Nat.reduceLT, Nat.zero_add, Nat.add_zero, true_and, and_true, false_and, and_false, Bool.not_true, Bool.not_false, Bool.true_and, Bool.and_true, Bool.false_and, Bool.and_false, Bool.or_false, Bool.false_or, Bool.or_true, Bool.true_or, Bool.not_eq_true', if_true, if_false, Bool.false_eq_true, Bool.not_eq_true, ↓reduceIte, ite_true, ite_false, Bool.true_eq_false, not_true_eq_false, not_false_eq_true, Nat.zero_le]
  | [a] => simp only [mvB, opK2, opK, chK4, chK3, chK2, chK, unK, andK, orK, notK, andVK2, andVK, orVK2, orVK, notVK2, notVK, ifVK, ifTK, consK2, consK, tupK, lstK, fzK, slK3, slK2, slK, cbK, coK, isiK, drpK, retK, retOK, ifSK, setK, setOK, nxK, asgK, parK, par3K, augK, appK, wcK, wdK, callK, callOK, callSK2, callSK, forK, lcK, parOK2, parOK, raiseK, bodyX, startE, xSeq, sqF, xNext, xBreak, xCont, xNever, xIfS, xRet, xRetN, xRetV, xRetO, xSet, xSetO, xDrop, xAsg, ygT_t, ygsC, ygsN, ygN, xPar, xPar3, xParO, xAug, xAppend, xFrz, xVar, xC, xOp, xUn, pNeg_i, xTest, asB_b, xAnd, xOr, xNot, xAndV, xOrV, xNotV, xIf, xIfT, xChain, xNil, xCons, xTup, xLst, xFz, xCall, xCallO, xCallS, rOfT_d, rOfT_o, rOwT_o, ywNil, ywDat, ywVar, xCB, xCO, xIsi, xSl, xRev, pRev, xpN, xpS, asI_i, xIxO, xLenO, xLenS, xFor, xWhile, ziT, ziL, itT_t, itL_l, ziR1, ziR2, ziET, ziEL, ziZ, zpT, lrK2, xLr2, xLr1, enT_t, enL_l, xLc, lc2K, xLc2, noOwnB, wipeE, xYes, xRaise, xTry, tyF, xXf, pAdd_i, pAdd_t, pAdd_l, pSub_i, pLt_i, pLe_i, pGt_i, pGe_i, pIs_n, pIsNot_n, pIsB_b, pNotB_b, isN_n, isN_b, isN_i, isN_s, isN_t, isN_l, pIx_t, pIx_l, pLen_t, pLen_l, pMin2_i, pMax2_i, pAbs_i, pInt_i, pTuple_t, pTuple_l, pList_t, pList_l, pIadd_i, pSl_t, pSl_l, pEqI, pNeI, pEqS, pNeS, at0, at1, at2, at3, at4, at5, at6, at7, bx_ret, bx_exc, bx_fail, bd_ret, bd_exc, bd_fail, exS_ret, exS_exc, exS_fail, ofO_some, ofO_none, fnE, isi_T, isi_B, isi_I, isi_S, isi_L, sizeL, Option.bind_some, Option.map_some, Option.some.injEq, Int.reduceEq, Int.reduceLE, Int.reduceLT, Int.reduceNeg, Int.reduceAdd, Int.reduceSub, Int.reduceMul, decide_true, decide_false, decide_eq_true_eq, decide_not, eq_self, Int.cast_ofNat_Int, reduceCtorEq, List.length_cons, List.length_nil, List.map_cons, List.map_nil, List.replicate, List.cons_append, List.nil_append, List.append_nil, List.getElem?_cons_zero, List.getElem?_cons_succ, List.getElem?_nil, List.set_cons_zero, List.set_cons_succ, Nat.reduceAdd, Nat.reduceSub, Nat.reduceEqDiff, Nat.reduceLeDiff, Nat.reduceLT, Nat.zero_add, Nat.add_zero, true_and, and_true, false_and, and_false, Bool.not_true, Bool.not_false, Bool.true_and, Bool.and_true, Bool.false_and, Bool.and_false, Bool.or_false, Bool.false_or, Bool.or_true, Bool.true_or, Bool.not_eq_true', if_true, if_false, Bool.false_eq_true, Bool.not_eq_true, ↓reduceIte, ite_true, ite_false, Bool.true_eq_false, not_true_eq_false, not_false_eq_true, Nat.zero_le]
  | [a, b] =>
    simp only [mvB, r_whole, opK2, opK, chK4, chK3, chK2, chK, unK, andK, orK, notK, andVK2, andVK, orVK2, orVK, notVK2, notVK, ifVK, ifTK, consK2, consK, tupK, lstK, fzK, slK3, slK2, slK, cbK, coK, isiK, drpK, retK, retOK, ifSK, setK, setOK, nxK, asgK, parK, par3K, augK, appK, wcK, wdK, callK, callOK, callSK2, callSK, forK, lcK, parOK2, parOK, raiseK, bodyX, startE, xSeq, sqF, xNext, xBreak, xCont, xNever, xIfS, xRet, xRetN, xRetV, xRetO, xSet, xSetO, xDrop, xAsg, ygT_t, ygsC, ygsN, ygN, xPar, xPar3, xParO, xAug, xAppend, xFrz, xVar, xC, xOp, xUn, pNeg_i, xTest, asB_b, xAnd, xOr, xNot, xAndV, xOrV, xNotV, xIf, xIfT, xChain, xNil, xCons, xTup, xLst, xFz, xCall, xCallO, xCallS, rOfT_d, rOfT_o, rOwT_o, ywNil, ywDat, ywVar, xCB, xCO, xIsi, xSl, xRev, pRev, xpN, xpS, asI_i, xIxO, xLenO, xLenS, xFor, xWhile, ziT, ziL, itT_t, itL_l, ziR1, ziR2, ziET, ziEL, ziZ, zpT, lrK2, xLr2, xLr1, enT_t, enL_l, xLc, lc2K, xLc2, noOwnB, wipeE, xYes, xRaise, xTry, tyF, xXf, pAdd_i, pAdd_t, pAdd_l, pSub_i, pLt_i, pLe_i, pGt_i, pGe_i, pIs_n, pIsNot_n, pIsB_b, pNotB_b, isN_n, isN_b, isN_i, isN_s, isN_t, isN_l, pIx_t, pIx_l, pLen_t, pLen_l, pMin2_i, pMax2_i, pAbs_i, pInt_i, pTuple_t, pTuple_l, pList_t, pList_l, pIadd_i, pSl_t, pSl_l, pEqI, pNeI, pEqS, pNeS, at0, at1, at2, at3, at4, at5, at6, at7, bx_ret, bx_exc, bx_fail, bd_ret, bd_exc, bd_fail, exS_ret, exS_exc, exS_fail, ofO_some, ofO_none, fnE, isi_T, isi_B, isi_I, isi_S, isi_L, sizeL, Option.bind_some, Option.map_some, Option.some.injEq, Int.reduceEq, Int.reduceLE, Int.reduceLT, Int.reduceNeg, Int.reduceAdd, Int.reduceSub, Int.reduceMul, decide_true, decide_false, decide_eq_true_eq, decide_not, eq_self, Int.cast_ofNat_Int, reduceCtorEq, List.length_cons, List.length_nil, List.map_cons, List.map_nil, List.replicate, List.cons_append, List.nil_append, List.append_nil, List.getElem?_cons_zero, List.getElem?_cons_succ, List.getElem?_nil, List.set_cons_zero, List.set_cons_succ, Nat.reduceAdd, Nat.reduceSub, Nat.reduceEqDiff, Nat.reduceLeDiff, Nat.reduceLT, Nat.zero_add, Nat.add_zero, true_and, and_true, false_and, and_false, Bool.not_true, Bool.not_false, Bool.true_and, Bool.and_true, Bool.false_and, Bool.and_false, Bool.or_false, Bool.false_or, Bool.or_true, Bool.true_or, Bool.not_eq_true', if_true, if_false, Bool.false_eq_true, Bool.not_eq_true, ↓reduceIte, ite_true, ite_false, Bool.true_eq_false, not_true_eq_false, not_false_eq_true, Nat.zero_le]
    cases wh a (-32) 32 <;> simp only [opK2, opK, chK4, chK3, chK2, chK, unK, andK, orK, notK, andVK2, andVK, orVK2, orVK, notVK2, notVK, ifVK, ifTK, consK2, consK, tupK, lstK, fzK, slK3, slK2, slK, cbK, coK, isiK, drpK, retK, retOK, ifSK, setK, setOK, nxK, asgK, parK, par3K, augK, appK, wcK, wdK, callK, callOK, callSK2, callSK, forK, lcK, parOK2, parOK, raiseK, bodyX, startE, xSeq, sqF, xNext, xBreak, xCont, xNever, xIfS, xRet, xRetN, xRetV, xRetO, xSet, xSetO, xDrop, xAsg, ygT_t, ygsC, ygsN, ygN, xPar, xPar3, xParO, xAug, xAppend, xFrz, xVar, xC, xOp, xUn, pNeg_i, xTest, asB_b, xAnd, xOr, xNot, xAndV, xOrV, xNotV, xIf, xIfT, xChain, xNil, xCons, xTup, xLst, xFz, xCall, xCallO, xCallS, rOfT_d, rOfT_o, rOwT_o, ywNil, ywDat, ywVar, xCB, xCO, xIsi, xSl, xRev, pRev, xpN, xpS, asI_i, xIxO, xLenO, xLenS, xFor, xWhile, ziT, ziL, itT_t, itL_l, ziR1, ziR2, ziET, ziEL, ziZ, zpT, lrK2, xLr2, xLr1, enT_t, enL_l, xLc, lc2K, xLc2, noOwnB, wipeE, xYes, xRaise, xTry, tyF, xXf, pAdd_i, pAdd_t, pAdd_l, pSub_i, pLt_i, pLe_i, pGt_i, pGe_i, pIs_n, pIsNot_n, pIsB_b, pNotB_b, isN_n, isN_b, isN_i, isN_s, isN_t, isN_l, pIx_t, pIx_l, pLen_t, pLen_l, pMin2_i, pMax2_i, pAbs_i, pInt_i, pTuple_t, pTuple_l, pList_t, pList_l, pIadd_i, pSl_t, pSl_l, pEqI, pNeI, pEqS, pNeS, at0, at1, at2, at3, at4, at5, at6, at7, bx_ret, bx_exc, bx_fail, bd_ret, bd_exc, bd_fail, exS_ret, exS_exc, exS_fail, ofO_some, ofO_none, fnE, isi_T, isi_B, isi_I, isi_S, isi_L, sizeL, Option.bind_some, Option.map_some, Option.some.injEq, Int.reduceEq, Int.reduceLE, Int.reduceLT, Int.reduceNeg, Int.reduceAdd, Int.reduceSub, Int.reduceMul, decide_true, decide_false, decide_eq_true_eq, decide_not, eq_self, Int.cast_ofNat_Int, reduceCtorEq, List.length_cons, List.length_nil, List.map_cons, List.map_nil, List.replicate, List.cons_append, List.nil_append, List.append_nil, List.getElem?_cons_zero, List.getElem?_cons_succ, List.getElem?_nil, List.set_cons_zero, List.set_cons_succ, Nat.reduceAdd, Nat.reduceSub, Nat.reduceEqDiff, Nat.reduceLeDiff, Nat.reduceLT, Nat.zero_add, Nat.add_zero, true_and, and_true, false_and, and_false, Bool.not_true, Bool.not_false, Bool.true_and, Bool.and_true, Bool.false_and, Bool.and_false, Bool.or_false, Bool.false_or, Bool.or_true, Bool.true_or, Bool.not_eq_true', if_true, if_false, Bool.false_eq_true, Bool.not_eq_true, ↓reduceIte, ite_true, ite_false, Bool.true_eq_false, not_true_eq_false, not_false_eq_true, Nat.zero_le]
  | a :: b :: c :: r =>
    have e : ¬ (((r.length + 1 + 1 + 1 : Nat) : Int) = 2) := by omega
    simp only [mvB, e, opK2, opK, chK4, chK3, chK2, chK, unK, andK, orK, notK, andVK2, andVK, orVK2, orVK, notVK2, notVK, ifVK, ifTK, consK2, consK, tupK, lstK, fzK, slK3, slK2, slK, cbK, coK, isiK, drpK, retK, retOK, ifSK, setK, setOK, nxK, asgK, parK, par3K, augK, appK, wcK, wdK, callK, callOK, callSK2, callSK, forK, lcK, parOK2, parOK, raiseK, bodyX, startE, xSeq, sqF, xNext, xBreak, xCont, xNever, xIfS, xRet, xRetN, xRetV, xRetO, xSet, xSetO, xDrop, xAsg, ygT_t, ygsC, ygsN, ygN, xPar, xPar3, xParO, xAug, xAppend, xFrz, xVar, xC, xOp, xUn, pNeg_i, xTest, asB_b, xAnd, xOr, xNot, xAndV, xOrV, xNotV, xIf, xIfT, xChain, xNil, xCons, xTup, xLst, xFz, xCall, xCallO, xCallS, rOfT_d, rOfT_o, rOwT_o, ywNil, ywDat, ywVar, xCB, xCO, xIsi, xSl, xRev, pRev, xpN, xpS, asI_i, xIxO, xLenO, xLenS, xFor, xWhile, ziT, ziL, itT_t, itL_l, ziR1, ziR2, ziET, ziEL, ziZ, zpT, lrK2, xLr2, xLr1, enT_t, enL_l, xLc, lc2K, xLc2, noOwnB, wipeE, xYes, xRaise, xTry, tyF, xXf, pAdd_i, pAdd_t, pAdd_l, pSub_i, pLt_i, pLe_i, pGt_i, pGe_i, pIs_n, pIsNot_n, pIsB_b, pNotB_b, isN_n, isN_b, isN_i, isN_s, isN_t, isN_l, pIx_t, pIx_l, pLen_t, pLen_l, pMin2_i, pMax2_i, pAbs_i, pInt_i, pTuple_t, pTuple_l, pList_t, pList_l, pIadd_i, pSl_t, pSl_l, pEqI, pNeI, pEqS, pNeS, at0, at1, at2, at3, at4, at5, at6, at7, bx_ret, bx_exc, bx_fail, bd_ret, bd_exc, bd_fail, exS_ret, exS_exc, exS_fail, ofO_some, ofO_none, fnE, isi_T, isi_B, isi_I, isi_S, isi_L, sizeL, Option.bind_some, Option.map_some, Option.some.injEq, Int.reduceEq, Int.reduceLE, Int.reduceLT, Int.reduceNeg, Int.reduceAdd, Int.reduceSub, Int.reduceMul, decide_true, decide_false, decide_eq_true_eq, decide_not, eq_self, Int.cast_ofNat_Int, reduceCtorEq, List.length_cons, List.length_nil, List.map_cons, List.map_nil, List.replicate, List.cons_append, List.nil_append, List.append_nil, List.getElem?_cons_zero, List.getElem?_cons_succ, List.getElem?_nil, List.set_cons_zero, List.set_cons_succ, Nat.reduceAdd, Nat.reduceSub, Nat.reduceEqDiff, Nat.reduceLeDiff, Nat.reduceLT, Nat.zero_add, Nat.add_zero, true_and, and_true, false_and, and_false, Bool.not_true, Bool.not_false, Bool.true_and, Bool.and_true, Bool.false_and, Bool.and_false, Bool.or_false, Bool.false_or, Bool.or_true, Bool.true_or, Bool.not_eq_true', if_true, if_false, Bool.false_eq_true, Bool.not_eq_true, ↓reduceIte, ite_true, ite_false, Bool.true_eq_false, not_true_eq_false, not_false_eq_true, Nat.zero_le]
/-- the fault of steps or moves -/
def rowF (part : Str) (ok : Dt → Bool) (least most : Int) (row : Dt) : Option (Str × Dt) := match row with
  | .tuple xs => if inR least xs.length most = true then (xs.findIdx? fun x => !ok x).map fun (i : Nat) => (part, PyData.int (i : Int)) else some (part, .none)
  | _ => some (part, .none)
def ftD : Option (Str × Dt) → Dt
  | none => .none
  | some (p, n) => .tuple [.str p, n]
theorem r_rowF (part : Str) (ok : Dt → Bool) (hb : ∀ (x : Dt) (ρ1 ρ2 ρ3 ρ4 : Option VL.W), (if PyData.eqv (.str part) (.str "steps") = true then w_is_whole [.dat x, .dat (.int 1), .dat (.int 9999)] else w_cd_is_move [.dat x]) = .ret (.dat (.bool (ok x)))) (row : Dt) (least most : Int) :
    w_cd_row_fault [.dat (.str part), .dat row, .dat (.int least), .dat (.int most)] = .ret (.dat (ftD (rowF part ok least most row))) := by
  rw [wd_cd_row_fault]
  cases row <;> simp only [t_cd_row_fault, rowF, ftD, opK2, opK, chK4, chK3, chK2, chK, unK, andK, orK, notK, andVK2, andVK, orVK2, orVK, notVK2, notVK, ifVK, ifTK, consK2, consK, tupK, lstK, fzK, slK3, slK2, slK, cbK, coK, isiK, drpK, retK, retOK, ifSK, setK, setOK, nxK, asgK, parK, par3K, augK, appK, wcK, wdK, callK, callOK, callSK2, callSK, forK, lcK, parOK2, parOK, raiseK, bodyX, startE, xSeq, sqF, xNext, xBreak, xCont, xNever, xIfS, xRet, xRetN, xRetV, xRetO, xSet, xSetO, xDrop, xAsg, ygT_t, ygsC, ygsN, ygN, xPar, xPar3, xParO, xAug, xAppend, xFrz, xVar, xC, xOp, xUn, pNeg_i, xTest, asB_b, xAnd, xOr, xNot, xAndV, xOrV, xNotV, xIf, xIfT, xChain, xNil, xCons, xTup, xLst, xFz, xCall, xCallO, xCallS, rOfT_d, rOfT_o, rOwT_o, ywNil, ywDat, ywVar, xCB, xCO, xIsi, xSl, xRev, pRev, xpN, xpS, asI_i, xIxO, xLenO, xLenS, xFor, xWhile, ziT, ziL, itT_t, itL_l, ziR1, ziR2, ziET, ziEL, ziZ, zpT, lrK2, xLr2, xLr1, enT_t, enL_l, xLc, lc2K, xLc2, noOwnB, wipeE, xYes, xRaise, xTry, tyF, xXf, pAdd_i, pAdd_t, pAdd_l, pSub_i, pLt_i, pLe_i, pGt_i, pGe_i, pIs_n, pIsNot_n, pIsB_b, pNotB_b, isN_n, isN_b, isN_i, isN_s, isN_t, isN_l, pIx_t, pIx_l, pLen_t, pLen_l, pMin2_i, pMax2_i, pAbs_i, pInt_i, pTuple_t, pTuple_l, pList_t, pList_l, pIadd_i, pSl_t, pSl_l, pEqI, pNeI, pEqS, pNeS, at0, at1, at2, at3, at4, at5, at6, at7, bx_ret, bx_exc, bx_fail, bd_ret, bd_exc, bd_fail, exS_ret, exS_exc, exS_fail, ofO_some, ofO_none, fnE, isi_T, isi_B, isi_I, isi_S, isi_L, sizeL, Option.bind_some, Option.map_some, Option.some.injEq, Int.reduceEq, Int.reduceLE, Int.reduceLT, Int.reduceNeg, Int.reduceAdd, Int.reduceSub, Int.reduceMul, decide_true, decide_false, decide_eq_true_eq, decide_not, eq_self, Int.cast_ofNat_Int, reduceCtorEq, List.length_cons, List.length_nil, List.map_cons, List.map_nil, List.replicate, List.cons_append, List.nil_append, List.append_nil, List.getElem?_cons_zero, List.getElem?_cons_succ, List.getElem?_nil, List.set_cons_zero, List.set_cons_succ, Nat.reduceAdd, Nat.reduceSub, Nat.reduceEqDiff, Nat.reduceLeDiff, Nat.reduceLT, Nat.zero_add, Nat.add_zero, true_and, and_true, false_and, and_false, Bool.not_true, Bool.not_false, Bool.true_and, Bool.and_true, Bool.false_and, Bool.and_false, Bool.or_false, Bool.false_or, Bool.or_true, Bool.true_or, Bool.not_eq_true', if_true, if_false, Bool.false_eq_true, Bool.not_eq_true, ↓reduceIte, ite_true, ite_false, Bool.true_eq_false, not_true_eq_false, not_false_eq_true, Nat.zero_le]
  next xs =>
  by_cases h : inR least xs.length most = true
  · obtain ⟨h1, h2⟩ := inR_true.mp h
    simp only [h, h1, h2, opK2, opK, chK4, chK3, chK2, chK, unK, andK, orK, notK, andVK2, andVK, orVK2, orVK, notVK2, notVK, ifVK, ifTK, consK2, consK, tupK, lstK, fzK, slK3, slK2, slK, cbK, coK, isiK, drpK, retK, retOK, ifSK, setK, setOK, nxK, asgK, parK, par3K, augK, appK, wcK, wdK, callK, callOK, callSK2, callSK, forK, lcK, parOK2, parOK, raiseK, bodyX, startE, xSeq, sqF, xNext, xBreak, xCont, xNever, xIfS, xRet, xRetN, xRetV, xRetO, xSet, xSetO, xDrop, xAsg, ygT_t, ygsC, ygsN, ygN, xPar, xPar3, xParO, xAug, xAppend, xFrz, xVar, xC, xOp, xUn, pNeg_i, xTest, asB_b, xAnd, xOr, xNot, xAndV, xOrV, xNotV, xIf, xIfT, xChain, xNil, xCons, xTup, xLst, xFz, xCall, xCallO, xCallS, rOfT_d, rOfT_o, rOwT_o, ywNil, ywDat, ywVar, xCB, xCO, xIsi, xSl, xRev, pRev, xpN, xpS, asI_i, xIxO, xLenO, xLenS, xFor, xWhile, ziT, ziL, itT_t, itL_l, ziR1, ziR2, ziET, ziEL, ziZ, zpT, lrK2, xLr2, xLr1, enT_t, enL_l, xLc, lc2K, xLc2, noOwnB, wipeE, xYes, xRaise, xTry, tyF, xXf, pAdd_i, pAdd_t, pAdd_l, pSub_i, pLt_i, pLe_i, pGt_i, pGe_i, pIs_n, pIsNot_n, pIsB_b, pNotB_b, isN_n, isN_b, isN_i, isN_s, isN_t, isN_l, pIx_t, pIx_l, pLen_t, pLen_l, pMin2_i, pMax2_i, pAbs_i, pInt_i, pTuple_t, pTuple_l, pList_t, pList_l, pIadd_i, pSl_t, pSl_l, pEqI, pNeI, pEqS, pNeS, at0, at1, at2, at3, at4, at5, at6, at7, bx_ret, bx_exc, bx_fail, bd_ret, bd_exc, bd_fail, exS_ret, exS_exc, exS_fail, ofO_some, ofO_none, fnE, isi_T, isi_B, isi_I, isi_S, isi_L, sizeL, Option.bind_some, Option.map_some, Option.some.injEq, Int.reduceEq, Int.reduceLE, Int.reduceLT, Int.reduceNeg, Int.reduceAdd, Int.reduceSub, Int.reduceMul, decide_true, decide_false, decide_eq_true_eq, decide_not, eq_self, Int.cast_ofNat_Int, reduceCtorEq, List.length_cons, List.length_nil, List.map_cons, List.map_nil, List.replicate, List.cons_append, List.nil_append, List.append_nil, List.getElem?_cons_zero, List.getElem?_cons_succ, List.getElem?_nil, List.set_cons_zero, List.set_cons_succ, Nat.reduceAdd, Nat.reduceSub, Nat.reduceEqDiff, Nat.reduceLeDiff, Nat.reduceLT, Nat.zero_add, Nat.add_zero, true_and, and_true, false_and, and_false, Bool.not_true, Bool.not_false, Bool.true_and, Bool.and_true, Bool.false_and, Bool.and_false, Bool.or_false, Bool.false_or, Bool.or_true, Bool.true_or, Bool.not_eq_true', if_true, if_false, Bool.false_eq_true, Bool.not_eq_true, ↓reduceIte, ite_true, ite_false, Bool.true_eq_false, not_true_eq_false, not_false_eq_true, Nat.zero_le]
    have key := for_first (g := ygT 2 (ygsC (ygN 4) (ygsC (ygN 5) ygsN))) (tb := b_cd_row_fault_0) (fun v : Option VL.W × Option VL.W => [some (.dat (.str part)), some (.dat (.tuple xs)), some (.dat (.int least)), some (.dat (.int most)), v.1, v.2])
      (fun q : Dt × Nat => PyData.tuple [.int (q.2 : Int), q.1]) (fun q => if (!ok q.1) = true then some (Fl.rt (.dat (.tuple [.str part, .int (q.2 : Int)]))) else none) xs.zipIdx (none, none) (fun v q hq => by
        obtain ⟨x, i⟩ := q
        have hx := hb x none none none none
        have e0 : PyData.eqv (.str part) (.str "steps") = (part == "steps") := by simp only [PyData.eqv]
        rw [e0] at hx
        unfold turnT b_cd_row_fault_0
        cases hp : (part == ("steps" : Str)) with
        | true =>
          rw [hp, if_pos rfl] at hx
          cases ho : ok x with
          | true => exact .inr ⟨by simp [ho], (some (.dat (.int (i : Int))), some (.dat x)), by simp only [hp, hx, ho, lpF, opK2, opK, chK4, chK3, chK2, chK, unK, andK, orK, notK, andVK2, andVK, orVK2, orVK, notVK2, notVK, ifVK, ifTK, consK2, consK, tupK, lstK, fzK, slK3, slK2, slK, cbK, coK, isiK, drpK, retK, retOK, ifSK, setK, setOK, nxK, asgK, parK, par3K, augK, appK, wcK, wdK, callK, callOK, callSK2, callSK, forK, lcK, parOK2, parOK, raiseK, bodyX, startE, xSeq, sqF, xNext, xBreak, xCont, xNever, xIfS, xRet, xRetN, xRetV, xRetO, xSet, xSetO, xDrop, xAsg, ygT_t, ygsC, ygsN, ygN, xPar, xPar3, xParO, xAug, xAppend, xFrz, xVar, xC, xOp, xUn, pNeg_i, xTest, asB_b, xAnd, xOr, xNot, xAndV, xOrV, xNotV, xIf, xIfT, xChain, xNil, xCons, xTup, xLst, xFz, xCall, xCallO, xCallS, rOfT_d, rOfT_o, rOwT_o, ywNil, ywDat, ywVar, xCB, xCO, xIsi, xSl, xRev, pRev, xpN, xpS, asI_i, xIxO, xLenO, xLenS, xFor, xWhile, ziT, ziL, itT_t, itL_l, ziR1, ziR2, ziET, ziEL, ziZ, zpT, lrK2, xLr2, xLr1, enT_t, enL_l, xLc, lc2K, xLc2, noOwnB, wipeE, xYes, xRaise, xTry, tyF, xXf, pAdd_i, pAdd_t, pAdd_l, pSub_i, pLt_i, pLe_i, pGt_i, pGe_i, pIs_n, pIsNot_n, pIsB_b, pNotB_b, isN_n, isN_b, isN_i, isN_s, isN_t, isN_l, pIx_t, pIx_l, pLen_t, pLen_l, pMin2_i, pMax2_i, pAbs_i, pInt_i, pTuple_t, pTuple_l, pList_t, pList_l, pIadd_i, pSl_t, pSl_l, pEqI, pNeI, pEqS, pNeS, at0, at1, at2, at3, at4, at5, at6, at7, bx_ret, bx_exc, bx_fail, bd_ret, bd_exc, bd_fail, exS_ret, exS_exc, exS_fail, ofO_some, ofO_none, fnE, isi_T, isi_B, isi_I, isi_S, isi_L, sizeL, Option.bind_some, Option.map_some, Option.some.injEq, Int.reduceEq, Int.reduceLE, Int.reduceLT, Int.reduceNeg, Int.reduceAdd, Int.reduceSub, Int.reduceMul, decide_true, decide_false, decide_eq_true_eq, decide_not, eq_self, Int.cast_ofNat_Int, reduceCtorEq, List.length_cons, List.length_nil, List.map_cons, List.map_nil, List.replicate, List.cons_append, List.nil_append, List.append_nil, List.getElem?_cons_zero, List.getElem?_cons_succ, List.getElem?_nil, List.set_cons_zero, List.set_cons_succ, Nat.reduceAdd, Nat.reduceSub, Nat.reduceEqDiff, Nat.reduceLeDiff, Nat.reduceLT, Nat.zero_add, Nat.add_zero, true_and, and_true, false_and, and_false, Bool.not_true, Bool.not_false, Bool.true_and, Bool.and_true, Bool.false_and, Bool.and_false, Bool.or_false, Bool.false_or, Bool.or_true, Bool.true_or, Bool.not_eq_true', if_true, if_false, Bool.false_eq_true, Bool.not_eq_true, ↓reduceIte, ite_true, ite_false, Bool.true_eq_false, not_true_eq_false, not_false_eq_true, Nat.zero_le]⟩
          | false => exact .inl ⟨.rt (.dat (.tuple [.str part, .int (i : Int)])), by simp [ho], fun ρ => by simp, by simp only [hp, hx, ho, lpF, opK2, opK, chK4, chK3, chK2, chK, unK, andK, orK, notK, andVK2, andVK, orVK2, orVK, notVK2, notVK, ifVK, ifTK, consK2, consK, tupK, lstK, fzK, slK3, slK2, slK, cbK, coK, isiK, drpK, retK, retOK, ifSK, setK, setOK, nxK, asgK, parK, par3K, augK, appK, wcK, wdK, callK, callOK, callSK2, callSK, forK, lcK, parOK2, parOK, raiseK, bodyX, startE, xSeq, sqF, xNext, xBreak, xCont, xNever, xIfS, xRet, xRetN, xRetV, xRetO, xSet, xSetO, xDrop, xAsg, ygT_t, ygsC, ygsN, ygN, xPar, xPar3, xParO, xAug, xAppend, xFrz, xVar, xC, xOp, xUn, pNeg_i, xTest, asB_b, xAnd, xOr, xNot, xAndV, xOrV, xNotV, xIf, xIfT, xChain, xNil, xCons, xTup, xLst, xFz, xCall, xCallO, xCallS, rOfT_d, rOfT_o, rOwT_o, ywNil, ywDat, ywVar, xCB, xCO, xIsi, xSl, xRev, pRev, xpN, xpS, asI_i, xIxO, xLenO, xLenS, xFor, xWhile, ziT, ziL, itT_t, itL_l, ziR1, ziR2, ziET, ziEL, ziZ, zpT, lrK2, xLr2, xLr1, enT_t, enL_l, xLc, lc2K, xLc2, noOwnB, wipeE, xYes, xRaise, xTry, tyF, xXf, pAdd_i, pAdd_t, pAdd_l, pSub_i, pLt_i, pLe_i, pGt_i, pGe_i, pIs_n, pIsNot_n, pIsB_b, pNotB_b, isN_n, isN_b, isN_i, isN_s, isN_t, isN_l, pIx_t, pIx_l, pLen_t, pLen_l, pMin2_i, pMax2_i, pAbs_i, pInt_i, pTuple_t, pTuple_l, pList_t, pList_l, pIadd_i, pSl_t, pSl_l, pEqI, pNeI, pEqS, pNeS, at0, at1, at2, at3, at4, at5, at6, at7, bx_ret, bx_exc, bx_fail, bd_ret, bd_exc, bd_fail, exS_ret, exS_exc, exS_fail, ofO_some, ofO_none, fnE, isi_T, isi_B, isi_I, isi_S, isi_L, sizeL, Option.bind_some, Option.map_some, Option.some.injEq, Int.reduceEq, Int.reduceLE, Int.reduceLT, Int.reduceNeg, Int.reduceAdd, Int.reduceSub, Int.reduceMul, decide_true, decide_false, decide_eq_true_eq, decide_not, eq_self, Int.cast_ofNat_Int, reduceCtorEq, List.length_cons, List.length_nil, List.map_cons, List.map_nil, List.replicate, List.cons_append, List.nil_append, List.append_nil, List.getElem?_cons_zero, List.getElem?_cons_succ, List.getElem?_nil, List.set_cons_zero, List.set_cons_succ, Nat.reduceAdd, Nat.reduceSub, Nat.reduceEqDiff, Nat.reduceLeDiff, Nat.reduceLT, Nat.zero_add, Nat.add_zero, true_and, and_true, false_and, and_false, Bool.not_true, Bool.not_false, Bool.true_and, Bool.and_true, Bool.false_and, Bool.and_false, Bool.or_false, Bool.false_or, Bool.or_true, Bool.true_or, Bool.not_eq_true', if_true, if_false, Bool.false_eq_true, Bool.not_eq_true, ↓reduceIte, ite_true, ite_false, Bool.true_eq_false, not_true_eq_false, not_false_eq_true, Nat.zero_le]⟩
        | false =>
          rw [hp, if_neg (by simp)] at hx
          cases ho : ok x with
          | true => exact .inr ⟨by simp [ho], (some (.dat (.int (i : Int))), some (.dat x)), by simp only [hp, hx, ho, lpF, opK2, opK, chK4, chK3, chK2, chK, unK, andK, orK, notK, andVK2, andVK, orVK2, orVK, notVK2, notVK, ifVK, ifTK, consK2, consK, tupK, lstK, fzK, slK3, slK2, slK, cbK, coK, isiK, drpK, retK, retOK, ifSK, setK, setOK, nxK, asgK, parK, par3K, augK, appK, wcK, wdK, callK, callOK, callSK2, callSK, forK, lcK, parOK2, parOK, raiseK, bodyX, startE, xSeq, sqF, xNext, xBreak, xCont, xNever, xIfS, xRet, xRetN, xRetV, xRetO, xSet, xSetO, xDrop, xAsg, ygT_t, ygsC, ygsN, ygN, xPar, xPar3, xParO, xAug, xAppend, xFrz, xVar, xC, xOp, xUn, pNeg_i, xTest, asB_b, xAnd, xOr, xNot, xAndV, xOrV, xNotV, xIf, xIfT, xChain, xNil, xCons, xTup, xLst, xFz, xCall, xCallO, xCallS, rOfT_d, rOfT_o, rOwT_o, ywNil, ywDat, ywVar, xCB, xCO, xIsi, xSl, xRev, pRev, xpN, xpS, asI_i, xIxO, xLenO, xLenS, xFor, xWhile, ziT, ziL, itT_t, itL_l, ziR1, ziR2, ziET, ziEL, ziZ, zpT, lrK2, xLr2, xLr1, enT_t, enL_l, xLc, lc2K, xLc2, noOwnB, wipeE, xYes, xRaise, xTry, tyF, xXf, pAdd_i, pAdd_t, pAdd_l, pSub_i, pLt_i, pLe_i, pGt_i, pGe_i, pIs_n, pIsNot_n, pIsB_b, pNotB_b, isN_n, isN_b, isN_i, isN_s, isN_t, isN_l, pIx_t, pIx_l, pLen_t, pLen_l, pMin2_i, pMax2_i, pAbs_i, pInt_i, pTuple_t, pTuple_l, pList_t, pList_l, pIadd_i, pSl_t, pSl_l, pEqI, pNeI, pEqS, pNeS, at0, at1, at2, at3, at4, at5, at6, at7, bx_ret, bx_exc, bx_fail, bd_ret, bd_exc, bd_fail, exS_ret, exS_exc, exS_fail, ofO_some, ofO_none, fnE, isi_T, isi_B, isi_I, isi_S, isi_L, sizeL, Option.bind_some, Option.map_some, Option.some.injEq, Int.reduceEq, Int.reduceLE, Int.reduceLT, Int.reduceNeg, Int.reduceAdd, Int.reduceSub, Int.reduceMul, decide_true, decide_false, decide_eq_true_eq, decide_not, eq_self, Int.cast_ofNat_Int, reduceCtorEq, List.length_cons, List.length_nil, List.map_cons, List.map_nil, List.replicate, List.cons_append, List.nil_append, List.append_nil, List.getElem?_cons_zero, List.getElem?_cons_succ, List.getElem?_nil, List.set_cons_zero, List.set_cons_succ, Nat.reduceAdd, Nat.reduceSub, Nat.reduceEqDiff, Nat.reduceLeDiff, Nat.reduceLT, Nat.zero_add, Nat.add_zero, true_and, and_true, false_and, and_false, Bool.not_true, Bool.not_false, Bool.true_and, Bool.and_true, Bool.false_and, Bool.and_false, Bool.or_false, Bool.false_or, Bool.or_true, Bool.true_or, Bool.not_eq_true', if_true, if_false, Bool.false_eq_true, Bool.not_eq_true, ↓reduceIte, ite_true, ite_false, Bool.true_eq_false, not_true_eq_false, not_false_eq_true, Nat.zero_le]⟩
          | false => exact .inl ⟨.rt (.dat (.tuple [.str part, .int (i : Int)])), by simp [ho], fun ρ => by simp, by simp only [hp, hx, ho, lpF, opK2, opK, chK4, chK3, chK2, chK, unK, andK, orK, notK, andVK2, andVK, orVK2, orVK, notVK2, notVK, ifVK, ifTK, consK2, consK, tupK, lstK, fzK, slK3, slK2, slK, cbK, coK, isiK, drpK, retK, retOK, ifSK, setK, setOK, nxK, asgK, parK, par3K, augK, appK, wcK, wdK, callK, callOK, callSK2, callSK, forK, lcK, parOK2, parOK, raiseK, bodyX, startE, xSeq, sqF, xNext, xBreak, xCont, xNever, xIfS, xRet, xRetN, xRetV, xRetO, xSet, xSetO, xDrop, xAsg, ygT_t, ygsC, ygsN, ygN, xPar, xPar3, xParO, xAug, xAppend, xFrz, xVar, xC, xOp, xUn, pNeg_i, xTest, asB_b, xAnd, xOr, xNot, xAndV, xOrV, xNotV, xIf, xIfT, xChain, xNil, xCons, xTup, xLst, xFz, xCall, xCallO, xCallS, rOfT_d, rOfT_o, rOwT_o, ywNil, ywDat, ywVar, xCB, xCO, xIsi, xSl, xRev, pRev, xpN, xpS, asI_i, xIxO, xLenO, xLenS, xFor, xWhile, ziT, ziL, itT_t, itL_l, ziR1, ziR2, ziET, ziEL, ziZ, zpT, lrK2, xLr2, xLr1, enT_t, enL_l, xLc, lc2K, xLc2, noOwnB, wipeE, xYes, xRaise, xTry, tyF, xXf, pAdd_i, pAdd_t, pAdd_l, pSub_i, pLt_i, pLe_i, pGt_i, pGe_i, pIs_n, pIsNot_n, pIsB_b, pNotB_b, isN_n, isN_b, isN_i, isN_s, isN_t, isN_l, pIx_t, pIx_l, pLen_t, pLen_l, pMin2_i, pMax2_i, pAbs_i, pInt_i, pTuple_t, pTuple_l, pList_t, pList_l, pIadd_i, pSl_t, pSl_l, pEqI, pNeI, pEqS, pNeS, at0, at1, at2, at3, at4, at5, at6, at7, bx_ret, bx_exc, bx_fail, bd_ret, bd_exc, bd_fail, exS_ret, exS_exc, exS_fail, ofO_some, ofO_none, fnE, isi_T, isi_B, isi_I, isi_S, isi_L, sizeL, Option.bind_some, Option.map_some, Option.some.injEq, Int.reduceEq, Int.reduceLE, Int.reduceLT, Int.reduceNeg, Int.reduceAdd, Int.reduceSub, Int.reduceMul, decide_true, decide_false, decide_eq_true_eq, decide_not, eq_self, Int.cast_ofNat_Int, reduceCtorEq, List.length_cons, List.length_nil, List.map_cons, List.map_nil, List.replicate, List.cons_append, List.nil_append, List.append_nil, List.getElem?_cons_zero, List.getElem?_cons_succ, List.getElem?_nil, List.set_cons_zero, List.set_cons_succ, Nat.reduceAdd, Nat.reduceSub, Nat.reduceEqDiff, Nat.reduceLeDiff, Nat.reduceLT, Nat.zero_add, Nat.add_zero, true_and, and_true, false_and, and_false, Bool.not_true, Bool.not_false, Bool.true_and, Bool.and_true, Bool.false_and, Bool.and_false, Bool.or_false, Bool.false_or, Bool.or_true, Bool.true_or, Bool.not_eq_true', if_true, if_false, Bool.false_eq_true, Bool.not_eq_true, ↓reduceIte, ite_true, ite_false, Bool.true_eq_false, not_true_eq_false, not_false_eq_true, Nat.zero_le]⟩)
    rw [enumD_zip]
    have fz := findSome_zip (fun x => !ok x) (fun i => Fl.rt (.dat (.tuple [.str part, .int (i : Int)]))) xs 0
    rcases key with ⟨f, e1, e2⟩ | ⟨e1, v', e2⟩
    · rw [e1] at fz
      cases hf : xs.findIdx? (fun x => !ok x) with
      | none => rw [hf] at fz; cases fz
      | some i =>
        rw [hf] at fz
        simp only [Option.map_some, Option.some.injEq, Nat.zero_add] at fz
        rw [e2, fz]
        simp only [ftD, opK2, opK, chK4, chK3, chK2, chK, unK, andK, orK, notK, andVK2, andVK, orVK2, orVK, notVK2, notVK, ifVK, ifTK, consK2, consK, tupK, lstK, fzK, slK3, slK2, slK, cbK, coK, isiK, drpK, retK, retOK, ifSK, setK, setOK, nxK, asgK, parK, par3K, augK, appK, wcK, wdK, callK, callOK, callSK2, callSK, forK, lcK, parOK2, parOK, raiseK, bodyX, startE, xSeq, sqF, xNext, xBreak, xCont, xNever, xIfS, xRet, xRetN, xRetV, xRetO, xSet, xSetO, xDrop, xAsg, ygT_t, ygsC, ygsN, ygN, xPar, xPar3, xParO, xAug, xAppend, xFrz, xVar, xC, xOp, xUn, pNeg_i, xTest, asB_b, xAnd, xOr, xNot, xAndV, xOrV, xNotV, xIf, xIfT, xChain, xNil, xCons, xTup, xLst, xFz, xCall, xCallO, xCallS, rOfT_d, rOfT_o, rOwT_o, ywNil, ywDat, ywVar, xCB, xCO, xIsi, xSl, xRev, pRev, xpN, xpS, asI_i, xIxO, xLenO, xLenS, xFor, xWhile, ziT, ziL, itT_t, itL_l, ziR1, ziR2, ziET, ziEL, ziZ, zpT, lrK2, xLr2, xLr1, enT_t, enL_l, xLc, lc2K, xLc2, noOwnB, wipeE, xYes, xRaise, xTry, tyF, xXf, pAdd_i, pAdd_t, pAdd_l, pSub_i, pLt_i, pLe_i, pGt_i, pGe_i, pIs_n, pIsNot_n, pIsB_b, pNotB_b, isN_n, isN_b, isN_i, isN_s, isN_t, isN_l, pIx_t, pIx_l, pLen_t, pLen_l, pMin2_i, pMax2_i, pAbs_i, pInt_i, pTuple_t, pTuple_l, pList_t, pList_l, pIadd_i, pSl_t, pSl_l, pEqI, pNeI, pEqS, pNeS, at0, at1, at2, at3, at4, at5, at6, at7, bx_ret, bx_exc, bx_fail, bd_ret, bd_exc, bd_fail, exS_ret, exS_exc, exS_fail, ofO_some, ofO_none, fnE, isi_T, isi_B, isi_I, isi_S, isi_L, sizeL, Option.bind_some, Option.map_some, Option.some.injEq, Int.reduceEq, Int.reduceLE, Int.reduceLT, Int.reduceNeg, Int.reduceAdd, Int.reduceSub, Int.reduceMul, decide_true, decide_false, decide_eq_true_eq, decide_not, eq_self, Int.cast_ofNat_Int, reduceCtorEq, List.length_cons, List.length_nil, List.map_cons, List.map_nil, List.replicate, List.cons_append, List.nil_append, List.append_nil, List.getElem?_cons_zero, List.getElem?_cons_succ, List.getElem?_nil, List.set_cons_zero, List.set_cons_succ, Nat.reduceAdd, Nat.reduceSub, Nat.reduceEqDiff, Nat.reduceLeDiff, Nat.reduceLT, Nat.zero_add, Nat.add_zero, true_and, and_true, false_and, and_false, Bool.not_true, Bool.not_false, Bool.true_and, Bool.and_true, Bool.false_and, Bool.and_false, Bool.or_false, Bool.false_or, Bool.or_true, Bool.true_or, Bool.not_eq_true', if_true, if_false, Bool.false_eq_true, Bool.not_eq_true, ↓reduceIte, ite_true, ite_false, Bool.true_eq_false, not_true_eq_false, not_false_eq_true, Nat.zero_le]
    · rw [e1] at fz
      cases hf : xs.findIdx? (fun x => !ok x) with
      | some i => rw [hf] at fz; cases fz
      | none =>
        rw [e2]
        simp only [ftD, Option.map_none, opK2, opK, chK4, chK3, chK2, chK, unK, andK, orK, notK, andVK2, andVK, orVK2, orVK, notVK2, notVK, ifVK, ifTK, consK2, consK, tupK, lstK, fzK, slK3, slK2, slK, cbK, coK, isiK, drpK, retK, retOK, ifSK, setK, setOK, nxK, asgK, parK, par3K, augK, appK, wcK, wdK, callK, callOK, callSK2, callSK, forK, lcK, parOK2, parOK, raiseK, bodyX, startE, xSeq, sqF, xNext, xBreak, xCont, xNever, xIfS, xRet, xRetN, xRetV, xRetO, xSet, xSetO, xDrop, xAsg, ygT_t, ygsC, ygsN, ygN, xPar, xPar3, xParO, xAug, xAppend, xFrz, xVar, xC, xOp, xUn, pNeg_i, xTest, asB_b, xAnd, xOr, xNot, xAndV, xOrV, xNotV, xIf, xIfT, xChain, xNil, xCons, xTup, xLst, xFz, xCall, xCallO, xCallS, rOfT_d, rOfT_o, rOwT_o, ywNil, ywDat, ywVar, xCB, xCO, xIsi, xSl, xRev, pRev, xpN, xpS, asI_i, xIxO, xLenO, xLenS, xFor, xWhile, ziT, ziL, itT_t, itL_l, ziR1, ziR2, ziET, ziEL, ziZ, zpT, lrK2, xLr2, xLr1, enT_t, enL_l, xLc, lc2K, xLc2, noOwnB, wipeE, xYes, xRaise, xTry, tyF, xXf, pAdd_i, pAdd_t, pAdd_l, pSub_i, pLt_i, pLe_i, pGt_i, pGe_i, pIs_n, pIsNot_n, pIsB_b, pNotB_b, isN_n, isN_b, isN_i, isN_s, isN_t, isN_l, pIx_t, pIx_l, pLen_t, pLen_l, pMin2_i, pMax2_i, pAbs_i, pInt_i, pTuple_t, pTuple_l, pList_t, pList_l, pIadd_i, pSl_t, pSl_l, pEqI, pNeI, pEqS, pNeS, at0, at1, at2, at3, at4, at5, at6, at7, bx_ret, bx_exc, bx_fail, bd_ret, bd_exc, bd_fail, exS_ret, exS_exc, exS_fail, ofO_some, ofO_none, fnE, isi_T, isi_B, isi_I, isi_S, isi_L, sizeL, Option.bind_some, Option.map_some, Option.some.injEq, Int.reduceEq, Int.reduceLE, Int.reduceLT, Int.reduceNeg, Int.reduceAdd, Int.reduceSub, Int.reduceMul, decide_true, decide_false, decide_eq_true_eq, decide_not, eq_self, Int.cast_ofNat_Int, reduceCtorEq, List.length_cons, List.length_nil, List.map_cons, List.map_nil, List.replicate, List.cons_append, List.nil_append, List.append_nil, List.getElem?_cons_zero, List.getElem?_cons_succ, List.getElem?_nil, List.set_cons_zero, List.set_cons_succ, Nat.reduceAdd, Nat.reduceSub, Nat.reduceEqDiff, Nat.reduceLeDiff, Nat.reduceLT, Nat.zero_add, Nat.add_zero, true_and, and_true, false_and, and_false, Bool.not_true, Bool.not_false, Bool.true_and, Bool.and_true, Bool.false_and, Bool.and_false, Bool.or_false, Bool.false_or, Bool.or_true, Bool.true_or, Bool.not_eq_true', if_true, if_false, Bool.false_eq_true, Bool.not_eq_true, ↓reduceIte, ite_true, ite_false, Bool.true_eq_false, not_true_eq_false, not_false_eq_true, Nat.zero_le]
  · rw [Bool.not_eq_true] at h
    simp only [h, ftD, opK2, opK, chK4, chK3, chK2, chK, unK, andK, orK, notK, andVK2, andVK, orVK2, orVK, notVK2, notVK, ifVK, ifTK, consK2, consK, tupK, lstK, fzK, slK3, slK2, slK, cbK, coK, isiK, drpK, retK, retOK, ifSK, setK, setOK, nxK, asgK, parK, par3K, augK, appK, wcK, wdK, callK, callOK, callSK2, callSK, forK, lcK, parOK2, parOK, raiseK, bodyX, startE, xSeq, sqF, xNext, xBreak, xCont, xNever, xIfS, xRet, xRetN, xRetV, xRetO, xSet, xSetO, xDrop, xAsg, ygT_t, ygsC, ygsN, ygN, xPar, xPar3, xParO, xAug, xAppend, xFrz, xVar, xC, xOp, xUn, pNeg_i, xTest, asB_b, xAnd, xOr, xNot, xAndV, xOrV, xNotV, xIf, xIfT, xChain, xNil, xCons, xTup, xLst, xFz, xCall, xCallO, xCallS, rOfT_d, rOfT_o, rOwT_o, ywNil, ywDat, ywVar, xCB, xCO, xIsi, xSl, xRev, pRev, xpN, xpS, asI_i, xIxO, xLenO, xLenS, xFor, xWhile, ziT, ziL, itT_t, itL_l, ziR1, ziR2, ziET, ziEL, ziZ, zpT, lrK2, xLr2, xLr1, enT_t, enL_l, xLc, lc2K, xLc2, noOwnB, wipeE, xYes, xRaise, xTry, tyF, xXf, pAdd_i, pAdd_t, pAdd_l, pSub_i, pLt_i, pLe_i, pGt_i, pGe_i, pIs_n, pIsNot_n, pIsB_b, pNotB_b, isN_n, isN_b, isN_i, isN_s, isN_t, isN_l, pIx_t, pIx_l, pLen_t, pLen_l, pMin2_i, pMax2_i, pAbs_i, pInt_i, pTuple_t, pTuple_l, pList_t, pList_l, pIadd_i, pSl_t, pSl_l, pEqI, pNeI, pEqS, pNeS, at0, at1, at2, at3, at4, at5, at6, at7, bx_ret, bx_exc, bx_fail, bd_ret, bd_exc, bd_fail, exS_ret, exS_exc, exS_fail, ofO_some, ofO_none, fnE, isi_T, isi_B, isi_I, isi_S, isi_L, sizeL, Option.bind_some, Option.map_some, Option.some.injEq, Int.reduceEq, Int.reduceLE, Int.reduceLT, Int.reduceNeg, Int.reduceAdd, Int.reduceSub, Int.reduceMul, decide_true, decide_false, decide_eq_true_eq, decide_not, eq_self, Int.cast_ofNat_Int, reduceCtorEq, List.length_cons, List.length_nil, List.map_cons, List.map_nil, List.replicate, List.cons_append, List.nil_append, List.append_nil, List.getElem?_cons_zero, List.getElem?_cons_succ, List.getElem?_nil, List.set_cons_zero, List.set_cons_succ, Nat.reduceAdd, Nat.reduceSub, Nat.reduceEqDiff, Nat.reduceLeDiff, Nat.reduceLT, Nat.zero_add, Nat.add_zero, true_and, and_true, false_and, and_false, Bool.not_true, Bool.not_false, Bool.true_and, Bool.and_true, Bool.false_and, Bool.and_false, Bool.or_false, Bool.false_or, Bool.or_true, Bool.true_or, Bool.not_eq_true', if_true, if_false, Bool.false_eq_true, Bool.not_eq_true, ↓reduceIte, ite_true, ite_false, Bool.true_eq_false, not_true_eq_false, not_false_eq_true, Nat.zero_le]
    by_cases h1 : least ≤ (xs.length : Int)
    · have h2 : ¬ (xs.length : Int) ≤ most := fun h2 => by rw [inR_of h1 h2] at h; cases h
      simp only [h1, h2, opK2, opK, chK4, chK3, chK2, chK, unK, andK, orK, notK, andVK2, andVK, orVK2, orVK, notVK2, notVK, ifVK, ifTK, consK2, consK, tupK, lstK, fzK, slK3, slK2, slK, cbK, coK, isiK, drpK, retK, retOK, ifSK, setK, setOK, nxK, asgK, parK, par3K, augK, appK, wcK, wdK, callK, callOK, callSK2, callSK, forK, lcK, parOK2, parOK, raiseK, bodyX, startE, xSeq, sqF, xNext, xBreak, xCont, xNever, xIfS, xRet, xRetN, xRetV, xRetO, xSet, xSetO, xDrop, xAsg, ygT_t, ygsC, ygsN, ygN, xPar, xPar3, xParO, xAug, xAppend, xFrz, xVar, xC, xOp, xUn, pNeg_i, xTest, asB_b, xAnd, xOr, xNot, xAndV, xOrV, xNotV, xIf, xIfT, xChain, xNil, xCons, xTup, xLst, xFz, xCall, xCallO, xCallS, rOfT_d, rOfT_o, rOwT_o, ywNil, ywDat, ywVar, xCB, xCO, xIsi, xSl, xRev, pRev, xpN, xpS, asI_i, xIxO, xLenO, xLenS, xFor, xWhile, ziT, ziL, itT_t, itL_l, ziR1, ziR2, ziET, ziEL, ziZ, zpT, lrK2, xLr2, xLr1, enT_t, enL_l, xLc, lc2K, xLc2, noOwnB, wipeE, xYes, xRaise, xTry, tyF, xXf, pAdd_i, pAdd_t, pAdd_l, pSub_i, pLt_i, pLe_i, pGt_i, pGe_i, pIs_n, pIsNot_n, pIsB_b, pNotB_b, isN_n, isN_b, isN_i, isN_s, isN_t, isN_l, pIx_t, pIx_l, pLen_t, pLen_l, pMin2_i, pMax2_i, pAbs_i, pInt_i, pTuple_t, pTuple_l, pList_t, pList_l, pIadd_i, pSl_t, pSl_l, pEqI, pNeI, pEqS, pNeS, at0, at1, at2, at3, at4, at5, at6, at7, bx_ret, bx_exc, bx_fail, bd_ret, bd_exc, bd_fail, exS_ret, exS_exc, exS_fail, ofO_some, ofO_none, fnE, isi_T, isi_B, isi_I, isi_S, isi_L, sizeL, Option.bind_some, Option.map_some, Option.some.injEq, Int.reduceEq, Int.reduceLE, Int.reduceLT, Int.reduceNeg, Int.reduceAdd, Int.reduceSub, Int.reduceMul, decide_true, decide_false, decide_eq_true_eq, decide_not, eq_self, Int.cast_ofNat_Int, reduceCtorEq, List.length_cons, List.length_nil, List.map_cons, List.map_nil, List.replicate, List.cons_append, List.nil_append, List.append_nil, List.getElem?_cons_zero, List.getElem?_cons_succ, List.getElem?_nil, List.set_cons_zero, List.set_cons_succ, Nat.reduceAdd, Nat.reduceSub, Nat.reduceEqDiff, Nat.reduceLeDiff, Nat.reduceLT, Nat.zero_add, Nat.add_zero, true_and, and_true, false_and, and_false, Bool.not_true, Bool.not_false, Bool.true_and, Bool.and_true, Bool.false_and, Bool.and_false, Bool.or_false, Bool.false_or, Bool.or_true, Bool.true_or, Bool.not_eq_true', if_true, if_false, Bool.false_eq_true, Bool.not_eq_true, ↓reduceIte, ite_true, ite_false, Bool.true_eq_false, not_true_eq_false, not_false_eq_true, Nat.zero_le]
    · simp only [h1, opK2, opK, chK4, chK3, chK2, chK, unK, andK, orK, notK, andVK2, andVK, orVK2, orVK, notVK2, notVK, ifVK, ifTK, consK2, consK, tupK, lstK, fzK, slK3, slK2, slK, cbK, coK, isiK, drpK, retK, retOK, ifSK, setK, setOK, nxK, asgK, parK, par3K, augK, appK, wcK, wdK, callK, callOK, callSK2, callSK, forK, lcK, parOK2, parOK, raiseK, bodyX, startE, xSeq, sqF, xNext, xBreak, xCont, xNever, xIfS, xRet, xRetN, xRetV, xRetO, xSet, xSetO, xDrop, xAsg, ygT_t, ygsC, ygsN, ygN, xPar, xPar3, xParO, xAug, xAppend, xFrz, xVar, xC, xOp, xUn, pNeg_i, xTest, asB_b, xAnd, xOr, xNot, xAndV, xOrV, xNotV, xIf, xIfT, xChain, xNil, xCons, xTup, xLst, xFz, xCall, xCallO, xCallS, rOfT_d, rOfT_o, rOwT_o, ywNil, ywDat, ywVar, xCB, xCO, xIsi, xSl, xRev, pRev, xpN, xpS, asI_i, xIxO, xLenO, xLenS, xFor, xWhile, ziT, ziL, itT_t, itL_l, ziR1, ziR2, ziET, ziEL, ziZ, zpT, lrK2, xLr2, xLr1, enT_t, enL_l, xLc, lc2K, xLc2, noOwnB, wipeE, xYes, xRaise, xTry, tyF, xXf, pAdd_i, pAdd_t, pAdd_l, pSub_i, pLt_i, pLe_i, pGt_i, pGe_i, pIs_n, pIsNot_n, pIsB_b, pNotB_b, isN_n, isN_b, isN_i, isN_s, isN_t, isN_l, pIx_t, pIx_l, pLen_t, pLen_l, pMin2_i, pMax2_i, pAbs_i, pInt_i, pTuple_t, pTuple_l, pList_t, pList_l, pIadd_i, pSl_t, pSl_l, pEqI, pNeI, pEqS, pNeS, at0, at1, at2, at3, at4, at5, at6, at7, bx_ret, bx_exc, bx_fail, bd_ret, bd_exc, bd_fail, exS_ret, exS_exc, exS_fail, ofO_some, ofO_none, fnE, isi_T, isi_B, isi_I, isi_S, isi_L, sizeL, Option.bind_some, Option.map_some, Option.some.injEq, Int.reduceEq, Int.reduceLE, Int.reduceLT, Int.reduceNeg, Int.reduceAdd, Int.reduceSub, Int.reduceMul, decide_true, decide_false, decide_eq_true_eq, decide_not, eq_self, Int.cast_ofNat_Int, reduceCtorEq, List.length_cons, List.length_nil, List.map_cons, List.map_nil, List.replicate, List.cons_append, List.nil_append, List.append_nil, List.getElem?_cons_zero, List.getElem?_cons_succ, List.getElem?_nil, List.set_cons_zero, List.set_cons_succ, Nat.reduceAdd, Nat.reduceSub, Nat.reduceEqDiff, Nat.reduceLeDiff, Nat.reduceLT, Nat.zero_add, Nat.add_zero, true_and, and_true, false_and, and_false, Bool.not_true, Bool.not_false, Bool.true_and, Bool.and_true, Bool.false_and, Bool.and_false, Bool.or_false, Bool.false_or, Bool.or_true, Bool.true_or, Bool.not_eq_true', if_true, if_false, Bool.false_eq_true, Bool.not_eq_true, ↓reduceIte, ite_true, ite_false, Bool.true_eq_false, not_true_eq_false, not_false_eq_true, Nat.zero_le]
theorem r_rowS (row : Dt) : w_cd_row_fault [.dat (.str "steps"), .dat row, .dat (.int 1), .dat (.int 16)] = .ret (.dat (ftD (rowF "steps" (fun d => wh d 1 9999) 1 16 row))) :=
  r_rowF _ _ (fun x _ _ _ _ => by
    have e : PyData.eqv (.str "steps") (.str "steps") = true := by simp only [PyData.eqv]; decide +kernel
    rw [e, if_pos rfl, r_whole]) row 1 16
theorem r_rowM (row : Dt) : w_cd_row_fault [.dat (.str "moves"), .dat row, .dat (.int 2), .dat (.int 16)] = .ret (.dat (ftD (rowF "moves" mvB 2 16 row))) :=
  r_rowF _ _ (fun x _ _ _ _ => by
    have e : PyData.eqv (.str "moves") (.str "steps") = false := by simp only [PyData.eqv]; decide +kernel
    rw [e, if_neg (by simp), r_move]) row 2 16
/-- the fault of a thing that is no coder -/
def cf (d : Dt) : Option (Str × Dt) := match d with
  | .tuple [low, high, steps, moves, fade] =>
    if wh low (-32768) 0 = true then
      if wh high 0 32767 = true then
        match rowF "steps" (fun d => wh d 1 9999) 1 16 steps with
        | some f => some f
        | none => match rowF "moves" mvB 2 16 moves with
          | some f => some f
          | none => if (wh fade 2 99 || wh fade 0 0) = true then none else some ("fade", .none)
      else some ("high", .none)
    else some ("low", .none)
  | _ => some ("form", .none)
theorem ftD_none {o : Option (Str × Dt)} : isNoneD (ftD o) = o.isNone := by
  cases o with
  | none => rfl
  | some q => rfl
theorem r_fault (d : Dt) : w_coder_fault [.dat d] = .ret (.dat (ftD (cf d))) := by
  rw [wd_coder_fault]
  cases d <;> simp only [t_coder_fault, cf, ftD, opK2, opK, chK4, chK3, chK2, chK, unK, andK, orK, notK, andVK2, andVK, orVK2, orVK, notVK2, notVK, ifVK, ifTK, consK2, consK, tupK, lstK, fzK, slK3, slK2, slK, cbK, coK, isiK, drpK, retK, retOK, ifSK, setK, setOK, nxK, asgK, parK, par3K, augK, appK, wcK, wdK, callK, callOK, callSK2, callSK, forK, lcK, parOK2, parOK, raiseK, bodyX, startE, xSeq, sqF, xNext, xBreak, xCont, xNever, xIfS, xRet, xRetN, xRetV, xRetO, xSet, xSetO, xDrop, xAsg, ygT_t, ygsC, ygsN, ygN, xPar, xPar3, xParO, xAug, xAppend, xFrz, xVar, xC, xOp, xUn, pNeg_i, xTest, asB_b, xAnd, xOr, xNot, xAndV, xOrV, xNotV, xIf, xIfT, xChain, xNil, xCons, xTup, xLst, xFz, xCall, xCallO, xCallS, rOfT_d, rOfT_o, rOwT_o, ywNil, ywDat, ywVar, xCB, xCO, xIsi, xSl, xRev, pRev, xpN, xpS, asI_i, xIxO, xLenO, xLenS, xFor, xWhile, ziT, ziL, itT_t, itL_l, ziR1, ziR2, ziET, ziEL, ziZ, zpT, lrK2, xLr2, xLr1, enT_t, enL_l, xLc, lc2K, xLc2, noOwnB, wipeE, xYes, xRaise, xTry, tyF, xXf, pAdd_i, pAdd_t, pAdd_l, pSub_i, pLt_i, pLe_i, pGt_i, pGe_i, pIs_n, pIsNot_n, pIsB_b, pNotB_b, isN_n, isN_b, isN_i, isN_s, isN_t, isN_l, pIx_t, pIx_l, pLen_t, pLen_l, pMin2_i, pMax2_i, pAbs_i, pInt_i, pTuple_t, pTuple_l, pList_t, pList_l, pIadd_i, pSl_t, pSl_l, pEqI, pNeI, pEqS, pNeS, at0, at1, at2, at3, at4, at5, at6, at7, bx_ret, bx_exc, bx_fail, bd_ret, bd_exc, bd_fail, exS_ret, exS_exc, exS_fail, ofO_some, ofO_none, fnE, isi_T, isi_B, isi_I, isi_S, isi_L, sizeL, Option.bind_some, Option.map_some, Option.some.injEq, Int.reduceEq, Int.reduceLE, Int.reduceLT, Int.reduceNeg, Int.reduceAdd, Int.reduceSub, Int.reduceMul, decide_true, decide_false, decide_eq_true_eq, decide_not, eq_self, Int.cast_ofNat_Int, reduceCtorEq, List.length_cons, List.length_nil, List.map_cons, List.map_nil, List.replicate, List.cons_append, List.nil_append, List.append_nil, List.getElem?_cons_zero, List.getElem?_cons_succ, List.getElem?_nil, List.set_cons_zero, List.set_cons_succ, Nat.reduceAdd, Nat.reduceSub, Nat.reduceEqDiff, Nat.reduceLeDiff, Nat.reduceLT, Nat.zero_add, Nat.add_zero, true_and, and_true, false_and, and_false, Bool.not_true, Bool.not_false, Bool.true_and, Bool.and_true, Bool.false_and, Bool.and_false, Bool.or_false, Bool.false_or, Bool.or_true, Bool.true_or, Bool.not_eq_true', if_true, if_false, Bool.false_eq_true, Bool.not_eq_true, ↓reduceIte, ite_true, ite_false, Bool.true_eq_false, not_true_eq_false, not_false_eq_true, Nat.zero_le]
  next ds =>
  match ds with
  | [] => simp only [cf, ftD, opK2, opK, chK4, chK3, chK2, chK, unK, andK, orK, notK, andVK2, andVK, orVK2, orVK, notVK2, notVK, ifVK, ifTK, consK2, consK, tupK, lstK, fzK, slK3, slK2, slK, cbK, coK, isiK, drpK, retK, retOK, ifSK, setK, setOK, nxK, asgK, parK, par3K, augK, appK, wcK, wdK, callK, callOK, callSK2, callSK, forK, lcK, parOK2, parOK, raiseK, bodyX, startE, xSeq, sqF, xNext, xBreak, xCont, xNever, xIfS, xRet, xRetN, xRetV, xRetO, xSet, xSetO, xDrop, xAsg, ygT_t, ygsC, ygsN, ygN, xPar, xPar3, xParO, xAug, xAppend, xFrz, xVar, xC, xOp, xUn, pNeg_i, xTest, asB_b, xAnd, xOr, xNot, xAndV, xOrV, xNotV, xIf, xIfT, xChain, xNil, xCons, xTup, xLst, xFz, xCall, xCallO, xCallS, rOfT_d, rOfT_o, rOwT_o, ywNil, ywDat, ywVar, xCB, xCO, xIsi, xSl, xRev, pRev, xpN, xpS, asI_i, xIxO, xLenO, xLenS, xFor, xWhile, ziT, ziL, itT_t, itL_l, ziR1, ziR2, ziET, ziEL, ziZ, zpT, lrK2, xLr2, xLr1, enT_t, enL_l, xLc, lc2K, xLc2, noOwnB, wipeE, xYes, xRaise, xTry, tyF, xXf, pAdd_i, pAdd_t, pAdd_l, pSub_i, pLt_i, pLe_i, pGt_i, pGe_i, pIs_n, pIsNot_n, pIsB_b, pNotB_b, isN_n, isN_b, isN_i, isN_s, isN_t, isN_l, pIx_t, pIx_l, pLen_t, pLen_l, pMin2_i, pMax2_i, pAbs_i, pInt_i, pTuple_t, pTuple_l, pList_t, pList_l, pIadd_i, pSl_t, pSl_l, pEqI, pNeI, pEqS, pNeS, at0, at1, at2, at3, at4, at5, at6, at7, bx_ret, bx_exc, bx_fail, bd_ret, bd_exc, bd_fail, exS_ret, exS_exc, exS_fail, ofO_some, ofO_none, fnE, isi_T, isi_B, isi_I, isi_S, isi_L, sizeL, Option.bind_some, Option.map_some, Option.some.injEq, Int.reduceEq, Int.reduceLE, Int.reduceLT, Int.reduceNeg, Int.reduceAdd, Int.reduceSub, Int.reduceMul, decide_true, decide_false, decide_eq_true_eq, decide_not, eq_self, Int.cast_ofNat_Int, reduceCtorEq, List.length_cons, List.length_nil, List.map_cons, List.map_nil, List.replicate, List.cons_append, List.nil_append, List.append_nil, List.getElem?_cons_zero, List.getElem?_cons_succ, List.getElem?_nil, List.set_cons_zero, List.set_cons_succ, Nat.reduceAdd, Nat.reduceSub, Nat.reduceEqDiff, Nat.reduceLeDiff, Nat.reduceLT, Nat.zero_add, Nat.add_zero, true_and, and_true, false_and, and_false, Bool.not_true, Bool.not_false, Bool.true_and, Bool.and_true, Bool.false_and, Bool.and_false, Bool.or_false, Bool.false_or, Bool.or_true, Bool.true_or, Bool.not_eq_true', if_true, if_false, Bool.false_eq_true, Bool.not_eq_true, ↓reduceIte, ite_true, ite_false, Bool.true_eq_false, not_true_eq_false, not_false_eq_true, Nat.zero_le]
  | [_] => simp only [cf, ftD, opK2, opK, chK4, chK3, chK2, chK, unK, andK, orK, notK, andVK2, andVK, orVK2, orVK, notVK2, notVK, ifVK, ifTK, consK2, consK, tupK, lstK, fzK, slK3, slK2, slK, cbK, coK, isiK, drpK, retK, retOK, ifSK, setK, setOK, nxK, asgK, parK, par3K, augK, appK, wcK, wdK, callK, callOK, callSK2, callSK, forK, lcK, parOK2, parOK, raiseK, bodyX, startE, xSeq, sqF, xNext, xBreak, xCont, xNever, xIfS, xRet, xRetN, xRetV, xRetO, xSet, xSetO, xDrop, xAsg, ygT_t, ygsC, ygsN, ygN, xPar, xPar3, xParO, xAug, xAppend, xFrz, xVar, xC, xOp, xUn, pNeg_i, xTest, asB_b, xAnd, xOr, xNot, xAndV, xOrV, xNotV, xIf, xIfT, xChain, xNil, xCons, xTup, xLst, xFz, xCall, xCallO, xCallS, rOfT_d, rOfT_o, rOwT_o, ywNil, ywDat, ywVar, xCB, xCO, xIsi, xSl, xRev, pRev, xpN, xpS, asI_i, xIxO, xLenO, xLenS, xFor, xWhile, ziT, ziL, itT_t, itL_l, ziR1, ziR2, ziET, ziEL, ziZ, zpT, lrK2, xLr2, xLr1, enT_t, enL_l, xLc, lc2K, xLc2, noOwnB, wipeE, xYes, xRaise, xTry, tyF, xXf, pAdd_i, pAdd_t, pAdd_l, pSub_i, pLt_i, pLe_i, pGt_i, pGe_i, pIs_n, pIsNot_n, pIsB_b, pNotB_b, isN_n, isN_b, isN_i, isN_s, isN_t, isN_l, pIx_t, pIx_l, pLen_t, pLen_l, pMin2_i, pMax2_i, pAbs_i, pInt_i, pTuple_t, pTuple_l, pList_t, pList_l, pIadd_i, pSl_t, pSl_l, pEqI, pNeI, pEqS, pNeS, at0, at1, at2, at3, at4, at5, at6, at7, bx_ret, bx_exc, bx_fail, bd_ret, bd_exc, bd_fail, exS_ret, exS_exc, exS_fail, ofO_some, ofO_none, fnE, isi_T, isi_B, isi_I, isi_S, isi_L, sizeL, Option.bind_some, Option.map_some, Option.some.injEq, Int.reduceEq, Int.reduceLE, Int.reduceLT, Int.reduceNeg, Int.reduceAdd, Int.reduceSub, Int.reduceMul, decide_true, decide_false, decide_eq_true_eq, decide_not, eq_self, Int.cast_ofNat_Int, reduceCtorEq, List.length_cons, List.length_nil, List.map_cons, List.map_nil, List.replicate, List.cons_append, List.nil_append, List.append_nil, List.getElem?_cons_zero, List.getElem?_cons_succ, List.getElem?_nil, List.set_cons_zero, List.set_cons_succ, Nat.reduceAdd, Nat.reduceSub, Nat.reduceEqDiff, Nat.reduceLeDiff, Nat.reduceLT, Nat.zero_add, Nat.add_zero, true_and, and_true, false_and, and_false, Bool.not_true, Bool.not_false, Bool.true_and, Bool.and_true, Bool.false_and, Bool.and_false, Bool.or_false, Bool.false_or, Bool.or_true, Bool.true_or, Bool.not_eq_true', if_true, if_false, Bool.false_eq_true, Bool.not_eq_true, ↓reduceIte, ite_true, ite_false, Bool.true_eq_false, not_true_eq_false, not_false_eq_true, Nat.zero_le]
  | [_, _] => simp only [cf, ftD, opK2, opK, chK4, chK3, chK2, chK, unK, andK, orK, notK, andVK2, andVK, orVK2, orVK, notVK2, notVK, ifVK, ifTK, consK2, consK, tupK, lstK, fzK, slK3, slK2, slK, cbK, coK, isiK, drpK, retK, retOK, ifSK, setK, setOK, nxK, asgK, parK, par3K, augK, appK, wcK, wdK, callK, callOK, callSK2, callSK, forK, lcK, parOK2, parOK, raiseK, bodyX, startE, xSeq, sqF, xNext, xBreak, xCont, xNever, xIfS, xRet, xRetN, xRetV, xRetO, xSet, xSetO, xDrop, xAsg, ygT_t, ygsC, ygsN, ygN, xPar, xPar3, xParO, xAug, xAppend, xFrz, xVar, xC, xOp, xUn, pNeg_i, xTest, asB_b, xAnd, xOr, xNot, xAndV, xOrV, xNotV, xIf, xIfT, xChain, xNil, xCons, xTup, xLst, xFz, xCall, xCallO, xCallS, rOfT_d, rOfT_o, rOwT_o, ywNil, ywDat, ywVar, xCB, xCO, xIsi, xSl, xRev, pRev, xpN, xpS, asI_i, xIxO, xLenO, xLenS, xFor, xWhile, ziT, ziL, itT_t, itL_l, ziR1, ziR2, ziET, ziEL, ziZ, zpT, lrK2, xLr2, xLr1, enT_t, enL_l, xLc, lc2K, xLc2, noOwnB, wipeE, xYes, xRaise, xTry, tyF, xXf, pAdd_i, pAdd_t, pAdd_l, pSub_i, pLt_i, pLe_i, pGt_i, pGe_i, pIs_n, pIsNot_n, pIsB_b, pNotB_b, isN_n, isN_b, isN_i, isN_s, isN_t, isN_l, pIx_t, pIx_l, pLen_t, pLen_l, pMin2_i, pMax2_i, pAbs_i, pInt_i, pTuple_t, pTuple_l, pList_t, pList_l, pIadd_i, pSl_t, pSl_l, pEqI, pNeI, pEqS, pNeS, at0, at1, at2, at3, at4, at5, at6, at7, bx_ret, bx_exc, bx_fail, bd_ret, bd_exc, bd_fail, exS_ret, exS_exc, exS_fail, ofO_some, ofO_none, fnE, isi_T, isi_B, isi_I, isi_S, isi_L, sizeL, Option.bind_some, Option.map_some, Option.some.injEq, Int.reduceEq, Int.reduceLE, Int.reduceLT, Int.reduceNeg, Int.reduceAdd, Int.reduceSub, Int.reduceMul, decide_true, decide_false, decide_eq_true_eq, decide_not, eq_self, Int.cast_ofNat_Int, reduceCtorEq, List.length_cons, List.length_nil, List.map_cons, List.map_nil, List.replicate, List.cons_append, List.nil_append, List.append_nil, List.getElem?_cons_zero, List.getElem?_cons_succ, List.getElem?_nil, List.set_cons_zero, List.set_cons_succ, Nat.reduceAdd, Nat.reduceSub, Nat.reduceEqDiff, Nat.reduceLeDiff, Nat.reduceLT, Nat.zero_add, Nat.add_zero, true_and, and_true, false_and, and_false, Bool.not_true, Bool.not_false, Bool.true_and, Bool.and_true, Bool.false_and, Bool.and_false, Bool.or_false, Bool.false_or, Bool.or_true, Bool.true_or, Bool.not_eq_true', if_true, if_false, Bool.false_eq_true, Bool.not_eq_true, ↓reduceIte, ite_true, ite_false, Bool.true_eq_false, not_true_eq_false, not_false_eq_true, Nat.zero_le]
  | [_, _, _] => simp only [cf, ftD, opK2, opK, chK4, chK3, chK2, chK, unK, andK, orK, notK, andVK2, andVK, orVK2, orVK, notVK2, notVK, ifVK, ifTK, consK2, consK, tupK, lstK, fzK, slK3, slK2, slK, cbK, coK, isiK, drpK, retK, retOK, ifSK, setK, setOK, nxK, asgK, parK, par3K, augK, appK, wcK, wdK, callK, callOK, callSK2, callSK, forK, lcK, parOK2, parOK, raiseK, bodyX, startE, xSeq, sqF, xNext, xBreak, xCont, xNever, xIfS, xRet, xRetN, xRetV, xRetO, xSet, xSetO, xDrop, xAsg, ygT_t, ygsC, ygsN, ygN, xPar, xPar3, xParO, xAug, xAppend, xFrz, xVar, xC, xOp, xUn, pNeg_i, xTest, asB_b, xAnd, xOr, xNot, xAndV, xOrV, xNotV, xIf, xIfT, xChain, xNil, xCons, xTup, xLst, xFz, xCall, xCallO, xCallS, rOfT_d, rOfT_o, rOwT_o, ywNil, ywDat, ywVar, xCB, xCO, xIsi, xSl, xRev, pRev, xpN, xpS, asI_i, xIxO, xLenO, xLenS, xFor, xWhile, ziT, ziL, itT_t, itL_l, ziR1, ziR2, ziET, ziEL, ziZ, zpT, lrK2, xLr2, xLr1, enT_t, enL_l, xLc, lc2K, xLc2, noOwnB, wipeE, xYes, xRaise, xTry, tyF, xXf, pAdd_i, pAdd_t, pAdd_l, pSub_i, pLt_i, pLe_i, pGt_i, pGe_i, pIs_n, pIsNot_n, pIsB_b, pNotB_b, isN_n, isN_b, isN_i, isN_s, isN_t, isN_l, pIx_t, pIx_l, pLen_t, pLen_l, pMin2_i, pMax2_i, pAbs_i, pInt_i, pTuple_t, pTuple_l, pList_t, pList_l, pIadd_i, pSl_t, pSl_l, pEqI, pNeI, pEqS, pNeS, at0, at1, at2, at3, at4, at5, at6, at7, bx_ret, bx_exc, bx_fail, bd_ret, bd_exc, bd_fail, exS_ret, exS_exc, exS_fail, ofO_some, ofO_none, fnE, isi_T, isi_B, isi_I, isi_S, isi_L, sizeL, Option.bind_some, Option.map_some, Option.some.injEq, Int.reduceEq, Int.reduceLE, Int.reduceLT, Int.reduceNeg, Int.reduceAdd, Int.reduceSub, Int.reduceMul, decide_true, decide_false, decide_eq_true_eq, decide_not, eq_self, Int.cast_ofNat_Int, reduceCtorEq, List.length_cons, List.length_nil, List.map_cons, List.map_nil, List.replicate, List.cons_append, List.nil_append, List.append_nil, List.getElem?_cons_zero, List.getElem?_cons_succ, List.getElem?_nil, List.set_cons_zero, List.set_cons_succ, Nat.reduceAdd, Nat.reduceSub, Nat.reduceEqDiff, Nat.reduceLeDiff, Nat.reduceLT, Nat.zero_add, Nat.add_zero, true_and, and_true, false_and, and_false, Bool.not_true, Bool.not_false, Bool.true_and, Bool.and_true, Bool.false_and, Bool.and_false, Bool.or_false, Bool.false_or, Bool.or_true, Bool.true_or, Bool.not_eq_true', if_true, if_false, Bool.false_eq_true, Bool.not_eq_true, ↓reduceIte, ite_true, ite_false, Bool.true_eq_false, not_true_eq_false, not_false_eq_true, Nat.zero_le]
  | [_, _, _, _] => simp only [cf, ftD, opK2, opK, chK4, chK3, chK2, chK, unK, andK, orK, notK, andVK2, andVK, orVK2, orVK, notVK2, notVK, ifVK, ifTK, consK2, consK, tupK, lstK, fzK, slK3, slK2, slK, cbK, coK, isiK, drpK, retK, retOK, ifSK, setK, setOK, nxK, asgK, parK, par3K, augK, appK, wcK, wdK, callK, callOK, callSK2, callSK, forK, lcK, parOK2, parOK, raiseK, bodyX, startE, xSeq, sqF, xNext, xBreak, xCont, xNever, xIfS, xRet, xRetN, xRetV, xRetO, xSet, xSetO, xDrop, xAsg, ygT_t, ygsC, ygsN, ygN, xPar, xPar3, xParO, xAug, xAppend, xFrz, xVar, xC, xOp, xUn, pNeg_i, xTest, asB_b, xAnd, xOr, xNot, xAndV, xOrV, xNotV, xIf, xIfT, xChain, xNil, xCons, xTup, xLst, xFz, xCall, xCallO, xCallS, rOfT_d, rOfT_o, rOwT_o, ywNil, ywDat, ywVar, xCB, xCO, xIsi, xSl, xRev, pRev, xpN, xpS, asI_i, xIxO, xLenO, xLenS, xFor, xWhile, ziT, ziL, itT_t, itL_l, ziR1, ziR2, ziET, ziEL, ziZ, zpT, lrK2, xLr2, xLr1, enT_t, enL_l, xLc, lc2K, xLc2, noOwnB, wipeE, xYes, xRaise, xTry, tyF, xXf, pAdd_i, pAdd_t, pAdd_l, pSub_i, pLt_i, pLe_i, pGt_i, pGe_i, pIs_n, pIsNot_n, pIsB_b, pNotB_b, isN_n, isN_b, isN_i, isN_s, isN_t, isN_l, pIx_t, pIx_l, pLen_t, pLen_l, pMin2_i, pMax2_i, pAbs_i, pInt_i, pTuple_t, pTuple_l, pList_t, pList_l, pIadd_i, pSl_t, pSl_l, pEqI, pNeI, pEqS, pNeS, at0, at1, at2, at3, at4, at5, at6, at7, bx_ret, bx_exc, bx_fail, bd_ret, bd_exc, bd_fail, exS_ret, exS_exc, exS_fail, ofO_some, ofO_none, fnE, isi_T, isi_B, isi_I, isi_S, isi_L, sizeL, Option.bind_some, Option.map_some, Option.some.injEq, Int.reduceEq, Int.reduceLE, Int.reduceLT, Int.reduceNeg, Int.reduceAdd, Int.reduceSub, Int.reduceMul, decide_true, decide_false, decide_eq_true_eq, decide_not, eq_self, Int.cast_ofNat_Int, reduceCtorEq, List.length_cons, List.length_nil, List.map_cons, List.map_nil, List.replicate, List.cons_append, List.nil_append, List.append_nil, List.getElem?_cons_zero, List.getElem?_cons_succ, List.getElem?_nil, List.set_cons_zero, List.set_cons_succ, Nat.reduceAdd, Nat.reduceSub, Nat.reduceEqDiff, Nat.reduceLeDiff, Nat.reduceLT, Nat.zero_add, Nat.add_zero, true_and, and_true, false_and, and_false, Bool.not_true, Bool.not_false, Bool.true_and, Bool.and_true, Bool.false_and, Bool.and_false, Bool.or_false, Bool.false_or, Bool.or_true, Bool.true_or, Bool.not_eq_true', if_true, if_false, Bool.false_eq_true, Bool.not_eq_true, ↓reduceIte, ite_true, ite_false, Bool.true_eq_false, not_true_eq_false, not_false_eq_true, Nat.zero_le]
  | _ :: _ :: _ :: _ :: _ :: _ :: r =>
    have e : ¬ (((r.length + 1 + 1 + 1 + 1 + 1 + 1 : Nat) : Int) = 5) := by omega
    simp only [cf, ftD, e, opK2, opK, chK4, chK3, chK2, chK, unK, andK, orK, notK, andVK2, andVK, orVK2, orVK, notVK2, notVK, ifVK, ifTK, consK2, consK, tupK, lstK, fzK, slK3, slK2, slK, cbK, coK, isiK, drpK, retK, retOK, ifSK, setK, setOK, nxK, asgK, parK, par3K, augK, appK, wcK, wdK, callK, callOK, callSK2, callSK, forK, lcK, parOK2, parOK, raiseK, bodyX, startE, xSeq, sqF, xNext, xBreak, xCont, xNever, xIfS, xRet, xRetN, xRetV, xRetO, xSet, xSetO, xDrop, xAsg, ygT_t, ygsC, ygsN, ygN, xPar, xPar3, xParO, xAug, xAppend, xFrz, xVar, xC, xOp, xUn, pNeg_i, xTest, asB_b, xAnd, xOr, xNot, xAndV, xOrV, xNotV, xIf, xIfT, xChain, xNil, xCons, xTup, xLst, xFz, xCall, xCallO, xCallS, rOfT_d, rOfT_o, rOwT_o, ywNil, ywDat, ywVar, xCB, xCO, xIsi, xSl, xRev, pRev, xpN, xpS, asI_i, xIxO, xLenO, xLenS, xFor, xWhile, ziT, ziL, itT_t, itL_l, ziR1, ziR2, ziET, ziEL, ziZ, zpT, lrK2, xLr2, xLr1, enT_t, enL_l, xLc, lc2K, xLc2, noOwnB, wipeE, xYes, xRaise, xTry, tyF, xXf, pAdd_i, pAdd_t, pAdd_l, pSub_i, pLt_i, pLe_i, pGt_i, pGe_i, pIs_n, pIsNot_n, pIsB_b, pNotB_b, isN_n, isN_b, isN_i, isN_s, isN_t, isN_l, pIx_t, pIx_l, pLen_t, pLen_l, pMin2_i, pMax2_i, pAbs_i, pInt_i, pTuple_t, pTuple_l, pList_t, pList_l, pIadd_i, pSl_t, pSl_l, pEqI, pNeI, pEqS, pNeS, at0, at1, at2, at3, at4, at5, at6, at7, bx_ret, bx_exc, bx_fail, bd_ret, bd_exc, bd_fail, exS_ret, exS_exc, exS_fail, ofO_some, ofO_none, fnE, isi_T, isi_B, isi_I, isi_S, isi_L, sizeL, Option.bind_some, Option.map_some, Option.some.injEq, Int.reduceEq, Int.reduceLE, Int.reduceLT, Int.reduceNeg, Int.reduceAdd, Int.reduceSub, Int.reduceMul, decide_true, decide_false, decide_eq_true_eq, decide_not, eq_self, Int.cast_ofNat_Int, reduceCtorEq, List.length_cons, List.length_nil, List.map_cons, List.map_nil, List.replicate, List.cons_append, List.nil_append, List.append_nil, List.getElem?_cons_zero, List.getElem?_cons_succ, List.getElem?_nil, List.set_cons_zero, List.set_cons_succ, Nat.reduceAdd, Nat.reduceSub, Nat.reduceEqDiff, Nat.reduceLeDiff, Nat.reduceLT, Nat.zero_add, Nat.add_zero, true_and, and_true, false_and, and_false, Bool.not_true, Bool.not_false, Bool.true_and, Bool.and_true, Bool.false_and, Bool.and_false, Bool.or_false, Bool.false_or, Bool.or_true, Bool.true_or, Bool.not_eq_true', if_true, if_false, Bool.false_eq_true, Bool.not_eq_true, ↓reduceIte, ite_true, ite_false, Bool.true_eq_false, not_true_eq_false, not_false_eq_true, Nat.zero_le]
  | [low, high, steps, moves, fade] =>
    simp only [cf, r_whole, r_rowS, opK2, opK, chK4, chK3, chK2, chK, unK, andK, orK, notK, andVK2, andVK, orVK2, orVK, notVK2, notVK, ifVK, ifTK, consK2, consK, tupK, lstK, fzK, slK3, slK2, slK, cbK, coK, isiK, drpK, retK, retOK, ifSK, setK, setOK, nxK, asgK, parK, par3K, augK, appK, wcK, wdK, callK, callOK, callSK2, callSK, forK, lcK, parOK2, parOK, raiseK, bodyX, startE, xSeq, sqF, xNext, xBreak, xCont, xNever, xIfS, xRet, xRetN, xRetV, xRetO, xSet, xSetO, xDrop, xAsg, ygT_t, ygsC, ygsN, ygN, xPar, xPar3, xParO, xAug, xAppend, xFrz, xVar, xC, xOp, xUn, pNeg_i, xTest, asB_b, xAnd, xOr, xNot, xAndV, xOrV, xNotV, xIf, xIfT, xChain, xNil, xCons, xTup, xLst, xFz, xCall, xCallO, xCallS, rOfT_d, rOfT_o, rOwT_o, ywNil, ywDat, ywVar, xCB, xCO, xIsi, xSl, xRev, pRev, xpN, xpS, asI_i, xIxO, xLenO, xLenS, xFor, xWhile, ziT, ziL, itT_t, itL_l, ziR1, ziR2, ziET, ziEL, ziZ, zpT, lrK2, xLr2, xLr1, enT_t, enL_l, xLc, lc2K, xLc2, noOwnB, wipeE, xYes, xRaise, xTry, tyF, xXf, pAdd_i, pAdd_t, pAdd_l, pSub_i, pLt_i, pLe_i, pGt_i, pGe_i, pIs_n, pIsNot_n, pIsB_b, pNotB_b, isN_n, isN_b, isN_i, isN_s, isN_t, isN_l, pIx_t, pIx_l, pLen_t, pLen_l, pMin2_i, pMax2_i, pAbs_i, pInt_i, pTuple_t, pTuple_l, pList_t, pList_l, pIadd_i, pSl_t, pSl_l, pEqI, pNeI, pEqS, pNeS, at0, at1, at2, at3, at4, at5, at6, at7, bx_ret, bx_exc, bx_fail, bd_ret, bd_exc, bd_fail, exS_ret, exS_exc, exS_fail, ofO_some, ofO_none, fnE, isi_T, isi_B, isi_I, isi_S, isi_L, sizeL, Option.bind_some, Option.map_some, Option.some.injEq, Int.reduceEq, Int.reduceLE, Int.reduceLT, Int.reduceNeg, Int.reduceAdd, Int.reduceSub, Int.reduceMul, decide_true, decide_false, decide_eq_true_eq, decide_not, eq_self, Int.cast_ofNat_Int, reduceCtorEq, List.length_cons, List.length_nil, List.map_cons, List.map_nil, List.replicate, List.cons_append, List.nil_append, List.append_nil, List.getElem?_cons_zero, List.getElem?_cons_succ, List.getElem?_nil, List.set_cons_zero, List.set_cons_succ, Nat.reduceAdd, Nat.reduceSub, Nat.reduceEqDiff, Nat.reduceLeDiff, Nat.reduceLT, Nat.zero_add, Nat.add_zero, true_and, and_true, false_and, and_false, Bool.not_true, Bool.not_false, Bool.true_and, Bool.and_true, Bool.false_and, Bool.and_false, Bool.or_false, Bool.false_or, Bool.or_true, Bool.true_or, Bool.not_eq_true', if_true, if_false, Bool.false_eq_true, Bool.not_eq_true, ↓reduceIte, ite_true, ite_false, Bool.true_eq_false, not_true_eq_false, not_false_eq_true, Nat.zero_le]
    cases wh low (-32768) 0 with
    | false => simp only [ftD, opK2, opK, chK4, chK3, chK2, chK, unK, andK, orK, notK, andVK2, andVK, orVK2, orVK, notVK2, notVK, ifVK, ifTK, consK2, consK, tupK, lstK, fzK, slK3, slK2, slK, cbK, coK, isiK, drpK, retK, retOK, ifSK, setK, setOK, nxK, asgK, parK, par3K, augK, appK, wcK, wdK, callK, callOK, callSK2, callSK, forK, lcK, parOK2, parOK, raiseK, bodyX, startE, xSeq, sqF, xNext, xBreak, xCont, xNever, xIfS, xRet, xRetN, xRetV, xRetO, xSet, xSetO, xDrop, xAsg, ygT_t, ygsC, ygsN, ygN, xPar, xPar3, xParO, xAug, xAppend, xFrz, xVar, xC, xOp, xUn, pNeg_i, xTest, asB_b, xAnd, xOr, xNot, xAndV, xOrV, xNotV, xIf, xIfT, xChain, xNil, xCons, xTup, xLst, xFz, xCall, xCallO, xCallS, rOfT_d, rOfT_o, rOwT_o, ywNil, ywDat, ywVar, xCB, xCO, xIsi, xSl, xRev, pRev, xpN, xpS, asI_i, xIxO, xLenO, xLenS, xFor, xWhile, ziT, ziL, itT_t, itL_l, ziR1, ziR2, ziET, ziEL, ziZ, zpT, lrK2, xLr2, xLr1, enT_t, enL_l, xLc, lc2K, xLc2, noOwnB, wipeE, xYes, xRaise, xTry, tyF, xXf, pAdd_i, pAdd_t, pAdd_l, pSub_i, pLt_i, pLe_i, pGt_i, pGe_i, pIs_n, pIsNot_n, pIsB_b, pNotB_b, isN_n, isN_b, isN_i, isN_s, isN_t, isN_l, pIx_t, pIx_l, pLen_t, pLen_l, pMin2_i, pMax2_i, pAbs_i, pInt_i, pTuple_t, pTuple_l, pList_t, pList_l, pIadd_i, pSl_t, pSl_l, pEqI, pNeI, pEqS, pNeS, at0, at1, at2, at3, at4, at5, at6, at7, bx_ret, bx_exc, bx_fail, bd_ret, bd_exc, bd_fail, exS_ret, exS_exc, exS_fail, ofO_some, ofO_none, fnE, isi_T, isi_B, isi_I, isi_S, isi_L, sizeL, Option.bind_some, Option.map_some, Option.some.injEq, Int.reduceEq, Int.reduceLE, Int.reduceLT, Int.reduceNeg, Int.reduceAdd, Int.reduceSub, Int.reduceMul, decide_true, decide_false, decide_eq_true_eq, decide_not, eq_self, Int.cast_ofNat_Int, reduceCtorEq, List.length_cons, List.length_nil, List.map_cons, List.map_nil, List.replicate, List.cons_append, List.nil_append, List.append_nil, List.getElem?_cons_zero, List.getElem?_cons_succ, List.getElem?_nil, List.set_cons_zero, List.set_cons_succ, Nat.reduceAdd, Nat.reduceSub, Nat.reduceEqDiff, Nat.reduceLeDiff, Nat.reduceLT, Nat.zero_add, Nat.add_zero, true_and, and_true, false_and, and_false, Bool.not_true, Bool.not_false, Bool.true_and, Bool.and_true, Bool.false_and, Bool.and_false, Bool.or_false, Bool.false_or, Bool.or_true, Bool.true_or, Bool.not_eq_true', if_true, if_false, Bool.false_eq_true, Bool.not_eq_true, ↓reduceIte, ite_true, ite_false, Bool.true_eq_false, not_true_eq_false, not_false_eq_true, Nat.zero_le]
    | true =>
      simp only [r_whole, r_rowS, opK2, opK, chK4, chK3, chK2, chK, unK, andK, orK, notK, andVK2, andVK, orVK2, orVK, notVK2, notVK, ifVK, ifTK, consK2, consK, tupK, lstK, fzK, slK3, slK2, slK, cbK, coK, isiK, drpK, retK, retOK, ifSK, setK, setOK, nxK, asgK, parK, par3K, augK, appK, wcK, wdK, callK, callOK, callSK2, callSK, forK, lcK, parOK2, parOK, raiseK, bodyX, startE, xSeq, sqF, xNext, xBreak, xCont, xNever, xIfS, xRet, xRetN, xRetV, xRetO, xSet, xSetO, xDrop, xAsg, ygT_t, ygsC, ygsN, ygN, xPar, xPar3, xParO, xAug, xAppend, xFrz, xVar, xC, xOp, xUn, pNeg_i, xTest, asB_b, xAnd, xOr, xNot, xAndV, xOrV, xNotV, xIf, xIfT, xChain, xNil, xCons, xTup, xLst, xFz, xCall, xCallO, xCallS, rOfT_d, rOfT_o, rOwT_o, ywNil, ywDat, ywVar, xCB, xCO, xIsi, xSl, xRev, pRev, xpN, xpS, asI_i, xIxO, xLenO, xLenS, xFor, xWhile, ziT, ziL, itT_t, itL_l, ziR1, ziR2, ziET, ziEL, ziZ, zpT, lrK2, xLr2, xLr1, enT_t, enL_l, xLc, lc2K, xLc2, noOwnB, wipeE, xYes, xRaise, xTry, tyF, xXf, pAdd_i, pAdd_t, pAdd_l, pSub_i, pLt_i, pLe_i, pGt_i, pGe_i, pIs_n, pIsNot_n, pIsB_b, pNotB_b, isN_n, isN_b, isN_i, isN_s, isN_t, isN_l, pIx_t, pIx_l, pLen_t, pLen_l, pMin2_i, pMax2_i, pAbs_i, pInt_i, pTuple_t, pTuple_l, pList_t, pList_l, pIadd_i, pSl_t, pSl_l, pEqI, pNeI, pEqS, pNeS, at0, at1, at2, at3, at4, at5, at6, at7, bx_ret, bx_exc, bx_fail, bd_ret, bd_exc, bd_fail, exS_ret, exS_exc, exS_fail, ofO_some, ofO_none, fnE, isi_T, isi_B, isi_I, isi_S, isi_L, sizeL, Option.bind_some, Option.map_some, Option.some.injEq, Int.reduceEq, Int.reduceLE, Int.reduceLT, Int.reduceNeg, Int.reduceAdd, Int.reduceSub, Int.reduceMul, decide_true, decide_false, decide_eq_true_eq, decide_not, eq_self, Int.cast_ofNat_Int, reduceCtorEq, List.length_cons, List.length_nil, List.map_cons, List.map_nil, List.replicate, List.cons_append, List.nil_append, List.append_nil, List.getElem?_cons_zero, List.getElem?_cons_succ, List.getElem?_nil, List.set_cons_zero, List.set_cons_succ, Nat.reduceAdd, Nat.reduceSub, Nat.reduceEqDiff, Nat.reduceLeDiff, Nat.reduceLT, Nat.zero_add, Nat.add_zero, true_and, and_true, false_and, and_false, Bool.not_true, Bool.not_false, Bool.true_and, Bool.and_true, Bool.false_and, Bool.and_false, Bool.or_false, Bool.false_or, Bool.or_true, Bool.true_or, Bool.not_eq_true', if_true, if_false, Bool.false_eq_true, Bool.not_eq_true, ↓reduceIte, ite_true, ite_false, Bool.true_eq_false, not_true_eq_false, not_false_eq_true, Nat.zero_le]
      cases wh high 0 32767 with
      | false => simp only [ftD, opK2, opK, chK4, chK3, chK2, chK, unK, andK, orK, notK, andVK2, andVK, orVK2, orVK, notVK2, notVK, ifVK, ifTK, consK2, consK, tupK, lstK, fzK, slK3, slK2, slK, cbK, coK, isiK, drpK, retK, retOK, ifSK, setK, setOK, nxK, asgK, parK, par3K, augK, appK, wcK, wdK, callK, callOK, callSK2, callSK, forK, lcK, parOK2, parOK, raiseK, bodyX, startE, xSeq, sqF, xNext, xBreak, xCont, xNever, xIfS, xRet, xRetN, xRetV, xRetO, xSet, xSetO, xDrop, xAsg, ygT_t, ygsC, ygsN, ygN, xPar, xPar3, xParO, xAug, xAppend, xFrz, xVar, xC, xOp, xUn, pNeg_i, xTest, asB_b, xAnd, xOr, xNot, xAndV, xOrV, xNotV, xIf, xIfT, xChain, xNil, xCons, xTup, xLst, xFz, xCall, xCallO, xCallS, rOfT_d, rOfT_o, rOwT_o, ywNil, ywDat, ywVar, xCB, xCO, xIsi, xSl, xRev, pRev, xpN, xpS, asI_i, xIxO, xLenO, xLenS, xFor, xWhile, ziT, ziL, itT_t, itL_l, ziR1, ziR2, ziET, ziEL, ziZ, zpT, lrK2, xLr2, xLr1, enT_t, enL_l, xLc, lc2K, xLc2, noOwnB, wipeE, xYes, xRaise, xTry, tyF, xXf, pAdd_i, pAdd_t, pAdd_l, pSub_i, pLt_i, pLe_i, pGt_i, pGe_i, pIs_n, pIsNot_n, pIsB_b, pNotB_b, isN_n, isN_b, isN_i, isN_s, isN_t, isN_l, pIx_t, pIx_l, pLen_t, pLen_l, pMin2_i, pMax2_i, pAbs_i, pInt_i, pTuple_t, pTuple_l, pList_t, pList_l, pIadd_i, pSl_t, pSl_l, pEqI, pNeI, pEqS, pNeS, at0, at1, at2, at3, at4, at5, at6, at7, bx_ret, bx_exc, bx_fail, bd_ret, bd_exc, bd_fail, exS_ret, exS_exc, exS_fail, ofO_some, ofO_none, fnE, isi_T, isi_B, isi_I, isi_S, isi_L, sizeL, Option.bind_some, Option.map_some, Option.some.injEq, Int.reduceEq, Int.reduceLE, Int.reduceLT, Int.reduceNeg, Int.reduceAdd, Int.reduceSub, Int.reduceMul, decide_true, decide_false, decide_eq_true_eq, decide_not, eq_self, Int.cast_ofNat_Int, reduceCtorEq, List.length_cons, List.length_nil, List.map_cons, List.map_nil, List.replicate, List.cons_append, List.nil_append, List.append_nil, List.getElem?_cons_zero, List.getElem?_cons_succ, List.getElem?_nil, List.set_cons_zero, List.set_cons_succ, Nat.reduceAdd, Nat.reduceSub, Nat.reduceEqDiff, Nat.reduceLeDiff, Nat.reduceLT, Nat.zero_add, Nat.add_zero, true_and, and_true, false_and, and_false, Bool.not_true, Bool.not_false, Bool.true_and, Bool.and_true, Bool.false_and, Bool.and_false, Bool.or_false, Bool.false_or, Bool.or_true, Bool.true_or, Bool.not_eq_true', if_true, if_false, Bool.false_eq_true, Bool.not_eq_true, ↓reduceIte, ite_true, ite_false, Bool.true_eq_false, not_true_eq_false, not_false_eq_true, Nat.zero_le]
      | true =>
        simp only [r_whole, r_rowS, r_rowM, opK2, opK, chK4, chK3, chK2, chK, unK, andK, orK, notK, andVK2, andVK, orVK2, orVK, notVK2, notVK, ifVK, ifTK, consK2, consK, tupK, lstK, fzK, slK3, slK2, slK, cbK, coK, isiK, drpK, retK, retOK, ifSK, setK, setOK, nxK, asgK, parK, par3K, augK, appK, wcK, wdK, callK, callOK, callSK2, callSK, forK, lcK, parOK2, parOK, raiseK, bodyX, startE, xSeq, sqF, xNext, xBreak, xCont, xNever, xIfS, xRet, xRetN, xRetV, xRetO, xSet, xSetO, xDrop, xAsg, ygT_t, ygsC, ygsN, ygN, xPar, xPar3, xParO, xAug, xAppend, xFrz, xVar, xC, xOp, xUn, pNeg_i, xTest, asB_b, xAnd, xOr, xNot, xAndV, xOrV, xNotV, xIf, xIfT, xChain, xNil, xCons, xTup, xLst, xFz, xCall, xCallO, xCallS, rOfT_d, rOfT_o, rOwT_o, ywNil, ywDat, ywVar, xCB, xCO, xIsi, xSl, xRev, pRev, xpN, xpS, asI_i, xIxO, xLenO, xLenS, xFor, xWhile, ziT, ziL, itT_t, itL_l, ziR1, ziR2, ziET, ziEL, ziZ, zpT, lrK2, xLr2, xLr1, enT_t, enL_l, xLc, lc2K, xLc2, noOwnB, wipeE, xYes, xRaise, xTry, tyF, xXf, pAdd_i, pAdd_t, pAdd_l, pSub_i, pLt_i, pLe_i, pGt_i, pGe_i, pIs_n, pIsNot_n, pIsB_b, pNotB_b, isN_n, isN_b, isN_i, isN_s, isN_t, isN_l, pIx_t, pIx_l, pLen_t, pLen_l, pMin2_i, pMax2_i, pAbs_i, pInt_i, pTuple_t, pTuple_l, pList_t, pList_l, pIadd_i, pSl_t, pSl_l, pEqI, pNeI, pEqS, pNeS, at0, at1, at2, at3, at4, at5, at6, at7, bx_ret, bx_exc, bx_fail, bd_ret, bd_exc, bd_fail, exS_ret, exS_exc, exS_fail, ofO_some, ofO_none, fnE, isi_T, isi_B, isi_I, isi_S, isi_L, sizeL, Option.bind_some, Option.map_some, Option.some.injEq, Int.reduceEq, Int.reduceLE, Int.reduceLT, Int.reduceNeg, Int.reduceAdd, Int.reduceSub, Int.reduceMul, decide_true, decide_false, decide_eq_true_eq, decide_not, eq_self, Int.cast_ofNat_Int, reduceCtorEq, List.length_cons, List.length_nil, List.map_cons, List.map_nil, List.replicate, List.cons_append, List.nil_append, List.append_nil, List.getElem?_cons_zero, List.getElem?_cons_succ, List.getElem?_nil, List.set_cons_zero, List.set_cons_succ, Nat.reduceAdd, Nat.reduceSub, Nat.reduceEqDiff, Nat.reduceLeDiff, Nat.reduceLT, Nat.zero_add, Nat.add_zero, true_and, and_true, false_and, and_false, Bool.not_true, Bool.not_false, Bool.true_and, Bool.and_true, Bool.false_and, Bool.and_false, Bool.or_false, Bool.false_or, Bool.or_true, Bool.true_or, Bool.not_eq_true', if_true, if_false, Bool.false_eq_true, Bool.not_eq_true, ↓reduceIte, ite_true, ite_false, Bool.true_eq_false, not_true_eq_false, not_false_eq_true, Nat.zero_le]
        cases rowF "steps" (fun d => wh d 1 9999) 1 16 steps with
        | some f => obtain ⟨p, n⟩ := f; simp only [ftD, opK2, opK, chK4, chK3, chK2, chK, unK, andK, orK, notK, andVK2, andVK, orVK2, orVK, notVK2, notVK, ifVK, ifTK, consK2, consK, tupK, lstK, fzK, slK3, slK2, slK, cbK, coK, isiK, drpK, retK, retOK, ifSK, setK, setOK, nxK, asgK, parK, par3K, augK, appK, wcK, wdK, callK, callOK, callSK2, callSK, forK, lcK, parOK2, parOK, raiseK, bodyX, startE, xSeq, sqF, xNext, xBreak, xCont, xNever, xIfS, xRet, xRetN, xRetV, xRetO, xSet, xSetO, xDrop, xAsg, ygT_t, ygsC, ygsN, ygN, xPar, xPar3, xParO, xAug, xAppend, xFrz, xVar, xC, xOp, xUn, pNeg_i, xTest, asB_b, xAnd, xOr, xNot, xAndV, xOrV, xNotV, xIf, xIfT, xChain, xNil, xCons, xTup, xLst, xFz, xCall, xCallO, xCallS, rOfT_d, rOfT_o, rOwT_o, ywNil, ywDat, ywVar, xCB, xCO, xIsi, xSl, xRev, pRev, xpN, xpS, asI_i, xIxO, xLenO, xLenS, xFor, xWhile, ziT, ziL, itT_t, itL_l, ziR1, ziR2, ziET, ziEL, ziZ, zpT, lrK2, xLr2, xLr1, enT_t, enL_l, xLc, lc2K, xLc2, noOwnB, wipeE, xYes, xRaise, xTry, tyF, xXf, pAdd_i, pAdd_t, pAdd_l, pSub_i, pLt_i, pLe_i, pGt_i, pGe_i, pIs_n, pIsNot_n, pIsB_b, pNotB_b, isN_n, isN_b, isN_i, isN_s, isN_t, isN_l, pIx_t, pIx_l, pLen_t, pLen_l, pMin2_i, pMax2_i, pAbs_i, pInt_i, pTuple_t, pTuple_l, pList_t, pList_l, pIadd_i, pSl_t, pSl_l, pEqI, pNeI, pEqS, pNeS, at0, at1, at2, at3, at4, at5, at6, at7, bx_ret, bx_exc, bx_fail, bd_ret, bd_exc, bd_fail, exS_ret, exS_exc, exS_fail, ofO_some, ofO_none, fnE, isi_T, isi_B, isi_I, isi_S, isi_L, sizeL, Option.bind_some, Option.map_some, Option.some.injEq, Int.reduceEq, Int.reduceLE, Int.reduceLT, Int.reduceNeg, Int.reduceAdd, Int.reduceSub, Int.reduceMul, decide_true, decide_false, decide_eq_true_eq, decide_not, eq_self, Int.cast_ofNat_Int, reduceCtorEq, List.length_cons, List.length_nil, List.map_cons, List.map_nil, List.replicate, List.cons_append, List.nil_append, List.append_nil, List.getElem?_cons_zero, List.getElem?_cons_succ, List.getElem?_nil, List.set_cons_zero, List.set_cons_succ, Nat.reduceAdd, Nat.reduceSub, Nat.reduceEqDiff, Nat.reduceLeDiff, Nat.reduceLT, Nat.zero_add, Nat.add_zero, true_and, and_true, false_and, and_false, Bool.not_true, Bool.not_false, Bool.true_and, Bool.and_true, Bool.false_and, Bool.and_false, Bool.or_false, Bool.false_or, Bool.or_true, Bool.true_or, Bool.not_eq_true', if_true, if_false, Bool.false_eq_true, Bool.not_eq_true, ↓reduceIte, ite_true, ite_false, Bool.true_eq_false, not_true_eq_false, not_false_eq_true, Nat.zero_le]
        | none =>
          simp only [ftD, r_rowM, opK2, opK, chK4, chK3, chK2, chK, unK, andK, orK, notK, andVK2, andVK, orVK2, orVK, notVK2, notVK, ifVK, ifTK, consK2, consK, tupK, lstK, fzK, slK3, slK2, slK, cbK, coK, isiK, drpK, retK, retOK, ifSK, setK, setOK, nxK, asgK, parK, par3K, augK, appK, wcK, wdK, callK, callOK, callSK2, callSK, forK, lcK, parOK2, parOK, raiseK, bodyX, startE, xSeq, sqF, xNext, xBreak, xCont, xNever, xIfS, xRet, xRetN, xRetV, xRetO, xSet, xSetO, xDrop, xAsg, ygT_t, ygsC, ygsN, ygN, xPar, xPar3, xParO, xAug, xAppend, xFrz, xVar, xC, xOp, xUn, pNeg_i, xTest, asB_b, xAnd, xOr, xNot, xAndV, xOrV, xNotV, xIf, xIfT, xChain, xNil, xCons, xTup, xLst, xFz, xCall, xCallO, xCallS, rOfT_d, rOfT_o, rOwT_o, ywNil, ywDat, ywVar, xCB, xCO, xIsi, xSl, xRev, pRev, xpN, xpS, asI_i, xIxO, xLenO, xLenS, xFor, xWhile, ziT, ziL, itT_t, itL_l, ziR1, ziR2, ziET, ziEL, ziZ, zpT, lrK2, xLr2, xLr1, enT_t, enL_l, xLc, lc2K, xLc2, noOwnB, wipeE, xYes, xRaise, xTry, tyF, xXf, pAdd_i, pAdd_t, pAdd_l, pSub_i, pLt_i, pLe_i, pGt_i, pGe_i, pIs_n, pIsNot_n, pIsB_b, pNotB_b, isN_n, isN_b, isN_i, isN_s, isN_t, isN_l, pIx_t, pIx_l, pLen_t, pLen_l, pMin2_i, pMax2_i, pAbs_i, pInt_i, pTuple_t, pTuple_l, pList_t, pList_l, pIadd_i, pSl_t, pSl_l, pEqI, pNeI, pEqS, pNeS, at0, at1, at2, at3, at4, at5, at6, at7, bx_ret, bx_exc, bx_fail, bd_ret, bd_exc, bd_fail, exS_ret, exS_exc, exS_fail, ofO_some, ofO_none, fnE, isi_T, isi_B, isi_I, isi_S, isi_L, sizeL, Option.bind_some, Option.map_some, Option.some.injEq, Int.reduceEq, Int.reduceLE, Int.reduceLT, Int.reduceNeg, Int.reduceAdd, Int.reduceSub, Int.reduceMul, decide_true, decide_false, decide_eq_true_eq, decide_not, eq_self, Int.cast_ofNat_Int, reduceCtorEq, List.length_cons, List.length_nil, List.map_cons, List.map_nil, List.replicate, List.cons_append, List.nil_append, List.append_nil, List.getElem?_cons_zero, List.getElem?_cons_succ, List.getElem?_nil, List.set_cons_zero, List.set_cons_succ, Nat.reduceAdd, Nat.reduceSub, Nat.reduceEqDiff, Nat.reduceLeDiff, Nat.reduceLT, Nat.zero_add, Nat.add_zero, true_and, and_true, false_and, and_false, Bool.not_true, Bool.not_false, Bool.true_and, Bool.and_true, Bool.false_and, Bool.and_false, Bool.or_false, Bool.false_or, Bool.or_true, Bool.true_or, Bool.not_eq_true', if_true, if_false, Bool.false_eq_true, Bool.not_eq_true, ↓reduceIte, ite_true, ite_false, Bool.true_eq_false, not_true_eq_false, not_false_eq_true, Nat.zero_le]
          cases rowF "moves" mvB 2 16 moves with
          | some f => obtain ⟨p, n⟩ := f; simp only [ftD, opK2, opK, chK4, chK3, chK2, chK, unK, andK, orK, notK, andVK2, andVK, orVK2, orVK, notVK2, notVK, ifVK, ifTK, consK2, consK, tupK, lstK, fzK, slK3, slK2, slK, cbK, coK, isiK, drpK, retK, retOK, ifSK, setK, setOK, nxK, asgK, parK, par3K, augK, appK, wcK, wdK, callK, callOK, callSK2, callSK, forK, lcK, parOK2, parOK, raiseK, bodyX, startE, xSeq, sqF, xNext, xBreak, xCont, xNever, xIfS, xRet, xRetN, xRetV, xRetO, xSet, xSetO, xDrop, xAsg, ygT_t, ygsC, ygsN, ygN, xPar, xPar3, xParO, xAug, xAppend, xFrz, xVar, xC, xOp, xUn, pNeg_i, xTest, asB_b, xAnd, xOr, xNot, xAndV, xOrV, xNotV, xIf, xIfT, xChain, xNil, xCons, xTup, xLst, xFz, xCall, xCallO, xCallS, rOfT_d, rOfT_o, rOwT_o, ywNil, ywDat, ywVar, xCB, xCO, xIsi, xSl, xRev, pRev, xpN, xpS, asI_i, xIxO, xLenO, xLenS, xFor, xWhile, ziT, ziL, itT_t, itL_l, ziR1, ziR2, ziET, ziEL, ziZ, zpT, lrK2, xLr2, xLr1, enT_t, enL_l, xLc, lc2K, xLc2, noOwnB, wipeE, xYes, xRaise, xTry, tyF, xXf, pAdd_i, pAdd_t, pAdd_l, pSub_i, pLt_i, pLe_i, pGt_i, pGe_i, pIs_n, pIsNot_n, pIsB_b, pNotB_b, isN_n, isN_b, isN_i, isN_s, isN_t, isN_l, pIx_t, pIx_l, pLen_t, pLen_l, pMin2_i, pMax2_i, pAbs_i, pInt_i, pTuple_t, pTuple_l, pList_t, pList_l, pIadd_i, pSl_t, pSl_l, pEqI, pNeI, pEqS, pNeS, at0, at1, at2, at3, at4, at5, at6, at7, bx_ret, bx_exc, bx_fail, bd_ret, bd_exc, bd_fail, exS_ret, exS_exc, exS_fail, ofO_some, ofO_none, fnE, isi_T, isi_B, isi_I, isi_S, isi_L, sizeL, Option.bind_some, Option.map_some, Option.some.injEq, Int.reduceEq, Int.reduceLE, Int.reduceLT, Int.reduceNeg, Int.reduceAdd, Int.reduceSub, Int.reduceMul, decide_true, decide_false, decide_eq_true_eq, decide_not, eq_self, Int.cast_ofNat_Int, reduceCtorEq, List.length_cons, List.length_nil, List.map_cons, List.map_nil, List.replicate, List.cons_append, List.nil_append, List.append_nil, List.getElem?_cons_zero, List.getElem?_cons_succ, List.getElem?_nil, List.set_cons_zero, List.set_cons_succ, Nat.reduceAdd, Nat.reduceSub, Nat.reduceEqDiff, Nat.reduceLeDiff, Nat.reduceLT, Nat.zero_add, Nat.add_zero, true_and, and_true, false_and, and_false, Bool.not_true, Bool.not_false, Bool.true_and, Bool.and_true, Bool.false_and, Bool.and_false, Bool.or_false, Bool.false_or, Bool.or_true, Bool.true_or, Bool.not_eq_true', if_true, if_false, Bool.false_eq_true, Bool.not_eq_true, ↓reduceIte, ite_true, ite_false, Bool.true_eq_false, not_true_eq_false, not_false_eq_true, Nat.zero_le]
          | none =>
            simp only [ftD, r_whole, opK2, opK, chK4, chK3, chK2, chK, unK, andK, orK, notK, andVK2, andVK, orVK2, orVK, notVK2, notVK, ifVK, ifTK, consK2, consK, tupK, lstK, fzK, slK3, slK2, slK, cbK, coK, isiK, drpK, retK, retOK, ifSK, setK, setOK, nxK, asgK, parK, par3K, augK, appK, wcK, wdK, callK, callOK, callSK2, callSK, forK, lcK, parOK2, parOK, raiseK, bodyX, startE, xSeq, sqF, xNext, xBreak, xCont, xNever, xIfS, xRet, xRetN, xRetV, xRetO, xSet, xSetO, xDrop, xAsg, ygT_t, ygsC, ygsN, ygN, xPar, xPar3, xParO, xAug, xAppend, xFrz, xVar, xC, xOp, xUn, pNeg_i, xTest, asB_b, xAnd, xOr, xNot, xAndV, xOrV, xNotV, xIf, xIfT, xChain, xNil, xCons, xTup, xLst, xFz, xCall, xCallO, xCallS, rOfT_d, rOfT_o, rOwT_o, ywNil, ywDat, ywVar, xCB, xCO, xIsi, xSl, xRev, pRev, xpN, xpS, asI_i, xIxO, xLenO, xLenS, xFor, xWhile, ziT, ziL, itT_t, itL_l, ziR1, ziR2, ziET, ziEL, ziZ, zpT, lrK2, xLr2, xLr1, enT_t, enL_l, xLc, lc2K, xLc2, noOwnB, wipeE, xYes, xRaise, xTry, tyF, xXf, pAdd_i, pAdd_t, pAdd_l, pSub_i, pLt_i, pLe_i, pGt_i, pGe_i, pIs_n, pIsNot_n, pIsB_b, pNotB_b, isN_n, isN_b, isN_i, isN_s, isN_t, isN_l, pIx_t, pIx_l, pLen_t, pLen_l, pMin2_i, pMax2_i, pAbs_i, pInt_i, pTuple_t, pTuple_l, pList_t, pList_l, pIadd_i, pSl_t, pSl_l, pEqI, pNeI, pEqS, pNeS, at0, at1, at2, at3, at4, at5, at6, at7, bx_ret, bx_exc, bx_fail, bd_ret, bd_exc, bd_fail, exS_ret, exS_exc, exS_fail, ofO_some, ofO_none, fnE, isi_T, isi_B, isi_I, isi_S, isi_L, sizeL, Option.bind_some, Option.map_some, Option.some.injEq, Int.reduceEq, Int.reduceLE, Int.reduceLT, Int.reduceNeg, Int.reduceAdd, Int.reduceSub, Int.reduceMul, decide_true, decide_false, decide_eq_true_eq, decide_not, eq_self, Int.cast_ofNat_Int, reduceCtorEq, List.length_cons, List.length_nil, List.map_cons, List.map_nil, List.replicate, List.cons_append, List.nil_append, List.append_nil, List.getElem?_cons_zero, List.getElem?_cons_succ, List.getElem?_nil, List.set_cons_zero, List.set_cons_succ, Nat.reduceAdd, Nat.reduceSub, Nat.reduceEqDiff, Nat.reduceLeDiff, Nat.reduceLT, Nat.zero_add, Nat.add_zero, true_and, and_true, false_and, and_false, Bool.not_true, Bool.not_false, Bool.true_and, Bool.and_true, Bool.false_and, Bool.and_false, Bool.or_false, Bool.false_or, Bool.or_true, Bool.true_or, Bool.not_eq_true', if_true, if_false, Bool.false_eq_true, Bool.not_eq_true, ↓reduceIte, ite_true, ite_false, Bool.true_eq_false, not_true_eq_false, not_false_eq_true, Nat.zero_le]
            cases wh fade 2 99 with
            | true => simp only [ftD, opK2, opK, chK4, chK3, chK2, chK, unK, andK, orK, notK, andVK2, andVK, orVK2, orVK, notVK2, notVK, ifVK, ifTK, consK2, consK, tupK, lstK, fzK, slK3, slK2, slK, cbK, coK, isiK, drpK, retK, retOK, ifSK, setK, setOK, nxK, asgK, parK, par3K, augK, appK, wcK, wdK, callK, callOK, callSK2, callSK, forK, lcK, parOK2, parOK, raiseK, bodyX, startE, xSeq, sqF, xNext, xBreak, xCont, xNever, xIfS, xRet, xRetN, xRetV, xRetO, xSet, xSetO, xDrop, xAsg, ygT_t, ygsC, ygsN, ygN, xPar, xPar3, xParO, xAug, xAppend, xFrz, xVar, xC, xOp, xUn, pNeg_i, xTest, asB_b, xAnd, xOr, xNot, xAndV, xOrV, xNotV, xIf, xIfT, xChain, xNil, xCons, xTup, xLst, xFz, xCall, xCallO, xCallS, rOfT_d, rOfT_o, rOwT_o, ywNil, ywDat, ywVar, xCB, xCO, xIsi, xSl, xRev, pRev, xpN, xpS, asI_i, xIxO, xLenO, xLenS, xFor, xWhile, ziT, ziL, itT_t, itL_l, ziR1, ziR2, ziET, ziEL, ziZ, zpT, lrK2, xLr2, xLr1, enT_t, enL_l, xLc, lc2K, xLc2, noOwnB, wipeE, xYes, xRaise, xTry, tyF, xXf, pAdd_i, pAdd_t, pAdd_l, pSub_i, pLt_i, pLe_i, pGt_i, pGe_i, pIs_n, pIsNot_n, pIsB_b, pNotB_b, isN_n, isN_b, isN_i, isN_s, isN_t, isN_l, pIx_t, pIx_l, pLen_t, pLen_l, pMin2_i, pMax2_i, pAbs_i, pInt_i, pTuple_t, pTuple_l, pList_t, pList_l, pIadd_i, pSl_t, pSl_l, pEqI, pNeI, pEqS, pNeS, at0, at1, at2, at3, at4, at5, at6, at7, bx_ret, bx_exc, bx_fail, bd_ret, bd_exc, bd_fail, exS_ret, exS_exc, exS_fail, ofO_some, ofO_none, fnE, isi_T, isi_B, isi_I, isi_S, isi_L, sizeL, Option.bind_some, Option.map_some, Option.some.injEq, Int.reduceEq, Int.reduceLE, Int.reduceLT, Int.reduceNeg, Int.reduceAdd, Int.reduceSub, Int.reduceMul, decide_true, decide_false, decide_eq_true_eq, decide_not, eq_self, Int.cast_ofNat_Int, reduceCtorEq, List.length_cons, List.length_nil, List.map_cons, List.map_nil, List.replicate, List.cons_append, List.nil_append, List.append_nil, List.getElem?_cons_zero, List.getElem?_cons_succ, List.getElem?_nil, List.set_cons_zero, List.set_cons_succ, Nat.reduceAdd, Nat.reduceSub, Nat.reduceEqDiff, Nat.reduceLeDiff, Nat.reduceLT, Nat.zero_add, Nat.add_zero, true_and, and_true, false_and, and_false, Bool.not_true, Bool.not_false, Bool.true_and, Bool.and_true, Bool.false_and, Bool.and_false, Bool.or_false, Bool.false_or, Bool.or_true, Bool.true_or, Bool.not_eq_true', if_true, if_false, Bool.false_eq_true, Bool.not_eq_true, ↓reduceIte, ite_true, ite_false, Bool.true_eq_false, not_true_eq_false, not_false_eq_true, Nat.zero_le]
            | false =>
              simp only [r_whole, opK2, opK, chK4, chK3, chK2, chK, unK, andK, orK, notK, andVK2, andVK, orVK2, orVK, notVK2, notVK, ifVK, ifTK, consK2, consK, tupK, lstK, fzK, slK3, slK2, slK, cbK, coK, isiK, drpK, retK, retOK, ifSK, setK, setOK, nxK, asgK, parK, par3K, augK, appK, wcK, wdK, callK, callOK, callSK2, callSK, forK, lcK, parOK2, parOK, raiseK, bodyX, startE, xSeq, sqF, xNext, xBreak, xCont, xNever, xIfS, xRet, xRetN, xRetV, xRetO, xSet, xSetO, xDrop, xAsg, ygT_t, ygsC, ygsN, ygN, xPar, xPar3, xParO, xAug, xAppend, xFrz, xVar, xC, xOp, xUn, pNeg_i, xTest, asB_b, xAnd, xOr, xNot, xAndV, xOrV, xNotV, xIf, xIfT, xChain, xNil, xCons, xTup, xLst, xFz, xCall, xCallO, xCallS, rOfT_d, rOfT_o, rOwT_o, ywNil, ywDat, ywVar, xCB, xCO, xIsi, xSl, xRev, pRev, xpN, xpS, asI_i, xIxO, xLenO, xLenS, xFor, xWhile, ziT, ziL, itT_t, itL_l, ziR1, ziR2, ziET, ziEL, ziZ, zpT, lrK2, xLr2, xLr1, enT_t, enL_l, xLc, lc2K, xLc2, noOwnB, wipeE, xYes, xRaise, xTry, tyF, xXf, pAdd_i, pAdd_t, pAdd_l, pSub_i, pLt_i, pLe_i, pGt_i, pGe_i, pIs_n, pIsNot_n, pIsB_b, pNotB_b, isN_n, isN_b, isN_i, isN_s, isN_t, isN_l, pIx_t, pIx_l, pLen_t, pLen_l, pMin2_i, pMax2_i, pAbs_i, pInt_i, pTuple_t, pTuple_l, pList_t, pList_l, pIadd_i, pSl_t, pSl_l, pEqI, pNeI, pEqS, pNeS, at0, at1, at2, at3, at4, at5, at6, at7, bx_ret, bx_exc, bx_fail, bd_ret, bd_exc, bd_fail, exS_ret, exS_exc, exS_fail, ofO_some, ofO_none, fnE, isi_T, isi_B, isi_I, isi_S, isi_L, sizeL, Option.bind_some, Option.map_some, Option.some.injEq, Int.reduceEq, Int.reduceLE, Int.reduceLT, Int.reduceNeg, Int.reduceAdd, Int.reduceSub, Int.reduceMul, decide_true, decide_false, decide_eq_true_eq, decide_not, eq_self, Int.cast_ofNat_Int, reduceCtorEq, List.length_cons, List.length_nil, List.map_cons, List.map_nil, List.replicate, List.cons_append, List.nil_append, List.append_nil, List.getElem?_cons_zero, List.getElem?_cons_succ, List.getElem?_nil, List.set_cons_zero, List.set_cons_succ, Nat.reduceAdd, Nat.reduceSub, Nat.reduceEqDiff, Nat.reduceLeDiff, Nat.reduceLT, Nat.zero_add, Nat.add_zero, true_and, and_true, false_and, and_false, Bool.not_true, Bool.not_false, Bool.true_and, Bool.and_true, Bool.false_and, Bool.and_false, Bool.or_false, Bool.false_or, Bool.or_true, Bool.true_or, Bool.not_eq_true', if_true, if_false, Bool.false_eq_true, Bool.not_eq_true, ↓reduceIte, ite_true, ite_false, Bool.true_eq_false, not_true_eq_false, not_false_eq_true, Nat.zero_le]
              cases wh fade 0 0 <;> simp only [ftD, opK2, opK, chK4, chK3, chK2, chK, unK, andK, orK, notK, andVK2, andVK, orVK2, orVK, notVK2, notVK, ifVK, ifTK, consK2, consK, tupK, lstK, fzK, slK3, slK2, slK, cbK, coK, isiK, drpK, retK, retOK, ifSK, setK, setOK, nxK, asgK, parK, par3K, augK, appK, wcK, wdK, callK, callOK, callSK2, callSK, forK, lcK, parOK2, parOK, raiseK, bodyX, startE, xSeq, sqF, xNext, xBreak, xCont, xNever, xIfS, xRet, xRetN, xRetV, xRetO, xSet, xSetO, xDrop, xAsg, ygT_t, ygsC, ygsN, ygN, xPar, xPar3, xParO, xAug, xAppend, xFrz, xVar, xC, xOp, xUn, pNeg_i, xTest, asB_b, xAnd, xOr, xNot, xAndV, xOrV, xNotV, xIf, xIfT, xChain, xNil, xCons, xTup, xLst, xFz, xCall, xCallO, xCallS, rOfT_d, rOfT_o, rOwT_o, ywNil, ywDat, ywVar, xCB, xCO, xIsi, xSl, xRev, pRev, xpN, xpS, asI_i, xIxO, xLenO, xLenS, xFor, xWhile, ziT, ziL, itT_t, itL_l, ziR1, ziR2, ziET, ziEL, ziZ, zpT, lrK2, xLr2, xLr1, enT_t, enL_l, xLc, lc2K, xLc2, noOwnB, wipeE, xYes, xRaise, xTry, tyF, xXf, pAdd_i, pAdd_t, pAdd_l, pSub_i, pLt_i, pLe_i, pGt_i, pGe_i, pIs_n, pIsNot_n, pIsB_b, pNotB_b, isN_n, isN_b, isN_i, isN_s, isN_t, isN_l, pIx_t, pIx_l, pLen_t, pLen_l, pMin2_i, pMax2_i, pAbs_i, pInt_i, pTuple_t, pTuple_l, pList_t, pList_l, pIadd_i, pSl_t, pSl_l, pEqI, pNeI, pEqS, pNeS, at0, at1, at2, at3, at4, at5, at6, at7, bx_ret, bx_exc, bx_fail, bd_ret, bd_exc, bd_fail, exS_ret, exS_exc, exS_fail, ofO_some, ofO_none, fnE, isi_T, isi_B, isi_I, isi_S, isi_L, sizeL, Option.bind_some, Option.map_some, Option.some.injEq, Int.reduceEq, Int.reduceLE, Int.reduceLT, Int.reduceNeg, Int.reduceAdd, Int.reduceSub, Int.reduceMul, decide_true, decide_false, decide_eq_true_eq, decide_not, eq_self, Int.cast_ofNat_Int, reduceCtorEq, List.length_cons, List.length_nil, List.map_cons, List.map_nil, List.replicate, List.cons_append, List.nil_append, List.append_nil, List.getElem?_cons_zero, List.getElem?_cons_succ, List.getElem?_nil, List.set_cons_zero, List.set_cons_succ, Nat.reduceAdd, Nat.reduceSub, Nat.reduceEqDiff, Nat.reduceLeDiff, Nat.reduceLT, Nat.zero_add, Nat.add_zero, true_and, and_true, false_and, and_false, Bool.not_true, Bool.not_false, Bool.true_and, Bool.and_true, Bool.false_and, Bool.and_false, Bool.or_false, Bool.false_or, Bool.or_true, Bool.true_or, Bool.not_eq_true', if_true, if_false, Bool.false_eq_true, Bool.not_eq_true, ↓reduceIte, ite_true, ite_false, Bool.true_eq_false, not_true_eq_false, not_false_eq_true, Nat.zero_le]
/-! right coders -/
def mvD (p : Int × Int) : Dt := .tuple [.int p.1, .int p.2]
def stD (p : Int × Int) : Dt := .tuple [.int p.1, .int p.2]
theorem st0 (s : Int × Int) : pIx (stD s) (.int 0) = some (.int s.1) := at0
theorem st1 (s : Int × Int) : pIx (stD s) (.int 1) = some (.int s.2) := at1
theorem stG (s : Int × Int) (r : XGs) (ρ : Nv) : ygT 2 r (stD s) ρ = r [.int s.1, .int s.2] ρ := rfl
structure Cd where
  low : Int
  high : Int
  steps : List Int
  moves : List (Int × Int)
  fade : Int
def Cd.d (c : Cd) : Dt := .tuple [.int c.low, .int c.high, .tuple (c.steps.map .int), .tuple (c.moves.map mvD), .int c.fade]
structure Cd.Ok (c : Cd) : Prop where
  l0 : -32768 ≤ c.low
  l1 : c.low ≤ 0
  h0 : 0 ≤ c.high
  h1 : c.high ≤ 32767
  s0 : 1 ≤ c.steps.length
  s1 : c.steps.length ≤ 16
  sv : ∀ s ∈ c.steps, 1 ≤ s ∧ s ≤ 9999
  m0 : 2 ≤ c.moves.length
  m1 : c.moves.length ≤ 16
  mv : ∀ p ∈ c.moves, -32 ≤ p.1 ∧ p.1 ≤ 32 ∧ -15 ≤ p.2 ∧ p.2 ≤ 15
  f : c.fade = 0 ∨ 2 ≤ c.fade ∧ c.fade ≤ 99
def Cd.St (c : Cd) (s : Int × Int) : Prop := c.low ≤ s.1 ∧ s.1 ≤ c.high ∧ 0 ≤ s.2 ∧ s.2 < c.steps.length
theorem rowF_ok {part : Str} {ok : Dt → Bool} {least most : Int} {xs : List Dt} (h0 : least ≤ xs.length) (h1 : (xs.length : Int) ≤ most) (h : ∀ x ∈ xs, ok x = true) : rowF part ok least most (.tuple xs) = none := by
  unfold rowF
  simp only [inR_of h0 h1, if_true]
  rw [List.findIdx?_eq_none_iff.mpr fun x hx => by rw [h x hx]; rfl]
  rfl
theorem cf_ok {c : Cd} (h : c.Ok) : cf c.d = none := by
  have h0 := h.s0; have h1 := h.s1; have h2 := h.m0; have h3 := h.m1
  have a : rowF "steps" (fun d => wh d 1 9999) 1 16 (.tuple (c.steps.map .int)) = none := rowF_ok (by rw [List.length_map]; omega) (by rw [List.length_map]; omega) fun x hx => by
    obtain ⟨i, hi, rfl⟩ := List.mem_map.mp hx
    exact inR_of (h.sv i hi).1 (h.sv i hi).2
  have b : rowF "moves" mvB 2 16 (.tuple (c.moves.map mvD)) = none := rowF_ok (by rw [List.length_map]; omega) (by rw [List.length_map]; omega) fun x hx => by
    obtain ⟨p, hp, rfl⟩ := List.mem_map.mp hx
    have := h.mv p hp
    simp only [mvB, mvD, wh, Bool.and_eq_true, inR_true]
    omega
  have f : (wh (.int c.fade) 2 99 || wh (.int c.fade) 0 0) = true := by
    rcases h.f with f | f
    · simp only [f, wh]; decide
    · simp only [wh, inR_of f.1 f.2, Bool.true_or]
  have w1 : wh (.int c.low) (-32768) 0 = true := inR_of h.l0 h.l1
  have w2 : wh (.int c.high) 0 32767 = true := inR_of h.h0 h.h1
  simp only [cf, Cd.d, w1, w2, a, b, f, if_true]
theorem r_is_coder (d : Dt) : w_is_coder [.dat d] = .ret (.dat (.bool (cf d).isNone)) := by
  rw [wd_is_coder]
  simp only [t_is_coder, r_fault, opK2, opK, chK4, chK3, chK2, chK, unK, andK, orK, notK, andVK2, andVK, orVK2, orVK, notVK2, notVK, ifVK, ifTK, consK2, consK, tupK, lstK, fzK, slK3, slK2, slK, cbK, coK, isiK, drpK, retK, retOK, ifSK, setK, setOK, nxK, asgK, parK, par3K, augK, appK, wcK, wdK, callK, callOK, callSK2, callSK, forK, lcK, parOK2, parOK, raiseK, bodyX, startE, xSeq, sqF, xNext, xBreak, xCont, xNever, xIfS, xRet, xRetN, xRetV, xRetO, xSet, xSetO, xDrop, xAsg, ygT_t, ygsC, ygsN, ygN, xPar, xPar3, xParO, xAug, xAppend, xFrz, xVar, xC, xOp, xUn, pNeg_i, xTest, asB_b, xAnd, xOr, xNot, xAndV, xOrV, xNotV, xIf, xIfT, xChain, xNil, xCons, xTup, xLst, xFz, xCall, xCallO, xCallS, rOfT_d, rOfT_o, rOwT_o, ywNil, ywDat, ywVar, xCB, xCO, xIsi, xSl, xRev, pRev, xpN, xpS, asI_i, xIxO, xLenO, xLenS, xFor, xWhile, ziT, ziL, itT_t, itL_l, ziR1, ziR2, ziET, ziEL, ziZ, zpT, lrK2, xLr2, xLr1, enT_t, enL_l, xLc, lc2K, xLc2, noOwnB, wipeE, xYes, xRaise, xTry, tyF, xXf, pAdd_i, pAdd_t, pAdd_l, pSub_i, pLt_i, pLe_i, pGt_i, pGe_i, pIs_n, pIsNot_n, pIsB_b, pNotB_b, isN_n, isN_b, isN_i, isN_s, isN_t, isN_l, pIx_t, pIx_l, pLen_t, pLen_l, pMin2_i, pMax2_i, pAbs_i, pInt_i, pTuple_t, pTuple_l, pList_t, pList_l, pIadd_i, pSl_t, pSl_l, pEqI, pNeI, pEqS, pNeS, at0, at1, at2, at3, at4, at5, at6, at7, bx_ret, bx_exc, bx_fail, bd_ret, bd_exc, bd_fail, exS_ret, exS_exc, exS_fail, ofO_some, ofO_none, fnE, isi_T, isi_B, isi_I, isi_S, isi_L, sizeL, Option.bind_some, Option.map_some, Option.some.injEq, Int.reduceEq, Int.reduceLE, Int.reduceLT, Int.reduceNeg, Int.reduceAdd, Int.reduceSub, Int.reduceMul, decide_true, decide_false, decide_eq_true_eq, decide_not, eq_self, Int.cast_ofNat_Int, reduceCtorEq, List.length_cons, List.length_nil, List.map_cons, List.map_nil, List.replicate, List.cons_append, List.nil_append, List.append_nil, List.getElem?_cons_zero, List.getElem?_cons_succ, List.getElem?_nil, List.set_cons_zero, List.set_cons_succ, Nat.reduceAdd, Nat.reduceSub, Nat.reduceEqDiff, Nat.reduceLeDiff, Nat.reduceLT, Nat.zero_add, Nat.add_zero, true_and, and_true, false_and, and_false, Bool.not_true, Bool.not_false, Bool.true_and, Bool.and_true, Bool.false_and, Bool.and_false, Bool.or_false, Bool.false_or, Bool.or_true, Bool.true_or, Bool.not_eq_true', if_true, if_false, Bool.false_eq_true, Bool.not_eq_true, ↓reduceIte, ite_true, ite_false, Bool.true_eq_false, not_true_eq_false, not_false_eq_true, Nat.zero_le]
  cases cf d <;> rfl
abbrev xCoder (p : Str) (n : Dt) : Exc := mkX "BadCoder" ["part", "number"] [.str p, n]
theorem r_need_coder (d : Dt) : w_need_coder [.dat d] = match cf d with | none => .ret (.dat d) | some (p, n) => .exc (xCoder p n) := by
  rw [wd_need_coder]
  simp only [t_need_coder, r_fault, opK2, opK, chK4, chK3, chK2, chK, unK, andK, orK, notK, andVK2, andVK, orVK2, orVK, notVK2, notVK, ifVK, ifTK, consK2, consK, tupK, lstK, fzK, slK3, slK2, slK, cbK, coK, isiK, drpK, retK, retOK, ifSK, setK, setOK, nxK, asgK, parK, par3K, augK, appK, wcK, wdK, callK, callOK, callSK2, callSK, forK, lcK, parOK2, parOK, raiseK, bodyX, startE, xSeq, sqF, xNext, xBreak, xCont, xNever, xIfS, xRet, xRetN, xRetV, xRetO, xSet, xSetO, xDrop, xAsg, ygT_t, ygsC, ygsN, ygN, xPar, xPar3, xParO, xAug, xAppend, xFrz, xVar, xC, xOp, xUn, pNeg_i, xTest, asB_b, xAnd, xOr, xNot, xAndV, xOrV, xNotV, xIf, xIfT, xChain, xNil, xCons, xTup, xLst, xFz, xCall, xCallO, xCallS, rOfT_d, rOfT_o, rOwT_o, ywNil, ywDat, ywVar, xCB, xCO, xIsi, xSl, xRev, pRev, xpN, xpS, asI_i, xIxO, xLenO, xLenS, xFor, xWhile, ziT, ziL, itT_t, itL_l, ziR1, ziR2, ziET, ziEL, ziZ, zpT, lrK2, xLr2, xLr1, enT_t, enL_l, xLc, lc2K, xLc2, noOwnB, wipeE, xYes, xRaise, xTry, tyF, xXf, pAdd_i, pAdd_t, pAdd_l, pSub_i, pLt_i, pLe_i, pGt_i, pGe_i, pIs_n, pIsNot_n, pIsB_b, pNotB_b, isN_n, isN_b, isN_i, isN_s, isN_t, isN_l, pIx_t, pIx_l, pLen_t, pLen_l, pMin2_i, pMax2_i, pAbs_i, pInt_i, pTuple_t, pTuple_l, pList_t, pList_l, pIadd_i, pSl_t, pSl_l, pEqI, pNeI, pEqS, pNeS, at0, at1, at2, at3, at4, at5, at6, at7, bx_ret, bx_exc, bx_fail, bd_ret, bd_exc, bd_fail, exS_ret, exS_exc, exS_fail, ofO_some, ofO_none, fnE, isi_T, isi_B, isi_I, isi_S, isi_L, sizeL, Option.bind_some, Option.map_some, Option.some.injEq, Int.reduceEq, Int.reduceLE, Int.reduceLT, Int.reduceNeg, Int.reduceAdd, Int.reduceSub, Int.reduceMul, decide_true, decide_false, decide_eq_true_eq, decide_not, eq_self, Int.cast_ofNat_Int, reduceCtorEq, List.length_cons, List.length_nil, List.map_cons, List.map_nil, List.replicate, List.cons_append, List.nil_append, List.append_nil, List.getElem?_cons_zero, List.getElem?_cons_succ, List.getElem?_nil, List.set_cons_zero, List.set_cons_succ, Nat.reduceAdd, Nat.reduceSub, Nat.reduceEqDiff, Nat.reduceLeDiff, Nat.reduceLT, Nat.zero_add, Nat.add_zero, true_and, and_true, false_and, and_false, Bool.not_true, Bool.not_false, Bool.true_and, Bool.and_true, Bool.false_and, Bool.and_false, Bool.or_false, Bool.false_or, Bool.or_true, Bool.true_or, Bool.not_eq_true', if_true, if_false, Bool.false_eq_true, Bool.not_eq_true, ↓reduceIte, ite_true, ite_false, Bool.true_eq_false, not_true_eq_false, not_false_eq_true, Nat.zero_le]
  cases cf d with
  | none => simp only [ftD, opK2, opK, chK4, chK3, chK2, chK, unK, andK, orK, notK, andVK2, andVK, orVK2, orVK, notVK2, notVK, ifVK, ifTK, consK2, consK, tupK, lstK, fzK, slK3, slK2, slK, cbK, coK, isiK, drpK, retK, retOK, ifSK, setK, setOK, nxK, asgK, parK, par3K, augK, appK, wcK, wdK, callK, callOK, callSK2, callSK, forK, lcK, parOK2, parOK, raiseK, bodyX, startE, xSeq, sqF, xNext, xBreak, xCont, xNever, xIfS, xRet, xRetN, xRetV, xRetO, xSet, xSetO, xDrop, xAsg, ygT_t, ygsC, ygsN, ygN, xPar, xPar3, xParO, xAug, xAppend, xFrz, xVar, xC, xOp, xUn, pNeg_i, xTest, asB_b, xAnd, xOr, xNot, xAndV, xOrV, xNotV, xIf, xIfT, xChain, xNil, xCons, xTup, xLst, xFz, xCall, xCallO, xCallS, rOfT_d, rOfT_o, rOwT_o, ywNil, ywDat, ywVar, xCB, xCO, xIsi, xSl, xRev, pRev, xpN, xpS, asI_i, xIxO, xLenO, xLenS, xFor, xWhile, ziT, ziL, itT_t, itL_l, ziR1, ziR2, ziET, ziEL, ziZ, zpT, lrK2, xLr2, xLr1, enT_t, enL_l, xLc, lc2K, xLc2, noOwnB, wipeE, xYes, xRaise, xTry, tyF, xXf, pAdd_i, pAdd_t, pAdd_l, pSub_i, pLt_i, pLe_i, pGt_i, pGe_i, pIs_n, pIsNot_n, pIsB_b, pNotB_b, isN_n, isN_b, isN_i, isN_s, isN_t, isN_l, pIx_t, pIx_l, pLen_t, pLen_l, pMin2_i, pMax2_i, pAbs_i, pInt_i, pTuple_t, pTuple_l, pList_t, pList_l, pIadd_i, pSl_t, pSl_l, pEqI, pNeI, pEqS, pNeS, at0, at1, at2, at3, at4, at5, at6, at7, bx_ret, bx_exc, bx_fail, bd_ret, bd_exc, bd_fail, exS_ret, exS_exc, exS_fail, ofO_some, ofO_none, fnE, isi_T, isi_B, isi_I, isi_S, isi_L, sizeL, Option.bind_some, Option.map_some, Option.some.injEq, Int.reduceEq, Int.reduceLE, Int.reduceLT, Int.reduceNeg, Int.reduceAdd, Int.reduceSub, Int.reduceMul, decide_true, decide_false, decide_eq_true_eq, decide_not, eq_self, Int.cast_ofNat_Int, reduceCtorEq, List.length_cons, List.length_nil, List.map_cons, List.map_nil, List.replicate, List.cons_append, List.nil_append, List.append_nil, List.getElem?_cons_zero, List.getElem?_cons_succ, List.getElem?_nil, List.set_cons_zero, List.set_cons_succ, Nat.reduceAdd, Nat.reduceSub, Nat.reduceEqDiff, Nat.reduceLeDiff, Nat.reduceLT, Nat.zero_add, Nat.add_zero, true_and, and_true, false_and, and_false, Bool.not_true, Bool.not_false, Bool.true_and, Bool.and_true, Bool.false_and, Bool.and_false, Bool.or_false, Bool.false_or, Bool.or_true, Bool.true_or, Bool.not_eq_true', if_true, if_false, Bool.false_eq_true, Bool.not_eq_true, ↓reduceIte, ite_true, ite_false, Bool.true_eq_false, not_true_eq_false, not_false_eq_true, Nat.zero_le]
  | some q => obtain ⟨p, n⟩ := q; simp only [ftD, opK2, opK, chK4, chK3, chK2, chK, unK, andK, orK, notK, andVK2, andVK, orVK2, orVK, notVK2, notVK, ifVK, ifTK, consK2, consK, tupK, lstK, fzK, slK3, slK2, slK, cbK, coK, isiK, drpK, retK, retOK, ifSK, setK, setOK, nxK, asgK, parK, par3K, augK, appK, wcK, wdK, callK, callOK, callSK2, callSK, forK, lcK, parOK2, parOK, raiseK, bodyX, startE, xSeq, sqF, xNext, xBreak, xCont, xNever, xIfS, xRet, xRetN, xRetV, xRetO, xSet, xSetO, xDrop, xAsg, ygT_t, ygsC, ygsN, ygN, xPar, xPar3, xParO, xAug, xAppend, xFrz, xVar, xC, xOp, xUn, pNeg_i, xTest, asB_b, xAnd, xOr, xNot, xAndV, xOrV, xNotV, xIf, xIfT, xChain, xNil, xCons, xTup, xLst, xFz, xCall, xCallO, xCallS, rOfT_d, rOfT_o, rOwT_o, ywNil, ywDat, ywVar, xCB, xCO, xIsi, xSl, xRev, pRev, xpN, xpS, asI_i, xIxO, xLenO, xLenS, xFor, xWhile, ziT, ziL, itT_t, itL_l, ziR1, ziR2, ziET, ziEL, ziZ, zpT, lrK2, xLr2, xLr1, enT_t, enL_l, xLc, lc2K, xLc2, noOwnB, wipeE, xYes, xRaise, xTry, tyF, xXf, pAdd_i, pAdd_t, pAdd_l, pSub_i, pLt_i, pLe_i, pGt_i, pGe_i, pIs_n, pIsNot_n, pIsB_b, pNotB_b, isN_n, isN_b, isN_i, isN_s, isN_t, isN_l, pIx_t, pIx_l, pLen_t, pLen_l, pMin2_i, pMax2_i, pAbs_i, pInt_i, pTuple_t, pTuple_l, pList_t, pList_l, pIadd_i, pSl_t, pSl_l, pEqI, pNeI, pEqS, pNeS, at0, at1, at2, at3, at4, at5, at6, at7, bx_ret, bx_exc, bx_fail, bd_ret, bd_exc, bd_fail, exS_ret, exS_exc, exS_fail, ofO_some, ofO_none, fnE, isi_T, isi_B, isi_I, isi_S, isi_L, sizeL, Option.bind_some, Option.map_some, Option.some.injEq, Int.reduceEq, Int.reduceLE, Int.reduceLT, Int.reduceNeg, Int.reduceAdd, Int.reduceSub, Int.reduceMul, decide_true, decide_false, decide_eq_true_eq, decide_not, eq_self, Int.cast_ofNat_Int, reduceCtorEq, List.length_cons, List.length_nil, List.map_cons, List.map_nil, List.replicate, List.cons_append, List.nil_append, List.append_nil, List.getElem?_cons_zero, List.getElem?_cons_succ, List.getElem?_nil, List.set_cons_zero, List.set_cons_succ, Nat.reduceAdd, Nat.reduceSub, Nat.reduceEqDiff, Nat.reduceLeDiff, Nat.reduceLT, Nat.zero_add, Nat.add_zero, true_and, and_true, false_and, and_false, Bool.not_true, Bool.not_false, Bool.true_and, Bool.and_true, Bool.false_and, Bool.and_false, Bool.or_false, Bool.false_or, Bool.or_true, Bool.true_or, Bool.not_eq_true', if_true, if_false, Bool.false_eq_true, Bool.not_eq_true, ↓reduceIte, ite_true, ite_false, Bool.true_eq_false, not_true_eq_false, not_false_eq_true, Nat.zero_le]
theorem r_needC {c : Cd} (h : c.Ok) : w_need_coder [.dat c.d] = .ret (.dat c.d) := by rw [r_need_coder, cf_ok h]
theorem r_draw {m : Int} : w__law_next [.tok, .dat (.int m)] = .draw m fun r => .ret (.dat (.int r)) := rfl
end LW


set_option maxRecDepth 100000
set_option maxHeartbeats 1000000
namespace LW
open PySem PySem.Spec PyProof.Rows L2 VL
theorem r_lwhole (d : Dt) (a b : Int) : w__law_is_whole [.dat d, .dat (.int a), .dat (.int b)] = .ret (.dat (.bool (wh d a b))) := by
  rw [wd__law_is_whole]
  cases d <;> simp only [t__law_is_whole, wh, inR, opK2, opK, chK4, chK3, chK2, chK, unK, andK, orK, notK, andVK2, andVK, orVK2, orVK, notVK2, notVK, ifVK, ifTK, consK2, consK, tupK, lstK, fzK, slK3, slK2, slK, cbK, coK, isiK, drpK, retK, retOK, ifSK, setK, setOK, nxK, asgK, parK, par3K, augK, appK, wcK, wdK, callK, callOK, callSK2, callSK, forK, lcK, parOK2, parOK, raiseK, bodyX, startE, xSeq, sqF, xNext, xBreak, xCont, xNever, xIfS, xRet, xRetN, xRetV, xRetO, xSet, xSetO, xDrop, xAsg, ygT_t, ygsC, ygsN, ygN, xPar, xPar3, xParO, xAug, xAppend, xFrz, xVar, xC, xOp, xUn, pNeg_i, xTest, asB_b, xAnd, xOr, xNot, xAndV, xOrV, xNotV, xIf, xIfT, xChain, xNil, xCons, xTup, xLst, xFz, xCall, xCallO, xCallS, rOfT_d, rOfT_o, rOwT_o, ywNil, ywDat, ywVar, xCB, xCO, xIsi, xSl, xRev, pRev, xpN, xpS, asI_i, xIxO, xLenO, xLenS, xFor, xWhile, ziT, ziL, itT_t, itL_l, ziR1, ziR2, ziET, ziEL, ziZ, zpT, lrK2, xLr2, xLr1, enT_t, enL_l, xLc, lc2K, xLc2, noOwnB, wipeE, xYes, xRaise, xTry, tyF, xXf, pAdd_i, pAdd_t, pAdd_l, pSub_i, pLt_i, pLe_i, pGt_i, pGe_i, pIs_n, pIsNot_n, pIsB_b, pNotB_b, isN_n, isN_b, isN_i, isN_s, isN_t, isN_l, pIx_t, pIx_l, pLen_t, pLen_l, pMin2_i, pMax2_i, pAbs_i, pInt_i, pTuple_t, pTuple_l, pList_t, pList_l, pIadd_i, pSl_t, pSl_l, pEqI, pNeI, pEqS, pNeS, at0, at1, at2, at3, at4, at5, at6, at7, bx_ret, bx_exc, bx_fail, bd_ret, bd_exc, bd_fail, exS_ret, exS_exc, exS_fail, ofO_some, ofO_none, fnE, isi_T, isi_B, isi_I, isi_S, isi_L, sizeL, Option.bind_some, Option.map_some, Option.some.injEq, Int.reduceEq, Int.reduceLE, Int.reduceLT, Int.reduceNeg, Int.reduceAdd, Int.reduceSub, Int.reduceMul, decide_true, decide_false, decide_eq_true_eq, decide_not, eq_self, Int.cast_ofNat_Int, reduceCtorEq, List.length_cons, List.length_nil, List.map_cons, List.map_nil, List.replicate, List.cons_append, List.nil_append, List.append_nil, List.getElem?_cons_zero, List.getElem?_cons_succ, List.getElem?_nil, List.set_cons_zero, List.set_cons_succ, Nat.reduceAdd, Nat.reduceSub, Nat.reduceEqDiff, Nat.reduceLeDiff, Nat.reduceLT, Nat.zero_add, Nat.add_zero, true_and, and_true, false_and, and_false, Bool.not_true, Bool.not_false, Bool.true_and, Bool.and_true, Bool.false_and, Bool.and_false, Bool.or_false, Bool.false_or, Bool.or_true, Bool.true_or, Bool.not_eq_true', if_true, if_false, Bool.false_eq_true, Bool.not_eq_true, ↓reduceIte, ite_true, ite_false, Bool.true_eq_false, not_true_eq_false, not_false_eq_true, Nat.zero_le]
  next v =>
  by_cases h : a ≤ v <;> simp only [h, opK2, opK, chK4, chK3, chK2, chK, unK, andK, orK, notK, andVK2, andVK, orVK2, orVK, notVK2, notVK, ifVK, ifTK, consK2, consK, tupK, lstK, fzK, slK3, slK2, slK, cbK, coK, isiK, drpK, retK, retOK, ifSK, setK, setOK, nxK, asgK, parK, par3K, augK, appK, wcK, wdK, callK, callOK, callSK2, callSK, forK, lcK, parOK2, parOK, raiseK, bodyX, startE, xSeq, sqF, xNext, xBreak, xCont, xNever, xIfS, xRet, xRetN, xRetV, xRetO, xSet, xSetO, xDrop, xAsg, ygT_t, ygsC, ygsN, ygN, xPar, xPar3, xParO, xAug, xAppend, xFrz, xVar, xC, xOp, xUn, pNeg_i, xTest, asB_b, xAnd, xOr, xNot, xAndV, xOrV, xNotV, xIf, xIfT, xChain, xNil, xCons, xTup, xLst, xFz, xCall, xCallO, xCallS, rOfT_d, rOfT_o, rOwT_o, ywNil, ywDat, ywVar, xCB, xCO, xIsi, xSl, xRev, pRev, xpN, xpS, asI_i, xIxO, xLenO, xLenS, xFor, xWhile, ziT, ziL, itT_t, itL_l, ziR1, ziR2, ziET, ziEL, ziZ, zpT, lrK2, xLr2, xLr1, enT_t, enL_l, xLc, lc2K, xLc2, noOwnB, wipeE, xYes, xRaise, xTry, tyF, xXf, pAdd_i, pAdd_t, pAdd_l, pSub_i, pLt_i, pLe_i, pGt_i, pGe_i, pIs_n, pIsNot_n, pIsB_b, pNotB_b, isN_n, isN_b, isN_i, isN_s, isN_t, isN_l, pIx_t, pIx_l, pLen_t, pLen_l, pMin2_i, pMax2_i, pAbs_i, pInt_i, pTuple_t, pTuple_l, pList_t, pList_l, pIadd_i, pSl_t, pSl_l, pEqI, pNeI, pEqS, pNeS, at0, at1, at2, at3, at4, at5, at6, at7, bx_ret, bx_exc, bx_fail, bd_ret, bd_exc, bd_fail, exS_ret, exS_exc, exS_fail, ofO_some, ofO_none, fnE, isi_T, isi_B, isi_I, isi_S, isi_L, sizeL, Option.bind_some, Option.map_some, Option.some.injEq, Int.reduceEq, Int.reduceLE, Int.reduceLT, Int.reduceNeg, Int.reduceAdd, Int.reduceSub, Int.reduceMul, decide_true, decide_false, decide_eq_true_eq, decide_not, eq_self, Int.cast_ofNat_Int, reduceCtorEq, List.length_cons, List.length_nil, List.map_cons, List.map_nil, List.replicate, List.cons_append, List.nil_append, List.append_nil, List.getElem?_cons_zero, List.getElem?_cons_succ, List.getElem?_nil, List.set_cons_zero, List.set_cons_succ, Nat.reduceAdd, Nat.reduceSub, Nat.reduceEqDiff, Nat.reduceLeDiff, Nat.reduceLT, Nat.zero_add, Nat.add_zero, true_and, and_true, false_and, and_false, Bool.not_true, Bool.not_false, Bool.true_and, Bool.and_true, Bool.false_and, Bool.and_false, Bool.or_false, Bool.false_or, Bool.or_true, Bool.true_or, Bool.not_eq_true', if_true, if_false, Bool.false_eq_true, Bool.not_eq_true, ↓reduceIte, ite_true, ite_false, Bool.true_eq_false, not_true_eq_false, not_false_eq_true, Nat.zero_le]
theorem r_lmove (d : Dt) : w__law_is_move [.dat d] = .ret (.dat (.bool (mvB d))) := by
  rw [wd__law_is_move]
  cases d <;> simp only [t__law_is_move, mvB, opK2, opK, chK4, chK3, chK2, chK, unK, andK, orK, notK, andVK2, andVK, orVK2, orVK, notVK2, notVK, ifVK, ifTK, consK2, consK, tupK, lstK, fzK, slK3, slK2, slK, cbK, coK, isiK, drpK, retK, retOK, ifSK, setK, setOK, nxK, asgK, parK, par3K, augK, appK, wcK, wdK, callK, callOK, callSK2, callSK, forK, lcK, parOK2, parOK, raiseK, bodyX, startE, xSeq, sqF, xNext, xBreak, xCont, xNever, xIfS, xRet, xRetN, xRetV, xRetO, xSet, xSetO, xDrop, xAsg, ygT_t, ygsC, ygsN, ygN, xPar, xPar3, xParO, xAug, xAppend, xFrz, xVar, xC, xOp, xUn, pNeg_i, xTest, asB_b, xAnd, xOr, xNot, xAndV, xOrV, xNotV, xIf, xIfT, xChain, xNil, xCons, xTup, xLst, xFz, xCall, xCallO, xCallS, rOfT_d, rOfT_o, rOwT_o, ywNil, ywDat, ywVar, xCB, xCO, xIsi, xSl, xRev, pRev, xpN, xpS, asI_i, xIxO, xLenO, xLenS, xFor, xWhile, ziT, ziL, itT_t, itL_l, ziR1, ziR2, ziET, ziEL, ziZ, zpT, lrK2, xLr2, xLr1, enT_t, enL_l, xLc, lc2K, xLc2, noOwnB, wipeE, xYes, xRaise, xTry, tyF, xXf, pAdd_i, pAdd_t, pAdd_l, pSub_i, pLt_i, pLe_i, pGt_i, pGe_i, pIs_n, pIsNot_n, pIsB_b, pNotB_b, isN_n, isN_b, isN_i, isN_s, isN_t, isN_l, pIx_t, pIx_l, pLen_t, pLen_l, pMin2_i, pMax2_i, pAbs_i, pInt_i, pTuple_t, pTuple_l, pList_t, pList_l, pIadd_i, pSl_t, pSl_l, pEqI, pNeI, pEqS, pNeS, at0, at1, at2, at3, at4, at5, at6, at7, bx_ret, bx_exc, bx_fail, bd_ret, bd_exc, bd_fail, exS_ret, exS_exc, exS_fail, ofO_some, ofO_none, fnE, isi_T, isi_B, isi_I, isi_S, isi_L, sizeL, Option.bind_some, Option.map_some, Option.some.injEq, Int.reduceEq, Int.reduceLE, Int.reduceLT, Int.reduceNeg, Int.reduceAdd, Int.reduceSub, Int.reduceMul, decide_true, decide_false, decide_eq_true_eq, decide_not, eq_self, Int.cast_ofNat_Int, reduceCtorEq, List.length_cons, List.length_nil, List.map_cons, List.map_nil, List.replicate, List.cons_append, List.nil_append, List.append_nil, List.getElem?_cons_zero, List.getElem?_cons_succ, List.getElem?_nil, List.set_cons_zero, List.set_cons_succ, Nat.reduceAdd, Nat.reduceSub, Nat.reduceEqDiff, Nat.reduceLeDiff, Nat.reduceLT, Nat.zero_add, Nat.add_zero, true_and, and_true, false_and, and_false, Bool.not_true, Bool.not_false, Bool.true_and, Bool.and_true, Bool.false_and, Bool.and_false, Bool.or_false, Bool.false_or, Bool.or_true, Bool.true_or, Bool.not_eq_true', if_true, if_false, Bool.false_eq_true, Bool.not_eq_true, ↓reduceIte, ite_true, ite_false, Bool.true_eq_false, not_true_eq_false, not_false_eq_true, Nat.zero_le]
  next ds =>
  match ds with
  | [] => simp only [mvB, opK2, opK, chK4, chK3, chK2, chK, unK, andK, orK, notK, andVK2, andVK, orVK2, orVK, notVK2, notVK, ifVK, ifTK, consK2, consK, tupK, lstK, fzK, slK3, slK2, slK, cbK, coK, isiK, drpK, retK, retOK, ifSK, setK, setOK, nxK, asgK, parK, par3K, augK, appK, wcK, wdK, callK, callOK, callSK2, callSK, forK, lcK, parOK2, parOK, raiseK, bodyX, startE, xSeq, sqF, xNext, xBreak, xCont, xNever, xIfS, xRet, xRetN, xRetV, xRetO, xSet, xSetO, xDrop, xAsg, ygT_t, ygsC, ygsN, ygN, xPar, xPar3, xParO, xAug, xAppend, xFrz, xVar, xC, xOp, xUn, pNeg_i, xTest, asB_b, xAnd, xOr, xNot, xAndV, xOrV, xNotV, xIf, xIfT, xChain, xNil, xCons, xTup, xLst, xFz, xCall, xCallO, xCallS, rOfT_d, rOfT_o, rOwT_o, ywNil, ywDat, ywVar, xCB, xCO, xIsi, xSl, xRev, pRev, xpN, xpS, asI_i, xIxO, xLenO, xLenS, xFor, xWhile, ziT, ziL, itT_t, itL_l, ziR1, ziR2, ziET, ziEL, ziZ, zpT, lrK2, xLr2, xLr1, enT_t, enL_l, xLc, lc2K, xLc2, noOwnB, wipeE, xYes, xRaise, xTry, tyF, xXf, pAdd_i, pAdd_t, pAdd_l, pSub_i, pLt_i, pLe_i, pGt_i, pGe_i, pIs_n, pIsNot_n, pIsB_b, pNotB_b, isN_n, isN_b, isN_i, isN_s, isN_t, isN_l, pIx_t, pIx_l, pLen_t, pLen_l, pMin2_i, pMax2_i, pAbs_i, pInt_i, pTuple_t, pTuple_l, pList_t, pList_l, pIadd_i, pSl_t, pSl_l, pEqI, pNeI, pEqS, pNeS, at0, at1, at2, at3, at4, at5, at6, at7, bx_ret, bx_exc, bx_fail, bd_ret, bd_exc, bd_fail, exS_ret, exS_exc, exS_fail, ofO_some, ofO_none, fnE, isi_T, isi_B, isi_I, isi_S, isi_L, sizeL, Option.bind_some, Option.map_some, Option.some.injEq, Int.reduceEq, Int.reduceLE, Int.reduceLT, Int.reduceNeg, Int.reduceAdd, Int.reduceSub, Int.reduceMul, decide_true, decide_false, decide_eq_true_eq, decide_not, eq_self, Int.cast_ofNat_Int, reduceCtorEq, List.length_cons, List.length_nil, List.map_cons, List.map_nil, List.replicate, List.cons_append, List.nil_append, List.append_nil, List.getElem?_cons_zero, List.getElem?_cons_succ, List.getElem?_nil, List.set_cons_zero, List.set_cons_succ, Nat.reduceAdd, Nat.reduceSub, Nat.reduceEqDiff, Nat.reduceLeDiff, Nat.reduceLT, Nat.zero_add, Nat.add_zero, true_and, and_true, false_and, and_false, Bool.not_true, Bool.not_false, Bool.true_and, Bool.and_true, Bool.false_and, Bool.and_false, Bool.or_false, Bool.false_or, Bool.or_true, Bool.true_or, Bool.not_eq_true', if_true, if_false, Bool.false_eq_true, Bool.not_eq_true, ↓reduceIte, ite_true, ite_false, Bool.true_eq_false, not_true_eq_false, not_false_eq_true, Nat.zero_le]
  | [a] => simp only [mvB, opK2, opK, chK4, chK3, chK2, chK, unK, andK, orK, notK, andVK2, andVK, orVK2, orVK, notVK2, notVK, ifVK, ifTK, consK2, consK, tupK, lstK, fzK, slK3, slK2, slK, cbK, coK, isiK, drpK, retK, retOK, ifSK, setK, setOK, nxK, asgK, parK, par3K, augK, appK, wcK, wdK, callK, callOK, callSK2, callSK, forK, lcK, parOK2, parOK, raiseK, bodyX, startE, xSeq, sqF, xNext, xBreak, xCont, xNever, xIfS, xRet, xRetN, xRetV, xRetO, xSet, xSetO, xDrop, xAsg, ygT_t, ygsC, ygsN, ygN, xPar, xPar3, xParO, xAug, xAppend, xFrz, xVar, xC, xOp, xUn, pNeg_i, xTest, asB_b, xAnd, xOr, xNot, xAndV, xOrV, xNotV, xIf, xIfT, xChain, xNil, xCons, xTup, xLst, xFz, xCall, xCallO, xCallS, rOfT_d, rOfT_o, rOwT_o, ywNil, ywDat, ywVar, xCB, xCO, xIsi, xSl, xRev, pRev, xpN, xpS, asI_i, xIxO, xLenO, xLenS, xFor, xWhile, ziT, ziL, itT_t, itL_l, ziR1, ziR2, ziET, ziEL, ziZ, zpT, lrK2, xLr2, xLr1, enT_t, enL_l, xLc, lc2K, xLc2, noOwnB, wipeE, xYes, xRaise, xTry, tyF, xXf, pAdd_i, pAdd_t, pAdd_l, pSub_i, pLt_i, pLe_i, pGt_i, pGe_i, pIs_n, pIsNot_n, pIsB_b, pNotB_b, isN_n, isN_b, isN_i, isN_s, isN_t, isN_l, pIx_t, pIx_l, pLen_t, pLen_l, pMin2_i, pMax2_i, pAbs_i, pInt_i, pTuple_t, pTuple_l, pList_t, pList_l, pIadd_i, pSl_t, pSl_l, pEqI, pNeI, pEqS, pNeS, at0, at1, at2, at3, at4, at5, at6, at7, bx_ret, bx_exc, bx_fail, bd_ret, bd_exc, bd_fail, exS_ret, exS_exc, exS_fail, ofO_some, ofO_none, fnE, isi_T, isi_B, isi_I, isi_S, isi_L, sizeL, Option.bind_some, Option.map_some, Option.some.injEq, Int.reduceEq, Int.reduceLE, Int.reduceLT, Int.reduceNeg, Int.reduceAdd, Int.reduceSub, Int.reduceMul, decide_true, decide_false, decide_eq_true_eq, decide_not, eq_self, Int.cast_ofNat_Int, reduceCtorEq, List.length_cons, List.length_nil, List.map_cons, List.map_nil, List.replicate, List.cons_append, List.nil_append, List.append_nil, List.getElem?_cons_zero, List.getElem?_cons_succ, List.getElem?_nil, List.set_cons_zero, List.set_cons_succ, Nat.reduceAdd, Nat.reduceSub, Nat.reduceEqDiff, Nat.reduceLeDiff, Nat.reduceLT, Nat.zero_add, Nat.add_zero, true_and, and_true, false_and, and_false, Bool.not_true, Bool.not_false, Bool.true_and, Bool.and_true, Bool.false_and, Bool.and_false, Bool.or_false, Bool.false_or, Bool.or_true, Bool.true_or, Bool.not_eq_true', if_true, if_false, Bool.false_eq_true, Bool.not_eq_true, ↓reduceIte, ite_true, ite_false, Bool.true_eq_false, not_true_eq_false, not_false_eq_true, Nat.zero_le]
  | [a, b] =>
    simp only [mvB, r_lwhole, opK2, opK, chK4, chK3, chK2, chK, unK, andK, orK, notK, andVK2, andVK, orVK2, orVK, notVK2, notVK, ifVK, ifTK, consK2, consK, tupK, lstK, fzK, slK3, slK2, slK, cbK, coK, isiK, drpK, retK, retOK, ifSK, setK, setOK, nxK, asgK, parK, par3K, augK, appK, wcK, wdK, callK, callOK, callSK2, callSK, forK, lcK, parOK2, parOK, raiseK, bodyX, startE, xSeq, sqF, xNext, xBreak, xCont, xNever, xIfS, xRet, xRetN, xRetV, xRetO, xSet, xSetO, xDrop, xAsg, ygT_t, ygsC, ygsN, ygN, xPar, xPar3, xParO, xAug, xAppend, xFrz, xVar, xC, xOp, xUn, pNeg_i, xTest, asB_b, xAnd, xOr, xNot, xAndV, xOrV, xNotV, xIf, xIfT, xChain, xNil, xCons, xTup, xLst, xFz, xCall, xCallO, xCallS, rOfT_d, rOfT_o, rOwT_o, ywNil, ywDat, ywVar, xCB, xCO, xIsi, xSl, xRev, pRev, xpN, xpS, asI_i, xIxO, xLenO, xLenS, xFor, xWhile, ziT, ziL, itT_t, itL_l, ziR1, ziR2, ziET, ziEL, ziZ, zpT, lrK2, xLr2, xLr1, enT_t, enL_l, xLc, lc2K, xLc2, noOwnB, wipeE, xYes, xRaise, xTry, tyF, xXf, pAdd_i, pAdd_t, pAdd_l, pSub_i, pLt_i, pLe_i, pGt_i, pGe_i, pIs_n, pIsNot_n, pIsB_b, pNotB_b, isN_n, isN_b, isN_i, isN_s, isN_t, isN_l, pIx_t, pIx_l, pLen_t, pLen_l, pMin2_i, pMax2_i, pAbs_i, pInt_i, pTuple_t, pTuple_l, pList_t, pList_l, pIadd_i, pSl_t, pSl_l, pEqI, pNeI, pEqS, pNeS, at0, at1, at2, at3, at4, at5, at6, at7, bx_ret, bx_exc, bx_fail, bd_ret, bd_exc, bd_fail, exS_ret, exS_exc, exS_fail, ofO_some, ofO_none, fnE, isi_T, isi_B, isi_I, isi_S, isi_L, sizeL, Option.bind_some, Option.map_some, Option.some.injEq, Int.reduceEq, Int.reduceLE, Int.reduceLT, Int.reduceNeg, Int.reduceAdd, Int.reduceSub, Int.reduceMul, decide_true, decide_false, decide_eq_true_eq, decide_not, eq_self, Int.cast_ofNat_Int, reduceCtorEq, List.length_cons, List.length_nil, List.map_cons, List.map_nil, List.replicate, List.cons_append, List.nil_append, List.append_nil, List.getElem?_cons_zero, List.getElem?_cons_succ, List.getElem?_nil, List.set_cons_zero, List.set_cons_succ, Nat.reduceAdd, Nat.reduceSub, Nat.reduceEqDiff, Nat.reduceLeDiff, Nat.reduceLT, Nat.zero_add, Nat.add_zero, true_and, and_true, false_and, and_false, Bool.not_true, Bool.not_false, Bool.true_and, Bool.and_true, Bool.false_and, Bool.and_false, Bool.or_false, Bool.false_or, Bool.or_true, Bool.true_or, Bool.not_eq_true', if_true, if_false, Bool.false_eq_true, Bool.not_eq_true, ↓reduceIte, ite_true, ite_false, Bool.true_eq_false, not_true_eq_false, not_false_eq_true, Nat.zero_le]
    cases wh a (-32) 32 <;> simp only [r_lwhole, opK2, opK, chK4, chK3, chK2, chK, unK, andK, orK, notK, andVK2, andVK, orVK2, orVK, notVK2, notVK, ifVK, ifTK, consK2, consK, tupK, lstK, fzK, slK3, slK2, slK, cbK, coK, isiK, drpK, retK, retOK, ifSK, setK, setOK, nxK, asgK, parK, par3K, augK, appK, wcK, wdK, callK, callOK, callSK2, callSK, forK, lcK, parOK2, parOK, raiseK, bodyX, startE, xSeq, sqF, xNext, xBreak, xCont, xNever, xIfS, xRet, xRetN, xRetV, xRetO, xSet, xSetO, xDrop, xAsg, ygT_t, ygsC, ygsN, ygN, xPar, xPar3, xParO, xAug, xAppend, xFrz, xVar, xC, xOp, xUn, pNeg_i, xTest, asB_b, xAnd, xOr, xNot, xAndV, xOrV, xNotV, xIf, xIfT, xChain, xNil, xCons, xTup, xLst, xFz, xCall, xCallO, xCallS, rOfT_d, rOfT_o, rOwT_o, ywNil, ywDat, ywVar, xCB, xCO, xIsi, xSl, xRev, pRev, xpN, xpS, asI_i, xIxO, xLenO, xLenS, xFor, xWhile, ziT, ziL, itT_t, itL_l, ziR1, ziR2, ziET, ziEL, ziZ, zpT, lrK2, xLr2, xLr1, enT_t, enL_l, xLc, lc2K, xLc2, noOwnB, wipeE, xYes, xRaise, xTry, tyF, xXf, pAdd_i, pAdd_t, pAdd_l, pSub_i, pLt_i, pLe_i, pGt_i, pGe_i, pIs_n, pIsNot_n, pIsB_b, pNotB_b, isN_n, isN_b, isN_i, isN_s, isN_t, isN_l, pIx_t, pIx_l, pLen_t, pLen_l, pMin2_i, pMax2_i, pAbs_i, pInt_i, pTuple_t, pTuple_l, pList_t, pList_l, pIadd_i, pSl_t, pSl_l, pEqI, pNeI, pEqS, pNeS, at0, at1, at2, at3, at4, at5, at6, at7, bx_ret, bx_exc, bx_fail, bd_ret, bd_exc, bd_fail, exS_ret, exS_exc, exS_fail, ofO_some, ofO_none, fnE, isi_T, isi_B, isi_I, isi_S, isi_L, sizeL, Option.bind_some, Option.map_some, Option.some.injEq, Int.reduceEq, Int.reduceLE, Int.reduceLT, Int.reduceNeg, Int.reduceAdd, Int.reduceSub, Int.reduceMul, decide_true, decide_false, decide_eq_true_eq, decide_not, eq_self, Int.cast_ofNat_Int, reduceCtorEq, List.length_cons, List.length_nil, List.map_cons, List.map_nil, List.replicate, List.cons_append, List.nil_append, List.append_nil, List.getElem?_cons_zero, List.getElem?_cons_succ, List.getElem?_nil, List.set_cons_zero, List.set_cons_succ, Nat.reduceAdd, Nat.reduceSub, Nat.reduceEqDiff, Nat.reduceLeDiff, Nat.reduceLT, Nat.zero_add, Nat.add_zero, true_and, and_true, false_and, and_false, Bool.not_true, Bool.not_false, Bool.true_and, Bool.and_true, Bool.false_and, Bool.and_false, Bool.or_false, Bool.false_or, Bool.or_true, Bool.true_or, Bool.not_eq_true', if_true, if_false, Bool.false_eq_true, Bool.not_eq_true, ↓reduceIte, ite_true, ite_false, Bool.true_eq_false, not_true_eq_false, not_false_eq_true, Nat.zero_le]
  | a :: b :: c :: r =>
    have e : ¬ (((r.length + 1 + 1 + 1 : Nat) : Int) = 2) := by omega
    simp only [mvB, e, opK2, opK, chK4, chK3, chK2, chK, unK, andK, orK, notK, andVK2, andVK, orVK2, orVK, notVK2, notVK, ifVK, ifTK, consK2, consK, tupK, lstK, fzK, slK3, slK2, slK, cbK, coK, isiK, drpK, retK, retOK, ifSK, setK, setOK, nxK, asgK, parK, par3K, augK, appK, wcK, wdK, callK, callOK, callSK2, callSK, forK, lcK, parOK2, parOK, raiseK, bodyX, startE, xSeq, sqF, xNext, xBreak, xCont, xNever, xIfS, xRet, xRetN, xRetV, xRetO, xSet, xSetO, xDrop, xAsg, ygT_t, ygsC, ygsN, ygN, xPar, xPar3, xParO, xAug, xAppend, xFrz, xVar, xC, xOp, xUn, pNeg_i, xTest, asB_b, xAnd, xOr, xNot, xAndV, xOrV, xNotV, xIf, xIfT, xChain, xNil, xCons, xTup, xLst, xFz, xCall, xCallO, xCallS, rOfT_d, rOfT_o, rOwT_o, ywNil, ywDat, ywVar, xCB, xCO, xIsi, xSl, xRev, pRev, xpN, xpS, asI_i, xIxO, xLenO, xLenS, xFor, xWhile, ziT, ziL, itT_t, itL_l, ziR1, ziR2, ziET, ziEL, ziZ, zpT, lrK2, xLr2, xLr1, enT_t, enL_l, xLc, lc2K, xLc2, noOwnB, wipeE, xYes, xRaise, xTry, tyF, xXf, pAdd_i, pAdd_t, pAdd_l, pSub_i, pLt_i, pLe_i, pGt_i, pGe_i, pIs_n, pIsNot_n, pIsB_b, pNotB_b, isN_n, isN_b, isN_i, isN_s, isN_t, isN_l, pIx_t, pIx_l, pLen_t, pLen_l, pMin2_i, pMax2_i, pAbs_i, pInt_i, pTuple_t, pTuple_l, pList_t, pList_l, pIadd_i, pSl_t, pSl_l, pEqI, pNeI, pEqS, pNeS, at0, at1, at2, at3, at4, at5, at6, at7, bx_ret, bx_exc, bx_fail, bd_ret, bd_exc, bd_fail, exS_ret, exS_exc, exS_fail, ofO_some, ofO_none, fnE, isi_T, isi_B, isi_I, isi_S, isi_L, sizeL, Option.bind_some, Option.map_some, Option.some.injEq, Int.reduceEq, Int.reduceLE, Int.reduceLT, Int.reduceNeg, Int.reduceAdd, Int.reduceSub, Int.reduceMul, decide_true, decide_false, decide_eq_true_eq, decide_not, eq_self, Int.cast_ofNat_Int, reduceCtorEq, List.length_cons, List.length_nil, List.map_cons, List.map_nil, List.replicate, List.cons_append, List.nil_append, List.append_nil, List.getElem?_cons_zero, List.getElem?_cons_succ, List.getElem?_nil, List.set_cons_zero, List.set_cons_succ, Nat.reduceAdd, Nat.reduceSub, Nat.reduceEqDiff, Nat.reduceLeDiff, Nat.reduceLT, Nat.zero_add, Nat.add_zero, true_and, and_true, false_and, and_false, Bool.not_true, Bool.not_false, Bool.true_and, Bool.and_true, Bool.false_and, Bool.and_false, Bool.or_false, Bool.false_or, Bool.or_true, Bool.true_or, Bool.not_eq_true', if_true, if_false, Bool.false_eq_true, Bool.not_eq_true, ↓reduceIte, ite_true, ite_false, Bool.true_eq_false, not_true_eq_false, not_false_eq_true, Nat.zero_le]
theorem filt_idx (p : Dt → Bool) : ∀ (xs : List Dt) (k : Nat), ((xs.zipIdx k).filter fun q => p q.1).map (fun q => PyData.int (q.2 : Int)) = [] ∧ xs.findIdx? p = none ∨ ∃ i r, ((xs.zipIdx k).filter fun q => p q.1).map (fun q => PyData.int (q.2 : Int)) = .int ((k + i : Nat) : Int) :: r ∧ xs.findIdx? p = some i ∧ i < xs.length
  | [], k => .inl ⟨rfl, rfl⟩
  | x :: xs, k => by
    rw [List.zipIdx_cons, List.filter_cons, List.findIdx?_cons]
    cases h : p x with
    | true => exact .inr ⟨0, _, by simp only [h, if_true, List.map_cons, Nat.add_zero]; rfl, by simp [h], by simp⟩
    | false =>
      rcases filt_idx p xs (k + 1) with ⟨e1, e2⟩ | ⟨i, r, e1, e2, e3⟩
      · exact .inl ⟨by simp [e1], by simp [e2]⟩
      · refine .inr ⟨i + 1, r, ?_, by simp [e2], by simp; omega⟩
        simp only [Bool.false_eq_true, if_false]
        rw [e1]
        congr 2
        omega
theorem filt_shp (p : Dt → Bool) (xs : List Dt) : Shp 1 (.list (((xs.zipIdx 0).filter fun q => p q.1).map (fun q => PyData.int (q.2 : Int)))) := .lst (.of fun d hd => by
  obtain ⟨q, _, rfl⟩ := List.mem_map.mp hd
  exact .int _)
theorem ne_nil_i {i : Int} {r : List Dt} (h : Shp 1 (.list (.int i :: r))) : pNe (.list (.int i :: r)) (.list []) = some (.bool true) := by
  rw [pNe_of h (.lst .nil) (by decide)]
  simp [PyData.eqv, PyData.eqvAll]
theorem ne_nil_n : pNe (.list []) (.list []) = some (.bool false) := pNe_self (dp := 1) (.lst .nil) (by decide) (by decide)
def enQ (q : Dt × Nat) : Dt := .tuple [.int (q.2 : Int), q.1]
def fS (xs : List Dt) : List Dt := ((xs.zipIdx 0).filter fun q => !wh q.1 1 9999).map (fun q => PyData.int (q.2 : Int))
def fM (xs : List Dt) : List Dt := ((xs.zipIdx 0).filter fun q => !mvB q.1).map (fun q => PyData.int (q.2 : Int))
theorem enumQ (xs : List Dt) : enumD xs = (xs.zipIdx 0).map enQ := enumD_zip xs
theorem lcS (xs : List Dt) (hl : xs.length ≤ 16) (x0 x1 x2 x3 x4 : Option VL.W) : lcT (ygT 2 (ygsC (ygN 2) (ygsC (ygN 3) ygsN))) c__law_fault_0 e__law_fault_1 [x0, x1, x2, x3, x4] ((xs.zipIdx 0).map enQ) [] = .ret (fS xs) := by
  have := lc_filter (g := ygT 2 (ygsC (ygN 2) (ygsC (ygN 3) ygsN))) (xt := c__law_fault_0) (te := e__law_fault_1) (ρ := [x0, x1, x2, x3, x4]) enQ (fun q => !wh q.1 1 9999) (fun q => PyData.int (q.2 : Int)) (xs.zipIdx 0) [] (by rw [List.length_zipIdx, sizeL, List.length_nil]; omega) (fun d _ => by
    unfold c__law_fault_0 enQ
    simp only [r_lwhole, opK2, opK, chK4, chK3, chK2, chK, unK, andK, orK, notK, andVK2, andVK, orVK2, orVK, notVK2, notVK, ifVK, ifTK, consK2, consK, tupK, lstK, fzK, slK3, slK2, slK, cbK, coK, isiK, drpK, retK, retOK, ifSK, setK, setOK, nxK, asgK, parK, par3K, augK, appK, wcK, wdK, callK, callOK, callSK2, callSK, forK, lcK, parOK2, parOK, raiseK, bodyX, startE, xSeq, sqF, xNext, xBreak, xCont, xNever, xIfS, xRet, xRetN, xRetV, xRetO, xSet, xSetO, xDrop, xAsg, ygT_t, ygsC, ygsN, ygN, xPar, xPar3, xParO, xAug, xAppend, xFrz, xVar, xC, xOp, xUn, pNeg_i, xTest, asB_b, xAnd, xOr, xNot, xAndV, xOrV, xNotV, xIf, xIfT, xChain, xNil, xCons, xTup, xLst, xFz, xCall, xCallO, xCallS, rOfT_d, rOfT_o, rOwT_o, ywNil, ywDat, ywVar, xCB, xCO, xIsi, xSl, xRev, pRev, xpN, xpS, asI_i, xIxO, xLenO, xLenS, xFor, xWhile, ziT, ziL, itT_t, itL_l, ziR1, ziR2, ziET, ziEL, ziZ, zpT, lrK2, xLr2, xLr1, enT_t, enL_l, xLc, lc2K, xLc2, noOwnB, wipeE, xYes, xRaise, xTry, tyF, xXf, pAdd_i, pAdd_t, pAdd_l, pSub_i, pLt_i, pLe_i, pGt_i, pGe_i, pIs_n, pIsNot_n, pIsB_b, pNotB_b, isN_n, isN_b, isN_i, isN_s, isN_t, isN_l, pIx_t, pIx_l, pLen_t, pLen_l, pMin2_i, pMax2_i, pAbs_i, pInt_i, pTuple_t, pTuple_l, pList_t, pList_l, pIadd_i, pSl_t, pSl_l, pEqI, pNeI, pEqS, pNeS, at0, at1, at2, at3, at4, at5, at6, at7, bx_ret, bx_exc, bx_fail, bd_ret, bd_exc, bd_fail, exS_ret, exS_exc, exS_fail, ofO_some, ofO_none, fnE, isi_T, isi_B, isi_I, isi_S, isi_L, sizeL, Option.bind_some, Option.map_some, Option.some.injEq, Int.reduceEq, Int.reduceLE, Int.reduceLT, Int.reduceNeg, Int.reduceAdd, Int.reduceSub, Int.reduceMul, decide_true, decide_false, decide_eq_true_eq, decide_not, eq_self, Int.cast_ofNat_Int, reduceCtorEq, List.length_cons, List.length_nil, List.map_cons, List.map_nil, List.replicate, List.cons_append, List.nil_append, List.append_nil, List.getElem?_cons_zero, List.getElem?_cons_succ, List.getElem?_nil, List.set_cons_zero, List.set_cons_succ, Nat.reduceAdd, Nat.reduceSub, Nat.reduceEqDiff, Nat.reduceLeDiff, Nat.reduceLT, Nat.zero_add, Nat.add_zero, true_and, and_true, false_and, and_false, Bool.not_true, Bool.not_false, Bool.true_and, Bool.and_true, Bool.false_and, Bool.and_false, Bool.or_false, Bool.false_or, Bool.or_true, Bool.true_or, Bool.not_eq_true', if_true, if_false, Bool.false_eq_true, Bool.not_eq_true, ↓reduceIte, ite_true, ite_false, Bool.true_eq_false, not_true_eq_false, not_false_eq_true, Nat.zero_le]) (fun d _ _ => by
    unfold e__law_fault_1 enQ
    simp only [opK2, opK, chK4, chK3, chK2, chK, unK, andK, orK, notK, andVK2, andVK, orVK2, orVK, notVK2, notVK, ifVK, ifTK, consK2, consK, tupK, lstK, fzK, slK3, slK2, slK, cbK, coK, isiK, drpK, retK, retOK, ifSK, setK, setOK, nxK, asgK, parK, par3K, augK, appK, wcK, wdK, callK, callOK, callSK2, callSK, forK, lcK, parOK2, parOK, raiseK, bodyX, startE, xSeq, sqF, xNext, xBreak, xCont, xNever, xIfS, xRet, xRetN, xRetV, xRetO, xSet, xSetO, xDrop, xAsg, ygT_t, ygsC, ygsN, ygN, xPar, xPar3, xParO, xAug, xAppend, xFrz, xVar, xC, xOp, xUn, pNeg_i, xTest, asB_b, xAnd, xOr, xNot, xAndV, xOrV, xNotV, xIf, xIfT, xChain, xNil, xCons, xTup, xLst, xFz, xCall, xCallO, xCallS, rOfT_d, rOfT_o, rOwT_o, ywNil, ywDat, ywVar, xCB, xCO, xIsi, xSl, xRev, pRev, xpN, xpS, asI_i, xIxO, xLenO, xLenS, xFor, xWhile, ziT, ziL, itT_t, itL_l, ziR1, ziR2, ziET, ziEL, ziZ, zpT, lrK2, xLr2, xLr1, enT_t, enL_l, xLc, lc2K, xLc2, noOwnB, wipeE, xYes, xRaise, xTry, tyF, xXf, pAdd_i, pAdd_t, pAdd_l, pSub_i, pLt_i, pLe_i, pGt_i, pGe_i, pIs_n, pIsNot_n, pIsB_b, pNotB_b, isN_n, isN_b, isN_i, isN_s, isN_t, isN_l, pIx_t, pIx_l, pLen_t, pLen_l, pMin2_i, pMax2_i, pAbs_i, pInt_i, pTuple_t, pTuple_l, pList_t, pList_l, pIadd_i, pSl_t, pSl_l, pEqI, pNeI, pEqS, pNeS, at0, at1, at2, at3, at4, at5, at6, at7, bx_ret, bx_exc, bx_fail, bd_ret, bd_exc, bd_fail, exS_ret, exS_exc, exS_fail, ofO_some, ofO_none, fnE, isi_T, isi_B, isi_I, isi_S, isi_L, sizeL, Option.bind_some, Option.map_some, Option.some.injEq, Int.reduceEq, Int.reduceLE, Int.reduceLT, Int.reduceNeg, Int.reduceAdd, Int.reduceSub, Int.reduceMul, decide_true, decide_false, decide_eq_true_eq, decide_not, eq_self, Int.cast_ofNat_Int, reduceCtorEq, List.length_cons, List.length_nil, List.map_cons, List.map_nil, List.replicate, List.cons_append, List.nil_append, List.append_nil, List.getElem?_cons_zero, List.getElem?_cons_succ, List.getElem?_nil, List.set_cons_zero, List.set_cons_succ, Nat.reduceAdd, Nat.reduceSub, Nat.reduceEqDiff, Nat.reduceLeDiff, Nat.reduceLT, Nat.zero_add, Nat.add_zero, true_and, and_true, false_and, and_false, Bool.not_true, Bool.not_false, Bool.true_and, Bool.and_true, Bool.false_and, Bool.and_false, Bool.or_false, Bool.false_or, Bool.or_true, Bool.true_or, Bool.not_eq_true', if_true, if_false, Bool.false_eq_true, Bool.not_eq_true, ↓reduceIte, ite_true, ite_false, Bool.true_eq_false, not_true_eq_false, not_false_eq_true, Nat.zero_le])
  rw [List.nil_append] at this
  exact this
theorem lcM (xs : List Dt) (hl : xs.length ≤ 16) (x0 x1 x2 x3 x4 : Option VL.W) : lcT (ygT 2 (ygsC (ygN 2) (ygsC (ygN 4) ygsN))) c__law_fault_2 e__law_fault_3 [x0, x1, x2, x3, x4] ((xs.zipIdx 0).map enQ) [] = .ret (fM xs) := by
  have := lc_filter (g := ygT 2 (ygsC (ygN 2) (ygsC (ygN 4) ygsN))) (xt := c__law_fault_2) (te := e__law_fault_3) (ρ := [x0, x1, x2, x3, x4]) enQ (fun q => !mvB q.1) (fun q => PyData.int (q.2 : Int)) (xs.zipIdx 0) [] (by rw [List.length_zipIdx, sizeL, List.length_nil]; omega) (fun d _ => by
    unfold c__law_fault_2 enQ
    simp only [r_lmove, opK2, opK, chK4, chK3, chK2, chK, unK, andK, orK, notK, andVK2, andVK, orVK2, orVK, notVK2, notVK, ifVK, ifTK, consK2, consK, tupK, lstK, fzK, slK3, slK2, slK, cbK, coK, isiK, drpK, retK, retOK, ifSK, setK, setOK, nxK, asgK, parK, par3K, augK, appK, wcK, wdK, callK, callOK, callSK2, callSK, forK, lcK, parOK2, parOK, raiseK, bodyX, startE, xSeq, sqF, xNext, xBreak, xCont, xNever, xIfS, xRet, xRetN, xRetV, xRetO, xSet, xSetO, xDrop, xAsg, ygT_t, ygsC, ygsN, ygN, xPar, xPar3, xParO, xAug, xAppend, xFrz, xVar, xC, xOp, xUn, pNeg_i, xTest, asB_b, xAnd, xOr, xNot, xAndV, xOrV, xNotV, xIf, xIfT, xChain, xNil, xCons, xTup, xLst, xFz, xCall, xCallO, xCallS, rOfT_d, rOfT_o, rOwT_o, ywNil, ywDat, ywVar, xCB, xCO, xIsi, xSl, xRev, pRev, xpN, xpS, asI_i, xIxO, xLenO, xLenS, xFor, xWhile, ziT, ziL, itT_t, itL_l, ziR1, ziR2, ziET, ziEL, ziZ, zpT, lrK2, xLr2, xLr1, enT_t, enL_l, xLc, lc2K, xLc2, noOwnB, wipeE, xYes, xRaise, xTry, tyF, xXf, pAdd_i, pAdd_t, pAdd_l, pSub_i, pLt_i, pLe_i, pGt_i, pGe_i, pIs_n, pIsNot_n, pIsB_b, pNotB_b, isN_n, isN_b, isN_i, isN_s, isN_t, isN_l, pIx_t, pIx_l, pLen_t, pLen_l, pMin2_i, pMax2_i, pAbs_i, pInt_i, pTuple_t, pTuple_l, pList_t, pList_l, pIadd_i, pSl_t, pSl_l, pEqI, pNeI, pEqS, pNeS, at0, at1, at2, at3, at4, at5, at6, at7, bx_ret, bx_exc, bx_fail, bd_ret, bd_exc, bd_fail, exS_ret, exS_exc, exS_fail, ofO_some, ofO_none, fnE, isi_T, isi_B, isi_I, isi_S, isi_L, sizeL, Option.bind_some, Option.map_some, Option.some.injEq, Int.reduceEq, Int.reduceLE, Int.reduceLT, Int.reduceNeg, Int.reduceAdd, Int.reduceSub, Int.reduceMul, decide_true, decide_false, decide_eq_true_eq, decide_not, eq_self, Int.cast_ofNat_Int, reduceCtorEq, List.length_cons, List.length_nil, List.map_cons, List.map_nil, List.replicate, List.cons_append, List.nil_append, List.append_nil, List.getElem?_cons_zero, List.getElem?_cons_succ, List.getElem?_nil, List.set_cons_zero, List.set_cons_succ, Nat.reduceAdd, Nat.reduceSub, Nat.reduceEqDiff, Nat.reduceLeDiff, Nat.reduceLT, Nat.zero_add, Nat.add_zero, true_and, and_true, false_and, and_false, Bool.not_true, Bool.not_false, Bool.true_and, Bool.and_true, Bool.false_and, Bool.and_false, Bool.or_false, Bool.false_or, Bool.or_true, Bool.true_or, Bool.not_eq_true', if_true, if_false, Bool.false_eq_true, Bool.not_eq_true, ↓reduceIte, ite_true, ite_false, Bool.true_eq_false, not_true_eq_false, not_false_eq_true, Nat.zero_le]) (fun d _ _ => by
    unfold e__law_fault_3 enQ
    simp only [opK2, opK, chK4, chK3, chK2, chK, unK, andK, orK, notK, andVK2, andVK, orVK2, orVK, notVK2, notVK, ifVK, ifTK, consK2, consK, tupK, lstK, fzK, slK3, slK2, slK, cbK, coK, isiK, drpK, retK, retOK, ifSK, setK, setOK, nxK, asgK, parK, par3K, augK, appK, wcK, wdK, callK, callOK, callSK2, callSK, forK, lcK, parOK2, parOK, raiseK, bodyX, startE, xSeq, sqF, xNext, xBreak, xCont, xNever, xIfS, xRet, xRetN, xRetV, xRetO, xSet, xSetO, xDrop, xAsg, ygT_t, ygsC, ygsN, ygN, xPar, xPar3, xParO, xAug, xAppend, xFrz, xVar, xC, xOp, xUn, pNeg_i, xTest, asB_b, xAnd, xOr, xNot, xAndV, xOrV, xNotV, xIf, xIfT, xChain, xNil, xCons, xTup, xLst, xFz, xCall, xCallO, xCallS, rOfT_d, rOfT_o, rOwT_o, ywNil, ywDat, ywVar, xCB, xCO, xIsi, xSl, xRev, pRev, xpN, xpS, asI_i, xIxO, xLenO, xLenS, xFor, xWhile, ziT, ziL, itT_t, itL_l, ziR1, ziR2, ziET, ziEL, ziZ, zpT, lrK2, xLr2, xLr1, enT_t, enL_l, xLc, lc2K, xLc2, noOwnB, wipeE, xYes, xRaise, xTry, tyF, xXf, pAdd_i, pAdd_t, pAdd_l, pSub_i, pLt_i, pLe_i, pGt_i, pGe_i, pIs_n, pIsNot_n, pIsB_b, pNotB_b, isN_n, isN_b, isN_i, isN_s, isN_t, isN_l, pIx_t, pIx_l, pLen_t, pLen_l, pMin2_i, pMax2_i, pAbs_i, pInt_i, pTuple_t, pTuple_l, pList_t, pList_l, pIadd_i, pSl_t, pSl_l, pEqI, pNeI, pEqS, pNeS, at0, at1, at2, at3, at4, at5, at6, at7, bx_ret, bx_exc, bx_fail, bd_ret, bd_exc, bd_fail, exS_ret, exS_exc, exS_fail, ofO_some, ofO_none, fnE, isi_T, isi_B, isi_I, isi_S, isi_L, sizeL, Option.bind_some, Option.map_some, Option.some.injEq, Int.reduceEq, Int.reduceLE, Int.reduceLT, Int.reduceNeg, Int.reduceAdd, Int.reduceSub, Int.reduceMul, decide_true, decide_false, decide_eq_true_eq, decide_not, eq_self, Int.cast_ofNat_Int, reduceCtorEq, List.length_cons, List.length_nil, List.map_cons, List.map_nil, List.replicate, List.cons_append, List.nil_append, List.append_nil, List.getElem?_cons_zero, List.getElem?_cons_succ, List.getElem?_nil, List.set_cons_zero, List.set_cons_succ, Nat.reduceAdd, Nat.reduceSub, Nat.reduceEqDiff, Nat.reduceLeDiff, Nat.reduceLT, Nat.zero_add, Nat.add_zero, true_and, and_true, false_and, and_false, Bool.not_true, Bool.not_false, Bool.true_and, Bool.and_true, Bool.false_and, Bool.and_false, Bool.or_false, Bool.false_or, Bool.or_true, Bool.true_or, Bool.not_eq_true', if_true, if_false, Bool.false_eq_true, Bool.not_eq_true, ↓reduceIte, ite_true, ite_false, Bool.true_eq_false, not_true_eq_false, not_false_eq_true, Nat.zero_le])
  rw [List.nil_append] at this
  exact this
/-- how a row is judged -/
theorem rowJ (part : Str) (ok : Dt → Bool) (least most : Int) (hm : most ≤ 16) (row : Dt) :
    (rowF part ok least most row = some (part, .none) ∧ (∀ xs, row = .tuple xs → inR least xs.length most = false)) ∨
    ∃ xs : List Dt, row = .tuple xs ∧ inR least xs.length most = true ∧ xs.length ≤ 16 ∧ ((((xs.zipIdx 0).filter fun q => !ok q.1).map (fun q => PyData.int (q.2 : Int)) = [] ∧ rowF part ok least most row = none) ∨
      ∃ i r, i < 16 ∧ ((xs.zipIdx 0).filter fun q => !ok q.1).map (fun q => PyData.int (q.2 : Int)) = .int ((i : Nat) : Int) :: r ∧ rowF part ok least most row = some (part, .int ((i : Nat) : Int))) := by
  unfold rowF
  split
  · next xs =>
    cases h : inR least xs.length most with
    | false => exact .inl ⟨rfl, fun ys e => by cases e; exact h⟩
    | true =>
      have hl : xs.length ≤ 16 := by have := (inR_true.mp h).2; omega
      refine .inr ⟨xs, rfl, h, hl, ?_⟩
      rcases filt_idx (fun x => !ok x) xs 0 with ⟨e1, e2⟩ | ⟨i, r, e1, e2, e3⟩
      · exact .inl ⟨e1, by simp only [e2, if_true, Option.map_none]⟩
      · refine .inr ⟨i, r, by omega, ?_, by simp only [e2, if_true, Option.map_some]⟩
        rw [Nat.zero_add] at e1
        exact e1
  · next hn => exact .inl ⟨rfl, fun xs e => absurd e (hn xs)⟩
theorem r_lfault (d : Dt) : w__law_fault [.dat d] = .ret (.dat (ftD (cf d))) := by
  rw [wd__law_fault]
  cases d <;> simp only [t__law_fault, cf, ftD, opK2, opK, chK4, chK3, chK2, chK, unK, andK, orK, notK, andVK2, andVK, orVK2, orVK, notVK2, notVK, ifVK, ifTK, consK2, consK, tupK, lstK, fzK, slK3, slK2, slK, cbK, coK, isiK, drpK, retK, retOK, ifSK, setK, setOK, nxK, asgK, parK, par3K, augK, appK, wcK, wdK, callK, callOK, callSK2, callSK, forK, lcK, parOK2, parOK, raiseK, bodyX, startE, xSeq, sqF, xNext, xBreak, xCont, xNever, xIfS, xRet, xRetN, xRetV, xRetO, xSet, xSetO, xDrop, xAsg, ygT_t, ygsC, ygsN, ygN, xPar, xPar3, xParO, xAug, xAppend, xFrz, xVar, xC, xOp, xUn, pNeg_i, xTest, asB_b, xAnd, xOr, xNot, xAndV, xOrV, xNotV, xIf, xIfT, xChain, xNil, xCons, xTup, xLst, xFz, xCall, xCallO, xCallS, rOfT_d, rOfT_o, rOwT_o, ywNil, ywDat, ywVar, xCB, xCO, xIsi, xSl, xRev, pRev, xpN, xpS, asI_i, xIxO, xLenO, xLenS, xFor, xWhile, ziT, ziL, itT_t, itL_l, ziR1, ziR2, ziET, ziEL, ziZ, zpT, lrK2, xLr2, xLr1, enT_t, enL_l, xLc, lc2K, xLc2, noOwnB, wipeE, xYes, xRaise, xTry, tyF, xXf, pAdd_i, pAdd_t, pAdd_l, pSub_i, pLt_i, pLe_i, pGt_i, pGe_i, pIs_n, pIsNot_n, pIsB_b, pNotB_b, isN_n, isN_b, isN_i, isN_s, isN_t, isN_l, pIx_t, pIx_l, pLen_t, pLen_l, pMin2_i, pMax2_i, pAbs_i, pInt_i, pTuple_t, pTuple_l, pList_t, pList_l, pIadd_i, pSl_t, pSl_l, pEqI, pNeI, pEqS, pNeS, at0, at1, at2, at3, at4, at5, at6, at7, bx_ret, bx_exc, bx_fail, bd_ret, bd_exc, bd_fail, exS_ret, exS_exc, exS_fail, ofO_some, ofO_none, fnE, isi_T, isi_B, isi_I, isi_S, isi_L, sizeL, Option.bind_some, Option.map_some, Option.some.injEq, Int.reduceEq, Int.reduceLE, Int.reduceLT, Int.reduceNeg, Int.reduceAdd, Int.reduceSub, Int.reduceMul, decide_true, decide_false, decide_eq_true_eq, decide_not, eq_self, Int.cast_ofNat_Int, reduceCtorEq, List.length_cons, List.length_nil, List.map_cons, List.map_nil, List.replicate, List.cons_append, List.nil_append, List.append_nil, List.getElem?_cons_zero, List.getElem?_cons_succ, List.getElem?_nil, List.set_cons_zero, List.set_cons_succ, Nat.reduceAdd, Nat.reduceSub, Nat.reduceEqDiff, Nat.reduceLeDiff, Nat.reduceLT, Nat.zero_add, Nat.add_zero, true_and, and_true, false_and, and_false, Bool.not_true, Bool.not_false, Bool.true_and, Bool.and_true, Bool.false_and, Bool.and_false, Bool.or_false, Bool.false_or, Bool.or_true, Bool.true_or, Bool.not_eq_true', if_true, if_false, Bool.false_eq_true, Bool.not_eq_true, ↓reduceIte, ite_true, ite_false, Bool.true_eq_false, not_true_eq_false, not_false_eq_true, Nat.zero_le]
  next ds =>
  match ds with
  | [] => simp only [cf, ftD, opK2, opK, chK4, chK3, chK2, chK, unK, andK, orK, notK, andVK2, andVK, orVK2, orVK, notVK2, notVK, ifVK, ifTK, consK2, consK, tupK, lstK, fzK, slK3, slK2, slK, cbK, coK, isiK, drpK, retK, retOK, ifSK, setK, setOK, nxK, asgK, parK, par3K, augK, appK, wcK, wdK, callK, callOK, callSK2, callSK, forK, lcK, parOK2, parOK, raiseK, bodyX, startE, xSeq, sqF, xNext, xBreak, xCont, xNever, xIfS, xRet, xRetN, xRetV, xRetO, xSet, xSetO, xDrop, xAsg, ygT_t, ygsC, ygsN, ygN, xPar, xPar3, xParO, xAug, xAppend, xFrz, xVar, xC, xOp, xUn, pNeg_i, xTest, asB_b, xAnd, xOr, xNot, xAndV, xOrV, xNotV, xIf, xIfT, xChain, xNil, xCons, xTup, xLst, xFz, xCall, xCallO, xCallS, rOfT_d, rOfT_o, rOwT_o, ywNil, ywDat, ywVar, xCB, xCO, xIsi, xSl, xRev, pRev, xpN, xpS, asI_i, xIxO, xLenO, xLenS, xFor, xWhile, ziT, ziL, itT_t, itL_l, ziR1, ziR2, ziET, ziEL, ziZ, zpT, lrK2, xLr2, xLr1, enT_t, enL_l, xLc, lc2K, xLc2, noOwnB, wipeE, xYes, xRaise, xTry, tyF, xXf, pAdd_i, pAdd_t, pAdd_l, pSub_i, pLt_i, pLe_i, pGt_i, pGe_i, pIs_n, pIsNot_n, pIsB_b, pNotB_b, isN_n, isN_b, isN_i, isN_s, isN_t, isN_l, pIx_t, pIx_l, pLen_t, pLen_l, pMin2_i, pMax2_i, pAbs_i, pInt_i, pTuple_t, pTuple_l, pList_t, pList_l, pIadd_i, pSl_t, pSl_l, pEqI, pNeI, pEqS, pNeS, at0, at1, at2, at3, at4, at5, at6, at7, bx_ret, bx_exc, bx_fail, bd_ret, bd_exc, bd_fail, exS_ret, exS_exc, exS_fail, ofO_some, ofO_none, fnE, isi_T, isi_B, isi_I, isi_S, isi_L, sizeL, Option.bind_some, Option.map_some, Option.some.injEq, Int.reduceEq, Int.reduceLE, Int.reduceLT, Int.reduceNeg, Int.reduceAdd, Int.reduceSub, Int.reduceMul, decide_true, decide_false, decide_eq_true_eq, decide_not, eq_self, Int.cast_ofNat_Int, reduceCtorEq, List.length_cons, List.length_nil, List.map_cons, List.map_nil, List.replicate, List.cons_append, List.nil_append, List.append_nil, List.getElem?_cons_zero, List.getElem?_cons_succ, List.getElem?_nil, List.set_cons_zero, List.set_cons_succ, Nat.reduceAdd, Nat.reduceSub, Nat.reduceEqDiff, Nat.reduceLeDiff, Nat.reduceLT, Nat.zero_add, Nat.add_zero, true_and, and_true, false_and, and_false, Bool.not_true, Bool.not_false, Bool.true_and, Bool.and_true, Bool.false_and, Bool.and_false, Bool.or_false, Bool.false_or, Bool.or_true, Bool.true_or, Bool.not_eq_true', if_true, if_false, Bool.false_eq_true, Bool.not_eq_true, ↓reduceIte, ite_true, ite_false, Bool.true_eq_false, not_true_eq_false, not_false_eq_true, Nat.zero_le]
  | [_] => simp only [cf, ftD, opK2, opK, chK4, chK3, chK2, chK, unK, andK, orK, notK, andVK2, andVK, orVK2, orVK, notVK2, notVK, ifVK, ifTK, consK2, consK, tupK, lstK, fzK, slK3, slK2, slK, cbK, coK, isiK, drpK, retK, retOK, ifSK, setK, setOK, nxK, asgK, parK, par3K, augK, appK, wcK, wdK, callK, callOK, callSK2, callSK, forK, lcK, parOK2, parOK, raiseK, bodyX, startE, xSeq, sqF, xNext, xBreak, xCont, xNever, xIfS, xRet, xRetN, xRetV, xRetO, xSet, xSetO, xDrop, xAsg, ygT_t, ygsC, ygsN, ygN, xPar, xPar3, xParO, xAug, xAppend, xFrz, xVar, xC, xOp, xUn, pNeg_i, xTest, asB_b, xAnd, xOr, xNot, xAndV, xOrV, xNotV, xIf, xIfT, xChain, xNil, xCons, xTup, xLst, xFz, xCall, xCallO, xCallS, rOfT_d, rOfT_o, rOwT_o, ywNil, ywDat, ywVar, xCB, xCO, xIsi, xSl, xRev, pRev, xpN, xpS, asI_i, xIxO, xLenO, xLenS, xFor, xWhile, ziT, ziL, itT_t, itL_l, ziR1, ziR2, ziET, ziEL, ziZ, zpT, lrK2, xLr2, xLr1, enT_t, enL_l, xLc, lc2K, xLc2, noOwnB, wipeE, xYes, xRaise, xTry, tyF, xXf, pAdd_i, pAdd_t, pAdd_l, pSub_i, pLt_i, pLe_i, pGt_i, pGe_i, pIs_n, pIsNot_n, pIsB_b, pNotB_b, isN_n, isN_b, isN_i, isN_s, isN_t, isN_l, pIx_t, pIx_l, pLen_t, pLen_l, pMin2_i, pMax2_i, pAbs_i, pInt_i, pTuple_t, pTuple_l, pList_t, pList_l, pIadd_i, pSl_t, pSl_l, pEqI, pNeI, pEqS, pNeS, at0, at1, at2, at3, at4, at5, at6, at7, bx_ret, bx_exc, bx_fail, bd_ret, bd_exc, bd_fail, exS_ret, exS_exc, exS_fail, ofO_some, ofO_none, fnE, isi_T, isi_B, isi_I, isi_S, isi_L, sizeL, Option.bind_some, Option.map_some, Option.some.injEq, Int.reduceEq, Int.reduceLE, Int.reduceLT, Int.reduceNeg, Int.reduceAdd, Int.reduceSub, Int.reduceMul, decide_true, decide_false, decide_eq_true_eq, decide_not, eq_self, Int.cast_ofNat_Int, reduceCtorEq, List.length_cons, List.length_nil, List.map_cons, List.map_nil, List.replicate, List.cons_append, List.nil_append, List.append_nil, List.getElem?_cons_zero, List.getElem?_cons_succ, List.getElem?_nil, List.set_cons_zero, List.set_cons_succ, Nat.reduceAdd, Nat.reduceSub, Nat.reduceEqDiff, Nat.reduceLeDiff, Nat.reduceLT, Nat.zero_add, Nat.add_zero, true_and, and_true, false_and, and_false, Bool.not_true, Bool.not_false, Bool.true_and, Bool.and_true, Bool.false_and, Bool.and_false, Bool.or_false, Bool.false_or, Bool.or_true, Bool.true_or, Bool.not_eq_true', if_true, if_false, Bool.false_eq_true, Bool.not_eq_true, ↓reduceIte, ite_true, ite_false, Bool.true_eq_false, not_true_eq_false, not_false_eq_true, Nat.zero_le]
  | [_, _] => simp only [cf, ftD, opK2, opK, chK4, chK3, chK2, chK, unK, andK, orK, notK, andVK2, andVK, orVK2, orVK, notVK2, notVK, ifVK, ifTK, consK2, consK, tupK, lstK, fzK, slK3, slK2, slK, cbK, coK, isiK, drpK, retK, retOK, ifSK, setK, setOK, nxK, asgK, parK, par3K, augK, appK, wcK, wdK, callK, callOK, callSK2, callSK, forK, lcK, parOK2, parOK, raiseK, bodyX, startE, xSeq, sqF, xNext, xBreak, xCont, xNever, xIfS, xRet, xRetN, xRetV, xRetO, xSet, xSetO, xDrop, xAsg, ygT_t, ygsC, ygsN, ygN, xPar, xPar3, xParO, xAug, xAppend, xFrz, xVar, xC, xOp, xUn, pNeg_i, xTest, asB_b, xAnd, xOr, xNot, xAndV, xOrV, xNotV, xIf, xIfT, xChain, xNil, xCons, xTup, xLst, xFz, xCall, xCallO, xCallS, rOfT_d, rOfT_o, rOwT_o, ywNil, ywDat, ywVar, xCB, xCO, xIsi, xSl, xRev, pRev, xpN, xpS, asI_i, xIxO, xLenO, xLenS, xFor, xWhile, ziT, ziL, itT_t, itL_l, ziR1, ziR2, ziET, ziEL, ziZ, zpT, lrK2, xLr2, xLr1, enT_t, enL_l, xLc, lc2K, xLc2, noOwnB, wipeE, xYes, xRaise, xTry, tyF, xXf, pAdd_i, pAdd_t, pAdd_l, pSub_i, pLt_i, pLe_i, pGt_i, pGe_i, pIs_n, pIsNot_n, pIsB_b, pNotB_b, isN_n, isN_b, isN_i, isN_s, isN_t, isN_l, pIx_t, pIx_l, pLen_t, pLen_l, pMin2_i, pMax2_i, pAbs_i, pInt_i, pTuple_t, pTuple_l, pList_t, pList_l, pIadd_i, pSl_t, pSl_l, pEqI, pNeI, pEqS, pNeS, at0, at1, at2, at3, at4, at5, at6, at7, bx_ret, bx_exc, bx_fail, bd_ret, bd_exc, bd_fail, exS_ret, exS_exc, exS_fail, ofO_some, ofO_none, fnE, isi_T, isi_B, isi_I, isi_S, isi_L, sizeL, Option.bind_some, Option.map_some, Option.some.injEq, Int.reduceEq, Int.reduceLE, Int.reduceLT, Int.reduceNeg, Int.reduceAdd, Int.reduceSub, Int.reduceMul, decide_true, decide_false, decide_eq_true_eq, decide_not, eq_self, Int.cast_ofNat_Int, reduceCtorEq, List.length_cons, List.length_nil, List.map_cons, List.map_nil, List.replicate, List.cons_append, List.nil_append, List.append_nil, List.getElem?_cons_zero, List.getElem?_cons_succ, List.getElem?_nil, List.set_cons_zero, List.set_cons_succ, Nat.reduceAdd, Nat.reduceSub, Nat.reduceEqDiff, Nat.reduceLeDiff, Nat.reduceLT, Nat.zero_add, Nat.add_zero, true_and, and_true, false_and, and_false, Bool.not_true, Bool.not_false, Bool.true_and, Bool.and_true, Bool.false_and, Bool.and_false, Bool.or_false, Bool.false_or, Bool.or_true, Bool.true_or, Bool.not_eq_true', if_true, if_false, Bool.false_eq_true, Bool.not_eq_true, ↓reduceIte, ite_true, ite_false, Bool.true_eq_false, not_true_eq_false, not_false_eq_true, Nat.zero_le]
  | [_, _, _] => simp only [cf, ftD, opK2, opK, chK4, chK3, chK2, chK, unK, andK, orK, notK, andVK2, andVK, orVK2, orVK, notVK2, notVK, ifVK, ifTK, consK2, consK, tupK, lstK, fzK, slK3, slK2, slK, cbK, coK, isiK, drpK, retK, retOK, ifSK, setK, setOK, nxK, asgK, parK, par3K, augK, appK, wcK, wdK, callK, callOK, callSK2, callSK, forK, lcK, parOK2, parOK, raiseK, bodyX, startE, xSeq, sqF, xNext, xBreak, xCont, xNever, xIfS, xRet, xRetN, xRetV, xRetO, xSet, xSetO, xDrop, xAsg, ygT_t, ygsC, ygsN, ygN, xPar, xPar3, xParO, xAug, xAppend, xFrz, xVar, xC, xOp, xUn, pNeg_i, xTest, asB_b, xAnd, xOr, xNot, xAndV, xOrV, xNotV, xIf, xIfT, xChain, xNil, xCons, xTup, xLst, xFz, xCall, xCallO, xCallS, rOfT_d, rOfT_o, rOwT_o, ywNil, ywDat, ywVar, xCB, xCO, xIsi, xSl, xRev, pRev, xpN, xpS, asI_i, xIxO, xLenO, xLenS, xFor, xWhile, ziT, ziL, itT_t, itL_l, ziR1, ziR2, ziET, ziEL, ziZ, zpT, lrK2, xLr2, xLr1, enT_t, enL_l, xLc, lc2K, xLc2, noOwnB, wipeE, xYes, xRaise, xTry, tyF, xXf, pAdd_i, pAdd_t, pAdd_l, pSub_i, pLt_i, pLe_i, pGt_i, pGe_i, pIs_n, pIsNot_n, pIsB_b, pNotB_b, isN_n, isN_b, isN_i, isN_s, isN_t, isN_l, pIx_t, pIx_l, pLen_t, pLen_l, pMin2_i, pMax2_i, pAbs_i, pInt_i, pTuple_t, pTuple_l, pList_t, pList_l, pIadd_i, pSl_t, pSl_l, pEqI, pNeI, pEqS, pNeS, at0, at1, at2, at3, at4, at5, at6, at7, bx_ret, bx_exc, bx_fail, bd_ret, bd_exc, bd_fail, exS_ret, exS_exc, exS_fail, ofO_some, ofO_none, fnE, isi_T, isi_B, isi_I, isi_S, isi_L, sizeL, Option.bind_some, Option.map_some, Option.some.injEq, Int.reduceEq, Int.reduceLE, Int.reduceLT, Int.reduceNeg, Int.reduceAdd, Int.reduceSub, Int.reduceMul, decide_true, decide_false, decide_eq_true_eq, decide_not, eq_self, Int.cast_ofNat_Int, reduceCtorEq, List.length_cons, List.length_nil, List.map_cons, List.map_nil, List.replicate, List.cons_append, List.nil_append, List.append_nil, List.getElem?_cons_zero, List.getElem?_cons_succ, List.getElem?_nil, List.set_cons_zero, List.set_cons_succ, Nat.reduceAdd, Nat.reduceSub, Nat.reduceEqDiff, Nat.reduceLeDiff, Nat.reduceLT, Nat.zero_add, Nat.add_zero, true_and, and_true, false_and, and_false, Bool.not_true, Bool.not_false, Bool.true_and, Bool.and_true, Bool.false_and, Bool.and_false, Bool.or_false, Bool.false_or, Bool.or_true, Bool.true_or, Bool.not_eq_true', if_true, if_false, Bool.false_eq_true, Bool.not_eq_true, ↓reduceIte, ite_true, ite_false, Bool.true_eq_false, not_true_eq_false, not_false_eq_true, Nat.zero_le]
  | [_, _, _, _] => simp only [cf, ftD, opK2, opK, chK4, chK3, chK2, chK, unK, andK, orK, notK, andVK2, andVK, orVK2, orVK, notVK2, notVK, ifVK, ifTK, consK2, consK, tupK, lstK, fzK, slK3, slK2, slK, cbK, coK, isiK, drpK, retK, retOK, ifSK, setK, setOK, nxK, asgK, parK, par3K, augK, appK, wcK, wdK, callK, callOK, callSK2, callSK, forK, lcK, parOK2, parOK, raiseK, bodyX, startE, xSeq, sqF, xNext, xBreak, xCont, xNever, xIfS, xRet, xRetN, xRetV, xRetO, xSet, xSetO, xDrop, xAsg, ygT_t, ygsC, ygsN, ygN, xPar, xPar3, xParO, xAug, xAppend, xFrz, xVar, xC, xOp, xUn, pNeg_i, xTest, asB_b, xAnd, xOr, xNot, xAndV, xOrV, xNotV, xIf, xIfT, xChain, xNil, xCons, xTup, xLst, xFz, xCall, xCallO, xCallS, rOfT_d, rOfT_o, rOwT_o, ywNil, ywDat, ywVar, xCB, xCO, xIsi, xSl, xRev, pRev, xpN, xpS, asI_i, xIxO, xLenO, xLenS, xFor, xWhile, ziT, ziL, itT_t, itL_l, ziR1, ziR2, ziET, ziEL, ziZ, zpT, lrK2, xLr2, xLr1, enT_t, enL_l, xLc, lc2K, xLc2, noOwnB, wipeE, xYes, xRaise, xTry, tyF, xXf, pAdd_i, pAdd_t, pAdd_l, pSub_i, pLt_i, pLe_i, pGt_i, pGe_i, pIs_n, pIsNot_n, pIsB_b, pNotB_b, isN_n, isN_b, isN_i, isN_s, isN_t, isN_l, pIx_t, pIx_l, pLen_t, pLen_l, pMin2_i, pMax2_i, pAbs_i, pInt_i, pTuple_t, pTuple_l, pList_t, pList_l, pIadd_i, pSl_t, pSl_l, pEqI, pNeI, pEqS, pNeS, at0, at1, at2, at3, at4, at5, at6, at7, bx_ret, bx_exc, bx_fail, bd_ret, bd_exc, bd_fail, exS_ret, exS_exc, exS_fail, ofO_some, ofO_none, fnE, isi_T, isi_B, isi_I, isi_S, isi_L, sizeL, Option.bind_some, Option.map_some, Option.some.injEq, Int.reduceEq, Int.reduceLE, Int.reduceLT, Int.reduceNeg, Int.reduceAdd, Int.reduceSub, Int.reduceMul, decide_true, decide_false, decide_eq_true_eq, decide_not, eq_self, Int.cast_ofNat_Int, reduceCtorEq, List.length_cons, List.length_nil, List.map_cons, List.map_nil, List.replicate, List.cons_append, List.nil_append, List.append_nil, List.getElem?_cons_zero, List.getElem?_cons_succ, List.getElem?_nil, List.set_cons_zero, List.set_cons_succ, Nat.reduceAdd, Nat.reduceSub, Nat.reduceEqDiff, Nat.reduceLeDiff, Nat.reduceLT, Nat.zero_add, Nat.add_zero, true_and, and_true, false_and, and_false, Bool.not_true, Bool.not_false, Bool.true_and, Bool.and_true, Bool.false_and, Bool.and_false, Bool.or_false, Bool.false_or, Bool.or_true, Bool.true_or, Bool.not_eq_true', if_true, if_false, Bool.false_eq_true, Bool.not_eq_true, ↓reduceIte, ite_true, ite_false, Bool.true_eq_false, not_true_eq_false, not_false_eq_true, Nat.zero_le]
  | _ :: _ :: _ :: _ :: _ :: _ :: r =>
    have e : ¬ (((r.length + 1 + 1 + 1 + 1 + 1 + 1 : Nat) : Int) = 5) := by omega
    simp only [cf, ftD, e, opK2, opK, chK4, chK3, chK2, chK, unK, andK, orK, notK, andVK2, andVK, orVK2, orVK, notVK2, notVK, ifVK, ifTK, consK2, consK, tupK, lstK, fzK, slK3, slK2, slK, cbK, coK, isiK, drpK, retK, retOK, ifSK, setK, setOK, nxK, asgK, parK, par3K, augK, appK, wcK, wdK, callK, callOK, callSK2, callSK, forK, lcK, parOK2, parOK, raiseK, bodyX, startE, xSeq, sqF, xNext, xBreak, xCont, xNever, xIfS, xRet, xRetN, xRetV, xRetO, xSet, xSetO, xDrop, xAsg, ygT_t, ygsC, ygsN, ygN, xPar, xPar3, xParO, xAug, xAppend, xFrz, xVar, xC, xOp, xUn, pNeg_i, xTest, asB_b, xAnd, xOr, xNot, xAndV, xOrV, xNotV, xIf, xIfT, xChain, xNil, xCons, xTup, xLst, xFz, xCall, xCallO, xCallS, rOfT_d, rOfT_o, rOwT_o, ywNil, ywDat, ywVar, xCB, xCO, xIsi, xSl, xRev, pRev, xpN, xpS, asI_i, xIxO, xLenO, xLenS, xFor, xWhile, ziT, ziL, itT_t, itL_l, ziR1, ziR2, ziET, ziEL, ziZ, zpT, lrK2, xLr2, xLr1, enT_t, enL_l, xLc, lc2K, xLc2, noOwnB, wipeE, xYes, xRaise, xTry, tyF, xXf, pAdd_i, pAdd_t, pAdd_l, pSub_i, pLt_i, pLe_i, pGt_i, pGe_i, pIs_n, pIsNot_n, pIsB_b, pNotB_b, isN_n, isN_b, isN_i, isN_s, isN_t, isN_l, pIx_t, pIx_l, pLen_t, pLen_l, pMin2_i, pMax2_i, pAbs_i, pInt_i, pTuple_t, pTuple_l, pList_t, pList_l, pIadd_i, pSl_t, pSl_l, pEqI, pNeI, pEqS, pNeS, at0, at1, at2, at3, at4, at5, at6, at7, bx_ret, bx_exc, bx_fail, bd_ret, bd_exc, bd_fail, exS_ret, exS_exc, exS_fail, ofO_some, ofO_none, fnE, isi_T, isi_B, isi_I, isi_S, isi_L, sizeL, Option.bind_some, Option.map_some, Option.some.injEq, Int.reduceEq, Int.reduceLE, Int.reduceLT, Int.reduceNeg, Int.reduceAdd, Int.reduceSub, Int.reduceMul, decide_true, decide_false, decide_eq_true_eq, decide_not, eq_self, Int.cast_ofNat_Int, reduceCtorEq, List.length_cons, List.length_nil, List.map_cons, List.map_nil, List.replicate, List.cons_append, List.nil_append, List.append_nil, List.getElem?_cons_zero, List.getElem?_cons_succ, List.getElem?_nil, List.set_cons_zero, List.set_cons_succ, Nat.reduceAdd, Nat.reduceSub, Nat.reduceEqDiff, Nat.reduceLeDiff, Nat.reduceLT, Nat.zero_add, Nat.add_zero, true_and, and_true, false_and, and_false, Bool.not_true, Bool.not_false, Bool.true_and, Bool.and_true, Bool.false_and, Bool.and_false, Bool.or_false, Bool.false_or, Bool.or_true, Bool.true_or, Bool.not_eq_true', if_true, if_false, Bool.false_eq_true, Bool.not_eq_true, ↓reduceIte, ite_true, ite_false, Bool.true_eq_false, not_true_eq_false, not_false_eq_true, Nat.zero_le]
  | [low, high, steps, moves, fade] =>
    simp only [cf, r_lwhole, opK2, opK, chK4, chK3, chK2, chK, unK, andK, orK, notK, andVK2, andVK, orVK2, orVK, notVK2, notVK, ifVK, ifTK, consK2, consK, tupK, lstK, fzK, slK3, slK2, slK, cbK, coK, isiK, drpK, retK, retOK, ifSK, setK, setOK, nxK, asgK, parK, par3K, augK, appK, wcK, wdK, callK, callOK, callSK2, callSK, forK, lcK, parOK2, parOK, raiseK, bodyX, startE, xSeq, sqF, xNext, xBreak, xCont, xNever, xIfS, xRet, xRetN, xRetV, xRetO, xSet, xSetO, xDrop, xAsg, ygT_t, ygsC, ygsN, ygN, xPar, xPar3, xParO, xAug, xAppend, xFrz, xVar, xC, xOp, xUn, pNeg_i, xTest, asB_b, xAnd, xOr, xNot, xAndV, xOrV, xNotV, xIf, xIfT, xChain, xNil, xCons, xTup, xLst, xFz, xCall, xCallO, xCallS, rOfT_d, rOfT_o, rOwT_o, ywNil, ywDat, ywVar, xCB, xCO, xIsi, xSl, xRev, pRev, xpN, xpS, asI_i, xIxO, xLenO, xLenS, xFor, xWhile, ziT, ziL, itT_t, itL_l, ziR1, ziR2, ziET, ziEL, ziZ, zpT, lrK2, xLr2, xLr1, enT_t, enL_l, xLc, lc2K, xLc2, noOwnB, wipeE, xYes, xRaise, xTry, tyF, xXf, pAdd_i, pAdd_t, pAdd_l, pSub_i, pLt_i, pLe_i, pGt_i, pGe_i, pIs_n, pIsNot_n, pIsB_b, pNotB_b, isN_n, isN_b, isN_i, isN_s, isN_t, isN_l, pIx_t, pIx_l, pLen_t, pLen_l, pMin2_i, pMax2_i, pAbs_i, pInt_i, pTuple_t, pTuple_l, pList_t, pList_l, pIadd_i, pSl_t, pSl_l, pEqI, pNeI, pEqS, pNeS, at0, at1, at2, at3, at4, at5, at6, at7, bx_ret, bx_exc, bx_fail, bd_ret, bd_exc, bd_fail, exS_ret, exS_exc, exS_fail, ofO_some, ofO_none, fnE, isi_T, isi_B, isi_I, isi_S, isi_L, sizeL, Option.bind_some, Option.map_some, Option.some.injEq, Int.reduceEq, Int.reduceLE, Int.reduceLT, Int.reduceNeg, Int.reduceAdd, Int.reduceSub, Int.reduceMul, decide_true, decide_false, decide_eq_true_eq, decide_not, eq_self, Int.cast_ofNat_Int, reduceCtorEq, List.length_cons, List.length_nil, List.map_cons, List.map_nil, List.replicate, List.cons_append, List.nil_append, List.append_nil, List.getElem?_cons_zero, List.getElem?_cons_succ, List.getElem?_nil, List.set_cons_zero, List.set_cons_succ, Nat.reduceAdd, Nat.reduceSub, Nat.reduceEqDiff, Nat.reduceLeDiff, Nat.reduceLT, Nat.zero_add, Nat.add_zero, true_and, and_true, false_and, and_false, Bool.not_true, Bool.not_false, Bool.true_and, Bool.and_true, Bool.false_and, Bool.and_false, Bool.or_false, Bool.false_or, Bool.or_true, Bool.true_or, Bool.not_eq_true', if_true, if_false, Bool.false_eq_true, Bool.not_eq_true, ↓reduceIte, ite_true, ite_false, Bool.true_eq_false, not_true_eq_false, not_false_eq_true, Nat.zero_le]
    cases wh low (-32768) 0 with
    | false => simp only [ftD, opK2, opK, chK4, chK3, chK2, chK, unK, andK, orK, notK, andVK2, andVK, orVK2, orVK, notVK2, notVK, ifVK, ifTK, consK2, consK, tupK, lstK, fzK, slK3, slK2, slK, cbK, coK, isiK, drpK, retK, retOK, ifSK, setK, setOK, nxK, asgK, parK, par3K, augK, appK, wcK, wdK, callK, callOK, callSK2, callSK, forK, lcK, parOK2, parOK, raiseK, bodyX, startE, xSeq, sqF, xNext, xBreak, xCont, xNever, xIfS, xRet, xRetN, xRetV, xRetO, xSet, xSetO, xDrop, xAsg, ygT_t, ygsC, ygsN, ygN, xPar, xPar3, xParO, xAug, xAppend, xFrz, xVar, xC, xOp, xUn, pNeg_i, xTest, asB_b, xAnd, xOr, xNot, xAndV, xOrV, xNotV, xIf, xIfT, xChain, xNil, xCons, xTup, xLst, xFz, xCall, xCallO, xCallS, rOfT_d, rOfT_o, rOwT_o, ywNil, ywDat, ywVar, xCB, xCO, xIsi, xSl, xRev, pRev, xpN, xpS, asI_i, xIxO, xLenO, xLenS, xFor, xWhile, ziT, ziL, itT_t, itL_l, ziR1, ziR2, ziET, ziEL, ziZ, zpT, lrK2, xLr2, xLr1, enT_t, enL_l, xLc, lc2K, xLc2, noOwnB, wipeE, xYes, xRaise, xTry, tyF, xXf, pAdd_i, pAdd_t, pAdd_l, pSub_i, pLt_i, pLe_i, pGt_i, pGe_i, pIs_n, pIsNot_n, pIsB_b, pNotB_b, isN_n, isN_b, isN_i, isN_s, isN_t, isN_l, pIx_t, pIx_l, pLen_t, pLen_l, pMin2_i, pMax2_i, pAbs_i, pInt_i, pTuple_t, pTuple_l, pList_t, pList_l, pIadd_i, pSl_t, pSl_l, pEqI, pNeI, pEqS, pNeS, at0, at1, at2, at3, at4, at5, at6, at7, bx_ret, bx_exc, bx_fail, bd_ret, bd_exc, bd_fail, exS_ret, exS_exc, exS_fail, ofO_some, ofO_none, fnE, isi_T, isi_B, isi_I, isi_S, isi_L, sizeL, Option.bind_some, Option.map_some, Option.some.injEq, Int.reduceEq, Int.reduceLE, Int.reduceLT, Int.reduceNeg, Int.reduceAdd, Int.reduceSub, Int.reduceMul, decide_true, decide_false, decide_eq_true_eq, decide_not, eq_self, Int.cast_ofNat_Int, reduceCtorEq, List.length_cons, List.length_nil, List.map_cons, List.map_nil, List.replicate, List.cons_append, List.nil_append, List.append_nil, List.getElem?_cons_zero, List.getElem?_cons_succ, List.getElem?_nil, List.set_cons_zero, List.set_cons_succ, Nat.reduceAdd, Nat.reduceSub, Nat.reduceEqDiff, Nat.reduceLeDiff, Nat.reduceLT, Nat.zero_add, Nat.add_zero, true_and, and_true, false_and, and_false, Bool.not_true, Bool.not_false, Bool.true_and, Bool.and_true, Bool.false_and, Bool.and_false, Bool.or_false, Bool.false_or, Bool.or_true, Bool.true_or, Bool.not_eq_true', if_true, if_false, Bool.false_eq_true, Bool.not_eq_true, ↓reduceIte, ite_true, ite_false, Bool.true_eq_false, not_true_eq_false, not_false_eq_true, Nat.zero_le]
    | true =>
      simp only [r_lwhole, opK2, opK, chK4, chK3, chK2, chK, unK, andK, orK, notK, andVK2, andVK, orVK2, orVK, notVK2, notVK, ifVK, ifTK, consK2, consK, tupK, lstK, fzK, slK3, slK2, slK, cbK, coK, isiK, drpK, retK, retOK, ifSK, setK, setOK, nxK, asgK, parK, par3K, augK, appK, wcK, wdK, callK, callOK, callSK2, callSK, forK, lcK, parOK2, parOK, raiseK, bodyX, startE, xSeq, sqF, xNext, xBreak, xCont, xNever, xIfS, xRet, xRetN, xRetV, xRetO, xSet, xSetO, xDrop, xAsg, ygT_t, ygsC, ygsN, ygN, xPar, xPar3, xParO, xAug, xAppend, xFrz, xVar, xC, xOp, xUn, pNeg_i, xTest, asB_b, xAnd, xOr, xNot, xAndV, xOrV, xNotV, xIf, xIfT, xChain, xNil, xCons, xTup, xLst, xFz, xCall, xCallO, xCallS, rOfT_d, rOfT_o, rOwT_o, ywNil, ywDat, ywVar, xCB, xCO, xIsi, xSl, xRev, pRev, xpN, xpS, asI_i, xIxO, xLenO, xLenS, xFor, xWhile, ziT, ziL, itT_t, itL_l, ziR1, ziR2, ziET, ziEL, ziZ, zpT, lrK2, xLr2, xLr1, enT_t, enL_l, xLc, lc2K, xLc2, noOwnB, wipeE, xYes, xRaise, xTry, tyF, xXf, pAdd_i, pAdd_t, pAdd_l, pSub_i, pLt_i, pLe_i, pGt_i, pGe_i, pIs_n, pIsNot_n, pIsB_b, pNotB_b, isN_n, isN_b, isN_i, isN_s, isN_t, isN_l, pIx_t, pIx_l, pLen_t, pLen_l, pMin2_i, pMax2_i, pAbs_i, pInt_i, pTuple_t, pTuple_l, pList_t, pList_l, pIadd_i, pSl_t, pSl_l, pEqI, pNeI, pEqS, pNeS, at0, at1, at2, at3, at4, at5, at6, at7, bx_ret, bx_exc, bx_fail, bd_ret, bd_exc, bd_fail, exS_ret, exS_exc, exS_fail, ofO_some, ofO_none, fnE, isi_T, isi_B, isi_I, isi_S, isi_L, sizeL, Option.bind_some, Option.map_some, Option.some.injEq, Int.reduceEq, Int.reduceLE, Int.reduceLT, Int.reduceNeg, Int.reduceAdd, Int.reduceSub, Int.reduceMul, decide_true, decide_false, decide_eq_true_eq, decide_not, eq_self, Int.cast_ofNat_Int, reduceCtorEq, List.length_cons, List.length_nil, List.map_cons, List.map_nil, List.replicate, List.cons_append, List.nil_append, List.append_nil, List.getElem?_cons_zero, List.getElem?_cons_succ, List.getElem?_nil, List.set_cons_zero, List.set_cons_succ, Nat.reduceAdd, Nat.reduceSub, Nat.reduceEqDiff, Nat.reduceLeDiff, Nat.reduceLT, Nat.zero_add, Nat.add_zero, true_and, and_true, false_and, and_false, Bool.not_true, Bool.not_false, Bool.true_and, Bool.and_true, Bool.false_and, Bool.and_false, Bool.or_false, Bool.false_or, Bool.or_true, Bool.true_or, Bool.not_eq_true', if_true, if_false, Bool.false_eq_true, Bool.not_eq_true, ↓reduceIte, ite_true, ite_false, Bool.true_eq_false, not_true_eq_false, not_false_eq_true, Nat.zero_le]
      cases wh high 0 32767 with
      | false => simp only [ftD, opK2, opK, chK4, chK3, chK2, chK, unK, andK, orK, notK, andVK2, andVK, orVK2, orVK, notVK2, notVK, ifVK, ifTK, consK2, consK, tupK, lstK, fzK, slK3, slK2, slK, cbK, coK, isiK, drpK, retK, retOK, ifSK, setK, setOK, nxK, asgK, parK, par3K, augK, appK, wcK, wdK, callK, callOK, callSK2, callSK, forK, lcK, parOK2, parOK, raiseK, bodyX, startE, xSeq, sqF, xNext, xBreak, xCont, xNever, xIfS, xRet, xRetN, xRetV, xRetO, xSet, xSetO, xDrop, xAsg, ygT_t, ygsC, ygsN, ygN, xPar, xPar3, xParO, xAug, xAppend, xFrz, xVar, xC, xOp, xUn, pNeg_i, xTest, asB_b, xAnd, xOr, xNot, xAndV, xOrV, xNotV, xIf, xIfT, xChain, xNil, xCons, xTup, xLst, xFz, xCall, xCallO, xCallS, rOfT_d, rOfT_o, rOwT_o, ywNil, ywDat, ywVar, xCB, xCO, xIsi, xSl, xRev, pRev, xpN, xpS, asI_i, xIxO, xLenO, xLenS, xFor, xWhile, ziT, ziL, itT_t, itL_l, ziR1, ziR2, ziET, ziEL, ziZ, zpT, lrK2, xLr2, xLr1, enT_t, enL_l, xLc, lc2K, xLc2, noOwnB, wipeE, xYes, xRaise, xTry, tyF, xXf, pAdd_i, pAdd_t, pAdd_l, pSub_i, pLt_i, pLe_i, pGt_i, pGe_i, pIs_n, pIsNot_n, pIsB_b, pNotB_b, isN_n, isN_b, isN_i, isN_s, isN_t, isN_l, pIx_t, pIx_l, pLen_t, pLen_l, pMin2_i, pMax2_i, pAbs_i, pInt_i, pTuple_t, pTuple_l, pList_t, pList_l, pIadd_i, pSl_t, pSl_l, pEqI, pNeI, pEqS, pNeS, at0, at1, at2, at3, at4, at5, at6, at7, bx_ret, bx_exc, bx_fail, bd_ret, bd_exc, bd_fail, exS_ret, exS_exc, exS_fail, ofO_some, ofO_none, fnE, isi_T, isi_B, isi_I, isi_S, isi_L, sizeL, Option.bind_some, Option.map_some, Option.some.injEq, Int.reduceEq, Int.reduceLE, Int.reduceLT, Int.reduceNeg, Int.reduceAdd, Int.reduceSub, Int.reduceMul, decide_true, decide_false, decide_eq_true_eq, decide_not, eq_self, Int.cast_ofNat_Int, reduceCtorEq, List.length_cons, List.length_nil, List.map_cons, List.map_nil, List.replicate, List.cons_append, List.nil_append, List.append_nil, List.getElem?_cons_zero, List.getElem?_cons_succ, List.getElem?_nil, List.set_cons_zero, List.set_cons_succ, Nat.reduceAdd, Nat.reduceSub, Nat.reduceEqDiff, Nat.reduceLeDiff, Nat.reduceLT, Nat.zero_add, Nat.add_zero, true_and, and_true, false_and, and_false, Bool.not_true, Bool.not_false, Bool.true_and, Bool.and_true, Bool.false_and, Bool.and_false, Bool.or_false, Bool.false_or, Bool.or_true, Bool.true_or, Bool.not_eq_true', if_true, if_false, Bool.false_eq_true, Bool.not_eq_true, ↓reduceIte, ite_true, ite_false, Bool.true_eq_false, not_true_eq_false, not_false_eq_true, Nat.zero_le]
      | true =>
        simp only [r_lwhole, opK2, opK, chK4, chK3, chK2, chK, unK, andK, orK, notK, andVK2, andVK, orVK2, orVK, notVK2, notVK, ifVK, ifTK, consK2, consK, tupK, lstK, fzK, slK3, slK2, slK, cbK, coK, isiK, drpK, retK, retOK, ifSK, setK, setOK, nxK, asgK, parK, par3K, augK, appK, wcK, wdK, callK, callOK, callSK2, callSK, forK, lcK, parOK2, parOK, raiseK, bodyX, startE, xSeq, sqF, xNext, xBreak, xCont, xNever, xIfS, xRet, xRetN, xRetV, xRetO, xSet, xSetO, xDrop, xAsg, ygT_t, ygsC, ygsN, ygN, xPar, xPar3, xParO, xAug, xAppend, xFrz, xVar, xC, xOp, xUn, pNeg_i, xTest, asB_b, xAnd, xOr, xNot, xAndV, xOrV, xNotV, xIf, xIfT, xChain, xNil, xCons, xTup, xLst, xFz, xCall, xCallO, xCallS, rOfT_d, rOfT_o, rOwT_o, ywNil, ywDat, ywVar, xCB, xCO, xIsi, xSl, xRev, pRev, xpN, xpS, asI_i, xIxO, xLenO, xLenS, xFor, xWhile, ziT, ziL, itT_t, itL_l, ziR1, ziR2, ziET, ziEL, ziZ, zpT, lrK2, xLr2, xLr1, enT_t, enL_l, xLc, lc2K, xLc2, noOwnB, wipeE, xYes, xRaise, xTry, tyF, xXf, pAdd_i, pAdd_t, pAdd_l, pSub_i, pLt_i, pLe_i, pGt_i, pGe_i, pIs_n, pIsNot_n, pIsB_b, pNotB_b, isN_n, isN_b, isN_i, isN_s, isN_t, isN_l, pIx_t, pIx_l, pLen_t, pLen_l, pMin2_i, pMax2_i, pAbs_i, pInt_i, pTuple_t, pTuple_l, pList_t, pList_l, pIadd_i, pSl_t, pSl_l, pEqI, pNeI, pEqS, pNeS, at0, at1, at2, at3, at4, at5, at6, at7, bx_ret, bx_exc, bx_fail, bd_ret, bd_exc, bd_fail, exS_ret, exS_exc, exS_fail, ofO_some, ofO_none, fnE, isi_T, isi_B, isi_I, isi_S, isi_L, sizeL, Option.bind_some, Option.map_some, Option.some.injEq, Int.reduceEq, Int.reduceLE, Int.reduceLT, Int.reduceNeg, Int.reduceAdd, Int.reduceSub, Int.reduceMul, decide_true, decide_false, decide_eq_true_eq, decide_not, eq_self, Int.cast_ofNat_Int, reduceCtorEq, List.length_cons, List.length_nil, List.map_cons, List.map_nil, List.replicate, List.cons_append, List.nil_append, List.append_nil, List.getElem?_cons_zero, List.getElem?_cons_succ, List.getElem?_nil, List.set_cons_zero, List.set_cons_succ, Nat.reduceAdd, Nat.reduceSub, Nat.reduceEqDiff, Nat.reduceLeDiff, Nat.reduceLT, Nat.zero_add, Nat.add_zero, true_and, and_true, false_and, and_false, Bool.not_true, Bool.not_false, Bool.true_and, Bool.and_true, Bool.false_and, Bool.and_false, Bool.or_false, Bool.false_or, Bool.or_true, Bool.true_or, Bool.not_eq_true', if_true, if_false, Bool.false_eq_true, Bool.not_eq_true, ↓reduceIte, ite_true, ite_false, Bool.true_eq_false, not_true_eq_false, not_false_eq_true, Nat.zero_le]
        rcases rowJ "steps" (fun d => wh d 1 9999) 1 16 (by decide) steps with ⟨e, hs⟩ | ⟨xs, rfl, h, hl, hj⟩
        · rw [e]
          cases steps with
          | tuple xs =>
            have h := hs xs rfl
            by_cases h1 : 1 ≤ (xs.length : Int)
            · have h2 : ¬ (xs.length : Int) ≤ 16 := fun h2 => by rw [inR_of h1 h2] at h; cases h
              simp only [ftD, h1, h2, opK2, opK, chK4, chK3, chK2, chK, unK, andK, orK, notK, andVK2, andVK, orVK2, orVK, notVK2, notVK, ifVK, ifTK, consK2, consK, tupK, lstK, fzK, slK3, slK2, slK, cbK, coK, isiK, drpK, retK, retOK, ifSK, setK, setOK, nxK, asgK, parK, par3K, augK, appK, wcK, wdK, callK, callOK, callSK2, callSK, forK, lcK, parOK2, parOK, raiseK, bodyX, startE, xSeq, sqF, xNext, xBreak, xCont, xNever, xIfS, xRet, xRetN, xRetV, xRetO, xSet, xSetO, xDrop, xAsg, ygT_t, ygsC, ygsN, ygN, xPar, xPar3, xParO, xAug, xAppend, xFrz, xVar, xC, xOp, xUn, pNeg_i, xTest, asB_b, xAnd, xOr, xNot, xAndV, xOrV, xNotV, xIf, xIfT, xChain, xNil, xCons, xTup, xLst, xFz, xCall, xCallO, xCallS, rOfT_d, rOfT_o, rOwT_o, ywNil, ywDat, ywVar, xCB, xCO, xIsi, xSl, xRev, pRev, xpN, xpS, asI_i, xIxO, xLenO, xLenS, xFor, xWhile, ziT, ziL, itT_t, itL_l, ziR1, ziR2, ziET, ziEL, ziZ, zpT, lrK2, xLr2, xLr1, enT_t, enL_l, xLc, lc2K, xLc2, noOwnB, wipeE, xYes, xRaise, xTry, tyF, xXf, pAdd_i, pAdd_t, pAdd_l, pSub_i, pLt_i, pLe_i, pGt_i, pGe_i, pIs_n, pIsNot_n, pIsB_b, pNotB_b, isN_n, isN_b, isN_i, isN_s, isN_t, isN_l, pIx_t, pIx_l, pLen_t, pLen_l, pMin2_i, pMax2_i, pAbs_i, pInt_i, pTuple_t, pTuple_l, pList_t, pList_l, pIadd_i, pSl_t, pSl_l, pEqI, pNeI, pEqS, pNeS, at0, at1, at2, at3, at4, at5, at6, at7, bx_ret, bx_exc, bx_fail, bd_ret, bd_exc, bd_fail, exS_ret, exS_exc, exS_fail, ofO_some, ofO_none, fnE, isi_T, isi_B, isi_I, isi_S, isi_L, sizeL, Option.bind_some, Option.map_some, Option.some.injEq, Int.reduceEq, Int.reduceLE, Int.reduceLT, Int.reduceNeg, Int.reduceAdd, Int.reduceSub, Int.reduceMul, decide_true, decide_false, decide_eq_true_eq, decide_not, eq_self, Int.cast_ofNat_Int, reduceCtorEq, List.length_cons, List.length_nil, List.map_cons, List.map_nil, List.replicate, List.cons_append, List.nil_append, List.append_nil, List.getElem?_cons_zero, List.getElem?_cons_succ, List.getElem?_nil, List.set_cons_zero, List.set_cons_succ, Nat.reduceAdd, Nat.reduceSub, Nat.reduceEqDiff, Nat.reduceLeDiff, Nat.reduceLT, Nat.zero_add, Nat.add_zero, true_and, and_true, false_and, and_false, Bool.not_true, Bool.not_false, Bool.true_and, Bool.and_true, Bool.false_and, Bool.and_false, Bool.or_false, Bool.false_or, Bool.or_true, Bool.true_or, Bool.not_eq_true', if_true, if_false, Bool.false_eq_true, Bool.not_eq_true, ↓reduceIte, ite_true, ite_false, Bool.true_eq_false, not_true_eq_false, not_false_eq_true, Nat.zero_le]
            · simp only [ftD, h1, opK2, opK, chK4, chK3, chK2, chK, unK, andK, orK, notK, andVK2, andVK, orVK2, orVK, notVK2, notVK, ifVK, ifTK, consK2, consK, tupK, lstK, fzK, slK3, slK2, slK, cbK, coK, isiK, drpK, retK, retOK, ifSK, setK, setOK, nxK, asgK, parK, par3K, augK, appK, wcK, wdK, callK, callOK, callSK2, callSK, forK, lcK, parOK2, parOK, raiseK, bodyX, startE, xSeq, sqF, xNext, xBreak, xCont, xNever, xIfS, xRet, xRetN, xRetV, xRetO, xSet, xSetO, xDrop, xAsg, ygT_t, ygsC, ygsN, ygN, xPar, xPar3, xParO, xAug, xAppend, xFrz, xVar, xC, xOp, xUn, pNeg_i, xTest, asB_b, xAnd, xOr, xNot, xAndV, xOrV, xNotV, xIf, xIfT, xChain, xNil, xCons, xTup, xLst, xFz, xCall, xCallO, xCallS, rOfT_d, rOfT_o, rOwT_o, ywNil, ywDat, ywVar, xCB, xCO, xIsi, xSl, xRev, pRev, xpN, xpS, asI_i, xIxO, xLenO, xLenS, xFor, xWhile, ziT, ziL, itT_t, itL_l, ziR1, ziR2, ziET, ziEL, ziZ, zpT, lrK2, xLr2, xLr1, enT_t, enL_l, xLc, lc2K, xLc2, noOwnB, wipeE, xYes, xRaise, xTry, tyF, xXf, pAdd_i, pAdd_t, pAdd_l, pSub_i, pLt_i, pLe_i, pGt_i, pGe_i, pIs_n, pIsNot_n, pIsB_b, pNotB_b, isN_n, isN_b, isN_i, isN_s, isN_t, isN_l, pIx_t, pIx_l, pLen_t, pLen_l, pMin2_i, pMax2_i, pAbs_i, pInt_i, pTuple_t, pTuple_l, pList_t, pList_l, pIadd_i, pSl_t, pSl_l, pEqI, pNeI, pEqS, pNeS, at0, at1, at2, at3, at4, at5, at6, at7, bx_ret, bx_exc, bx_fail, bd_ret, bd_exc, bd_fail, exS_ret, exS_exc, exS_fail, ofO_some, ofO_none, fnE, isi_T, isi_B, isi_I, isi_S, isi_L, sizeL, Option.bind_some, Option.map_some, Option.some.injEq, Int.reduceEq, Int.reduceLE, Int.reduceLT, Int.reduceNeg, Int.reduceAdd, Int.reduceSub, Int.reduceMul, decide_true, decide_false, decide_eq_true_eq, decide_not, eq_self, Int.cast_ofNat_Int, reduceCtorEq, List.length_cons, List.length_nil, List.map_cons, List.map_nil, List.replicate, List.cons_append, List.nil_append, List.append_nil, List.getElem?_cons_zero, List.getElem?_cons_succ, List.getElem?_nil, List.set_cons_zero, List.set_cons_succ, Nat.reduceAdd, Nat.reduceSub, Nat.reduceEqDiff, Nat.reduceLeDiff, Nat.reduceLT, Nat.zero_add, Nat.add_zero, true_and, and_true, false_and, and_false, Bool.not_true, Bool.not_false, Bool.true_and, Bool.and_true, Bool.false_and, Bool.and_false, Bool.or_false, Bool.false_or, Bool.or_true, Bool.true_or, Bool.not_eq_true', if_true, if_false, Bool.false_eq_true, Bool.not_eq_true, ↓reduceIte, ite_true, ite_false, Bool.true_eq_false, not_true_eq_false, not_false_eq_true, Nat.zero_le]
          | _ => simp only [ftD, opK2, opK, chK4, chK3, chK2, chK, unK, andK, orK, notK, andVK2, andVK, orVK2, orVK, notVK2, notVK, ifVK, ifTK, consK2, consK, tupK, lstK, fzK, slK3, slK2, slK, cbK, coK, isiK, drpK, retK, retOK, ifSK, setK, setOK, nxK, asgK, parK, par3K, augK, appK, wcK, wdK, callK, callOK, callSK2, callSK, forK, lcK, parOK2, parOK, raiseK, bodyX, startE, xSeq, sqF, xNext, xBreak, xCont, xNever, xIfS, xRet, xRetN, xRetV, xRetO, xSet, xSetO, xDrop, xAsg, ygT_t, ygsC, ygsN, ygN, xPar, xPar3, xParO, xAug, xAppend, xFrz, xVar, xC, xOp, xUn, pNeg_i, xTest, asB_b, xAnd, xOr, xNot, xAndV, xOrV, xNotV, xIf, xIfT, xChain, xNil, xCons, xTup, xLst, xFz, xCall, xCallO, xCallS, rOfT_d, rOfT_o, rOwT_o, ywNil, ywDat, ywVar, xCB, xCO, xIsi, xSl, xRev, pRev, xpN, xpS, asI_i, xIxO, xLenO, xLenS, xFor, xWhile, ziT, ziL, itT_t, itL_l, ziR1, ziR2, ziET, ziEL, ziZ, zpT, lrK2, xLr2, xLr1, enT_t, enL_l, xLc, lc2K, xLc2, noOwnB, wipeE, xYes, xRaise, xTry, tyF, xXf, pAdd_i, pAdd_t, pAdd_l, pSub_i, pLt_i, pLe_i, pGt_i, pGe_i, pIs_n, pIsNot_n, pIsB_b, pNotB_b, isN_n, isN_b, isN_i, isN_s, isN_t, isN_l, pIx_t, pIx_l, pLen_t, pLen_l, pMin2_i, pMax2_i, pAbs_i, pInt_i, pTuple_t, pTuple_l, pList_t, pList_l, pIadd_i, pSl_t, pSl_l, pEqI, pNeI, pEqS, pNeS, at0, at1, at2, at3, at4, at5, at6, at7, bx_ret, bx_exc, bx_fail, bd_ret, bd_exc, bd_fail, exS_ret, exS_exc, exS_fail, ofO_some, ofO_none, fnE, isi_T, isi_B, isi_I, isi_S, isi_L, sizeL, Option.bind_some, Option.map_some, Option.some.injEq, Int.reduceEq, Int.reduceLE, Int.reduceLT, Int.reduceNeg, Int.reduceAdd, Int.reduceSub, Int.reduceMul, decide_true, decide_false, decide_eq_true_eq, decide_not, eq_self, Int.cast_ofNat_Int, reduceCtorEq, List.length_cons, List.length_nil, List.map_cons, List.map_nil, List.replicate, List.cons_append, List.nil_append, List.append_nil, List.getElem?_cons_zero, List.getElem?_cons_succ, List.getElem?_nil, List.set_cons_zero, List.set_cons_succ, Nat.reduceAdd, Nat.reduceSub, Nat.reduceEqDiff, Nat.reduceLeDiff, Nat.reduceLT, Nat.zero_add, Nat.add_zero, true_and, and_true, false_and, and_false, Bool.not_true, Bool.not_false, Bool.true_and, Bool.and_true, Bool.false_and, Bool.and_false, Bool.or_false, Bool.false_or, Bool.or_true, Bool.true_or, Bool.not_eq_true', if_true, if_false, Bool.false_eq_true, Bool.not_eq_true, ↓reduceIte, ite_true, ite_false, Bool.true_eq_false, not_true_eq_false, not_false_eq_true, Nat.zero_le]
        · obtain ⟨h1, h2⟩ := inR_true.mp h
          have hf := filt_shp (fun x => !wh x 1 9999) xs
          rcases hj with ⟨e1, e2⟩ | ⟨i, r, _, e1, e2⟩
          · have e1' : fS xs = [] := e1
            rw [e2]
            simp only [h1, h2, enumQ, lcS xs hl, e1', ne_nil_n, opK2, opK, chK4, chK3, chK2, chK, unK, andK, orK, notK, andVK2, andVK, orVK2, orVK, notVK2, notVK, ifVK, ifTK, consK2, consK, tupK, lstK, fzK, slK3, slK2, slK, cbK, coK, isiK, drpK, retK, retOK, ifSK, setK, setOK, nxK, asgK, parK, par3K, augK, appK, wcK, wdK, callK, callOK, callSK2, callSK, forK, lcK, parOK2, parOK, raiseK, bodyX, startE, xSeq, sqF, xNext, xBreak, xCont, xNever, xIfS, xRet, xRetN, xRetV, xRetO, xSet, xSetO, xDrop, xAsg, ygT_t, ygsC, ygsN, ygN, xPar, xPar3, xParO, xAug, xAppend, xFrz, xVar, xC, xOp, xUn, pNeg_i, xTest, asB_b, xAnd, xOr, xNot, xAndV, xOrV, xNotV, xIf, xIfT, xChain, xNil, xCons, xTup, xLst, xFz, xCall, xCallO, xCallS, rOfT_d, rOfT_o, rOwT_o, ywNil, ywDat, ywVar, xCB, xCO, xIsi, xSl, xRev, pRev, xpN, xpS, asI_i, xIxO, xLenO, xLenS, xFor, xWhile, ziT, ziL, itT_t, itL_l, ziR1, ziR2, ziET, ziEL, ziZ, zpT, lrK2, xLr2, xLr1, enT_t, enL_l, xLc, lc2K, xLc2, noOwnB, wipeE, xYes, xRaise, xTry, tyF, xXf, pAdd_i, pAdd_t, pAdd_l, pSub_i, pLt_i, pLe_i, pGt_i, pGe_i, pIs_n, pIsNot_n, pIsB_b, pNotB_b, isN_n, isN_b, isN_i, isN_s, isN_t, isN_l, pIx_t, pIx_l, pLen_t, pLen_l, pMin2_i, pMax2_i, pAbs_i, pInt_i, pTuple_t, pTuple_l, pList_t, pList_l, pIadd_i, pSl_t, pSl_l, pEqI, pNeI, pEqS, pNeS, at0, at1, at2, at3, at4, at5, at6, at7, bx_ret, bx_exc, bx_fail, bd_ret, bd_exc, bd_fail, exS_ret, exS_exc, exS_fail, ofO_some, ofO_none, fnE, isi_T, isi_B, isi_I, isi_S, isi_L, sizeL, Option.bind_some, Option.map_some, Option.some.injEq, Int.reduceEq, Int.reduceLE, Int.reduceLT, Int.reduceNeg, Int.reduceAdd, Int.reduceSub, Int.reduceMul, decide_true, decide_false, decide_eq_true_eq, decide_not, eq_self, Int.cast_ofNat_Int, reduceCtorEq, List.length_cons, List.length_nil, List.map_cons, List.map_nil, List.replicate, List.cons_append, List.nil_append, List.append_nil, List.getElem?_cons_zero, List.getElem?_cons_succ, List.getElem?_nil, List.set_cons_zero, List.set_cons_succ, Nat.reduceAdd, Nat.reduceSub, Nat.reduceEqDiff, Nat.reduceLeDiff, Nat.reduceLT, Nat.zero_add, Nat.add_zero, true_and, and_true, false_and, and_false, Bool.not_true, Bool.not_false, Bool.true_and, Bool.and_true, Bool.false_and, Bool.and_false, Bool.or_false, Bool.false_or, Bool.or_true, Bool.true_or, Bool.not_eq_true', if_true, if_false, Bool.false_eq_true, Bool.not_eq_true, ↓reduceIte, ite_true, ite_false, Bool.true_eq_false, not_true_eq_false, not_false_eq_true, Nat.zero_le]
            rcases rowJ "moves" mvB 2 16 (by decide) moves with ⟨e, hs⟩ | ⟨ys, rfl, h, hl, hj⟩
            · rw [e]
              cases moves with
              | tuple ys =>
                have h := hs ys rfl
                by_cases h1 : 2 ≤ (ys.length : Int)
                · have h2 : ¬ (ys.length : Int) ≤ 16 := fun h2 => by rw [inR_of h1 h2] at h; cases h
                  simp only [ftD, h1, h2, opK2, opK, chK4, chK3, chK2, chK, unK, andK, orK, notK, andVK2, andVK, orVK2, orVK, notVK2, notVK, ifVK, ifTK, consK2, consK, tupK, lstK, fzK, slK3, slK2, slK, cbK, coK, isiK, drpK, retK, retOK, ifSK, setK, setOK, nxK, asgK, parK, par3K, augK, appK, wcK, wdK, callK, callOK, callSK2, callSK, forK, lcK, parOK2, parOK, raiseK, bodyX, startE, xSeq, sqF, xNext, xBreak, xCont, xNever, xIfS, xRet, xRetN, xRetV, xRetO, xSet, xSetO, xDrop, xAsg, ygT_t, ygsC, ygsN, ygN, xPar, xPar3, xParO, xAug, xAppend, xFrz, xVar, xC, xOp, xUn, pNeg_i, xTest, asB_b, xAnd, xOr, xNot, xAndV, xOrV, xNotV, xIf, xIfT, xChain, xNil, xCons, xTup, xLst, xFz, xCall, xCallO, xCallS, rOfT_d, rOfT_o, rOwT_o, ywNil, ywDat, ywVar, xCB, xCO, xIsi, xSl, xRev, pRev, xpN, xpS, asI_i, xIxO, xLenO, xLenS, xFor, xWhile, ziT, ziL, itT_t, itL_l, ziR1, ziR2, ziET, ziEL, ziZ, zpT, lrK2, xLr2, xLr1, enT_t, enL_l, xLc, lc2K, xLc2, noOwnB, wipeE, xYes, xRaise, xTry, tyF, xXf, pAdd_i, pAdd_t, pAdd_l, pSub_i, pLt_i, pLe_i, pGt_i, pGe_i, pIs_n, pIsNot_n, pIsB_b, pNotB_b, isN_n, isN_b, isN_i, isN_s, isN_t, isN_l, pIx_t, pIx_l, pLen_t, pLen_l, pMin2_i, pMax2_i, pAbs_i, pInt_i, pTuple_t, pTuple_l, pList_t, pList_l, pIadd_i, pSl_t, pSl_l, pEqI, pNeI, pEqS, pNeS, at0, at1, at2, at3, at4, at5, at6, at7, bx_ret, bx_exc, bx_fail, bd_ret, bd_exc, bd_fail, exS_ret, exS_exc, exS_fail, ofO_some, ofO_none, fnE, isi_T, isi_B, isi_I, isi_S, isi_L, sizeL, Option.bind_some, Option.map_some, Option.some.injEq, Int.reduceEq, Int.reduceLE, Int.reduceLT, Int.reduceNeg, Int.reduceAdd, Int.reduceSub, Int.reduceMul, decide_true, decide_false, decide_eq_true_eq, decide_not, eq_self, Int.cast_ofNat_Int, reduceCtorEq, List.length_cons, List.length_nil, List.map_cons, List.map_nil, List.replicate, List.cons_append, List.nil_append, List.append_nil, List.getElem?_cons_zero, List.getElem?_cons_succ, List.getElem?_nil, List.set_cons_zero, List.set_cons_succ, Nat.reduceAdd, Nat.reduceSub, Nat.reduceEqDiff, Nat.reduceLeDiff, Nat.reduceLT, Nat.zero_add, Nat.add_zero, true_and, and_true, false_and, and_false, Bool.not_true, Bool.not_false, Bool.true_and, Bool.and_true, Bool.false_and, Bool.and_false, Bool.or_false, Bool.false_or, Bool.or_true, Bool.true_or, Bool.not_eq_true', if_true, if_false, Bool.false_eq_true, Bool.not_eq_true, ↓reduceIte, ite_true, ite_false, Bool.true_eq_false, not_true_eq_false, not_false_eq_true, Nat.zero_le]
                · simp only [ftD, h1, opK2, opK, chK4, chK3, chK2, chK, unK, andK, orK, notK, andVK2, andVK, orVK2, orVK, notVK2, notVK, ifVK, ifTK, consK2, consK, tupK, lstK, fzK, slK3, slK2, slK, cbK, coK, isiK, drpK, retK, retOK, ifSK, setK, setOK, nxK, asgK, parK, par3K, augK, appK, wcK, wdK, callK, callOK, callSK2, callSK, forK, lcK, parOK2, parOK, raiseK, bodyX, startE, xSeq, sqF, xNext, xBreak, xCont, xNever, xIfS, xRet, xRetN, xRetV, xRetO, xSet, xSetO, xDrop, xAsg, ygT_t, ygsC, ygsN, ygN, xPar, xPar3, xParO, xAug, xAppend, xFrz, xVar, xC, xOp, xUn, pNeg_i, xTest, asB_b, xAnd, xOr, xNot, xAndV, xOrV, xNotV, xIf, xIfT, xChain, xNil, xCons, xTup, xLst, xFz, xCall, xCallO, xCallS, rOfT_d, rOfT_o, rOwT_o, ywNil, ywDat, ywVar, xCB, xCO, xIsi, xSl, xRev, pRev, xpN, xpS, asI_i, xIxO, xLenO, xLenS, xFor, xWhile, ziT, ziL, itT_t, itL_l, ziR1, ziR2, ziET, ziEL, ziZ, zpT, lrK2, xLr2, xLr1, enT_t, enL_l, xLc, lc2K, xLc2, noOwnB, wipeE, xYes, xRaise, xTry, tyF, xXf, pAdd_i, pAdd_t, pAdd_l, pSub_i, pLt_i, pLe_i, pGt_i, pGe_i, pIs_n, pIsNot_n, pIsB_b, pNotB_b, isN_n, isN_b, isN_i, isN_s, isN_t, isN_l, pIx_t, pIx_l, pLen_t, pLen_l, pMin2_i, pMax2_i, pAbs_i, pInt_i, pTuple_t, pTuple_l, pList_t, pList_l, pIadd_i, pSl_t, pSl_l, pEqI, pNeI, pEqS, pNeS, at0, at1, at2, at3, at4, at5, at6, at7, bx_ret, bx_exc, bx_fail, bd_ret, bd_exc, bd_fail, exS_ret, exS_exc, exS_fail, ofO_some, ofO_none, fnE, isi_T, isi_B, isi_I, isi_S, isi_L, sizeL, Option.bind_some, Option.map_some, Option.some.injEq, Int.reduceEq, Int.reduceLE, Int.reduceLT, Int.reduceNeg, Int.reduceAdd, Int.reduceSub, Int.reduceMul, decide_true, decide_false, decide_eq_true_eq, decide_not, eq_self, Int.cast_ofNat_Int, reduceCtorEq, List.length_cons, List.length_nil, List.map_cons, List.map_nil, List.replicate, List.cons_append, List.nil_append, List.append_nil, List.getElem?_cons_zero, List.getElem?_cons_succ, List.getElem?_nil, List.set_cons_zero, List.set_cons_succ, Nat.reduceAdd, Nat.reduceSub, Nat.reduceEqDiff, Nat.reduceLeDiff, Nat.reduceLT, Nat.zero_add, Nat.add_zero, true_and, and_true, false_and, and_false, Bool.not_true, Bool.not_false, Bool.true_and, Bool.and_true, Bool.false_and, Bool.and_false, Bool.or_false, Bool.false_or, Bool.or_true, Bool.true_or, Bool.not_eq_true', if_true, if_false, Bool.false_eq_true, Bool.not_eq_true, ↓reduceIte, ite_true, ite_false, Bool.true_eq_false, not_true_eq_false, not_false_eq_true, Nat.zero_le]
              | _ => simp only [ftD, opK2, opK, chK4, chK3, chK2, chK, unK, andK, orK, notK, andVK2, andVK, orVK2, orVK, notVK2, notVK, ifVK, ifTK, consK2, consK, tupK, lstK, fzK, slK3, slK2, slK, cbK, coK, isiK, drpK, retK, retOK, ifSK, setK, setOK, nxK, asgK, parK, par3K, augK, appK, wcK, wdK, callK, callOK, callSK2, callSK, forK, lcK, parOK2, parOK, raiseK, bodyX, startE, xSeq, sqF, xNext, xBreak, xCont, xNever, xIfS, xRet, xRetN, xRetV, xRetO, xSet, xSetO, xDrop, xAsg, ygT_t, ygsC, ygsN, ygN, xPar, xPar3, xParO, xAug, xAppend, xFrz, xVar, xC, xOp, xUn, pNeg_i, xTest, asB_b, xAnd, xOr, xNot, xAndV, xOrV, xNotV, xIf, xIfT, xChain, xNil, xCons, xTup, xLst, xFz, xCall, xCallO, xCallS, rOfT_d, rOfT_o, rOwT_o, ywNil, ywDat, ywVar, xCB, xCO, xIsi, xSl, xRev, pRev, xpN, xpS, asI_i, xIxO, xLenO, xLenS, xFor, xWhile, ziT, ziL, itT_t, itL_l, ziR1, ziR2, ziET, ziEL, ziZ, zpT, lrK2, xLr2, xLr1, enT_t, enL_l, xLc, lc2K, xLc2, noOwnB, wipeE, xYes, xRaise, xTry, tyF, xXf, pAdd_i, pAdd_t, pAdd_l, pSub_i, pLt_i, pLe_i, pGt_i, pGe_i, pIs_n, pIsNot_n, pIsB_b, pNotB_b, isN_n, isN_b, isN_i, isN_s, isN_t, isN_l, pIx_t, pIx_l, pLen_t, pLen_l, pMin2_i, pMax2_i, pAbs_i, pInt_i, pTuple_t, pTuple_l, pList_t, pList_l, pIadd_i, pSl_t, pSl_l, pEqI, pNeI, pEqS, pNeS, at0, at1, at2, at3, at4, at5, at6, at7, bx_ret, bx_exc, bx_fail, bd_ret, bd_exc, bd_fail, exS_ret, exS_exc, exS_fail, ofO_some, ofO_none, fnE, isi_T, isi_B, isi_I, isi_S, isi_L, sizeL, Option.bind_some, Option.map_some, Option.some.injEq, Int.reduceEq, Int.reduceLE, Int.reduceLT, Int.reduceNeg, Int.reduceAdd, Int.reduceSub, Int.reduceMul, decide_true, decide_false, decide_eq_true_eq, decide_not, eq_self, Int.cast_ofNat_Int, reduceCtorEq, List.length_cons, List.length_nil, List.map_cons, List.map_nil, List.replicate, List.cons_append, List.nil_append, List.append_nil, List.getElem?_cons_zero, List.getElem?_cons_succ, List.getElem?_nil, List.set_cons_zero, List.set_cons_succ, Nat.reduceAdd, Nat.reduceSub, Nat.reduceEqDiff, Nat.reduceLeDiff, Nat.reduceLT, Nat.zero_add, Nat.add_zero, true_and, and_true, false_and, and_false, Bool.not_true, Bool.not_false, Bool.true_and, Bool.and_true, Bool.false_and, Bool.and_false, Bool.or_false, Bool.false_or, Bool.or_true, Bool.true_or, Bool.not_eq_true', if_true, if_false, Bool.false_eq_true, Bool.not_eq_true, ↓reduceIte, ite_true, ite_false, Bool.true_eq_false, not_true_eq_false, not_false_eq_true, Nat.zero_le]
            · obtain ⟨h1, h2⟩ := inR_true.mp h
              have hf := filt_shp (fun x => !mvB x) ys
              rcases hj with ⟨e1, e2⟩ | ⟨i, r, _, e1, e2⟩
              · have e1' : fM ys = [] := e1
                rw [e2]
                simp only [h1, h2, enumQ, lcM ys hl, e1', ne_nil_n, r_lwhole, opK2, opK, chK4, chK3, chK2, chK, unK, andK, orK, notK, andVK2, andVK, orVK2, orVK, notVK2, notVK, ifVK, ifTK, consK2, consK, tupK, lstK, fzK, slK3, slK2, slK, cbK, coK, isiK, drpK, retK, retOK, ifSK, setK, setOK, nxK, asgK, parK, par3K, augK, appK, wcK, wdK, callK, callOK, callSK2, callSK, forK, lcK, parOK2, parOK, raiseK, bodyX, startE, xSeq, sqF, xNext, xBreak, xCont, xNever, xIfS, xRet, xRetN, xRetV, xRetO, xSet, xSetO, xDrop, xAsg, ygT_t, ygsC, ygsN, ygN, xPar, xPar3, xParO, xAug, xAppend, xFrz, xVar, xC, xOp, xUn, pNeg_i, xTest, asB_b, xAnd, xOr, xNot, xAndV, xOrV, xNotV, xIf, xIfT, xChain, xNil, xCons, xTup, xLst, xFz, xCall, xCallO, xCallS, rOfT_d, rOfT_o, rOwT_o, ywNil, ywDat, ywVar, xCB, xCO, xIsi, xSl, xRev, pRev, xpN, xpS, asI_i, xIxO, xLenO, xLenS, xFor, xWhile, ziT, ziL, itT_t, itL_l, ziR1, ziR2, ziET, ziEL, ziZ, zpT, lrK2, xLr2, xLr1, enT_t, enL_l, xLc, lc2K, xLc2, noOwnB, wipeE, xYes, xRaise, xTry, tyF, xXf, pAdd_i, pAdd_t, pAdd_l, pSub_i, pLt_i, pLe_i, pGt_i, pGe_i, pIs_n, pIsNot_n, pIsB_b, pNotB_b, isN_n, isN_b, isN_i, isN_s, isN_t, isN_l, pIx_t, pIx_l, pLen_t, pLen_l, pMin2_i, pMax2_i, pAbs_i, pInt_i, pTuple_t, pTuple_l, pList_t, pList_l, pIadd_i, pSl_t, pSl_l, pEqI, pNeI, pEqS, pNeS, at0, at1, at2, at3, at4, at5, at6, at7, bx_ret, bx_exc, bx_fail, bd_ret, bd_exc, bd_fail, exS_ret, exS_exc, exS_fail, ofO_some, ofO_none, fnE, isi_T, isi_B, isi_I, isi_S, isi_L, sizeL, Option.bind_some, Option.map_some, Option.some.injEq, Int.reduceEq, Int.reduceLE, Int.reduceLT, Int.reduceNeg, Int.reduceAdd, Int.reduceSub, Int.reduceMul, decide_true, decide_false, decide_eq_true_eq, decide_not, eq_self, Int.cast_ofNat_Int, reduceCtorEq, List.length_cons, List.length_nil, List.map_cons, List.map_nil, List.replicate, List.cons_append, List.nil_append, List.append_nil, List.getElem?_cons_zero, List.getElem?_cons_succ, List.getElem?_nil, List.set_cons_zero, List.set_cons_succ, Nat.reduceAdd, Nat.reduceSub, Nat.reduceEqDiff, Nat.reduceLeDiff, Nat.reduceLT, Nat.zero_add, Nat.add_zero, true_and, and_true, false_and, and_false, Bool.not_true, Bool.not_false, Bool.true_and, Bool.and_true, Bool.false_and, Bool.and_false, Bool.or_false, Bool.false_or, Bool.or_true, Bool.true_or, Bool.not_eq_true', if_true, if_false, Bool.false_eq_true, Bool.not_eq_true, ↓reduceIte, ite_true, ite_false, Bool.true_eq_false, not_true_eq_false, not_false_eq_true, Nat.zero_le]
                cases wh fade 2 99 with
                | true => simp only [ftD, opK2, opK, chK4, chK3, chK2, chK, unK, andK, orK, notK, andVK2, andVK, orVK2, orVK, notVK2, notVK, ifVK, ifTK, consK2, consK, tupK, lstK, fzK, slK3, slK2, slK, cbK, coK, isiK, drpK, retK, retOK, ifSK, setK, setOK, nxK, asgK, parK, par3K, augK, appK, wcK, wdK, callK, callOK, callSK2, callSK, forK, lcK, parOK2, parOK, raiseK, bodyX, startE, xSeq, sqF, xNext, xBreak, xCont, xNever, xIfS, xRet, xRetN, xRetV, xRetO, xSet, xSetO, xDrop, xAsg, ygT_t, ygsC, ygsN, ygN, xPar, xPar3, xParO, xAug, xAppend, xFrz, xVar, xC, xOp, xUn, pNeg_i, xTest, asB_b, xAnd, xOr, xNot, xAndV, xOrV, xNotV, xIf, xIfT, xChain, xNil, xCons, xTup, xLst, xFz, xCall, xCallO, xCallS, rOfT_d, rOfT_o, rOwT_o, ywNil, ywDat, ywVar, xCB, xCO, xIsi, xSl, xRev, pRev, xpN, xpS, asI_i, xIxO, xLenO, xLenS, xFor, xWhile, ziT, ziL, itT_t, itL_l, ziR1, ziR2, ziET, ziEL, ziZ, zpT, lrK2, xLr2, xLr1, enT_t, enL_l, xLc, lc2K, xLc2, noOwnB, wipeE, xYes, xRaise, xTry, tyF, xXf, pAdd_i, pAdd_t, pAdd_l, pSub_i, pLt_i, pLe_i, pGt_i, pGe_i, pIs_n, pIsNot_n, pIsB_b, pNotB_b, isN_n, isN_b, isN_i, isN_s, isN_t, isN_l, pIx_t, pIx_l, pLen_t, pLen_l, pMin2_i, pMax2_i, pAbs_i, pInt_i, pTuple_t, pTuple_l, pList_t, pList_l, pIadd_i, pSl_t, pSl_l, pEqI, pNeI, pEqS, pNeS, at0, at1, at2, at3, at4, at5, at6, at7, bx_ret, bx_exc, bx_fail, bd_ret, bd_exc, bd_fail, exS_ret, exS_exc, exS_fail, ofO_some, ofO_none, fnE, isi_T, isi_B, isi_I, isi_S, isi_L, sizeL, Option.bind_some, Option.map_some, Option.some.injEq, Int.reduceEq, Int.reduceLE, Int.reduceLT, Int.reduceNeg, Int.reduceAdd, Int.reduceSub, Int.reduceMul, decide_true, decide_false, decide_eq_true_eq, decide_not, eq_self, Int.cast_ofNat_Int, reduceCtorEq, List.length_cons, List.length_nil, List.map_cons, List.map_nil, List.replicate, List.cons_append, List.nil_append, List.append_nil, List.getElem?_cons_zero, List.getElem?_cons_succ, List.getElem?_nil, List.set_cons_zero, List.set_cons_succ, Nat.reduceAdd, Nat.reduceSub, Nat.reduceEqDiff, Nat.reduceLeDiff, Nat.reduceLT, Nat.zero_add, Nat.add_zero, true_and, and_true, false_and, and_false, Bool.not_true, Bool.not_false, Bool.true_and, Bool.and_true, Bool.false_and, Bool.and_false, Bool.or_false, Bool.false_or, Bool.or_true, Bool.true_or, Bool.not_eq_true', if_true, if_false, Bool.false_eq_true, Bool.not_eq_true, ↓reduceIte, ite_true, ite_false, Bool.true_eq_false, not_true_eq_false, not_false_eq_true, Nat.zero_le]
                | false =>
                  simp only [r_lwhole, opK2, opK, chK4, chK3, chK2, chK, unK, andK, orK, notK, andVK2, andVK, orVK2, orVK, notVK2, notVK, ifVK, ifTK, consK2, consK, tupK, lstK, fzK, slK3, slK2, slK, cbK, coK, isiK, drpK, retK, retOK, ifSK, setK, setOK, nxK, asgK, parK, par3K, augK, appK, wcK, wdK, callK, callOK, callSK2, callSK, forK, lcK, parOK2, parOK, raiseK, bodyX, startE, xSeq, sqF, xNext, xBreak, xCont, xNever, xIfS, xRet, xRetN, xRetV, xRetO, xSet, xSetO, xDrop, xAsg, ygT_t, ygsC, ygsN, ygN, xPar, xPar3, xParO, xAug, xAppend, xFrz, xVar, xC, xOp, xUn, pNeg_i, xTest, asB_b, xAnd, xOr, xNot, xAndV, xOrV, xNotV, xIf, xIfT, xChain, xNil, xCons, xTup, xLst, xFz, xCall, xCallO, xCallS, rOfT_d, rOfT_o, rOwT_o, ywNil, ywDat, ywVar, xCB, xCO, xIsi, xSl, xRev, pRev, xpN, xpS, asI_i, xIxO, xLenO, xLenS, xFor, xWhile, ziT, ziL, itT_t, itL_l, ziR1, ziR2, ziET, ziEL, ziZ, zpT, lrK2, xLr2, xLr1, enT_t, enL_l, xLc, lc2K, xLc2, noOwnB, wipeE, xYes, xRaise, xTry, tyF, xXf, pAdd_i, pAdd_t, pAdd_l, pSub_i, pLt_i, pLe_i, pGt_i, pGe_i, pIs_n, pIsNot_n, pIsB_b, pNotB_b, isN_n, isN_b, isN_i, isN_s, isN_t, isN_l, pIx_t, pIx_l, pLen_t, pLen_l, pMin2_i, pMax2_i, pAbs_i, pInt_i, pTuple_t, pTuple_l, pList_t, pList_l, pIadd_i, pSl_t, pSl_l, pEqI, pNeI, pEqS, pNeS, at0, at1, at2, at3, at4, at5, at6, at7, bx_ret, bx_exc, bx_fail, bd_ret, bd_exc, bd_fail, exS_ret, exS_exc, exS_fail, ofO_some, ofO_none, fnE, isi_T, isi_B, isi_I, isi_S, isi_L, sizeL, Option.bind_some, Option.map_some, Option.some.injEq, Int.reduceEq, Int.reduceLE, Int.reduceLT, Int.reduceNeg, Int.reduceAdd, Int.reduceSub, Int.reduceMul, decide_true, decide_false, decide_eq_true_eq, decide_not, eq_self, Int.cast_ofNat_Int, reduceCtorEq, List.length_cons, List.length_nil, List.map_cons, List.map_nil, List.replicate, List.cons_append, List.nil_append, List.append_nil, List.getElem?_cons_zero, List.getElem?_cons_succ, List.getElem?_nil, List.set_cons_zero, List.set_cons_succ, Nat.reduceAdd, Nat.reduceSub, Nat.reduceEqDiff, Nat.reduceLeDiff, Nat.reduceLT, Nat.zero_add, Nat.add_zero, true_and, and_true, false_and, and_false, Bool.not_true, Bool.not_false, Bool.true_and, Bool.and_true, Bool.false_and, Bool.and_false, Bool.or_false, Bool.false_or, Bool.or_true, Bool.true_or, Bool.not_eq_true', if_true, if_false, Bool.false_eq_true, Bool.not_eq_true, ↓reduceIte, ite_true, ite_false, Bool.true_eq_false, not_true_eq_false, not_false_eq_true, Nat.zero_le]
                  cases wh fade 0 0 <;> simp only [ftD, opK2, opK, chK4, chK3, chK2, chK, unK, andK, orK, notK, andVK2, andVK, orVK2, orVK, notVK2, notVK, ifVK, ifTK, consK2, consK, tupK, lstK, fzK, slK3, slK2, slK, cbK, coK, isiK, drpK, retK, retOK, ifSK, setK, setOK, nxK, asgK, parK, par3K, augK, appK, wcK, wdK, callK, callOK, callSK2, callSK, forK, lcK, parOK2, parOK, raiseK, bodyX, startE, xSeq, sqF, xNext, xBreak, xCont, xNever, xIfS, xRet, xRetN, xRetV, xRetO, xSet, xSetO, xDrop, xAsg, ygT_t, ygsC, ygsN, ygN, xPar, xPar3, xParO, xAug, xAppend, xFrz, xVar, xC, xOp, xUn, pNeg_i, xTest, asB_b, xAnd, xOr, xNot, xAndV, xOrV, xNotV, xIf, xIfT, xChain, xNil, xCons, xTup, xLst, xFz, xCall, xCallO, xCallS, rOfT_d, rOfT_o, rOwT_o, ywNil, ywDat, ywVar, xCB, xCO, xIsi, xSl, xRev, pRev, xpN, xpS, asI_i, xIxO, xLenO, xLenS, xFor, xWhile, ziT, ziL, itT_t, itL_l, ziR1, ziR2, ziET, ziEL, ziZ, zpT, lrK2, xLr2, xLr1, enT_t, enL_l, xLc, lc2K, xLc2, noOwnB, wipeE, xYes, xRaise, xTry, tyF, xXf, pAdd_i, pAdd_t, pAdd_l, pSub_i, pLt_i, pLe_i, pGt_i, pGe_i, pIs_n, pIsNot_n, pIsB_b, pNotB_b, isN_n, isN_b, isN_i, isN_s, isN_t, isN_l, pIx_t, pIx_l, pLen_t, pLen_l, pMin2_i, pMax2_i, pAbs_i, pInt_i, pTuple_t, pTuple_l, pList_t, pList_l, pIadd_i, pSl_t, pSl_l, pEqI, pNeI, pEqS, pNeS, at0, at1, at2, at3, at4, at5, at6, at7, bx_ret, bx_exc, bx_fail, bd_ret, bd_exc, bd_fail, exS_ret, exS_exc, exS_fail, ofO_some, ofO_none, fnE, isi_T, isi_B, isi_I, isi_S, isi_L, sizeL, Option.bind_some, Option.map_some, Option.some.injEq, Int.reduceEq, Int.reduceLE, Int.reduceLT, Int.reduceNeg, Int.reduceAdd, Int.reduceSub, Int.reduceMul, decide_true, decide_false, decide_eq_true_eq, decide_not, eq_self, Int.cast_ofNat_Int, reduceCtorEq, List.length_cons, List.length_nil, List.map_cons, List.map_nil, List.replicate, List.cons_append, List.nil_append, List.append_nil, List.getElem?_cons_zero, List.getElem?_cons_succ, List.getElem?_nil, List.set_cons_zero, List.set_cons_succ, Nat.reduceAdd, Nat.reduceSub, Nat.reduceEqDiff, Nat.reduceLeDiff, Nat.reduceLT, Nat.zero_add, Nat.add_zero, true_and, and_true, false_and, and_false, Bool.not_true, Bool.not_false, Bool.true_and, Bool.and_true, Bool.false_and, Bool.and_false, Bool.or_false, Bool.false_or, Bool.or_true, Bool.true_or, Bool.not_eq_true', if_true, if_false, Bool.false_eq_true, Bool.not_eq_true, ↓reduceIte, ite_true, ite_false, Bool.true_eq_false, not_true_eq_false, not_false_eq_true, Nat.zero_le]
              · have e1' : fM ys = .int (i : Int) :: r := e1
                rw [e1] at hf
                rw [e2]
                simp only [h1, h2, enumQ, lcM ys hl, e1', ne_nil_i hf, ftD, opK2, opK, chK4, chK3, chK2, chK, unK, andK, orK, notK, andVK2, andVK, orVK2, orVK, notVK2, notVK, ifVK, ifTK, consK2, consK, tupK, lstK, fzK, slK3, slK2, slK, cbK, coK, isiK, drpK, retK, retOK, ifSK, setK, setOK, nxK, asgK, parK, par3K, augK, appK, wcK, wdK, callK, callOK, callSK2, callSK, forK, lcK, parOK2, parOK, raiseK, bodyX, startE, xSeq, sqF, xNext, xBreak, xCont, xNever, xIfS, xRet, xRetN, xRetV, xRetO, xSet, xSetO, xDrop, xAsg, ygT_t, ygsC, ygsN, ygN, xPar, xPar3, xParO, xAug, xAppend, xFrz, xVar, xC, xOp, xUn, pNeg_i, xTest, asB_b, xAnd, xOr, xNot, xAndV, xOrV, xNotV, xIf, xIfT, xChain, xNil, xCons, xTup, xLst, xFz, xCall, xCallO, xCallS, rOfT_d, rOfT_o, rOwT_o, ywNil, ywDat, ywVar, xCB, xCO, xIsi, xSl, xRev, pRev, xpN, xpS, asI_i, xIxO, xLenO, xLenS, xFor, xWhile, ziT, ziL, itT_t, itL_l, ziR1, ziR2, ziET, ziEL, ziZ, zpT, lrK2, xLr2, xLr1, enT_t, enL_l, xLc, lc2K, xLc2, noOwnB, wipeE, xYes, xRaise, xTry, tyF, xXf, pAdd_i, pAdd_t, pAdd_l, pSub_i, pLt_i, pLe_i, pGt_i, pGe_i, pIs_n, pIsNot_n, pIsB_b, pNotB_b, isN_n, isN_b, isN_i, isN_s, isN_t, isN_l, pIx_t, pIx_l, pLen_t, pLen_l, pMin2_i, pMax2_i, pAbs_i, pInt_i, pTuple_t, pTuple_l, pList_t, pList_l, pIadd_i, pSl_t, pSl_l, pEqI, pNeI, pEqS, pNeS, at0, at1, at2, at3, at4, at5, at6, at7, bx_ret, bx_exc, bx_fail, bd_ret, bd_exc, bd_fail, exS_ret, exS_exc, exS_fail, ofO_some, ofO_none, fnE, isi_T, isi_B, isi_I, isi_S, isi_L, sizeL, Option.bind_some, Option.map_some, Option.some.injEq, Int.reduceEq, Int.reduceLE, Int.reduceLT, Int.reduceNeg, Int.reduceAdd, Int.reduceSub, Int.reduceMul, decide_true, decide_false, decide_eq_true_eq, decide_not, eq_self, Int.cast_ofNat_Int, reduceCtorEq, List.length_cons, List.length_nil, List.map_cons, List.map_nil, List.replicate, List.cons_append, List.nil_append, List.append_nil, List.getElem?_cons_zero, List.getElem?_cons_succ, List.getElem?_nil, List.set_cons_zero, List.set_cons_succ, Nat.reduceAdd, Nat.reduceSub, Nat.reduceEqDiff, Nat.reduceLeDiff, Nat.reduceLT, Nat.zero_add, Nat.add_zero, true_and, and_true, false_and, and_false, Bool.not_true, Bool.not_false, Bool.true_and, Bool.and_true, Bool.false_and, Bool.and_false, Bool.or_false, Bool.false_or, Bool.or_true, Bool.true_or, Bool.not_eq_true', if_true, if_false, Bool.false_eq_true, Bool.not_eq_true, ↓reduceIte, ite_true, ite_false, Bool.true_eq_false, not_true_eq_false, not_false_eq_true, Nat.zero_le]
          · have e1' : fS xs = .int (i : Int) :: r := e1
            rw [e1] at hf
            rw [e2]
            simp only [h1, h2, enumQ, lcS xs hl, e1', ne_nil_i hf, ftD, opK2, opK, chK4, chK3, chK2, chK, unK, andK, orK, notK, andVK2, andVK, orVK2, orVK, notVK2, notVK, ifVK, ifTK, consK2, consK, tupK, lstK, fzK, slK3, slK2, slK, cbK, coK, isiK, drpK, retK, retOK, ifSK, setK, setOK, nxK, asgK, parK, par3K, augK, appK, wcK, wdK, callK, callOK, callSK2, callSK, forK, lcK, parOK2, parOK, raiseK, bodyX, startE, xSeq, sqF, xNext, xBreak, xCont, xNever, xIfS, xRet, xRetN, xRetV, xRetO, xSet, xSetO, xDrop, xAsg, ygT_t, ygsC, ygsN, ygN, xPar, xPar3, xParO, xAug, xAppend, xFrz, xVar, xC, xOp, xUn, pNeg_i, xTest, asB_b, xAnd, xOr, xNot, xAndV, xOrV, xNotV, xIf, xIfT, xChain, xNil, xCons, xTup, xLst, xFz, xCall, xCallO, xCallS, rOfT_d, rOfT_o, rOwT_o, ywNil, ywDat, ywVar, xCB, xCO, xIsi, xSl, xRev, pRev, xpN, xpS, asI_i, xIxO, xLenO, xLenS, xFor, xWhile, ziT, ziL, itT_t, itL_l, ziR1, ziR2, ziET, ziEL, ziZ, zpT, lrK2, xLr2, xLr1, enT_t, enL_l, xLc, lc2K, xLc2, noOwnB, wipeE, xYes, xRaise, xTry, tyF, xXf, pAdd_i, pAdd_t, pAdd_l, pSub_i, pLt_i, pLe_i, pGt_i, pGe_i, pIs_n, pIsNot_n, pIsB_b, pNotB_b, isN_n, isN_b, isN_i, isN_s, isN_t, isN_l, pIx_t, pIx_l, pLen_t, pLen_l, pMin2_i, pMax2_i, pAbs_i, pInt_i, pTuple_t, pTuple_l, pList_t, pList_l, pIadd_i, pSl_t, pSl_l, pEqI, pNeI, pEqS, pNeS, at0, at1, at2, at3, at4, at5, at6, at7, bx_ret, bx_exc, bx_fail, bd_ret, bd_exc, bd_fail, exS_ret, exS_exc, exS_fail, ofO_some, ofO_none, fnE, isi_T, isi_B, isi_I, isi_S, isi_L, sizeL, Option.bind_some, Option.map_some, Option.some.injEq, Int.reduceEq, Int.reduceLE, Int.reduceLT, Int.reduceNeg, Int.reduceAdd, Int.reduceSub, Int.reduceMul, decide_true, decide_false, decide_eq_true_eq, decide_not, eq_self, Int.cast_ofNat_Int, reduceCtorEq, List.length_cons, List.length_nil, List.map_cons, List.map_nil, List.replicate, List.cons_append, List.nil_append, List.append_nil, List.getElem?_cons_zero, List.getElem?_cons_succ, List.getElem?_nil, List.set_cons_zero, List.set_cons_succ, Nat.reduceAdd, Nat.reduceSub, Nat.reduceEqDiff, Nat.reduceLeDiff, Nat.reduceLT, Nat.zero_add, Nat.add_zero, true_and, and_true, false_and, and_false, Bool.not_true, Bool.not_false, Bool.true_and, Bool.and_true, Bool.false_and, Bool.and_false, Bool.or_false, Bool.false_or, Bool.or_true, Bool.true_or, Bool.not_eq_true', if_true, if_false, Bool.false_eq_true, Bool.not_eq_true, ↓reduceIte, ite_true, ite_false, Bool.true_eq_false, not_true_eq_false, not_false_eq_true, Nat.zero_le]
end LW


set_option maxRecDepth 100000
set_option maxHeartbeats 1000000
namespace LW
open PySem PySem.Spec PyProof.Rows L2 VL
theorem wh_true {d : Dt} {a b : Int} (h : wh d a b = true) : ∃ i, d = .int i ∧ a ≤ i ∧ i ≤ b := by
  unfold wh at h
  split at h
  · next i => exact ⟨i, rfl, inR_true.mp h⟩
  · cases h
theorem mv_true {d : Dt} (h : mvB d = true) : ∃ p : Int × Int, d = mvD p ∧ -32 ≤ p.1 ∧ p.1 ≤ 32 ∧ -15 ≤ p.2 ∧ p.2 ≤ 15 := by
  unfold mvB at h
  split at h
  · simp only [Bool.and_eq_true] at h
    obtain ⟨i, rfl, h1, h2⟩ := wh_true h.1
    obtain ⟨j, rfl, h3, h4⟩ := wh_true h.2
    exact ⟨(i, j), rfl, h1, h2, h3, h4⟩
  · cases h
theorem rowF_none {part : Str} {ok : Dt → Bool} {least most : Int} {row : Dt} (h : rowF part ok least most row = none) : ∃ xs, row = .tuple xs ∧ least ≤ xs.length ∧ (xs.length : Int) ≤ most ∧ ∀ x ∈ xs, ok x = true := by
  unfold rowF at h
  split at h
  · next xs =>
    split at h
    · next hi =>
      obtain ⟨h1, h2⟩ := inR_true.mp hi
      refine ⟨xs, rfl, h1, h2, fun x hx => ?_⟩
      have := Option.map_eq_none_iff.mp h
      have := List.findIdx?_eq_none_iff.mp this x hx
      simpa using this
    · cases h
  · cases h
theorem list_of {α : Type} {f : α → Dt} {P : α → Prop} : ∀ {xs : List Dt}, (∀ x ∈ xs, ∃ a, x = f a ∧ P a) → ∃ as : List α, xs = as.map f ∧ ∀ a ∈ as, P a
  | [], _ => ⟨[], rfl, fun _ h => by cases h⟩
  | x :: xs, h => by
    obtain ⟨a, rfl, ha⟩ := h x (by simp)
    obtain ⟨as, e, has⟩ := list_of (xs := xs) fun x hx => h x (List.mem_cons_of_mem _ hx)
    refine ⟨a :: as, by rw [e]; rfl, fun b hb => ?_⟩
    rcases List.mem_cons.mp hb with rfl | hb
    · exact ha
    · exact has b hb
theorem cf_none {d : Dt} (h : cf d = none) : ∃ c : Cd, d = c.d ∧ c.Ok := by
  unfold cf at h
  split at h
  · next low high steps moves fade =>
    split at h
    · next h1 =>
      split at h
      · next h2 =>
        split at h
        · cases h
        · next h3 =>
          split at h
          · cases h
          · next h4 =>
            split at h
            · next h5 =>
              obtain ⟨l, rfl, l0, l1⟩ := wh_true h1
              obtain ⟨u, rfl, u0, u1⟩ := wh_true h2
              obtain ⟨xs, rfl, s0, s1, sv⟩ := rowF_none h3
              obtain ⟨ys, rfl, m0, m1, mv⟩ := rowF_none h4
              obtain ⟨ss, rfl, hss⟩ := list_of (f := PyData.int) (P := fun i => 1 ≤ i ∧ i ≤ 9999) (fun x hx => wh_true (sv x hx))
              obtain ⟨ms, rfl, hms⟩ := list_of (f := mvD) (fun x hx => mv_true (mv x hx))
              rw [List.length_map] at s0 s1 m0 m1
              obtain ⟨f, rfl, hf⟩ : ∃ f, fade = .int f ∧ (f = 0 ∨ 2 ≤ f ∧ f ≤ 99) := by
                rcases Bool.or_eq_true _ _ |>.mp h5 with h5 | h5
                · obtain ⟨f, rfl, f0, f1⟩ := wh_true h5
                  exact ⟨f, rfl, .inr ⟨f0, f1⟩⟩
                · obtain ⟨f, rfl, f0, f1⟩ := wh_true h5
                  exact ⟨f, rfl, .inl (by omega)⟩
              exact ⟨⟨l, u, ss, ms, f⟩, rfl, ⟨l0, l1, u0, u1, by dsimp only; omega, by dsimp only; omega, hss, by dsimp only; omega, by dsimp only; omega, hms, hf⟩⟩
            · cases h
      · cases h
    · cases h
  · cases h
theorem sh_cd {c : Cd} (h : c.Ok) : Sh 10000 3 c.d := by
  have a := Sh.tup (ShA.ints (ns := c.steps) fun i hi => by have := h.sv i hi; omega)
  have b := Sh.tup (ShA.of (w := 82) (dp := 1) (ds := c.moves.map mvD) fun d hd => by
    obtain ⟨p, hp, rfl⟩ := List.mem_map.mp hd
    have := h.mv p hp
    exact Sh.tup (.cons (.int (by omega)) (.cons (.int (by omega)) .nil)))
  rw [List.length_map] at b
  have h1 := h.s1; have h2 := h.m1; have := h.l0; have := h.l1; have := h.h0; have := h.h1
  have hf : c.fade.natAbs < 10 ^ 12 := by rcases h.f with f | f <;> omega
  have r := Sh.tup (ShA.cons ((Sh.int (i := c.low) (by omega)).le (Nat.le_refl _) (Nat.zero_le 2)) (.cons ((Sh.int (i := c.high) (by omega)).le (Nat.le_refl _) (Nat.zero_le 2)) (.cons (a.le (Nat.le_refl _) (by decide : 0 + 1 ≤ 2)) (.cons b (.cons ((Sh.int (i := c.fade) hf).le (Nat.le_refl _) (Nat.zero_le 2)) .nil)))))
  exact r.le (by omega) (by decide)
theorem cf_some {d : Dt} {p : Str} {n : Dt} (h : cf d = some (p, n)) : p ∈ ([("form" : Str), "low", "high", "steps", "moves", "fade"] : List Str) ∧ (n = .none ∨ ∃ i : Nat, i < 16 ∧ n = .int (i : Int)) := by
  have rj : ∀ (part : Str) (ok : Dt → Bool) (least : Int) (row : Dt), rowF part ok least 16 row = some (p, n) → p = part ∧ (n = .none ∨ ∃ i : Nat, i < 16 ∧ n = .int (i : Int)) := fun part ok least row e => by
    rcases rowJ part ok least 16 (by decide) row with ⟨e1, _⟩ | ⟨xs, rfl, h, hl, ⟨_, e2⟩ | ⟨i, r, hi, _, e2⟩⟩
    · rw [e1] at e; cases e; exact ⟨rfl, .inl rfl⟩
    · rw [e2] at e; cases e
    · rw [e2] at e; cases e; exact ⟨rfl, .inr ⟨i, hi, rfl⟩⟩
  unfold cf at h
  split at h
  · split at h
    · split at h
      · split at h
        · next f hf =>
          rw [h] at hf
          obtain ⟨rfl, q⟩ := rj _ _ _ _ hf
          exact ⟨by simp, q⟩
        · split at h
          · next f hf =>
            rw [h] at hf
            obtain ⟨rfl, q⟩ := rj _ _ _ _ hf
            exact ⟨by simp, q⟩
          · split at h
            · cases h
            · cases h; exact ⟨by simp, .inl rfl⟩
      · cases h; exact ⟨by simp, .inl rfl⟩
    · cases h; exact ⟨by simp, .inl rfl⟩
  · cases h; exact ⟨by simp, .inl rfl⟩
theorem sh_none : Sh 40 0 .none := ⟨by decide +kernel, by decide +kernel, by decide +kernel, by decide +kernel, by decide +kernel⟩
theorem sh_true (b : Bool) : Sh 40 0 (.bool b) := by cases b <;> exact ⟨by decide +kernel, by decide +kernel, by decide +kernel, by decide +kernel, by decide +kernel⟩
theorem sh_cf (d : Dt) : Sh 82 1 (ftD (cf d)) := by
  cases h : cf d with
  | none => exact sh_none.le (by decide) (by decide)
  | some q =>
    obtain ⟨p, n⟩ := q
    obtain ⟨hp, hn⟩ := cf_some h
    have a : Sh 40 0 (.str p) := by
      simp only [List.mem_cons, List.not_mem_nil, or_false] at hp
      rcases hp with rfl | rfl | rfl | rfl | rfl | rfl <;> exact Sh.str (by decide +kernel) (by decide +kernel) (by decide +kernel)
    have b : Sh 40 0 n := by
      rcases hn with rfl | ⟨i, hi, rfl⟩
      · exact sh_none
      · exact .int (by omega)
    exact Sh.tup (.cons a (.cons b .nil))
theorem kn_cd : ("BadCoder" : Str) ∈ kn := by decide +kernel
theorem nm_cd (p : Str) (n : Dt) : (xCoder p n).name = "BadCoder" := rfl
theorem lk_part (p : Str) (n : Dt) : (xCoder p n).fs.lookup ("part" : Str) = some (PyData.str p) := rfl
theorem lk_num (p : Str) (n : Dt) : (xCoder p n).fs.lookup ("number" : Str) = some n := rfl
theorem r_outcome (d : Dt) : w__law_outcome [.dat d] = .ret (.dat (ftD (cf d))) := by
  rw [wd__law_outcome]
  unfold t__law_outcome y__law_outcome_1
  cases h : cf d with
  | some q =>
    obtain ⟨p, n⟩ := q
    have e : w_need_coder [.dat d] = .exc (xCoder p n) := by rw [r_need_coder, h]
    simp only [e, hdlT, nm_cd, kn_cd, h__law_outcome_0, lk_part, lk_num, unF, anyT_const, ftD, opK2, opK, chK4, chK3, chK2, chK, unK, andK, orK, notK, andVK2, andVK, orVK2, orVK, notVK2, notVK, ifVK, ifTK, consK2, consK, tupK, lstK, fzK, slK3, slK2, slK, cbK, coK, isiK, drpK, retK, retOK, ifSK, setK, setOK, nxK, asgK, parK, par3K, augK, appK, wcK, wdK, callK, callOK, callSK2, callSK, forK, lcK, parOK2, parOK, raiseK, bodyX, startE, xSeq, sqF, xNext, xBreak, xCont, xNever, xIfS, xRet, xRetN, xRetV, xRetO, xSet, xSetO, xDrop, xAsg, ygT_t, ygsC, ygsN, ygN, xPar, xPar3, xParO, xAug, xAppend, xFrz, xVar, xC, xOp, xUn, pNeg_i, xTest, asB_b, xAnd, xOr, xNot, xAndV, xOrV, xNotV, xIf, xIfT, xChain, xNil, xCons, xTup, xLst, xFz, xCall, xCallO, xCallS, rOfT_d, rOfT_o, rOwT_o, ywNil, ywDat, ywVar, xCB, xCO, xIsi, xSl, xRev, pRev, xpN, xpS, asI_i, xIxO, xLenO, xLenS, xFor, xWhile, ziT, ziL, itT_t, itL_l, ziR1, ziR2, ziET, ziEL, ziZ, zpT, lrK2, xLr2, xLr1, enT_t, enL_l, xLc, lc2K, xLc2, noOwnB, wipeE, xYes, xRaise, xTry, tyF, xXf, pAdd_i, pAdd_t, pAdd_l, pSub_i, pLt_i, pLe_i, pGt_i, pGe_i, pIs_n, pIsNot_n, pIsB_b, pNotB_b, isN_n, isN_b, isN_i, isN_s, isN_t, isN_l, pIx_t, pIx_l, pLen_t, pLen_l, pMin2_i, pMax2_i, pAbs_i, pInt_i, pTuple_t, pTuple_l, pList_t, pList_l, pIadd_i, pSl_t, pSl_l, pEqI, pNeI, pEqS, pNeS, at0, at1, at2, at3, at4, at5, at6, at7, bx_ret, bx_exc, bx_fail, bd_ret, bd_exc, bd_fail, exS_ret, exS_exc, exS_fail, ofO_some, ofO_none, fnE, isi_T, isi_B, isi_I, isi_S, isi_L, sizeL, Option.bind_some, Option.map_some, Option.some.injEq, Int.reduceEq, Int.reduceLE, Int.reduceLT, Int.reduceNeg, Int.reduceAdd, Int.reduceSub, Int.reduceMul, decide_true, decide_false, decide_eq_true_eq, decide_not, eq_self, Int.cast_ofNat_Int, reduceCtorEq, List.length_cons, List.length_nil, List.map_cons, List.map_nil, List.replicate, List.cons_append, List.nil_append, List.append_nil, List.getElem?_cons_zero, List.getElem?_cons_succ, List.getElem?_nil, List.set_cons_zero, List.set_cons_succ, Nat.reduceAdd, Nat.reduceSub, Nat.reduceEqDiff, Nat.reduceLeDiff, Nat.reduceLT, Nat.zero_add, Nat.add_zero, true_and, and_true, false_and, and_false, Bool.not_true, Bool.not_false, Bool.true_and, Bool.and_true, Bool.false_and, Bool.and_false, Bool.or_false, Bool.false_or, Bool.or_true, Bool.true_or, Bool.not_eq_true', if_true, if_false, Bool.false_eq_true, Bool.not_eq_true, ↓reduceIte, ite_true, ite_false, Bool.true_eq_false, not_true_eq_false, not_false_eq_true, Nat.zero_le]
  | none =>
    have e : w_need_coder [.dat d] = .ret (.dat d) := by rw [r_need_coder, h]
    obtain ⟨c, rfl, hc⟩ := cf_none h
    simp only [e, pRepr_of (sh_cd hc) (by decide) (by decide), beq_self_eq_true, ftD, opK2, opK, chK4, chK3, chK2, chK, unK, andK, orK, notK, andVK2, andVK, orVK2, orVK, notVK2, notVK, ifVK, ifTK, consK2, consK, tupK, lstK, fzK, slK3, slK2, slK, cbK, coK, isiK, drpK, retK, retOK, ifSK, setK, setOK, nxK, asgK, parK, par3K, augK, appK, wcK, wdK, callK, callOK, callSK2, callSK, forK, lcK, parOK2, parOK, raiseK, bodyX, startE, xSeq, sqF, xNext, xBreak, xCont, xNever, xIfS, xRet, xRetN, xRetV, xRetO, xSet, xSetO, xDrop, xAsg, ygT_t, ygsC, ygsN, ygN, xPar, xPar3, xParO, xAug, xAppend, xFrz, xVar, xC, xOp, xUn, pNeg_i, xTest, asB_b, xAnd, xOr, xNot, xAndV, xOrV, xNotV, xIf, xIfT, xChain, xNil, xCons, xTup, xLst, xFz, xCall, xCallO, xCallS, rOfT_d, rOfT_o, rOwT_o, ywNil, ywDat, ywVar, xCB, xCO, xIsi, xSl, xRev, pRev, xpN, xpS, asI_i, xIxO, xLenO, xLenS, xFor, xWhile, ziT, ziL, itT_t, itL_l, ziR1, ziR2, ziET, ziEL, ziZ, zpT, lrK2, xLr2, xLr1, enT_t, enL_l, xLc, lc2K, xLc2, noOwnB, wipeE, xYes, xRaise, xTry, tyF, xXf, pAdd_i, pAdd_t, pAdd_l, pSub_i, pLt_i, pLe_i, pGt_i, pGe_i, pIs_n, pIsNot_n, pIsB_b, pNotB_b, isN_n, isN_b, isN_i, isN_s, isN_t, isN_l, pIx_t, pIx_l, pLen_t, pLen_l, pMin2_i, pMax2_i, pAbs_i, pInt_i, pTuple_t, pTuple_l, pList_t, pList_l, pIadd_i, pSl_t, pSl_l, pEqI, pNeI, pEqS, pNeS, at0, at1, at2, at3, at4, at5, at6, at7, bx_ret, bx_exc, bx_fail, bd_ret, bd_exc, bd_fail, exS_ret, exS_exc, exS_fail, ofO_some, ofO_none, fnE, isi_T, isi_B, isi_I, isi_S, isi_L, sizeL, Option.bind_some, Option.map_some, Option.some.injEq, Int.reduceEq, Int.reduceLE, Int.reduceLT, Int.reduceNeg, Int.reduceAdd, Int.reduceSub, Int.reduceMul, decide_true, decide_false, decide_eq_true_eq, decide_not, eq_self, Int.cast_ofNat_Int, reduceCtorEq, List.length_cons, List.length_nil, List.map_cons, List.map_nil, List.replicate, List.cons_append, List.nil_append, List.append_nil, List.getElem?_cons_zero, List.getElem?_cons_succ, List.getElem?_nil, List.set_cons_zero, List.set_cons_succ, Nat.reduceAdd, Nat.reduceSub, Nat.reduceEqDiff, Nat.reduceLeDiff, Nat.reduceLT, Nat.zero_add, Nat.add_zero, true_and, and_true, false_and, and_false, Bool.not_true, Bool.not_false, Bool.true_and, Bool.and_true, Bool.false_and, Bool.and_false, Bool.or_false, Bool.false_or, Bool.or_true, Bool.true_or, Bool.not_eq_true', if_true, if_false, Bool.false_eq_true, Bool.not_eq_true, ↓reduceIte, ite_true, ite_false, Bool.true_eq_false, not_true_eq_false, not_false_eq_true, Nat.zero_le]
end LW


set_option maxRecDepth 100000
set_option maxHeartbeats 1000000
namespace LW
open PySem PySem.Spec PyProof.Rows L2 VL
theorem at_mem {l : List Dt} {q : Int} (h0 : 0 ≤ q) (h1 : q < l.length) : ∃ x ∈ l, atI l q = some x := by
  obtain ⟨k, rfl⟩ := Int.eq_ofNat_of_zero_le h0
  have hk : k < l.length := by omega
  exact ⟨l[k], List.getElem_mem _, atI_nat (List.getElem?_eq_getElem hk)⟩
theorem r_put {ds : List Dt} {k : Nat} (x : Dt) (hk : k < ds.length) (hl : ds.length ≤ 5000) : w__law_put [.dat (.tuple ds), .dat (.int (k : Int)), .dat x] = .ret (.dat (.tuple (ds.take k ++ x :: ds.drop (k + 1)))) := by
  have ha := cut_hi ds k
  have hb : cutD ds (some ((k : Int) + 1)) none = ds.drop (k + 1) := by have := cut_lo ds (k + 1); rwa [Int.natCast_add] at this
  have l1 : (ds.take k).length + (0 + 1) ≤ 16777216 := by rw [List.length_take]; omega
  have l2 : (ds.take k ++ [x]).length + (ds.drop (k + 1)).length ≤ 16777216 := by rw [List.length_append, List.length_take, List.length_drop, List.length_singleton]; omega
  rw [wd__law_put]
  simp only [t__law_put, ha, hb, l1, l2, List.append_assoc, opK2, opK, chK4, chK3, chK2, chK, unK, andK, orK, notK, andVK2, andVK, orVK2, orVK, notVK2, notVK, ifVK, ifTK, consK2, consK, tupK, lstK, fzK, slK3, slK2, slK, cbK, coK, isiK, drpK, retK, retOK, ifSK, setK, setOK, nxK, asgK, parK, par3K, augK, appK, wcK, wdK, callK, callOK, callSK2, callSK, forK, lcK, parOK2, parOK, raiseK, bodyX, startE, xSeq, sqF, xNext, xBreak, xCont, xNever, xIfS, xRet, xRetN, xRetV, xRetO, xSet, xSetO, xDrop, xAsg, ygT_t, ygsC, ygsN, ygN, xPar, xPar3, xParO, xAug, xAppend, xFrz, xVar, xC, xOp, xUn, pNeg_i, xTest, asB_b, xAnd, xOr, xNot, xAndV, xOrV, xNotV, xIf, xIfT, xChain, xNil, xCons, xTup, xLst, xFz, xCall, xCallO, xCallS, rOfT_d, rOfT_o, rOwT_o, ywNil, ywDat, ywVar, xCB, xCO, xIsi, xSl, xRev, pRev, xpN, xpS, asI_i, xIxO, xLenO, xLenS, xFor, xWhile, ziT, ziL, itT_t, itL_l, ziR1, ziR2, ziET, ziEL, ziZ, zpT, lrK2, xLr2, xLr1, enT_t, enL_l, xLc, lc2K, xLc2, noOwnB, wipeE, xYes, xRaise, xTry, tyF, xXf, pAdd_i, pAdd_t, pAdd_l, pSub_i, pLt_i, pLe_i, pGt_i, pGe_i, pIs_n, pIsNot_n, pIsB_b, pNotB_b, isN_n, isN_b, isN_i, isN_s, isN_t, isN_l, pIx_t, pIx_l, pLen_t, pLen_l, pMin2_i, pMax2_i, pAbs_i, pInt_i, pTuple_t, pTuple_l, pList_t, pList_l, pIadd_i, pSl_t, pSl_l, pEqI, pNeI, pEqS, pNeS, at0, at1, at2, at3, at4, at5, at6, at7, bx_ret, bx_exc, bx_fail, bd_ret, bd_exc, bd_fail, exS_ret, exS_exc, exS_fail, ofO_some, ofO_none, fnE, isi_T, isi_B, isi_I, isi_S, isi_L, sizeL, Option.bind_some, Option.map_some, Option.some.injEq, Int.reduceEq, Int.reduceLE, Int.reduceLT, Int.reduceNeg, Int.reduceAdd, Int.reduceSub, Int.reduceMul, decide_true, decide_false, decide_eq_true_eq, decide_not, eq_self, Int.cast_ofNat_Int, reduceCtorEq, List.length_cons, List.length_nil, List.map_cons, List.map_nil, List.replicate, List.cons_append, List.nil_append, List.append_nil, List.getElem?_cons_zero, List.getElem?_cons_succ, List.getElem?_nil, List.set_cons_zero, List.set_cons_succ, Nat.reduceAdd, Nat.reduceSub, Nat.reduceEqDiff, Nat.reduceLeDiff, Nat.reduceLT, Nat.zero_add, Nat.add_zero, true_and, and_true, false_and, and_false, Bool.not_true, Bool.not_false, Bool.true_and, Bool.and_true, Bool.false_and, Bool.and_false, Bool.or_false, Bool.false_or, Bool.or_true, Bool.true_or, Bool.not_eq_true', if_true, if_false, Bool.false_eq_true, Bool.not_eq_true, ↓reduceIte, ite_true, ite_false, Bool.true_eq_false, not_true_eq_false, not_false_eq_true, Nat.zero_le]
def RowG (n : Nat) (x : Dt) : Prop := ∀ xs, x = .tuple xs → xs.length ≤ n ∧ ∀ y ∈ xs, Shp 50 y
theorem RowG.mono {n N : Nat} {x : Dt} (h : RowG n x) (hN : n ≤ N) : RowG N x := fun xs e => ⟨Nat.le_trans (h xs e).1 hN, (h xs e).2⟩
def Gd (n : Nat) (ds : List Dt) : Prop := ds.length = 5 ∧ ∀ x ∈ ds, RowG n x
theorem Gd.mono {n N : Nat} {ds : List Dt} (h : Gd n ds) (hN : n ≤ N) : Gd N ds := ⟨h.1, fun x hx => (h.2 x hx).mono hN⟩
theorem Gd.put {n N k : Nat} {ds : List Dt} {x : Dt} (h : Gd n ds) (hN : n ≤ N) (hx : RowG N x) (hk : k < 5) : Gd N (ds.take k ++ x :: ds.drop (k + 1)) := by
  have h5 := h.1
  refine ⟨by rw [List.length_append, List.length_take, List.length_cons, List.length_drop]; omega, fun y hy => ?_⟩
  rcases List.mem_append.mp hy with hy | hy
  · exact (h.2 y (List.mem_of_mem_take hy)).mono hN
  · rcases List.mem_cons.mp hy with rfl | hy
    · exact hx
    · exact (h.2 y (List.mem_of_mem_drop hy)).mono hN
theorem RowG.one {N : Nat} {y : Dt} (hN : 1 ≤ N) (h : Shp 50 y) : RowG N (.tuple [y]) := fun xs e => by
  cases e
  exact ⟨hN, fun z hz => by rw [List.mem_singleton.mp hz]; exact h⟩
theorem RowG.put {n N p : Nat} {xs : List Dt} {x : Dt} (h : RowG n (.tuple xs)) (hN : n ≤ N) (hx : Shp 50 x) (hp : p < xs.length) : RowG N (.tuple (xs.take p ++ x :: xs.drop (p + 1))) := fun ys e => by
  cases e
  obtain ⟨h1, h2⟩ := h xs rfl
  refine ⟨by rw [List.length_append, List.length_take, List.length_cons, List.length_drop]; omega, fun y hy => ?_⟩
  rcases List.mem_append.mp hy with hy | hy
  · exact h2 y (List.mem_of_mem_take hy)
  · rcases List.mem_cons.mp hy with rfl | hy
    · exact hx
    · exact h2 y (List.mem_of_mem_drop hy)
def SpP (n : Nat) (w : VL.W) : Prop := ∃ d', w = .dat d' ∧ ∀ xs, d' = .tuple xs → xs.length = 5 → Gd (17 * n + 1) xs
theorem SpP.put {n k : Nat} {ds : List Dt} {x : Dt} (h : Gd n ds) (hx : RowG (17 * n + 1) x) (hk : k < 5) : SpP n (.dat (.tuple (ds.take k ++ x :: ds.drop (k + 1)))) := ⟨_, rfl, fun xs e _ => by cases e; exact h.put (by omega) hx hk⟩
theorem ep : pPow (.int 10) (.int 30) = some (.int (10 ^ 30)) := if_pos ⟨by decide, by decide, by decide⟩
theorem d_spoiled {n : Nat} (hn : n ≤ 300) {ds : List Dt} (h : Gd n ds) : Dr 5 (w__law_spoiled [.tok, .dat (.tuple ds)]) (SpP n) := by
  rw [wd__law_spoiled]
  refine Dr.body rfl ?_
  unfold t__law_spoiled
  refine Dr.le (k := 1 + 4) ?_ (by decide)
  refine Dr.seq (J := fun ρ => ∃ q : Int, 0 ≤ q ∧ q < 7 ∧ ρ = [some .tok, some (.dat (.tuple ds)), some (.dat (.int q)), none, none, none]) 1 _ ?_ ?_
  · simp only [r_draw, bx_draw, bd_draw, exS_draw, opK2, opK, chK4, chK3, chK2, chK, unK, andK, orK, notK, andVK2, andVK, orVK2, orVK, notVK2, notVK, ifVK, ifTK, consK2, consK, tupK, lstK, fzK, slK3, slK2, slK, cbK, coK, isiK, drpK, retK, retOK, ifSK, setK, setOK, nxK, asgK, parK, par3K, augK, appK, wcK, wdK, callK, callOK, callSK2, callSK, forK, lcK, parOK2, parOK, raiseK, bodyX, startE, xSeq, sqF, xNext, xBreak, xCont, xNever, xIfS, xRet, xRetN, xRetV, xRetO, xSet, xSetO, xDrop, xAsg, ygT_t, ygsC, ygsN, ygN, xPar, xPar3, xParO, xAug, xAppend, xFrz, xVar, xC, xOp, xUn, pNeg_i, xTest, asB_b, xAnd, xOr, xNot, xAndV, xOrV, xNotV, xIf, xIfT, xChain, xNil, xCons, xTup, xLst, xFz, xCall, xCallO, xCallS, rOfT_d, rOfT_o, rOwT_o, ywNil, ywDat, ywVar, xCB, xCO, xIsi, xSl, xRev, pRev, xpN, xpS, asI_i, xIxO, xLenO, xLenS, xFor, xWhile, ziT, ziL, itT_t, itL_l, ziR1, ziR2, ziET, ziEL, ziZ, zpT, lrK2, xLr2, xLr1, enT_t, enL_l, xLc, lc2K, xLc2, noOwnB, wipeE, xYes, xRaise, xTry, tyF, xXf, pAdd_i, pAdd_t, pAdd_l, pSub_i, pLt_i, pLe_i, pGt_i, pGe_i, pIs_n, pIsNot_n, pIsB_b, pNotB_b, isN_n, isN_b, isN_i, isN_s, isN_t, isN_l, pIx_t, pIx_l, pLen_t, pLen_l, pMin2_i, pMax2_i, pAbs_i, pInt_i, pTuple_t, pTuple_l, pList_t, pList_l, pIadd_i, pSl_t, pSl_l, pEqI, pNeI, pEqS, pNeS, at0, at1, at2, at3, at4, at5, at6, at7, bx_ret, bx_exc, bx_fail, bd_ret, bd_exc, bd_fail, exS_ret, exS_exc, exS_fail, ofO_some, ofO_none, fnE, isi_T, isi_B, isi_I, isi_S, isi_L, sizeL, Option.bind_some, Option.map_some, Option.some.injEq, Int.reduceEq, Int.reduceLE, Int.reduceLT, Int.reduceNeg, Int.reduceAdd, Int.reduceSub, Int.reduceMul, decide_true, decide_false, decide_eq_true_eq, decide_not, eq_self, Int.cast_ofNat_Int, reduceCtorEq, List.length_cons, List.length_nil, List.map_cons, List.map_nil, List.replicate, List.cons_append, List.nil_append, List.append_nil, List.getElem?_cons_zero, List.getElem?_cons_succ, List.getElem?_nil, List.set_cons_zero, List.set_cons_succ, Nat.reduceAdd, Nat.reduceSub, Nat.reduceEqDiff, Nat.reduceLeDiff, Nat.reduceLT, Nat.zero_add, Nat.add_zero, true_and, and_true, false_and, and_false, Bool.not_true, Bool.not_false, Bool.true_and, Bool.and_true, Bool.false_and, Bool.and_false, Bool.or_false, Bool.false_or, Bool.or_true, Bool.true_or, Bool.not_eq_true', if_true, if_false, Bool.false_eq_true, Bool.not_eq_true, ↓reduceIte, ite_true, ite_false, Bool.true_eq_false, not_true_eq_false, not_false_eq_true, Nat.zero_le]
    refine Dr.draw (by omega) (by omega) fun q q0 q1 => ?_
    try simp only [r_draw, bx_draw, bd_draw, exS_draw, opK2, opK, chK4, chK3, chK2, chK, unK, andK, orK, notK, andVK2, andVK, orVK2, orVK, notVK2, notVK, ifVK, ifTK, consK2, consK, tupK, lstK, fzK, slK3, slK2, slK, cbK, coK, isiK, drpK, retK, retOK, ifSK, setK, setOK, nxK, asgK, parK, par3K, augK, appK, wcK, wdK, callK, callOK, callSK2, callSK, forK, lcK, parOK2, parOK, raiseK, bodyX, startE, xSeq, sqF, xNext, xBreak, xCont, xNever, xIfS, xRet, xRetN, xRetV, xRetO, xSet, xSetO, xDrop, xAsg, ygT_t, ygsC, ygsN, ygN, xPar, xPar3, xParO, xAug, xAppend, xFrz, xVar, xC, xOp, xUn, pNeg_i, xTest, asB_b, xAnd, xOr, xNot, xAndV, xOrV, xNotV, xIf, xIfT, xChain, xNil, xCons, xTup, xLst, xFz, xCall, xCallO, xCallS, rOfT_d, rOfT_o, rOwT_o, ywNil, ywDat, ywVar, xCB, xCO, xIsi, xSl, xRev, pRev, xpN, xpS, asI_i, xIxO, xLenO, xLenS, xFor, xWhile, ziT, ziL, itT_t, itL_l, ziR1, ziR2, ziET, ziEL, ziZ, zpT, lrK2, xLr2, xLr1, enT_t, enL_l, xLc, lc2K, xLc2, noOwnB, wipeE, xYes, xRaise, xTry, tyF, xXf, pAdd_i, pAdd_t, pAdd_l, pSub_i, pLt_i, pLe_i, pGt_i, pGe_i, pIs_n, pIsNot_n, pIsB_b, pNotB_b, isN_n, isN_b, isN_i, isN_s, isN_t, isN_l, pIx_t, pIx_l, pLen_t, pLen_l, pMin2_i, pMax2_i, pAbs_i, pInt_i, pTuple_t, pTuple_l, pList_t, pList_l, pIadd_i, pSl_t, pSl_l, pEqI, pNeI, pEqS, pNeS, at0, at1, at2, at3, at4, at5, at6, at7, bx_ret, bx_exc, bx_fail, bd_ret, bd_exc, bd_fail, exS_ret, exS_exc, exS_fail, ofO_some, ofO_none, fnE, isi_T, isi_B, isi_I, isi_S, isi_L, sizeL, Option.bind_some, Option.map_some, Option.some.injEq, Int.reduceEq, Int.reduceLE, Int.reduceLT, Int.reduceNeg, Int.reduceAdd, Int.reduceSub, Int.reduceMul, decide_true, decide_false, decide_eq_true_eq, decide_not, eq_self, Int.cast_ofNat_Int, reduceCtorEq, List.length_cons, List.length_nil, List.map_cons, List.map_nil, List.replicate, List.cons_append, List.nil_append, List.append_nil, List.getElem?_cons_zero, List.getElem?_cons_succ, List.getElem?_nil, List.set_cons_zero, List.set_cons_succ, Nat.reduceAdd, Nat.reduceSub, Nat.reduceEqDiff, Nat.reduceLeDiff, Nat.reduceLT, Nat.zero_add, Nat.add_zero, true_and, and_true, false_and, and_false, Bool.not_true, Bool.not_false, Bool.true_and, Bool.and_true, Bool.false_and, Bool.and_false, Bool.or_false, Bool.false_or, Bool.or_true, Bool.true_or, Bool.not_eq_true', if_true, if_false, Bool.false_eq_true, Bool.not_eq_true, ↓reduceIte, ite_true, ite_false, Bool.true_eq_false, not_true_eq_false, not_false_eq_true, Nat.zero_le]
    exact Dr.ret ⟨_, rfl, q, q0, q1, rfl⟩
  rintro ρ ⟨q, q0, q1, rfl⟩
  have h5 := h.1
  by_cases hq : q < 2
  · obtain ⟨k, rfl⟩ := Int.eq_ofNat_of_zero_le q0
    have hk : k < 2 := by omega
    simp only [ep, hq, r_draw, bx_draw, bd_draw, exS_draw, opK2, opK, chK4, chK3, chK2, chK, unK, andK, orK, notK, andVK2, andVK, orVK2, orVK, notVK2, notVK, ifVK, ifTK, consK2, consK, tupK, lstK, fzK, slK3, slK2, slK, cbK, coK, isiK, drpK, retK, retOK, ifSK, setK, setOK, nxK, asgK, parK, par3K, augK, appK, wcK, wdK, callK, callOK, callSK2, callSK, forK, lcK, parOK2, parOK, raiseK, bodyX, startE, xSeq, sqF, xNext, xBreak, xCont, xNever, xIfS, xRet, xRetN, xRetV, xRetO, xSet, xSetO, xDrop, xAsg, ygT_t, ygsC, ygsN, ygN, xPar, xPar3, xParO, xAug, xAppend, xFrz, xVar, xC, xOp, xUn, pNeg_i, xTest, asB_b, xAnd, xOr, xNot, xAndV, xOrV, xNotV, xIf, xIfT, xChain, xNil, xCons, xTup, xLst, xFz, xCall, xCallO, xCallS, rOfT_d, rOfT_o, rOwT_o, ywNil, ywDat, ywVar, xCB, xCO, xIsi, xSl, xRev, pRev, xpN, xpS, asI_i, xIxO, xLenO, xLenS, xFor, xWhile, ziT, ziL, itT_t, itL_l, ziR1, ziR2, ziET, ziEL, ziZ, zpT, lrK2, xLr2, xLr1, enT_t, enL_l, xLc, lc2K, xLc2, noOwnB, wipeE, xYes, xRaise, xTry, tyF, xXf, pAdd_i, pAdd_t, pAdd_l, pSub_i, pLt_i, pLe_i, pGt_i, pGe_i, pIs_n, pIsNot_n, pIsB_b, pNotB_b, isN_n, isN_b, isN_i, isN_s, isN_t, isN_l, pIx_t, pIx_l, pLen_t, pLen_l, pMin2_i, pMax2_i, pAbs_i, pInt_i, pTuple_t, pTuple_l, pList_t, pList_l, pIadd_i, pSl_t, pSl_l, pEqI, pNeI, pEqS, pNeS, at0, at1, at2, at3, at4, at5, at6, at7, bx_ret, bx_exc, bx_fail, bd_ret, bd_exc, bd_fail, exS_ret, exS_exc, exS_fail, ofO_some, ofO_none, fnE, isi_T, isi_B, isi_I, isi_S, isi_L, sizeL, Option.bind_some, Option.map_some, Option.some.injEq, Int.reduceEq, Int.reduceLE, Int.reduceLT, Int.reduceNeg, Int.reduceAdd, Int.reduceSub, Int.reduceMul, decide_true, decide_false, decide_eq_true_eq, decide_not, eq_self, Int.cast_ofNat_Int, reduceCtorEq, List.length_cons, List.length_nil, List.map_cons, List.map_nil, List.replicate, List.cons_append, List.nil_append, List.append_nil, List.getElem?_cons_zero, List.getElem?_cons_succ, List.getElem?_nil, List.set_cons_zero, List.set_cons_succ, Nat.reduceAdd, Nat.reduceSub, Nat.reduceEqDiff, Nat.reduceLeDiff, Nat.reduceLT, Nat.zero_add, Nat.add_zero, true_and, and_true, false_and, and_false, Bool.not_true, Bool.not_false, Bool.true_and, Bool.and_true, Bool.false_and, Bool.and_false, Bool.or_false, Bool.false_or, Bool.or_true, Bool.true_or, Bool.not_eq_true', if_true, if_false, Bool.false_eq_true, Bool.not_eq_true, ↓reduceIte, ite_true, ite_false, Bool.true_eq_false, not_true_eq_false, not_false_eq_true, Nat.zero_le]
    refine Dr.le (k := 0 + 1) (Dr.draw (by omega) (by omega) fun r r0 r1 => ?_) (by decide)
    obtain ⟨x, hx, e⟩ := at_mem (l := [.none, .bool true, .str "0", .tuple [.int 0], .list [.int 0], .int 0, .int 1, .int (-1), .int (-32768), .int (-32769), .int 32767, .int 32768, .int (10 ^ 30)]) r0 (by simpa using r1)
    simp only [e, r_put x (show k < ds.length by omega) (by omega), r_draw, bx_draw, bd_draw, exS_draw, opK2, opK, chK4, chK3, chK2, chK, unK, andK, orK, notK, andVK2, andVK, orVK2, orVK, notVK2, notVK, ifVK, ifTK, consK2, consK, tupK, lstK, fzK, slK3, slK2, slK, cbK, coK, isiK, drpK, retK, retOK, ifSK, setK, setOK, nxK, asgK, parK, par3K, augK, appK, wcK, wdK, callK, callOK, callSK2, callSK, forK, lcK, parOK2, parOK, raiseK, bodyX, startE, xSeq, sqF, xNext, xBreak, xCont, xNever, xIfS, xRet, xRetN, xRetV, xRetO, xSet, xSetO, xDrop, xAsg, ygT_t, ygsC, ygsN, ygN, xPar, xPar3, xParO, xAug, xAppend, xFrz, xVar, xC, xOp, xUn, pNeg_i, xTest, asB_b, xAnd, xOr, xNot, xAndV, xOrV, xNotV, xIf, xIfT, xChain, xNil, xCons, xTup, xLst, xFz, xCall, xCallO, xCallS, rOfT_d, rOfT_o, rOwT_o, ywNil, ywDat, ywVar, xCB, xCO, xIsi, xSl, xRev, pRev, xpN, xpS, asI_i, xIxO, xLenO, xLenS, xFor, xWhile, ziT, ziL, itT_t, itL_l, ziR1, ziR2, ziET, ziEL, ziZ, zpT, lrK2, xLr2, xLr1, enT_t, enL_l, xLc, lc2K, xLc2, noOwnB, wipeE, xYes, xRaise, xTry, tyF, xXf, pAdd_i, pAdd_t, pAdd_l, pSub_i, pLt_i, pLe_i, pGt_i, pGe_i, pIs_n, pIsNot_n, pIsB_b, pNotB_b, isN_n, isN_b, isN_i, isN_s, isN_t, isN_l, pIx_t, pIx_l, pLen_t, pLen_l, pMin2_i, pMax2_i, pAbs_i, pInt_i, pTuple_t, pTuple_l, pList_t, pList_l, pIadd_i, pSl_t, pSl_l, pEqI, pNeI, pEqS, pNeS, at0, at1, at2, at3, at4, at5, at6, at7, bx_ret, bx_exc, bx_fail, bd_ret, bd_exc, bd_fail, exS_ret, exS_exc, exS_fail, ofO_some, ofO_none, fnE, isi_T, isi_B, isi_I, isi_S, isi_L, sizeL, Option.bind_some, Option.map_some, Option.some.injEq, Int.reduceEq, Int.reduceLE, Int.reduceLT, Int.reduceNeg, Int.reduceAdd, Int.reduceSub, Int.reduceMul, decide_true, decide_false, decide_eq_true_eq, decide_not, eq_self, Int.cast_ofNat_Int, reduceCtorEq, List.length_cons, List.length_nil, List.map_cons, List.map_nil, List.replicate, List.cons_append, List.nil_append, List.append_nil, List.getElem?_cons_zero, List.getElem?_cons_succ, List.getElem?_nil, List.set_cons_zero, List.set_cons_succ, Nat.reduceAdd, Nat.reduceSub, Nat.reduceEqDiff, Nat.reduceLeDiff, Nat.reduceLT, Nat.zero_add, Nat.add_zero, true_and, and_true, false_and, and_false, Bool.not_true, Bool.not_false, Bool.true_and, Bool.and_true, Bool.false_and, Bool.and_false, Bool.or_false, Bool.false_or, Bool.or_true, Bool.true_or, Bool.not_eq_true', if_true, if_false, Bool.false_eq_true, Bool.not_eq_true, ↓reduceIte, ite_true, ite_false, Bool.true_eq_false, not_true_eq_false, not_false_eq_true, Nat.zero_le]
    have hg : RowG (17 * n + 1) x := by
      simp only [List.mem_cons, List.not_mem_nil, or_false] at hx
      rcases hx with rfl | rfl | rfl | rfl | rfl | rfl | rfl | rfl | rfl | rfl | rfl | rfl | rfl <;> first | (intro xs e; cases e; done) | exact RowG.one (by omega) ⟨by decide +kernel, by decide +kernel⟩
    exact Dr.ret ⟨_, rfl, SpP.put h hg (by omega)⟩
  by_cases hq4 : q = 4
  · refine Dr.step (ρ' := [some .tok, some (.dat (.tuple ds)), some (.dat (.int q)), none, none, none]) (by simp only [hq, opK2, opK, chK4, chK3, chK2, chK, unK, andK, orK, notK, andVK2, andVK, orVK2, orVK, notVK2, notVK, ifVK, ifTK, consK2, consK, tupK, lstK, fzK, slK3, slK2, slK, cbK, coK, isiK, drpK, retK, retOK, ifSK, setK, setOK, nxK, asgK, parK, par3K, augK, appK, wcK, wdK, callK, callOK, callSK2, callSK, forK, lcK, parOK2, parOK, raiseK, bodyX, startE, xSeq, sqF, xNext, xBreak, xCont, xNever, xIfS, xRet, xRetN, xRetV, xRetO, xSet, xSetO, xDrop, xAsg, ygT_t, ygsC, ygsN, ygN, xPar, xPar3, xParO, xAug, xAppend, xFrz, xVar, xC, xOp, xUn, pNeg_i, xTest, asB_b, xAnd, xOr, xNot, xAndV, xOrV, xNotV, xIf, xIfT, xChain, xNil, xCons, xTup, xLst, xFz, xCall, xCallO, xCallS, rOfT_d, rOfT_o, rOwT_o, ywNil, ywDat, ywVar, xCB, xCO, xIsi, xSl, xRev, pRev, xpN, xpS, asI_i, xIxO, xLenO, xLenS, xFor, xWhile, ziT, ziL, itT_t, itL_l, ziR1, ziR2, ziET, ziEL, ziZ, zpT, lrK2, xLr2, xLr1, enT_t, enL_l, xLc, lc2K, xLc2, noOwnB, wipeE, xYes, xRaise, xTry, tyF, xXf, pAdd_i, pAdd_t, pAdd_l, pSub_i, pLt_i, pLe_i, pGt_i, pGe_i, pIs_n, pIsNot_n, pIsB_b, pNotB_b, isN_n, isN_b, isN_i, isN_s, isN_t, isN_l, pIx_t, pIx_l, pLen_t, pLen_l, pMin2_i, pMax2_i, pAbs_i, pInt_i, pTuple_t, pTuple_l, pList_t, pList_l, pIadd_i, pSl_t, pSl_l, pEqI, pNeI, pEqS, pNeS, at0, at1, at2, at3, at4, at5, at6, at7, bx_ret, bx_exc, bx_fail, bd_ret, bd_exc, bd_fail, exS_ret, exS_exc, exS_fail, ofO_some, ofO_none, fnE, isi_T, isi_B, isi_I, isi_S, isi_L, sizeL, Option.bind_some, Option.map_some, Option.some.injEq, Int.reduceEq, Int.reduceLE, Int.reduceLT, Int.reduceNeg, Int.reduceAdd, Int.reduceSub, Int.reduceMul, decide_true, decide_false, decide_eq_true_eq, decide_not, eq_self, Int.cast_ofNat_Int, reduceCtorEq, List.length_cons, List.length_nil, List.map_cons, List.map_nil, List.replicate, List.cons_append, List.nil_append, List.append_nil, List.getElem?_cons_zero, List.getElem?_cons_succ, List.getElem?_nil, List.set_cons_zero, List.set_cons_succ, Nat.reduceAdd, Nat.reduceSub, Nat.reduceEqDiff, Nat.reduceLeDiff, Nat.reduceLT, Nat.zero_add, Nat.add_zero, true_and, and_true, false_and, and_false, Bool.not_true, Bool.not_false, Bool.true_and, Bool.and_true, Bool.false_and, Bool.and_false, Bool.or_false, Bool.false_or, Bool.or_true, Bool.true_or, Bool.not_eq_true', if_true, if_false, Bool.false_eq_true, Bool.not_eq_true, ↓reduceIte, ite_true, ite_false, Bool.true_eq_false, not_true_eq_false, not_false_eq_true, Nat.zero_le]) ?_
    subst hq4
    simp only [ep, r_draw, bx_draw, bd_draw, exS_draw, opK2, opK, chK4, chK3, chK2, chK, unK, andK, orK, notK, andVK2, andVK, orVK2, orVK, notVK2, notVK, ifVK, ifTK, consK2, consK, tupK, lstK, fzK, slK3, slK2, slK, cbK, coK, isiK, drpK, retK, retOK, ifSK, setK, setOK, nxK, asgK, parK, par3K, augK, appK, wcK, wdK, callK, callOK, callSK2, callSK, forK, lcK, parOK2, parOK, raiseK, bodyX, startE, xSeq, sqF, xNext, xBreak, xCont, xNever, xIfS, xRet, xRetN, xRetV, xRetO, xSet, xSetO, xDrop, xAsg, ygT_t, ygsC, ygsN, ygN, xPar, xPar3, xParO, xAug, xAppend, xFrz, xVar, xC, xOp, xUn, pNeg_i, xTest, asB_b, xAnd, xOr, xNot, xAndV, xOrV, xNotV, xIf, xIfT, xChain, xNil, xCons, xTup, xLst, xFz, xCall, xCallO, xCallS, rOfT_d, rOfT_o, rOwT_o, ywNil, ywDat, ywVar, xCB, xCO, xIsi, xSl, xRev, pRev, xpN, xpS, asI_i, xIxO, xLenO, xLenS, xFor, xWhile, ziT, ziL, itT_t, itL_l, ziR1, ziR2, ziET, ziEL, ziZ, zpT, lrK2, xLr2, xLr1, enT_t, enL_l, xLc, lc2K, xLc2, noOwnB, wipeE, xYes, xRaise, xTry, tyF, xXf, pAdd_i, pAdd_t, pAdd_l, pSub_i, pLt_i, pLe_i, pGt_i, pGe_i, pIs_n, pIsNot_n, pIsB_b, pNotB_b, isN_n, isN_b, isN_i, isN_s, isN_t, isN_l, pIx_t, pIx_l, pLen_t, pLen_l, pMin2_i, pMax2_i, pAbs_i, pInt_i, pTuple_t, pTuple_l, pList_t, pList_l, pIadd_i, pSl_t, pSl_l, pEqI, pNeI, pEqS, pNeS, at0, at1, at2, at3, at4, at5, at6, at7, bx_ret, bx_exc, bx_fail, bd_ret, bd_exc, bd_fail, exS_ret, exS_exc, exS_fail, ofO_some, ofO_none, fnE, isi_T, isi_B, isi_I, isi_S, isi_L, sizeL, Option.bind_some, Option.map_some, Option.some.injEq, Int.reduceEq, Int.reduceLE, Int.reduceLT, Int.reduceNeg, Int.reduceAdd, Int.reduceSub, Int.reduceMul, decide_true, decide_false, decide_eq_true_eq, decide_not, eq_self, Int.cast_ofNat_Int, reduceCtorEq, List.length_cons, List.length_nil, List.map_cons, List.map_nil, List.replicate, List.cons_append, List.nil_append, List.append_nil, List.getElem?_cons_zero, List.getElem?_cons_succ, List.getElem?_nil, List.set_cons_zero, List.set_cons_succ, Nat.reduceAdd, Nat.reduceSub, Nat.reduceEqDiff, Nat.reduceLeDiff, Nat.reduceLT, Nat.zero_add, Nat.add_zero, true_and, and_true, false_and, and_false, Bool.not_true, Bool.not_false, Bool.true_and, Bool.and_true, Bool.false_and, Bool.and_false, Bool.or_false, Bool.false_or, Bool.or_true, Bool.true_or, Bool.not_eq_true', if_true, if_false, Bool.false_eq_true, Bool.not_eq_true, ↓reduceIte, ite_true, ite_false, Bool.true_eq_false, not_true_eq_false, not_false_eq_true, Nat.zero_le]
    refine Dr.le (k := 0 + 1) (Dr.draw (by omega) (by omega) fun r r0 r1 => ?_) (by decide)
    obtain ⟨x, hx, e⟩ := at_mem (l := [.none, .bool true, .bool false, .str "2", .tuple [.int 2], .list [.int 2], .int 1, .int 0, .int 2, .int 99, .int 100, .int (-2), .int (10 ^ 30)]) r0 (by simpa using r1)
    have hp := r_put x (show 4 < ds.length by omega) (by omega)
    rw [show ((4 : Nat) : Int) = 4 from rfl] at hp
    simp only [e, hp, r_draw, bx_draw, bd_draw, exS_draw, opK2, opK, chK4, chK3, chK2, chK, unK, andK, orK, notK, andVK2, andVK, orVK2, orVK, notVK2, notVK, ifVK, ifTK, consK2, consK, tupK, lstK, fzK, slK3, slK2, slK, cbK, coK, isiK, drpK, retK, retOK, ifSK, setK, setOK, nxK, asgK, parK, par3K, augK, appK, wcK, wdK, callK, callOK, callSK2, callSK, forK, lcK, parOK2, parOK, raiseK, bodyX, startE, xSeq, sqF, xNext, xBreak, xCont, xNever, xIfS, xRet, xRetN, xRetV, xRetO, xSet, xSetO, xDrop, xAsg, ygT_t, ygsC, ygsN, ygN, xPar, xPar3, xParO, xAug, xAppend, xFrz, xVar, xC, xOp, xUn, pNeg_i, xTest, asB_b, xAnd, xOr, xNot, xAndV, xOrV, xNotV, xIf, xIfT, xChain, xNil, xCons, xTup, xLst, xFz, xCall, xCallO, xCallS, rOfT_d, rOfT_o, rOwT_o, ywNil, ywDat, ywVar, xCB, xCO, xIsi, xSl, xRev, pRev, xpN, xpS, asI_i, xIxO, xLenO, xLenS, xFor, xWhile, ziT, ziL, itT_t, itL_l, ziR1, ziR2, ziET, ziEL, ziZ, zpT, lrK2, xLr2, xLr1, enT_t, enL_l, xLc, lc2K, xLc2, noOwnB, wipeE, xYes, xRaise, xTry, tyF, xXf, pAdd_i, pAdd_t, pAdd_l, pSub_i, pLt_i, pLe_i, pGt_i, pGe_i, pIs_n, pIsNot_n, pIsB_b, pNotB_b, isN_n, isN_b, isN_i, isN_s, isN_t, isN_l, pIx_t, pIx_l, pLen_t, pLen_l, pMin2_i, pMax2_i, pAbs_i, pInt_i, pTuple_t, pTuple_l, pList_t, pList_l, pIadd_i, pSl_t, pSl_l, pEqI, pNeI, pEqS, pNeS, at0, at1, at2, at3, at4, at5, at6, at7, bx_ret, bx_exc, bx_fail, bd_ret, bd_exc, bd_fail, exS_ret, exS_exc, exS_fail, ofO_some, ofO_none, fnE, isi_T, isi_B, isi_I, isi_S, isi_L, sizeL, Option.bind_some, Option.map_some, Option.some.injEq, Int.reduceEq, Int.reduceLE, Int.reduceLT, Int.reduceNeg, Int.reduceAdd, Int.reduceSub, Int.reduceMul, decide_true, decide_false, decide_eq_true_eq, decide_not, eq_self, Int.cast_ofNat_Int, reduceCtorEq, List.length_cons, List.length_nil, List.map_cons, List.map_nil, List.replicate, List.cons_append, List.nil_append, List.append_nil, List.getElem?_cons_zero, List.getElem?_cons_succ, List.getElem?_nil, List.set_cons_zero, List.set_cons_succ, Nat.reduceAdd, Nat.reduceSub, Nat.reduceEqDiff, Nat.reduceLeDiff, Nat.reduceLT, Nat.zero_add, Nat.add_zero, true_and, and_true, false_and, and_false, Bool.not_true, Bool.not_false, Bool.true_and, Bool.and_true, Bool.false_and, Bool.and_false, Bool.or_false, Bool.false_or, Bool.or_true, Bool.true_or, Bool.not_eq_true', if_true, if_false, Bool.false_eq_true, Bool.not_eq_true, ↓reduceIte, ite_true, ite_false, Bool.true_eq_false, not_true_eq_false, not_false_eq_true, Nat.zero_le]
    have hg : RowG (17 * n + 1) x := by
      simp only [List.mem_cons, List.not_mem_nil, or_false] at hx
      rcases hx with rfl | rfl | rfl | rfl | rfl | rfl | rfl | rfl | rfl | rfl | rfl | rfl | rfl <;> first | (intro xs e; cases e; done) | exact RowG.one (by omega) ⟨by decide +kernel, by decide +kernel⟩
    exact Dr.ret ⟨_, rfl, SpP.put h hg (by omega)⟩
  by_cases hq5 : q > 4
  · have hca : cutD ds none (some 4) = ds.take 4 := cut_hi ds 4
    have l1 : ds.length + (0 + 1) ≤ 16777216 := by omega
    refine Dr.step (ρ' := [some .tok, some (.dat (.tuple ds)), some (.dat (.int q)), none, none, none]) (by simp only [hq, opK2, opK, chK4, chK3, chK2, chK, unK, andK, orK, notK, andVK2, andVK, orVK2, orVK, notVK2, notVK, ifVK, ifTK, consK2, consK, tupK, lstK, fzK, slK3, slK2, slK, cbK, coK, isiK, drpK, retK, retOK, ifSK, setK, setOK, nxK, asgK, parK, par3K, augK, appK, wcK, wdK, callK, callOK, callSK2, callSK, forK, lcK, parOK2, parOK, raiseK, bodyX, startE, xSeq, sqF, xNext, xBreak, xCont, xNever, xIfS, xRet, xRetN, xRetV, xRetO, xSet, xSetO, xDrop, xAsg, ygT_t, ygsC, ygsN, ygN, xPar, xPar3, xParO, xAug, xAppend, xFrz, xVar, xC, xOp, xUn, pNeg_i, xTest, asB_b, xAnd, xOr, xNot, xAndV, xOrV, xNotV, xIf, xIfT, xChain, xNil, xCons, xTup, xLst, xFz, xCall, xCallO, xCallS, rOfT_d, rOfT_o, rOwT_o, ywNil, ywDat, ywVar, xCB, xCO, xIsi, xSl, xRev, pRev, xpN, xpS, asI_i, xIxO, xLenO, xLenS, xFor, xWhile, ziT, ziL, itT_t, itL_l, ziR1, ziR2, ziET, ziEL, ziZ, zpT, lrK2, xLr2, xLr1, enT_t, enL_l, xLc, lc2K, xLc2, noOwnB, wipeE, xYes, xRaise, xTry, tyF, xXf, pAdd_i, pAdd_t, pAdd_l, pSub_i, pLt_i, pLe_i, pGt_i, pGe_i, pIs_n, pIsNot_n, pIsB_b, pNotB_b, isN_n, isN_b, isN_i, isN_s, isN_t, isN_l, pIx_t, pIx_l, pLen_t, pLen_l, pMin2_i, pMax2_i, pAbs_i, pInt_i, pTuple_t, pTuple_l, pList_t, pList_l, pIadd_i, pSl_t, pSl_l, pEqI, pNeI, pEqS, pNeS, at0, at1, at2, at3, at4, at5, at6, at7, bx_ret, bx_exc, bx_fail, bd_ret, bd_exc, bd_fail, exS_ret, exS_exc, exS_fail, ofO_some, ofO_none, fnE, isi_T, isi_B, isi_I, isi_S, isi_L, sizeL, Option.bind_some, Option.map_some, Option.some.injEq, Int.reduceEq, Int.reduceLE, Int.reduceLT, Int.reduceNeg, Int.reduceAdd, Int.reduceSub, Int.reduceMul, decide_true, decide_false, decide_eq_true_eq, decide_not, eq_self, Int.cast_ofNat_Int, reduceCtorEq, List.length_cons, List.length_nil, List.map_cons, List.map_nil, List.replicate, List.cons_append, List.nil_append, List.append_nil, List.getElem?_cons_zero, List.getElem?_cons_succ, List.getElem?_nil, List.set_cons_zero, List.set_cons_succ, Nat.reduceAdd, Nat.reduceSub, Nat.reduceEqDiff, Nat.reduceLeDiff, Nat.reduceLT, Nat.zero_add, Nat.add_zero, true_and, and_true, false_and, and_false, Bool.not_true, Bool.not_false, Bool.true_and, Bool.and_true, Bool.false_and, Bool.and_false, Bool.or_false, Bool.false_or, Bool.or_true, Bool.true_or, Bool.not_eq_true', if_true, if_false, Bool.false_eq_true, Bool.not_eq_true, ↓reduceIte, ite_true, ite_false, Bool.true_eq_false, not_true_eq_false, not_false_eq_true, Nat.zero_le]) ?_
    refine Dr.step (ρ' := [some .tok, some (.dat (.tuple ds)), some (.dat (.int q)), none, none, none]) (by simp only [hq4, opK2, opK, chK4, chK3, chK2, chK, unK, andK, orK, notK, andVK2, andVK, orVK2, orVK, notVK2, notVK, ifVK, ifTK, consK2, consK, tupK, lstK, fzK, slK3, slK2, slK, cbK, coK, isiK, drpK, retK, retOK, ifSK, setK, setOK, nxK, asgK, parK, par3K, augK, appK, wcK, wdK, callK, callOK, callSK2, callSK, forK, lcK, parOK2, parOK, raiseK, bodyX, startE, xSeq, sqF, xNext, xBreak, xCont, xNever, xIfS, xRet, xRetN, xRetV, xRetO, xSet, xSetO, xDrop, xAsg, ygT_t, ygsC, ygsN, ygN, xPar, xPar3, xParO, xAug, xAppend, xFrz, xVar, xC, xOp, xUn, pNeg_i, xTest, asB_b, xAnd, xOr, xNot, xAndV, xOrV, xNotV, xIf, xIfT, xChain, xNil, xCons, xTup, xLst, xFz, xCall, xCallO, xCallS, rOfT_d, rOfT_o, rOwT_o, ywNil, ywDat, ywVar, xCB, xCO, xIsi, xSl, xRev, pRev, xpN, xpS, asI_i, xIxO, xLenO, xLenS, xFor, xWhile, ziT, ziL, itT_t, itL_l, ziR1, ziR2, ziET, ziEL, ziZ, zpT, lrK2, xLr2, xLr1, enT_t, enL_l, xLc, lc2K, xLc2, noOwnB, wipeE, xYes, xRaise, xTry, tyF, xXf, pAdd_i, pAdd_t, pAdd_l, pSub_i, pLt_i, pLe_i, pGt_i, pGe_i, pIs_n, pIsNot_n, pIsB_b, pNotB_b, isN_n, isN_b, isN_i, isN_s, isN_t, isN_l, pIx_t, pIx_l, pLen_t, pLen_l, pMin2_i, pMax2_i, pAbs_i, pInt_i, pTuple_t, pTuple_l, pList_t, pList_l, pIadd_i, pSl_t, pSl_l, pEqI, pNeI, pEqS, pNeS, at0, at1, at2, at3, at4, at5, at6, at7, bx_ret, bx_exc, bx_fail, bd_ret, bd_exc, bd_fail, exS_ret, exS_exc, exS_fail, ofO_some, ofO_none, fnE, isi_T, isi_B, isi_I, isi_S, isi_L, sizeL, Option.bind_some, Option.map_some, Option.some.injEq, Int.reduceEq, Int.reduceLE, Int.reduceLT, Int.reduceNeg, Int.reduceAdd, Int.reduceSub, Int.reduceMul, decide_true, decide_false, decide_eq_true_eq, decide_not, eq_self, Int.cast_ofNat_Int, reduceCtorEq, List.length_cons, List.length_nil, List.map_cons, List.map_nil, List.replicate, List.cons_append, List.nil_append, List.append_nil, List.getElem?_cons_zero, List.getElem?_cons_succ, List.getElem?_nil, List.set_cons_zero, List.set_cons_succ, Nat.reduceAdd, Nat.reduceSub, Nat.reduceEqDiff, Nat.reduceLeDiff, Nat.reduceLT, Nat.zero_add, Nat.add_zero, true_and, and_true, false_and, and_false, Bool.not_true, Bool.not_false, Bool.true_and, Bool.and_true, Bool.false_and, Bool.and_false, Bool.or_false, Bool.false_or, Bool.or_true, Bool.true_or, Bool.not_eq_true', if_true, if_false, Bool.false_eq_true, Bool.not_eq_true, ↓reduceIte, ite_true, ite_false, Bool.true_eq_false, not_true_eq_false, not_false_eq_true, Nat.zero_le]) ?_
    simp only [hq5, hca, l1, r_draw, bx_draw, bd_draw, exS_draw, opK2, opK, chK4, chK3, chK2, chK, unK, andK, orK, notK, andVK2, andVK, orVK2, orVK, notVK2, notVK, ifVK, ifTK, consK2, consK, tupK, lstK, fzK, slK3, slK2, slK, cbK, coK, isiK, drpK, retK, retOK, ifSK, setK, setOK, nxK, asgK, parK, par3K, augK, appK, wcK, wdK, callK, callOK, callSK2, callSK, forK, lcK, parOK2, parOK, raiseK, bodyX, startE, xSeq, sqF, xNext, xBreak, xCont, xNever, xIfS, xRet, xRetN, xRetV, xRetO, xSet, xSetO, xDrop, xAsg, ygT_t, ygsC, ygsN, ygN, xPar, xPar3, xParO, xAug, xAppend, xFrz, xVar, xC, xOp, xUn, pNeg_i, xTest, asB_b, xAnd, xOr, xNot, xAndV, xOrV, xNotV, xIf, xIfT, xChain, xNil, xCons, xTup, xLst, xFz, xCall, xCallO, xCallS, rOfT_d, rOfT_o, rOwT_o, ywNil, ywDat, ywVar, xCB, xCO, xIsi, xSl, xRev, pRev, xpN, xpS, asI_i, xIxO, xLenO, xLenS, xFor, xWhile, ziT, ziL, itT_t, itL_l, ziR1, ziR2, ziET, ziEL, ziZ, zpT, lrK2, xLr2, xLr1, enT_t, enL_l, xLc, lc2K, xLc2, noOwnB, wipeE, xYes, xRaise, xTry, tyF, xXf, pAdd_i, pAdd_t, pAdd_l, pSub_i, pLt_i, pLe_i, pGt_i, pGe_i, pIs_n, pIsNot_n, pIsB_b, pNotB_b, isN_n, isN_b, isN_i, isN_s, isN_t, isN_l, pIx_t, pIx_l, pLen_t, pLen_l, pMin2_i, pMax2_i, pAbs_i, pInt_i, pTuple_t, pTuple_l, pList_t, pList_l, pIadd_i, pSl_t, pSl_l, pEqI, pNeI, pEqS, pNeS, at0, at1, at2, at3, at4, at5, at6, at7, bx_ret, bx_exc, bx_fail, bd_ret, bd_exc, bd_fail, exS_ret, exS_exc, exS_fail, ofO_some, ofO_none, fnE, isi_T, isi_B, isi_I, isi_S, isi_L, sizeL, Option.bind_some, Option.map_some, Option.some.injEq, Int.reduceEq, Int.reduceLE, Int.reduceLT, Int.reduceNeg, Int.reduceAdd, Int.reduceSub, Int.reduceMul, decide_true, decide_false, decide_eq_true_eq, decide_not, eq_self, Int.cast_ofNat_Int, reduceCtorEq, List.length_cons, List.length_nil, List.map_cons, List.map_nil, List.replicate, List.cons_append, List.nil_append, List.append_nil, List.getElem?_cons_zero, List.getElem?_cons_succ, List.getElem?_nil, List.set_cons_zero, List.set_cons_succ, Nat.reduceAdd, Nat.reduceSub, Nat.reduceEqDiff, Nat.reduceLeDiff, Nat.reduceLT, Nat.zero_add, Nat.add_zero, true_and, and_true, false_and, and_false, Bool.not_true, Bool.not_false, Bool.true_and, Bool.and_true, Bool.false_and, Bool.and_false, Bool.or_false, Bool.false_or, Bool.or_true, Bool.true_or, Bool.not_eq_true', if_true, if_false, Bool.false_eq_true, Bool.not_eq_true, ↓reduceIte, ite_true, ite_false, Bool.true_eq_false, not_true_eq_false, not_false_eq_true, Nat.zero_le]
    refine Dr.le (k := 0 + 1) (Dr.draw (by omega) (by omega) fun r r0 r1 => ?_) (by decide)
    obtain ⟨x, hx, e⟩ := at_mem (l := [.list ds, .tuple (ds.take 4), .tuple (ds ++ [.int 0]), .none, .dict [], .str "coder", .tuple [], .int 5, .tuple ds.reverse, .tuple ds]) r0 (by simpa using r1)
    simp only [e, r_draw, bx_draw, bd_draw, exS_draw, opK2, opK, chK4, chK3, chK2, chK, unK, andK, orK, notK, andVK2, andVK, orVK2, orVK, notVK2, notVK, ifVK, ifTK, consK2, consK, tupK, lstK, fzK, slK3, slK2, slK, cbK, coK, isiK, drpK, retK, retOK, ifSK, setK, setOK, nxK, asgK, parK, par3K, augK, appK, wcK, wdK, callK, callOK, callSK2, callSK, forK, lcK, parOK2, parOK, raiseK, bodyX, startE, xSeq, sqF, xNext, xBreak, xCont, xNever, xIfS, xRet, xRetN, xRetV, xRetO, xSet, xSetO, xDrop, xAsg, ygT_t, ygsC, ygsN, ygN, xPar, xPar3, xParO, xAug, xAppend, xFrz, xVar, xC, xOp, xUn, pNeg_i, xTest, asB_b, xAnd, xOr, xNot, xAndV, xOrV, xNotV, xIf, xIfT, xChain, xNil, xCons, xTup, xLst, xFz, xCall, xCallO, xCallS, rOfT_d, rOfT_o, rOwT_o, ywNil, ywDat, ywVar, xCB, xCO, xIsi, xSl, xRev, pRev, xpN, xpS, asI_i, xIxO, xLenO, xLenS, xFor, xWhile, ziT, ziL, itT_t, itL_l, ziR1, ziR2, ziET, ziEL, ziZ, zpT, lrK2, xLr2, xLr1, enT_t, enL_l, xLc, lc2K, xLc2, noOwnB, wipeE, xYes, xRaise, xTry, tyF, xXf, pAdd_i, pAdd_t, pAdd_l, pSub_i, pLt_i, pLe_i, pGt_i, pGe_i, pIs_n, pIsNot_n, pIsB_b, pNotB_b, isN_n, isN_b, isN_i, isN_s, isN_t, isN_l, pIx_t, pIx_l, pLen_t, pLen_l, pMin2_i, pMax2_i, pAbs_i, pInt_i, pTuple_t, pTuple_l, pList_t, pList_l, pIadd_i, pSl_t, pSl_l, pEqI, pNeI, pEqS, pNeS, at0, at1, at2, at3, at4, at5, at6, at7, bx_ret, bx_exc, bx_fail, bd_ret, bd_exc, bd_fail, exS_ret, exS_exc, exS_fail, ofO_some, ofO_none, fnE, isi_T, isi_B, isi_I, isi_S, isi_L, sizeL, Option.bind_some, Option.map_some, Option.some.injEq, Int.reduceEq, Int.reduceLE, Int.reduceLT, Int.reduceNeg, Int.reduceAdd, Int.reduceSub, Int.reduceMul, decide_true, decide_false, decide_eq_true_eq, decide_not, eq_self, Int.cast_ofNat_Int, reduceCtorEq, List.length_cons, List.length_nil, List.map_cons, List.map_nil, List.replicate, List.cons_append, List.nil_append, List.append_nil, List.getElem?_cons_zero, List.getElem?_cons_succ, List.getElem?_nil, List.set_cons_zero, List.set_cons_succ, Nat.reduceAdd, Nat.reduceSub, Nat.reduceEqDiff, Nat.reduceLeDiff, Nat.reduceLT, Nat.zero_add, Nat.add_zero, true_and, and_true, false_and, and_false, Bool.not_true, Bool.not_false, Bool.true_and, Bool.and_true, Bool.false_and, Bool.and_false, Bool.or_false, Bool.false_or, Bool.or_true, Bool.true_or, Bool.not_eq_true', if_true, if_false, Bool.false_eq_true, Bool.not_eq_true, ↓reduceIte, ite_true, ite_false, Bool.true_eq_false, not_true_eq_false, not_false_eq_true, Nat.zero_le]
    refine Dr.ret ⟨_, rfl, x, rfl, fun xs e hl => ?_⟩
    subst e
    simp only [List.mem_cons, List.not_mem_nil, or_false, reduceCtorEq, false_or, PyData.tuple.injEq] at hx
    rcases hx with rfl | rfl | rfl | rfl | rfl
    · rw [List.length_take] at hl; omega
    · rw [List.length_append] at hl; simp at hl; omega
    · cases hl
    · exact ⟨hl, fun x hx => (h.2 x (List.mem_reverse.mp hx)).mono (by omega)⟩
    · exact h.mono (by omega)
  have hq23 : q = 2 ∨ q = 3 := by omega
  obtain ⟨k, hk, hkq⟩ : ∃ k : Nat, (k = 2 ∨ k = 3) ∧ q = (k : Int) := ⟨q.toNat, by omega, by omega⟩
  obtain ⟨row, hrow, er⟩ := at_mem (l := ds) q0 (by omega)
  have hG := h.2 row hrow
  have er2 : pIx (.tuple ds) (.int q) = some row := er
  refine Dr.step (ρ' := [some .tok, some (.dat (.tuple ds)), some (.dat (.int q)), none, none, none]) (by simp only [hq, opK2, opK, chK4, chK3, chK2, chK, unK, andK, orK, notK, andVK2, andVK, orVK2, orVK, notVK2, notVK, ifVK, ifTK, consK2, consK, tupK, lstK, fzK, slK3, slK2, slK, cbK, coK, isiK, drpK, retK, retOK, ifSK, setK, setOK, nxK, asgK, parK, par3K, augK, appK, wcK, wdK, callK, callOK, callSK2, callSK, forK, lcK, parOK2, parOK, raiseK, bodyX, startE, xSeq, sqF, xNext, xBreak, xCont, xNever, xIfS, xRet, xRetN, xRetV, xRetO, xSet, xSetO, xDrop, xAsg, ygT_t, ygsC, ygsN, ygN, xPar, xPar3, xParO, xAug, xAppend, xFrz, xVar, xC, xOp, xUn, pNeg_i, xTest, asB_b, xAnd, xOr, xNot, xAndV, xOrV, xNotV, xIf, xIfT, xChain, xNil, xCons, xTup, xLst, xFz, xCall, xCallO, xCallS, rOfT_d, rOfT_o, rOwT_o, ywNil, ywDat, ywVar, xCB, xCO, xIsi, xSl, xRev, pRev, xpN, xpS, asI_i, xIxO, xLenO, xLenS, xFor, xWhile, ziT, ziL, itT_t, itL_l, ziR1, ziR2, ziET, ziEL, ziZ, zpT, lrK2, xLr2, xLr1, enT_t, enL_l, xLc, lc2K, xLc2, noOwnB, wipeE, xYes, xRaise, xTry, tyF, xXf, pAdd_i, pAdd_t, pAdd_l, pSub_i, pLt_i, pLe_i, pGt_i, pGe_i, pIs_n, pIsNot_n, pIsB_b, pNotB_b, isN_n, isN_b, isN_i, isN_s, isN_t, isN_l, pIx_t, pIx_l, pLen_t, pLen_l, pMin2_i, pMax2_i, pAbs_i, pInt_i, pTuple_t, pTuple_l, pList_t, pList_l, pIadd_i, pSl_t, pSl_l, pEqI, pNeI, pEqS, pNeS, at0, at1, at2, at3, at4, at5, at6, at7, bx_ret, bx_exc, bx_fail, bd_ret, bd_exc, bd_fail, exS_ret, exS_exc, exS_fail, ofO_some, ofO_none, fnE, isi_T, isi_B, isi_I, isi_S, isi_L, sizeL, Option.bind_some, Option.map_some, Option.some.injEq, Int.reduceEq, Int.reduceLE, Int.reduceLT, Int.reduceNeg, Int.reduceAdd, Int.reduceSub, Int.reduceMul, decide_true, decide_false, decide_eq_true_eq, decide_not, eq_self, Int.cast_ofNat_Int, reduceCtorEq, List.length_cons, List.length_nil, List.map_cons, List.map_nil, List.replicate, List.cons_append, List.nil_append, List.append_nil, List.getElem?_cons_zero, List.getElem?_cons_succ, List.getElem?_nil, List.set_cons_zero, List.set_cons_succ, Nat.reduceAdd, Nat.reduceSub, Nat.reduceEqDiff, Nat.reduceLeDiff, Nat.reduceLT, Nat.zero_add, Nat.add_zero, true_and, and_true, false_and, and_false, Bool.not_true, Bool.not_false, Bool.true_and, Bool.and_true, Bool.false_and, Bool.and_false, Bool.or_false, Bool.false_or, Bool.or_true, Bool.true_or, Bool.not_eq_true', if_true, if_false, Bool.false_eq_true, Bool.not_eq_true, ↓reduceIte, ite_true, ite_false, Bool.true_eq_false, not_true_eq_false, not_false_eq_true, Nat.zero_le]) ?_
  refine Dr.step (ρ' := [some .tok, some (.dat (.tuple ds)), some (.dat (.int q)), none, none, none]) (by simp only [hq4, opK2, opK, chK4, chK3, chK2, chK, unK, andK, orK, notK, andVK2, andVK, orVK2, orVK, notVK2, notVK, ifVK, ifTK, consK2, consK, tupK, lstK, fzK, slK3, slK2, slK, cbK, coK, isiK, drpK, retK, retOK, ifSK, setK, setOK, nxK, asgK, parK, par3K, augK, appK, wcK, wdK, callK, callOK, callSK2, callSK, forK, lcK, parOK2, parOK, raiseK, bodyX, startE, xSeq, sqF, xNext, xBreak, xCont, xNever, xIfS, xRet, xRetN, xRetV, xRetO, xSet, xSetO, xDrop, xAsg, ygT_t, ygsC, ygsN, ygN, xPar, xPar3, xParO, xAug, xAppend, xFrz, xVar, xC, xOp, xUn, pNeg_i, xTest, asB_b, xAnd, xOr, xNot, xAndV, xOrV, xNotV, xIf, xIfT, xChain, xNil, xCons, xTup, xLst, xFz, xCall, xCallO, xCallS, rOfT_d, rOfT_o, rOwT_o, ywNil, ywDat, ywVar, xCB, xCO, xIsi, xSl, xRev, pRev, xpN, xpS, asI_i, xIxO, xLenO, xLenS, xFor, xWhile, ziT, ziL, itT_t, itL_l, ziR1, ziR2, ziET, ziEL, ziZ, zpT, lrK2, xLr2, xLr1, enT_t, enL_l, xLc, lc2K, xLc2, noOwnB, wipeE, xYes, xRaise, xTry, tyF, xXf, pAdd_i, pAdd_t, pAdd_l, pSub_i, pLt_i, pLe_i, pGt_i, pGe_i, pIs_n, pIsNot_n, pIsB_b, pNotB_b, isN_n, isN_b, isN_i, isN_s, isN_t, isN_l, pIx_t, pIx_l, pLen_t, pLen_l, pMin2_i, pMax2_i, pAbs_i, pInt_i, pTuple_t, pTuple_l, pList_t, pList_l, pIadd_i, pSl_t, pSl_l, pEqI, pNeI, pEqS, pNeS, at0, at1, at2, at3, at4, at5, at6, at7, bx_ret, bx_exc, bx_fail, bd_ret, bd_exc, bd_fail, exS_ret, exS_exc, exS_fail, ofO_some, ofO_none, fnE, isi_T, isi_B, isi_I, isi_S, isi_L, sizeL, Option.bind_some, Option.map_some, Option.some.injEq, Int.reduceEq, Int.reduceLE, Int.reduceLT, Int.reduceNeg, Int.reduceAdd, Int.reduceSub, Int.reduceMul, decide_true, decide_false, decide_eq_true_eq, decide_not, eq_self, Int.cast_ofNat_Int, reduceCtorEq, List.length_cons, List.length_nil, List.map_cons, List.map_nil, List.replicate, List.cons_append, List.nil_append, List.append_nil, List.getElem?_cons_zero, List.getElem?_cons_succ, List.getElem?_nil, List.set_cons_zero, List.set_cons_succ, Nat.reduceAdd, Nat.reduceSub, Nat.reduceEqDiff, Nat.reduceLeDiff, Nat.reduceLT, Nat.zero_add, Nat.add_zero, true_and, and_true, false_and, and_false, Bool.not_true, Bool.not_false, Bool.true_and, Bool.and_true, Bool.false_and, Bool.and_false, Bool.or_false, Bool.false_or, Bool.or_true, Bool.true_or, Bool.not_eq_true', if_true, if_false, Bool.false_eq_true, Bool.not_eq_true, ↓reduceIte, ite_true, ite_false, Bool.true_eq_false, not_true_eq_false, not_false_eq_true, Nat.zero_le]) ?_
  refine Dr.step (ρ' := [some .tok, some (.dat (.tuple ds)), some (.dat (.int q)), none, none, none]) (by simp only [hq5, opK2, opK, chK4, chK3, chK2, chK, unK, andK, orK, notK, andVK2, andVK, orVK2, orVK, notVK2, notVK, ifVK, ifTK, consK2, consK, tupK, lstK, fzK, slK3, slK2, slK, cbK, coK, isiK, drpK, retK, retOK, ifSK, setK, setOK, nxK, asgK, parK, par3K, augK, appK, wcK, wdK, callK, callOK, callSK2, callSK, forK, lcK, parOK2, parOK, raiseK, bodyX, startE, xSeq, sqF, xNext, xBreak, xCont, xNever, xIfS, xRet, xRetN, xRetV, xRetO, xSet, xSetO, xDrop, xAsg, ygT_t, ygsC, ygsN, ygN, xPar, xPar3, xParO, xAug, xAppend, xFrz, xVar, xC, xOp, xUn, pNeg_i, xTest, asB_b, xAnd, xOr, xNot, xAndV, xOrV, xNotV, xIf, xIfT, xChain, xNil, xCons, xTup, xLst, xFz, xCall, xCallO, xCallS, rOfT_d, rOfT_o, rOwT_o, ywNil, ywDat, ywVar, xCB, xCO, xIsi, xSl, xRev, pRev, xpN, xpS, asI_i, xIxO, xLenO, xLenS, xFor, xWhile, ziT, ziL, itT_t, itL_l, ziR1, ziR2, ziET, ziEL, ziZ, zpT, lrK2, xLr2, xLr1, enT_t, enL_l, xLc, lc2K, xLc2, noOwnB, wipeE, xYes, xRaise, xTry, tyF, xXf, pAdd_i, pAdd_t, pAdd_l, pSub_i, pLt_i, pLe_i, pGt_i, pGe_i, pIs_n, pIsNot_n, pIsB_b, pNotB_b, isN_n, isN_b, isN_i, isN_s, isN_t, isN_l, pIx_t, pIx_l, pLen_t, pLen_l, pMin2_i, pMax2_i, pAbs_i, pInt_i, pTuple_t, pTuple_l, pList_t, pList_l, pIadd_i, pSl_t, pSl_l, pEqI, pNeI, pEqS, pNeS, at0, at1, at2, at3, at4, at5, at6, at7, bx_ret, bx_exc, bx_fail, bd_ret, bd_exc, bd_fail, exS_ret, exS_exc, exS_fail, ofO_some, ofO_none, fnE, isi_T, isi_B, isi_I, isi_S, isi_L, sizeL, Option.bind_some, Option.map_some, Option.some.injEq, Int.reduceEq, Int.reduceLE, Int.reduceLT, Int.reduceNeg, Int.reduceAdd, Int.reduceSub, Int.reduceMul, decide_true, decide_false, decide_eq_true_eq, decide_not, eq_self, Int.cast_ofNat_Int, reduceCtorEq, List.length_cons, List.length_nil, List.map_cons, List.map_nil, List.replicate, List.cons_append, List.nil_append, List.append_nil, List.getElem?_cons_zero, List.getElem?_cons_succ, List.getElem?_nil, List.set_cons_zero, List.set_cons_succ, Nat.reduceAdd, Nat.reduceSub, Nat.reduceEqDiff, Nat.reduceLeDiff, Nat.reduceLT, Nat.zero_add, Nat.add_zero, true_and, and_true, false_and, and_false, Bool.not_true, Bool.not_false, Bool.true_and, Bool.and_true, Bool.false_and, Bool.and_false, Bool.or_false, Bool.false_or, Bool.or_true, Bool.true_or, Bool.not_eq_true', if_true, if_false, Bool.false_eq_true, Bool.not_eq_true, ↓reduceIte, ite_true, ite_false, Bool.true_eq_false, not_true_eq_false, not_false_eq_true, Nat.zero_le]) ?_
  refine Dr.step (ρ' := [some .tok, some (.dat (.tuple ds)), some (.dat (.int q)), none, some (.dat row), none]) (by simp only [er, opK2, opK, chK4, chK3, chK2, chK, unK, andK, orK, notK, andVK2, andVK, orVK2, orVK, notVK2, notVK, ifVK, ifTK, consK2, consK, tupK, lstK, fzK, slK3, slK2, slK, cbK, coK, isiK, drpK, retK, retOK, ifSK, setK, setOK, nxK, asgK, parK, par3K, augK, appK, wcK, wdK, callK, callOK, callSK2, callSK, forK, lcK, parOK2, parOK, raiseK, bodyX, startE, xSeq, sqF, xNext, xBreak, xCont, xNever, xIfS, xRet, xRetN, xRetV, xRetO, xSet, xSetO, xDrop, xAsg, ygT_t, ygsC, ygsN, ygN, xPar, xPar3, xParO, xAug, xAppend, xFrz, xVar, xC, xOp, xUn, pNeg_i, xTest, asB_b, xAnd, xOr, xNot, xAndV, xOrV, xNotV, xIf, xIfT, xChain, xNil, xCons, xTup, xLst, xFz, xCall, xCallO, xCallS, rOfT_d, rOfT_o, rOwT_o, ywNil, ywDat, ywVar, xCB, xCO, xIsi, xSl, xRev, pRev, xpN, xpS, asI_i, xIxO, xLenO, xLenS, xFor, xWhile, ziT, ziL, itT_t, itL_l, ziR1, ziR2, ziET, ziEL, ziZ, zpT, lrK2, xLr2, xLr1, enT_t, enL_l, xLc, lc2K, xLc2, noOwnB, wipeE, xYes, xRaise, xTry, tyF, xXf, pAdd_i, pAdd_t, pAdd_l, pSub_i, pLt_i, pLe_i, pGt_i, pGe_i, pIs_n, pIsNot_n, pIsB_b, pNotB_b, isN_n, isN_b, isN_i, isN_s, isN_t, isN_l, pIx_t, pIx_l, pLen_t, pLen_l, pMin2_i, pMax2_i, pAbs_i, pInt_i, pTuple_t, pTuple_l, pList_t, pList_l, pIadd_i, pSl_t, pSl_l, pEqI, pNeI, pEqS, pNeS, at0, at1, at2, at3, at4, at5, at6, at7, bx_ret, bx_exc, bx_fail, bd_ret, bd_exc, bd_fail, exS_ret, exS_exc, exS_fail, ofO_some, ofO_none, fnE, isi_T, isi_B, isi_I, isi_S, isi_L, sizeL, Option.bind_some, Option.map_some, Option.some.injEq, Int.reduceEq, Int.reduceLE, Int.reduceLT, Int.reduceNeg, Int.reduceAdd, Int.reduceSub, Int.reduceMul, decide_true, decide_false, decide_eq_true_eq, decide_not, eq_self, Int.cast_ofNat_Int, reduceCtorEq, List.length_cons, List.length_nil, List.map_cons, List.map_nil, List.replicate, List.cons_append, List.nil_append, List.append_nil, List.getElem?_cons_zero, List.getElem?_cons_succ, List.getElem?_nil, List.set_cons_zero, List.set_cons_succ, Nat.reduceAdd, Nat.reduceSub, Nat.reduceEqDiff, Nat.reduceLeDiff, Nat.reduceLT, Nat.zero_add, Nat.add_zero, true_and, and_true, false_and, and_false, Bool.not_true, Bool.not_false, Bool.true_and, Bool.and_true, Bool.false_and, Bool.and_false, Bool.or_false, Bool.false_or, Bool.or_true, Bool.true_or, Bool.not_eq_true', if_true, if_false, Bool.false_eq_true, Bool.not_eq_true, ↓reduceIte, ite_true, ite_false, Bool.true_eq_false, not_true_eq_false, not_false_eq_true, Nat.zero_le]) ?_
  have same : SpP n (.dat (.tuple ds)) := ⟨_, rfl, fun xs e _ => by cases e; exact h.mono (by omega)⟩
  by_cases ht : ∃ y ys, row = .tuple (y :: ys)
  rotate_left
  · refine Dr.le (k := 0) ?_ (by decide)
    cases row with
    | tuple xs =>
      cases xs with
      | cons y ys => exact absurd ⟨y, ys, rfl⟩ ht
      | nil =>
        have e : pEq (.tuple []) (.tuple []) = some (.bool true) := pEq_self (dp := 1) (.tup .nil) (by decide) (by decide)
        simp only [e, opK2, opK, chK4, chK3, chK2, chK, unK, andK, orK, notK, andVK2, andVK, orVK2, orVK, notVK2, notVK, ifVK, ifTK, consK2, consK, tupK, lstK, fzK, slK3, slK2, slK, cbK, coK, isiK, drpK, retK, retOK, ifSK, setK, setOK, nxK, asgK, parK, par3K, augK, appK, wcK, wdK, callK, callOK, callSK2, callSK, forK, lcK, parOK2, parOK, raiseK, bodyX, startE, xSeq, sqF, xNext, xBreak, xCont, xNever, xIfS, xRet, xRetN, xRetV, xRetO, xSet, xSetO, xDrop, xAsg, ygT_t, ygsC, ygsN, ygN, xPar, xPar3, xParO, xAug, xAppend, xFrz, xVar, xC, xOp, xUn, pNeg_i, xTest, asB_b, xAnd, xOr, xNot, xAndV, xOrV, xNotV, xIf, xIfT, xChain, xNil, xCons, xTup, xLst, xFz, xCall, xCallO, xCallS, rOfT_d, rOfT_o, rOwT_o, ywNil, ywDat, ywVar, xCB, xCO, xIsi, xSl, xRev, pRev, xpN, xpS, asI_i, xIxO, xLenO, xLenS, xFor, xWhile, ziT, ziL, itT_t, itL_l, ziR1, ziR2, ziET, ziEL, ziZ, zpT, lrK2, xLr2, xLr1, enT_t, enL_l, xLc, lc2K, xLc2, noOwnB, wipeE, xYes, xRaise, xTry, tyF, xXf, pAdd_i, pAdd_t, pAdd_l, pSub_i, pLt_i, pLe_i, pGt_i, pGe_i, pIs_n, pIsNot_n, pIsB_b, pNotB_b, isN_n, isN_b, isN_i, isN_s, isN_t, isN_l, pIx_t, pIx_l, pLen_t, pLen_l, pMin2_i, pMax2_i, pAbs_i, pInt_i, pTuple_t, pTuple_l, pList_t, pList_l, pIadd_i, pSl_t, pSl_l, pEqI, pNeI, pEqS, pNeS, at0, at1, at2, at3, at4, at5, at6, at7, bx_ret, bx_exc, bx_fail, bd_ret, bd_exc, bd_fail, exS_ret, exS_exc, exS_fail, ofO_some, ofO_none, fnE, isi_T, isi_B, isi_I, isi_S, isi_L, sizeL, Option.bind_some, Option.map_some, Option.some.injEq, Int.reduceEq, Int.reduceLE, Int.reduceLT, Int.reduceNeg, Int.reduceAdd, Int.reduceSub, Int.reduceMul, decide_true, decide_false, decide_eq_true_eq, decide_not, eq_self, Int.cast_ofNat_Int, reduceCtorEq, List.length_cons, List.length_nil, List.map_cons, List.map_nil, List.replicate, List.cons_append, List.nil_append, List.append_nil, List.getElem?_cons_zero, List.getElem?_cons_succ, List.getElem?_nil, List.set_cons_zero, List.set_cons_succ, Nat.reduceAdd, Nat.reduceSub, Nat.reduceEqDiff, Nat.reduceLeDiff, Nat.reduceLT, Nat.zero_add, Nat.add_zero, true_and, and_true, false_and, and_false, Bool.not_true, Bool.not_false, Bool.true_and, Bool.and_true, Bool.false_and, Bool.and_false, Bool.or_false, Bool.false_or, Bool.or_true, Bool.true_or, Bool.not_eq_true', if_true, if_false, Bool.false_eq_true, Bool.not_eq_true, ↓reduceIte, ite_true, ite_false, Bool.true_eq_false, not_true_eq_false, not_false_eq_true, Nat.zero_le]
        exact Dr.ret ⟨_, rfl, same⟩
    | _ =>
      simp only [opK2, opK, chK4, chK3, chK2, chK, unK, andK, orK, notK, andVK2, andVK, orVK2, orVK, notVK2, notVK, ifVK, ifTK, consK2, consK, tupK, lstK, fzK, slK3, slK2, slK, cbK, coK, isiK, drpK, retK, retOK, ifSK, setK, setOK, nxK, asgK, parK, par3K, augK, appK, wcK, wdK, callK, callOK, callSK2, callSK, forK, lcK, parOK2, parOK, raiseK, bodyX, startE, xSeq, sqF, xNext, xBreak, xCont, xNever, xIfS, xRet, xRetN, xRetV, xRetO, xSet, xSetO, xDrop, xAsg, ygT_t, ygsC, ygsN, ygN, xPar, xPar3, xParO, xAug, xAppend, xFrz, xVar, xC, xOp, xUn, pNeg_i, xTest, asB_b, xAnd, xOr, xNot, xAndV, xOrV, xNotV, xIf, xIfT, xChain, xNil, xCons, xTup, xLst, xFz, xCall, xCallO, xCallS, rOfT_d, rOfT_o, rOwT_o, ywNil, ywDat, ywVar, xCB, xCO, xIsi, xSl, xRev, pRev, xpN, xpS, asI_i, xIxO, xLenO, xLenS, xFor, xWhile, ziT, ziL, itT_t, itL_l, ziR1, ziR2, ziET, ziEL, ziZ, zpT, lrK2, xLr2, xLr1, enT_t, enL_l, xLc, lc2K, xLc2, noOwnB, wipeE, xYes, xRaise, xTry, tyF, xXf, pAdd_i, pAdd_t, pAdd_l, pSub_i, pLt_i, pLe_i, pGt_i, pGe_i, pIs_n, pIsNot_n, pIsB_b, pNotB_b, isN_n, isN_b, isN_i, isN_s, isN_t, isN_l, pIx_t, pIx_l, pLen_t, pLen_l, pMin2_i, pMax2_i, pAbs_i, pInt_i, pTuple_t, pTuple_l, pList_t, pList_l, pIadd_i, pSl_t, pSl_l, pEqI, pNeI, pEqS, pNeS, at0, at1, at2, at3, at4, at5, at6, at7, bx_ret, bx_exc, bx_fail, bd_ret, bd_exc, bd_fail, exS_ret, exS_exc, exS_fail, ofO_some, ofO_none, fnE, isi_T, isi_B, isi_I, isi_S, isi_L, sizeL, Option.bind_some, Option.map_some, Option.some.injEq, Int.reduceEq, Int.reduceLE, Int.reduceLT, Int.reduceNeg, Int.reduceAdd, Int.reduceSub, Int.reduceMul, decide_true, decide_false, decide_eq_true_eq, decide_not, eq_self, Int.cast_ofNat_Int, reduceCtorEq, List.length_cons, List.length_nil, List.map_cons, List.map_nil, List.replicate, List.cons_append, List.nil_append, List.append_nil, List.getElem?_cons_zero, List.getElem?_cons_succ, List.getElem?_nil, List.set_cons_zero, List.set_cons_succ, Nat.reduceAdd, Nat.reduceSub, Nat.reduceEqDiff, Nat.reduceLeDiff, Nat.reduceLT, Nat.zero_add, Nat.add_zero, true_and, and_true, false_and, and_false, Bool.not_true, Bool.not_false, Bool.true_and, Bool.and_true, Bool.false_and, Bool.and_false, Bool.or_false, Bool.false_or, Bool.or_true, Bool.true_or, Bool.not_eq_true', if_true, if_false, Bool.false_eq_true, Bool.not_eq_true, ↓reduceIte, ite_true, ite_false, Bool.true_eq_false, not_true_eq_false, not_false_eq_true, Nat.zero_le]
      exact Dr.ret ⟨_, rfl, same⟩
  obtain ⟨y, ys, rfl⟩ := ht
  have hR := hG _ rfl
  generalize hxs : y :: ys = xs at *
  have hne : 1 ≤ xs.length := by rw [← hxs]; simp
  have hsx : Shp 51 (.tuple xs) := .tup (.of hR.2)
  have e0 : pEq (.tuple xs) (.tuple []) = some (.bool false) := by
    rw [pEq_of hsx (.tup .nil) (by decide), ← hxs]
    simp [PyData.eqv, PyData.eqvAll]
  refine Dr.step (ρ' := [some .tok, some (.dat (.tuple ds)), some (.dat (.int q)), none, some (.dat (.tuple xs)), none]) (by simp only [e0, opK2, opK, chK4, chK3, chK2, chK, unK, andK, orK, notK, andVK2, andVK, orVK2, orVK, notVK2, notVK, ifVK, ifTK, consK2, consK, tupK, lstK, fzK, slK3, slK2, slK, cbK, coK, isiK, drpK, retK, retOK, ifSK, setK, setOK, nxK, asgK, parK, par3K, augK, appK, wcK, wdK, callK, callOK, callSK2, callSK, forK, lcK, parOK2, parOK, raiseK, bodyX, startE, xSeq, sqF, xNext, xBreak, xCont, xNever, xIfS, xRet, xRetN, xRetV, xRetO, xSet, xSetO, xDrop, xAsg, ygT_t, ygsC, ygsN, ygN, xPar, xPar3, xParO, xAug, xAppend, xFrz, xVar, xC, xOp, xUn, pNeg_i, xTest, asB_b, xAnd, xOr, xNot, xAndV, xOrV, xNotV, xIf, xIfT, xChain, xNil, xCons, xTup, xLst, xFz, xCall, xCallO, xCallS, rOfT_d, rOfT_o, rOwT_o, ywNil, ywDat, ywVar, xCB, xCO, xIsi, xSl, xRev, pRev, xpN, xpS, asI_i, xIxO, xLenO, xLenS, xFor, xWhile, ziT, ziL, itT_t, itL_l, ziR1, ziR2, ziET, ziEL, ziZ, zpT, lrK2, xLr2, xLr1, enT_t, enL_l, xLc, lc2K, xLc2, noOwnB, wipeE, xYes, xRaise, xTry, tyF, xXf, pAdd_i, pAdd_t, pAdd_l, pSub_i, pLt_i, pLe_i, pGt_i, pGe_i, pIs_n, pIsNot_n, pIsB_b, pNotB_b, isN_n, isN_b, isN_i, isN_s, isN_t, isN_l, pIx_t, pIx_l, pLen_t, pLen_l, pMin2_i, pMax2_i, pAbs_i, pInt_i, pTuple_t, pTuple_l, pList_t, pList_l, pIadd_i, pSl_t, pSl_l, pEqI, pNeI, pEqS, pNeS, at0, at1, at2, at3, at4, at5, at6, at7, bx_ret, bx_exc, bx_fail, bd_ret, bd_exc, bd_fail, exS_ret, exS_exc, exS_fail, ofO_some, ofO_none, fnE, isi_T, isi_B, isi_I, isi_S, isi_L, sizeL, Option.bind_some, Option.map_some, Option.some.injEq, Int.reduceEq, Int.reduceLE, Int.reduceLT, Int.reduceNeg, Int.reduceAdd, Int.reduceSub, Int.reduceMul, decide_true, decide_false, decide_eq_true_eq, decide_not, eq_self, Int.cast_ofNat_Int, reduceCtorEq, List.length_cons, List.length_nil, List.map_cons, List.map_nil, List.replicate, List.cons_append, List.nil_append, List.append_nil, List.getElem?_cons_zero, List.getElem?_cons_succ, List.getElem?_nil, List.set_cons_zero, List.set_cons_succ, Nat.reduceAdd, Nat.reduceSub, Nat.reduceEqDiff, Nat.reduceLeDiff, Nat.reduceLT, Nat.zero_add, Nat.add_zero, true_and, and_true, false_and, and_false, Bool.not_true, Bool.not_false, Bool.true_and, Bool.and_true, Bool.false_and, Bool.and_false, Bool.or_false, Bool.false_or, Bool.or_true, Bool.true_or, Bool.not_eq_true', if_true, if_false, Bool.false_eq_true, Bool.not_eq_true, ↓reduceIte, ite_true, ite_false, Bool.true_eq_false, not_true_eq_false, not_false_eq_true, Nat.zero_le]) ?_
  refine Dr.le (k := 1 + 3) ?_ (by decide)
  refine Dr.seq (J := fun ρ => ∃ p : Nat, p < xs.length ∧ ρ = [some .tok, some (.dat (.tuple ds)), some (.dat (.int q)), none, some (.dat (.tuple xs)), some (.dat (.int (p : Int)))]) 1 _ ?_ ?_
  · simp only [r_draw, bx_draw, bd_draw, exS_draw, opK2, opK, chK4, chK3, chK2, chK, unK, andK, orK, notK, andVK2, andVK, orVK2, orVK, notVK2, notVK, ifVK, ifTK, consK2, consK, tupK, lstK, fzK, slK3, slK2, slK, cbK, coK, isiK, drpK, retK, retOK, ifSK, setK, setOK, nxK, asgK, parK, par3K, augK, appK, wcK, wdK, callK, callOK, callSK2, callSK, forK, lcK, parOK2, parOK, raiseK, bodyX, startE, xSeq, sqF, xNext, xBreak, xCont, xNever, xIfS, xRet, xRetN, xRetV, xRetO, xSet, xSetO, xDrop, xAsg, ygT_t, ygsC, ygsN, ygN, xPar, xPar3, xParO, xAug, xAppend, xFrz, xVar, xC, xOp, xUn, pNeg_i, xTest, asB_b, xAnd, xOr, xNot, xAndV, xOrV, xNotV, xIf, xIfT, xChain, xNil, xCons, xTup, xLst, xFz, xCall, xCallO, xCallS, rOfT_d, rOfT_o, rOwT_o, ywNil, ywDat, ywVar, xCB, xCO, xIsi, xSl, xRev, pRev, xpN, xpS, asI_i, xIxO, xLenO, xLenS, xFor, xWhile, ziT, ziL, itT_t, itL_l, ziR1, ziR2, ziET, ziEL, ziZ, zpT, lrK2, xLr2, xLr1, enT_t, enL_l, xLc, lc2K, xLc2, noOwnB, wipeE, xYes, xRaise, xTry, tyF, xXf, pAdd_i, pAdd_t, pAdd_l, pSub_i, pLt_i, pLe_i, pGt_i, pGe_i, pIs_n, pIsNot_n, pIsB_b, pNotB_b, isN_n, isN_b, isN_i, isN_s, isN_t, isN_l, pIx_t, pIx_l, pLen_t, pLen_l, pMin2_i, pMax2_i, pAbs_i, pInt_i, pTuple_t, pTuple_l, pList_t, pList_l, pIadd_i, pSl_t, pSl_l, pEqI, pNeI, pEqS, pNeS, at0, at1, at2, at3, at4, at5, at6, at7, bx_ret, bx_exc, bx_fail, bd_ret, bd_exc, bd_fail, exS_ret, exS_exc, exS_fail, ofO_some, ofO_none, fnE, isi_T, isi_B, isi_I, isi_S, isi_L, sizeL, Option.bind_some, Option.map_some, Option.some.injEq, Int.reduceEq, Int.reduceLE, Int.reduceLT, Int.reduceNeg, Int.reduceAdd, Int.reduceSub, Int.reduceMul, decide_true, decide_false, decide_eq_true_eq, decide_not, eq_self, Int.cast_ofNat_Int, reduceCtorEq, List.length_cons, List.length_nil, List.map_cons, List.map_nil, List.replicate, List.cons_append, List.nil_append, List.append_nil, List.getElem?_cons_zero, List.getElem?_cons_succ, List.getElem?_nil, List.set_cons_zero, List.set_cons_succ, Nat.reduceAdd, Nat.reduceSub, Nat.reduceEqDiff, Nat.reduceLeDiff, Nat.reduceLT, Nat.zero_add, Nat.add_zero, true_and, and_true, false_and, and_false, Bool.not_true, Bool.not_false, Bool.true_and, Bool.and_true, Bool.false_and, Bool.and_false, Bool.or_false, Bool.false_or, Bool.or_true, Bool.true_or, Bool.not_eq_true', if_true, if_false, Bool.false_eq_true, Bool.not_eq_true, ↓reduceIte, ite_true, ite_false, Bool.true_eq_false, not_true_eq_false, not_false_eq_true, Nat.zero_le]
    refine Dr.draw (by omega) (by omega) fun p p0 p1 => ?_
    try simp only [r_draw, bx_draw, bd_draw, exS_draw, opK2, opK, chK4, chK3, chK2, chK, unK, andK, orK, notK, andVK2, andVK, orVK2, orVK, notVK2, notVK, ifVK, ifTK, consK2, consK, tupK, lstK, fzK, slK3, slK2, slK, cbK, coK, isiK, drpK, retK, retOK, ifSK, setK, setOK, nxK, asgK, parK, par3K, augK, appK, wcK, wdK, callK, callOK, callSK2, callSK, forK, lcK, parOK2, parOK, raiseK, bodyX, startE, xSeq, sqF, xNext, xBreak, xCont, xNever, xIfS, xRet, xRetN, xRetV, xRetO, xSet, xSetO, xDrop, xAsg, ygT_t, ygsC, ygsN, ygN, xPar, xPar3, xParO, xAug, xAppend, xFrz, xVar, xC, xOp, xUn, pNeg_i, xTest, asB_b, xAnd, xOr, xNot, xAndV, xOrV, xNotV, xIf, xIfT, xChain, xNil, xCons, xTup, xLst, xFz, xCall, xCallO, xCallS, rOfT_d, rOfT_o, rOwT_o, ywNil, ywDat, ywVar, xCB, xCO, xIsi, xSl, xRev, pRev, xpN, xpS, asI_i, xIxO, xLenO, xLenS, xFor, xWhile, ziT, ziL, itT_t, itL_l, ziR1, ziR2, ziET, ziEL, ziZ, zpT, lrK2, xLr2, xLr1, enT_t, enL_l, xLc, lc2K, xLc2, noOwnB, wipeE, xYes, xRaise, xTry, tyF, xXf, pAdd_i, pAdd_t, pAdd_l, pSub_i, pLt_i, pLe_i, pGt_i, pGe_i, pIs_n, pIsNot_n, pIsB_b, pNotB_b, isN_n, isN_b, isN_i, isN_s, isN_t, isN_l, pIx_t, pIx_l, pLen_t, pLen_l, pMin2_i, pMax2_i, pAbs_i, pInt_i, pTuple_t, pTuple_l, pList_t, pList_l, pIadd_i, pSl_t, pSl_l, pEqI, pNeI, pEqS, pNeS, at0, at1, at2, at3, at4, at5, at6, at7, bx_ret, bx_exc, bx_fail, bd_ret, bd_exc, bd_fail, exS_ret, exS_exc, exS_fail, ofO_some, ofO_none, fnE, isi_T, isi_B, isi_I, isi_S, isi_L, sizeL, Option.bind_some, Option.map_some, Option.some.injEq, Int.reduceEq, Int.reduceLE, Int.reduceLT, Int.reduceNeg, Int.reduceAdd, Int.reduceSub, Int.reduceMul, decide_true, decide_false, decide_eq_true_eq, decide_not, eq_self, Int.cast_ofNat_Int, reduceCtorEq, List.length_cons, List.length_nil, List.map_cons, List.map_nil, List.replicate, List.cons_append, List.nil_append, List.append_nil, List.getElem?_cons_zero, List.getElem?_cons_succ, List.getElem?_nil, List.set_cons_zero, List.set_cons_succ, Nat.reduceAdd, Nat.reduceSub, Nat.reduceEqDiff, Nat.reduceLeDiff, Nat.reduceLT, Nat.zero_add, Nat.add_zero, true_and, and_true, false_and, and_false, Bool.not_true, Bool.not_false, Bool.true_and, Bool.and_true, Bool.false_and, Bool.and_false, Bool.or_false, Bool.false_or, Bool.or_true, Bool.true_or, Bool.not_eq_true', if_true, if_false, Bool.false_eq_true, Bool.not_eq_true, ↓reduceIte, ite_true, ite_false, Bool.true_eq_false, not_true_eq_false, not_false_eq_true, Nat.zero_le]
    exact Dr.ret ⟨_, rfl, p.toNat, by omega, by rw [Int.toNat_of_nonneg p0]⟩
  rintro ρ ⟨p, hp, rfl⟩
  have hput : ∀ x, w__law_put [.dat (.tuple ds), .dat (.int q), .dat x] = .ret (.dat (.tuple (ds.take k ++ x :: ds.drop (k + 1)))) := fun x => by rw [hkq]; exact r_put x (by omega) (by omega)
  have hput2 : ∀ x, w__law_put [.dat (.tuple xs), .dat (.int (p : Int)), .dat x] = .ret (.dat (.tuple (xs.take p ++ x :: xs.drop (p + 1)))) := fun x => r_put x hp (by omega)
  have hc1 : cutD xs none (some 1) = xs.take 1 := cut_hi xs 1
  obtain ⟨rp, erp, hrp⟩ : ∃ rp, pRepT (.tuple xs) (.int 17) = some (.tuple rp) ∧ RowG (17 * n + 1) (.tuple rp) := by
    refine ⟨_, pRepT_t (by decide) (by decide) (by omega), fun zs e => ?_⟩
    cases e
    have hl : ∀ m : Nat, (List.replicate m xs).flatten.length = m * xs.length := fun m => by simp
    refine ⟨by rw [hl]; have := Nat.mul_le_mul_left 17 hR.1; show 17 * xs.length ≤ 17 * n + 1; omega, fun z hz => ?_⟩
    obtain ⟨l, hl, hz⟩ := List.mem_flatten.mp hz
    rw [List.eq_of_mem_replicate hl] at hz
    exact hR.2 z hz
  have l1 : xs.length + (xs.take 1).length ≤ 16777216 := by rw [List.length_take]; omega
  have hsub : ∀ (zs : List Dt), zs.length ≤ 17 * n + 1 → (∀ z ∈ zs, z ∈ xs) → RowG (17 * n + 1) (.tuple zs) := fun zs hl hz ws e => by cases e; exact ⟨hl, fun z h => hR.2 z (hz z h)⟩
  refine Dr.le (k := 2 + 1) ?_ (by decide)
  have okS : ∀ (L : List Dt) (r : Int), L = [.none, .bool true, .str "1", .tuple [.int 1], .list [.int 1], .int 0, .int 10000, .int (-1), .int 9999, .int (10 ^ 30)] → 0 ≤ r → r < 10 → ∃ x, atI L r = some x ∧ Shp 50 x := fun L r eL r0 r1 => by
    obtain ⟨x, hx, e⟩ := at_mem (l := L) r0 (by rw [eL]; simpa using r1)
    refine ⟨x, e, ?_⟩
    rw [eL] at hx
    simp only [List.mem_cons, List.not_mem_nil, or_false] at hx
    rcases hx with rfl | rfl | rfl | rfl | rfl | rfl | rfl | rfl | rfl | rfl <;> first | exact Shp.int _ | exact ⟨by decide +kernel, by decide +kernel⟩
  have okM : ∀ (L : List Dt) (r : Int), L = [.none, .tuple [.int 1], .tuple [.int 1, .int 0, .int 0], .list [.int 1, .int 0], .tuple [.int 33, .int 0], .tuple [.int (-33), .int 0], .tuple [.int 0, .int 16], .tuple [.int 0, .int (-16)], .tuple [.bool true, .int 0], .tuple [.int 0, .str "1"], .tuple [.int 32, .int (-15)]] → 0 ≤ r → r < 11 → ∃ x, atI L r = some x ∧ Shp 50 x := fun L r eL r0 r1 => by
    obtain ⟨x, hx, e⟩ := at_mem (l := L) r0 (by rw [eL]; simpa using r1)
    refine ⟨x, e, ?_⟩
    rw [eL] at hx
    simp only [List.mem_cons, List.not_mem_nil, or_false] at hx
    rcases hx with rfl | rfl | rfl | rfl | rfl | rfl | rfl | rfl | rfl | rfl | rfl <;> exact ⟨by decide +kernel, by decide +kernel⟩
  refine Dr.bd (P := fun f => (∃ w, f = .rt w ∧ SpP n w) ∨ f = .nx [some .tok, some (.dat (.tuple ds)), some (.dat (.int q)), none, some (.dat (.tuple xs)), some (.dat (.int (p : Int)))]) ?_ ?_
  · simp only [r_draw, bx_draw, bd_draw, exS_draw, opK2, opK, chK4, chK3, chK2, chK, unK, andK, orK, notK, andVK2, andVK, orVK2, orVK, notVK2, notVK, ifVK, ifTK, consK2, consK, tupK, lstK, fzK, slK3, slK2, slK, cbK, coK, isiK, drpK, retK, retOK, ifSK, setK, setOK, nxK, asgK, parK, par3K, augK, appK, wcK, wdK, callK, callOK, callSK2, callSK, forK, lcK, parOK2, parOK, raiseK, bodyX, startE, xSeq, sqF, xNext, xBreak, xCont, xNever, xIfS, xRet, xRetN, xRetV, xRetO, xSet, xSetO, xDrop, xAsg, ygT_t, ygsC, ygsN, ygN, xPar, xPar3, xParO, xAug, xAppend, xFrz, xVar, xC, xOp, xUn, pNeg_i, xTest, asB_b, xAnd, xOr, xNot, xAndV, xOrV, xNotV, xIf, xIfT, xChain, xNil, xCons, xTup, xLst, xFz, xCall, xCallO, xCallS, rOfT_d, rOfT_o, rOwT_o, ywNil, ywDat, ywVar, xCB, xCO, xIsi, xSl, xRev, pRev, xpN, xpS, asI_i, xIxO, xLenO, xLenS, xFor, xWhile, ziT, ziL, itT_t, itL_l, ziR1, ziR2, ziET, ziEL, ziZ, zpT, lrK2, xLr2, xLr1, enT_t, enL_l, xLc, lc2K, xLc2, noOwnB, wipeE, xYes, xRaise, xTry, tyF, xXf, pAdd_i, pAdd_t, pAdd_l, pSub_i, pLt_i, pLe_i, pGt_i, pGe_i, pIs_n, pIsNot_n, pIsB_b, pNotB_b, isN_n, isN_b, isN_i, isN_s, isN_t, isN_l, pIx_t, pIx_l, pLen_t, pLen_l, pMin2_i, pMax2_i, pAbs_i, pInt_i, pTuple_t, pTuple_l, pList_t, pList_l, pIadd_i, pSl_t, pSl_l, pEqI, pNeI, pEqS, pNeS, at0, at1, at2, at3, at4, at5, at6, at7, bx_ret, bx_exc, bx_fail, bd_ret, bd_exc, bd_fail, exS_ret, exS_exc, exS_fail, ofO_some, ofO_none, fnE, isi_T, isi_B, isi_I, isi_S, isi_L, sizeL, Option.bind_some, Option.map_some, Option.some.injEq, Int.reduceEq, Int.reduceLE, Int.reduceLT, Int.reduceNeg, Int.reduceAdd, Int.reduceSub, Int.reduceMul, decide_true, decide_false, decide_eq_true_eq, decide_not, eq_self, Int.cast_ofNat_Int, reduceCtorEq, List.length_cons, List.length_nil, List.map_cons, List.map_nil, List.replicate, List.cons_append, List.nil_append, List.append_nil, List.getElem?_cons_zero, List.getElem?_cons_succ, List.getElem?_nil, List.set_cons_zero, List.set_cons_succ, Nat.reduceAdd, Nat.reduceSub, Nat.reduceEqDiff, Nat.reduceLeDiff, Nat.reduceLT, Nat.zero_add, Nat.add_zero, true_and, and_true, false_and, and_false, Bool.not_true, Bool.not_false, Bool.true_and, Bool.and_true, Bool.false_and, Bool.and_false, Bool.or_false, Bool.false_or, Bool.or_true, Bool.true_or, Bool.not_eq_true', if_true, if_false, Bool.false_eq_true, Bool.not_eq_true, ↓reduceIte, ite_true, ite_false, Bool.true_eq_false, not_true_eq_false, not_false_eq_true, Nat.zero_le]
    refine Dr.draw (by omega) (by omega) fun r r0 r1 => ?_
    by_cases hr : r = 0
    · simp only [hr, erp, hc1, l1, r_draw, bx_draw, bd_draw, exS_draw, opK2, opK, chK4, chK3, chK2, chK, unK, andK, orK, notK, andVK2, andVK, orVK2, orVK, notVK2, notVK, ifVK, ifTK, consK2, consK, tupK, lstK, fzK, slK3, slK2, slK, cbK, coK, isiK, drpK, retK, retOK, ifSK, setK, setOK, nxK, asgK, parK, par3K, augK, appK, wcK, wdK, callK, callOK, callSK2, callSK, forK, lcK, parOK2, parOK, raiseK, bodyX, startE, xSeq, sqF, xNext, xBreak, xCont, xNever, xIfS, xRet, xRetN, xRetV, xRetO, xSet, xSetO, xDrop, xAsg, ygT_t, ygsC, ygsN, ygN, xPar, xPar3, xParO, xAug, xAppend, xFrz, xVar, xC, xOp, xUn, pNeg_i, xTest, asB_b, xAnd, xOr, xNot, xAndV, xOrV, xNotV, xIf, xIfT, xChain, xNil, xCons, xTup, xLst, xFz, xCall, xCallO, xCallS, rOfT_d, rOfT_o, rOwT_o, ywNil, ywDat, ywVar, xCB, xCO, xIsi, xSl, xRev, pRev, xpN, xpS, asI_i, xIxO, xLenO, xLenS, xFor, xWhile, ziT, ziL, itT_t, itL_l, ziR1, ziR2, ziET, ziEL, ziZ, zpT, lrK2, xLr2, xLr1, enT_t, enL_l, xLc, lc2K, xLc2, noOwnB, wipeE, xYes, xRaise, xTry, tyF, xXf, pAdd_i, pAdd_t, pAdd_l, pSub_i, pLt_i, pLe_i, pGt_i, pGe_i, pIs_n, pIsNot_n, pIsB_b, pNotB_b, isN_n, isN_b, isN_i, isN_s, isN_t, isN_l, pIx_t, pIx_l, pLen_t, pLen_l, pMin2_i, pMax2_i, pAbs_i, pInt_i, pTuple_t, pTuple_l, pList_t, pList_l, pIadd_i, pSl_t, pSl_l, pEqI, pNeI, pEqS, pNeS, at0, at1, at2, at3, at4, at5, at6, at7, bx_ret, bx_exc, bx_fail, bd_ret, bd_exc, bd_fail, exS_ret, exS_exc, exS_fail, ofO_some, ofO_none, fnE, isi_T, isi_B, isi_I, isi_S, isi_L, sizeL, Option.bind_some, Option.map_some, Option.some.injEq, Int.reduceEq, Int.reduceLE, Int.reduceLT, Int.reduceNeg, Int.reduceAdd, Int.reduceSub, Int.reduceMul, decide_true, decide_false, decide_eq_true_eq, decide_not, eq_self, Int.cast_ofNat_Int, reduceCtorEq, List.length_cons, List.length_nil, List.map_cons, List.map_nil, List.replicate, List.cons_append, List.nil_append, List.append_nil, List.getElem?_cons_zero, List.getElem?_cons_succ, List.getElem?_nil, List.set_cons_zero, List.set_cons_succ, Nat.reduceAdd, Nat.reduceSub, Nat.reduceEqDiff, Nat.reduceLeDiff, Nat.reduceLT, Nat.zero_add, Nat.add_zero, true_and, and_true, false_and, and_false, Bool.not_true, Bool.not_false, Bool.true_and, Bool.and_true, Bool.false_and, Bool.and_false, Bool.or_false, Bool.false_or, Bool.or_true, Bool.true_or, Bool.not_eq_true', if_true, if_false, Bool.false_eq_true, Bool.not_eq_true, ↓reduceIte, ite_true, ite_false, Bool.true_eq_false, not_true_eq_false, not_false_eq_true, Nat.zero_le]
      refine Dr.le (k := 0 + 1) (Dr.draw (by omega) (by omega) fun r r0 r1 => ?_) (by decide)
      obtain ⟨x, hx, e⟩ := at_mem (l := [.list xs, .tuple [], .tuple (xs.take 1), .tuple rp, .none, .tuple (xs ++ xs.take 1), .str "row", .dict []]) r0 (by simpa using r1)
      simp only [e, hput, r_draw, bx_draw, bd_draw, exS_draw, opK2, opK, chK4, chK3, chK2, chK, unK, andK, orK, notK, andVK2, andVK, orVK2, orVK, notVK2, notVK, ifVK, ifTK, consK2, consK, tupK, lstK, fzK, slK3, slK2, slK, cbK, coK, isiK, drpK, retK, retOK, ifSK, setK, setOK, nxK, asgK, parK, par3K, augK, appK, wcK, wdK, callK, callOK, callSK2, callSK, forK, lcK, parOK2, parOK, raiseK, bodyX, startE, xSeq, sqF, xNext, xBreak, xCont, xNever, xIfS, xRet, xRetN, xRetV, xRetO, xSet, xSetO, xDrop, xAsg, ygT_t, ygsC, ygsN, ygN, xPar, xPar3, xParO, xAug, xAppend, xFrz, xVar, xC, xOp, xUn, pNeg_i, xTest, asB_b, xAnd, xOr, xNot, xAndV, xOrV, xNotV, xIf, xIfT, xChain, xNil, xCons, xTup, xLst, xFz, xCall, xCallO, xCallS, rOfT_d, rOfT_o, rOwT_o, ywNil, ywDat, ywVar, xCB, xCO, xIsi, xSl, xRev, pRev, xpN, xpS, asI_i, xIxO, xLenO, xLenS, xFor, xWhile, ziT, ziL, itT_t, itL_l, ziR1, ziR2, ziET, ziEL, ziZ, zpT, lrK2, xLr2, xLr1, enT_t, enL_l, xLc, lc2K, xLc2, noOwnB, wipeE, xYes, xRaise, xTry, tyF, xXf, pAdd_i, pAdd_t, pAdd_l, pSub_i, pLt_i, pLe_i, pGt_i, pGe_i, pIs_n, pIsNot_n, pIsB_b, pNotB_b, isN_n, isN_b, isN_i, isN_s, isN_t, isN_l, pIx_t, pIx_l, pLen_t, pLen_l, pMin2_i, pMax2_i, pAbs_i, pInt_i, pTuple_t, pTuple_l, pList_t, pList_l, pIadd_i, pSl_t, pSl_l, pEqI, pNeI, pEqS, pNeS, at0, at1, at2, at3, at4, at5, at6, at7, bx_ret, bx_exc, bx_fail, bd_ret, bd_exc, bd_fail, exS_ret, exS_exc, exS_fail, ofO_some, ofO_none, fnE, isi_T, isi_B, isi_I, isi_S, isi_L, sizeL, Option.bind_some, Option.map_some, Option.some.injEq, Int.reduceEq, Int.reduceLE, Int.reduceLT, Int.reduceNeg, Int.reduceAdd, Int.reduceSub, Int.reduceMul, decide_true, decide_false, decide_eq_true_eq, decide_not, eq_self, Int.cast_ofNat_Int, reduceCtorEq, List.length_cons, List.length_nil, List.map_cons, List.map_nil, List.replicate, List.cons_append, List.nil_append, List.append_nil, List.getElem?_cons_zero, List.getElem?_cons_succ, List.getElem?_nil, List.set_cons_zero, List.set_cons_succ, Nat.reduceAdd, Nat.reduceSub, Nat.reduceEqDiff, Nat.reduceLeDiff, Nat.reduceLT, Nat.zero_add, Nat.add_zero, true_and, and_true, false_and, and_false, Bool.not_true, Bool.not_false, Bool.true_and, Bool.and_true, Bool.false_and, Bool.and_false, Bool.or_false, Bool.false_or, Bool.or_true, Bool.true_or, Bool.not_eq_true', if_true, if_false, Bool.false_eq_true, Bool.not_eq_true, ↓reduceIte, ite_true, ite_false, Bool.true_eq_false, not_true_eq_false, not_false_eq_true, Nat.zero_le]
      have hg : RowG (17 * n + 1) x := by
        simp only [List.mem_cons, List.not_mem_nil, or_false] at hx
        rcases hx with rfl | rfl | rfl | rfl | rfl | rfl | rfl | rfl
        · intro xs e; cases e
        · exact hsub [] (by simp) (by simp)
        · exact hsub _ (by rw [List.length_take]; omega) fun z hz => List.mem_of_mem_take hz
        · exact hrp
        · intro xs e; cases e
        · refine hsub _ (by rw [List.length_append, List.length_take]; omega) fun z hz => ?_
          rcases List.mem_append.mp hz with hz | hz
          · exact hz
          · exact List.mem_of_mem_take hz
        · intro xs e; cases e
        · intro xs e; cases e
      exact Dr.ret (.inl ⟨_, rfl, SpP.put h hg (by omega)⟩)
    · simp only [hr, r_draw, bx_draw, bd_draw, exS_draw, opK2, opK, chK4, chK3, chK2, chK, unK, andK, orK, notK, andVK2, andVK, orVK2, orVK, notVK2, notVK, ifVK, ifTK, consK2, consK, tupK, lstK, fzK, slK3, slK2, slK, cbK, coK, isiK, drpK, retK, retOK, ifSK, setK, setOK, nxK, asgK, parK, par3K, augK, appK, wcK, wdK, callK, callOK, callSK2, callSK, forK, lcK, parOK2, parOK, raiseK, bodyX, startE, xSeq, sqF, xNext, xBreak, xCont, xNever, xIfS, xRet, xRetN, xRetV, xRetO, xSet, xSetO, xDrop, xAsg, ygT_t, ygsC, ygsN, ygN, xPar, xPar3, xParO, xAug, xAppend, xFrz, xVar, xC, xOp, xUn, pNeg_i, xTest, asB_b, xAnd, xOr, xNot, xAndV, xOrV, xNotV, xIf, xIfT, xChain, xNil, xCons, xTup, xLst, xFz, xCall, xCallO, xCallS, rOfT_d, rOfT_o, rOwT_o, ywNil, ywDat, ywVar, xCB, xCO, xIsi, xSl, xRev, pRev, xpN, xpS, asI_i, xIxO, xLenO, xLenS, xFor, xWhile, ziT, ziL, itT_t, itL_l, ziR1, ziR2, ziET, ziEL, ziZ, zpT, lrK2, xLr2, xLr1, enT_t, enL_l, xLc, lc2K, xLc2, noOwnB, wipeE, xYes, xRaise, xTry, tyF, xXf, pAdd_i, pAdd_t, pAdd_l, pSub_i, pLt_i, pLe_i, pGt_i, pGe_i, pIs_n, pIsNot_n, pIsB_b, pNotB_b, isN_n, isN_b, isN_i, isN_s, isN_t, isN_l, pIx_t, pIx_l, pLen_t, pLen_l, pMin2_i, pMax2_i, pAbs_i, pInt_i, pTuple_t, pTuple_l, pList_t, pList_l, pIadd_i, pSl_t, pSl_l, pEqI, pNeI, pEqS, pNeS, at0, at1, at2, at3, at4, at5, at6, at7, bx_ret, bx_exc, bx_fail, bd_ret, bd_exc, bd_fail, exS_ret, exS_exc, exS_fail, ofO_some, ofO_none, fnE, isi_T, isi_B, isi_I, isi_S, isi_L, sizeL, Option.bind_some, Option.map_some, Option.some.injEq, Int.reduceEq, Int.reduceLE, Int.reduceLT, Int.reduceNeg, Int.reduceAdd, Int.reduceSub, Int.reduceMul, decide_true, decide_false, decide_eq_true_eq, decide_not, eq_self, Int.cast_ofNat_Int, reduceCtorEq, List.length_cons, List.length_nil, List.map_cons, List.map_nil, List.replicate, List.cons_append, List.nil_append, List.append_nil, List.getElem?_cons_zero, List.getElem?_cons_succ, List.getElem?_nil, List.set_cons_zero, List.set_cons_succ, Nat.reduceAdd, Nat.reduceSub, Nat.reduceEqDiff, Nat.reduceLeDiff, Nat.reduceLT, Nat.zero_add, Nat.add_zero, true_and, and_true, false_and, and_false, Bool.not_true, Bool.not_false, Bool.true_and, Bool.and_true, Bool.false_and, Bool.and_false, Bool.or_false, Bool.false_or, Bool.or_true, Bool.true_or, Bool.not_eq_true', if_true, if_false, Bool.false_eq_true, Bool.not_eq_true, ↓reduceIte, ite_true, ite_false, Bool.true_eq_false, not_true_eq_false, not_false_eq_true, Nat.zero_le]
      exact Dr.ret (.inr rfl)
  · intro f hf
    rcases hf with ⟨w, rfl, hw⟩ | rfl
    · exact Dr.ret ⟨w, rfl, hw⟩
    · simp only [sqF]
      refine Dr.step (ρ' := [some .tok, some (.dat (.tuple ds)), some (.dat (.int q)), some (.dat (.list [.none, .bool true, .str "1", .tuple [.int 1], .list [.int 1], .int 0, .int 10000, .int (-1), .int 9999, .int (10 ^ 30)])), some (.dat (.tuple xs)), some (.dat (.int (p : Int)))]) (by simp only [ep, opK2, opK, chK4, chK3, chK2, chK, unK, andK, orK, notK, andVK2, andVK, orVK2, orVK, notVK2, notVK, ifVK, ifTK, consK2, consK, tupK, lstK, fzK, slK3, slK2, slK, cbK, coK, isiK, drpK, retK, retOK, ifSK, setK, setOK, nxK, asgK, parK, par3K, augK, appK, wcK, wdK, callK, callOK, callSK2, callSK, forK, lcK, parOK2, parOK, raiseK, bodyX, startE, xSeq, sqF, xNext, xBreak, xCont, xNever, xIfS, xRet, xRetN, xRetV, xRetO, xSet, xSetO, xDrop, xAsg, ygT_t, ygsC, ygsN, ygN, xPar, xPar3, xParO, xAug, xAppend, xFrz, xVar, xC, xOp, xUn, pNeg_i, xTest, asB_b, xAnd, xOr, xNot, xAndV, xOrV, xNotV, xIf, xIfT, xChain, xNil, xCons, xTup, xLst, xFz, xCall, xCallO, xCallS, rOfT_d, rOfT_o, rOwT_o, ywNil, ywDat, ywVar, xCB, xCO, xIsi, xSl, xRev, pRev, xpN, xpS, asI_i, xIxO, xLenO, xLenS, xFor, xWhile, ziT, ziL, itT_t, itL_l, ziR1, ziR2, ziET, ziEL, ziZ, zpT, lrK2, xLr2, xLr1, enT_t, enL_l, xLc, lc2K, xLc2, noOwnB, wipeE, xYes, xRaise, xTry, tyF, xXf, pAdd_i, pAdd_t, pAdd_l, pSub_i, pLt_i, pLe_i, pGt_i, pGe_i, pIs_n, pIsNot_n, pIsB_b, pNotB_b, isN_n, isN_b, isN_i, isN_s, isN_t, isN_l, pIx_t, pIx_l, pLen_t, pLen_l, pMin2_i, pMax2_i, pAbs_i, pInt_i, pTuple_t, pTuple_l, pList_t, pList_l, pIadd_i, pSl_t, pSl_l, pEqI, pNeI, pEqS, pNeS, at0, at1, at2, at3, at4, at5, at6, at7, bx_ret, bx_exc, bx_fail, bd_ret, bd_exc, bd_fail, exS_ret, exS_exc, exS_fail, ofO_some, ofO_none, fnE, isi_T, isi_B, isi_I, isi_S, isi_L, sizeL, Option.bind_some, Option.map_some, Option.some.injEq, Int.reduceEq, Int.reduceLE, Int.reduceLT, Int.reduceNeg, Int.reduceAdd, Int.reduceSub, Int.reduceMul, decide_true, decide_false, decide_eq_true_eq, decide_not, eq_self, Int.cast_ofNat_Int, reduceCtorEq, List.length_cons, List.length_nil, List.map_cons, List.map_nil, List.replicate, List.cons_append, List.nil_append, List.append_nil, List.getElem?_cons_zero, List.getElem?_cons_succ, List.getElem?_nil, List.set_cons_zero, List.set_cons_succ, Nat.reduceAdd, Nat.reduceSub, Nat.reduceEqDiff, Nat.reduceLeDiff, Nat.reduceLT, Nat.zero_add, Nat.add_zero, true_and, and_true, false_and, and_false, Bool.not_true, Bool.not_false, Bool.true_and, Bool.and_true, Bool.false_and, Bool.and_false, Bool.or_false, Bool.false_or, Bool.or_true, Bool.true_or, Bool.not_eq_true', if_true, if_false, Bool.false_eq_true, Bool.not_eq_true, ↓reduceIte, ite_true, ite_false, Bool.true_eq_false, not_true_eq_false, not_false_eq_true, Nat.zero_le]) ?_
      rcases hq23 with hq2 | hq3
      · have hq3 : ¬ q = 3 := by omega
        obtain ⟨L, eL⟩ : ∃ L : List Dt, L = [.none, .bool true, .str "1", .tuple [.int 1], .list [.int 1], .int 0, .int 10000, .int (-1), .int 9999, .int (10 ^ 30)] := ⟨_, rfl⟩
        have hlen : (L.length : Int) = 10 := by rw [eL]; rfl
        rw [← eL]
        refine Dr.step (ρ' := [some .tok, some (.dat (.tuple ds)), some (.dat (.int q)), some (.dat (.list L)), some (.dat (.tuple xs)), some (.dat (.int (p : Int)))]) (by simp only [hq3, opK2, opK, chK4, chK3, chK2, chK, unK, andK, orK, notK, andVK2, andVK, orVK2, orVK, notVK2, notVK, ifVK, ifTK, consK2, consK, tupK, lstK, fzK, slK3, slK2, slK, cbK, coK, isiK, drpK, retK, retOK, ifSK, setK, setOK, nxK, asgK, parK, par3K, augK, appK, wcK, wdK, callK, callOK, callSK2, callSK, forK, lcK, parOK2, parOK, raiseK, bodyX, startE, xSeq, sqF, xNext, xBreak, xCont, xNever, xIfS, xRet, xRetN, xRetV, xRetO, xSet, xSetO, xDrop, xAsg, ygT_t, ygsC, ygsN, ygN, xPar, xPar3, xParO, xAug, xAppend, xFrz, xVar, xC, xOp, xUn, pNeg_i, xTest, asB_b, xAnd, xOr, xNot, xAndV, xOrV, xNotV, xIf, xIfT, xChain, xNil, xCons, xTup, xLst, xFz, xCall, xCallO, xCallS, rOfT_d, rOfT_o, rOwT_o, ywNil, ywDat, ywVar, xCB, xCO, xIsi, xSl, xRev, pRev, xpN, xpS, asI_i, xIxO, xLenO, xLenS, xFor, xWhile, ziT, ziL, itT_t, itL_l, ziR1, ziR2, ziET, ziEL, ziZ, zpT, lrK2, xLr2, xLr1, enT_t, enL_l, xLc, lc2K, xLc2, noOwnB, wipeE, xYes, xRaise, xTry, tyF, xXf, pAdd_i, pAdd_t, pAdd_l, pSub_i, pLt_i, pLe_i, pGt_i, pGe_i, pIs_n, pIsNot_n, pIsB_b, pNotB_b, isN_n, isN_b, isN_i, isN_s, isN_t, isN_l, pIx_t, pIx_l, pLen_t, pLen_l, pMin2_i, pMax2_i, pAbs_i, pInt_i, pTuple_t, pTuple_l, pList_t, pList_l, pIadd_i, pSl_t, pSl_l, pEqI, pNeI, pEqS, pNeS, at0, at1, at2, at3, at4, at5, at6, at7, bx_ret, bx_exc, bx_fail, bd_ret, bd_exc, bd_fail, exS_ret, exS_exc, exS_fail, ofO_some, ofO_none, fnE, isi_T, isi_B, isi_I, isi_S, isi_L, sizeL, Option.bind_some, Option.map_some, Option.some.injEq, Int.reduceEq, Int.reduceLE, Int.reduceLT, Int.reduceNeg, Int.reduceAdd, Int.reduceSub, Int.reduceMul, decide_true, decide_false, decide_eq_true_eq, decide_not, eq_self, Int.cast_ofNat_Int, reduceCtorEq, List.length_cons, List.length_nil, List.map_cons, List.map_nil, List.replicate, List.cons_append, List.nil_append, List.append_nil, List.getElem?_cons_zero, List.getElem?_cons_succ, List.getElem?_nil, List.set_cons_zero, List.set_cons_succ, Nat.reduceAdd, Nat.reduceSub, Nat.reduceEqDiff, Nat.reduceLeDiff, Nat.reduceLT, Nat.zero_add, Nat.add_zero, true_and, and_true, false_and, and_false, Bool.not_true, Bool.not_false, Bool.true_and, Bool.and_true, Bool.false_and, Bool.and_false, Bool.or_false, Bool.false_or, Bool.or_true, Bool.true_or, Bool.not_eq_true', if_true, if_false, Bool.false_eq_true, Bool.not_eq_true, ↓reduceIte, ite_true, ite_false, Bool.true_eq_false, not_true_eq_false, not_false_eq_true, Nat.zero_le]) ?_
        simp only [r_draw, bx_draw, bd_draw, exS_draw, opK2, opK, chK4, chK3, chK2, chK, unK, andK, orK, notK, andVK2, andVK, orVK2, orVK, notVK2, notVK, ifVK, ifTK, consK2, consK, tupK, lstK, fzK, slK3, slK2, slK, cbK, coK, isiK, drpK, retK, retOK, ifSK, setK, setOK, nxK, asgK, parK, par3K, augK, appK, wcK, wdK, callK, callOK, callSK2, callSK, forK, lcK, parOK2, parOK, raiseK, bodyX, startE, xSeq, sqF, xNext, xBreak, xCont, xNever, xIfS, xRet, xRetN, xRetV, xRetO, xSet, xSetO, xDrop, xAsg, ygT_t, ygsC, ygsN, ygN, xPar, xPar3, xParO, xAug, xAppend, xFrz, xVar, xC, xOp, xUn, pNeg_i, xTest, asB_b, xAnd, xOr, xNot, xAndV, xOrV, xNotV, xIf, xIfT, xChain, xNil, xCons, xTup, xLst, xFz, xCall, xCallO, xCallS, rOfT_d, rOfT_o, rOwT_o, ywNil, ywDat, ywVar, xCB, xCO, xIsi, xSl, xRev, pRev, xpN, xpS, asI_i, xIxO, xLenO, xLenS, xFor, xWhile, ziT, ziL, itT_t, itL_l, ziR1, ziR2, ziET, ziEL, ziZ, zpT, lrK2, xLr2, xLr1, enT_t, enL_l, xLc, lc2K, xLc2, noOwnB, wipeE, xYes, xRaise, xTry, tyF, xXf, pAdd_i, pAdd_t, pAdd_l, pSub_i, pLt_i, pLe_i, pGt_i, pGe_i, pIs_n, pIsNot_n, pIsB_b, pNotB_b, isN_n, isN_b, isN_i, isN_s, isN_t, isN_l, pIx_t, pIx_l, pLen_t, pLen_l, pMin2_i, pMax2_i, pAbs_i, pInt_i, pTuple_t, pTuple_l, pList_t, pList_l, pIadd_i, pSl_t, pSl_l, pEqI, pNeI, pEqS, pNeS, at0, at1, at2, at3, at4, at5, at6, at7, bx_ret, bx_exc, bx_fail, bd_ret, bd_exc, bd_fail, exS_ret, exS_exc, exS_fail, ofO_some, ofO_none, fnE, isi_T, isi_B, isi_I, isi_S, isi_L, sizeL, Option.bind_some, Option.map_some, Option.some.injEq, Int.reduceEq, Int.reduceLE, Int.reduceLT, Int.reduceNeg, Int.reduceAdd, Int.reduceSub, Int.reduceMul, decide_true, decide_false, decide_eq_true_eq, decide_not, eq_self, Int.cast_ofNat_Int, reduceCtorEq, List.length_cons, List.length_nil, List.map_cons, List.map_nil, List.replicate, List.cons_append, List.nil_append, List.append_nil, List.getElem?_cons_zero, List.getElem?_cons_succ, List.getElem?_nil, List.set_cons_zero, List.set_cons_succ, Nat.reduceAdd, Nat.reduceSub, Nat.reduceEqDiff, Nat.reduceLeDiff, Nat.reduceLT, Nat.zero_add, Nat.add_zero, true_and, and_true, false_and, and_false, Bool.not_true, Bool.not_false, Bool.true_and, Bool.and_true, Bool.false_and, Bool.and_false, Bool.or_false, Bool.false_or, Bool.or_true, Bool.true_or, Bool.not_eq_true', if_true, if_false, Bool.false_eq_true, Bool.not_eq_true, ↓reduceIte, ite_true, ite_false, Bool.true_eq_false, not_true_eq_false, not_false_eq_true, Nat.zero_le]
        refine Dr.draw (k := 0) (by omega) (by omega) fun r r0 r1 => ?_
        obtain ⟨x, e, hx⟩ := okS L r eL r0 (by omega)
        simp only [e, hput2, hput, r_draw, bx_draw, bd_draw, exS_draw, opK2, opK, chK4, chK3, chK2, chK, unK, andK, orK, notK, andVK2, andVK, orVK2, orVK, notVK2, notVK, ifVK, ifTK, consK2, consK, tupK, lstK, fzK, slK3, slK2, slK, cbK, coK, isiK, drpK, retK, retOK, ifSK, setK, setOK, nxK, asgK, parK, par3K, augK, appK, wcK, wdK, callK, callOK, callSK2, callSK, forK, lcK, parOK2, parOK, raiseK, bodyX, startE, xSeq, sqF, xNext, xBreak, xCont, xNever, xIfS, xRet, xRetN, xRetV, xRetO, xSet, xSetO, xDrop, xAsg, ygT_t, ygsC, ygsN, ygN, xPar, xPar3, xParO, xAug, xAppend, xFrz, xVar, xC, xOp, xUn, pNeg_i, xTest, asB_b, xAnd, xOr, xNot, xAndV, xOrV, xNotV, xIf, xIfT, xChain, xNil, xCons, xTup, xLst, xFz, xCall, xCallO, xCallS, rOfT_d, rOfT_o, rOwT_o, ywNil, ywDat, ywVar, xCB, xCO, xIsi, xSl, xRev, pRev, xpN, xpS, asI_i, xIxO, xLenO, xLenS, xFor, xWhile, ziT, ziL, itT_t, itL_l, ziR1, ziR2, ziET, ziEL, ziZ, zpT, lrK2, xLr2, xLr1, enT_t, enL_l, xLc, lc2K, xLc2, noOwnB, wipeE, xYes, xRaise, xTry, tyF, xXf, pAdd_i, pAdd_t, pAdd_l, pSub_i, pLt_i, pLe_i, pGt_i, pGe_i, pIs_n, pIsNot_n, pIsB_b, pNotB_b, isN_n, isN_b, isN_i, isN_s, isN_t, isN_l, pIx_t, pIx_l, pLen_t, pLen_l, pMin2_i, pMax2_i, pAbs_i, pInt_i, pTuple_t, pTuple_l, pList_t, pList_l, pIadd_i, pSl_t, pSl_l, pEqI, pNeI, pEqS, pNeS, at0, at1, at2, at3, at4, at5, at6, at7, bx_ret, bx_exc, bx_fail, bd_ret, bd_exc, bd_fail, exS_ret, exS_exc, exS_fail, ofO_some, ofO_none, fnE, isi_T, isi_B, isi_I, isi_S, isi_L, sizeL, Option.bind_some, Option.map_some, Option.some.injEq, Int.reduceEq, Int.reduceLE, Int.reduceLT, Int.reduceNeg, Int.reduceAdd, Int.reduceSub, Int.reduceMul, decide_true, decide_false, decide_eq_true_eq, decide_not, eq_self, Int.cast_ofNat_Int, reduceCtorEq, List.length_cons, List.length_nil, List.map_cons, List.map_nil, List.replicate, List.cons_append, List.nil_append, List.append_nil, List.getElem?_cons_zero, List.getElem?_cons_succ, List.getElem?_nil, List.set_cons_zero, List.set_cons_succ, Nat.reduceAdd, Nat.reduceSub, Nat.reduceEqDiff, Nat.reduceLeDiff, Nat.reduceLT, Nat.zero_add, Nat.add_zero, true_and, and_true, false_and, and_false, Bool.not_true, Bool.not_false, Bool.true_and, Bool.and_true, Bool.false_and, Bool.and_false, Bool.or_false, Bool.false_or, Bool.or_true, Bool.true_or, Bool.not_eq_true', if_true, if_false, Bool.false_eq_true, Bool.not_eq_true, ↓reduceIte, ite_true, ite_false, Bool.true_eq_false, not_true_eq_false, not_false_eq_true, Nat.zero_le]
        exact Dr.ret ⟨_, rfl, SpP.put h ((RowG.put hG (by omega) hx hp)) (by omega)⟩
      · obtain ⟨L, eL⟩ : ∃ L : List Dt, L = [.none, .tuple [.int 1], .tuple [.int 1, .int 0, .int 0], .list [.int 1, .int 0], .tuple [.int 33, .int 0], .tuple [.int (-33), .int 0], .tuple [.int 0, .int 16], .tuple [.int 0, .int (-16)], .tuple [.bool true, .int 0], .tuple [.int 0, .str "1"], .tuple [.int 32, .int (-15)]] := ⟨_, rfl⟩
        have hlen : (L.length : Int) = 11 := by rw [eL]; rfl
        refine Dr.step (ρ' := [some .tok, some (.dat (.tuple ds)), some (.dat (.int q)), some (.dat (.list L)), some (.dat (.tuple xs)), some (.dat (.int (p : Int)))]) (by simp only [hq3, eL, opK2, opK, chK4, chK3, chK2, chK, unK, andK, orK, notK, andVK2, andVK, orVK2, orVK, notVK2, notVK, ifVK, ifTK, consK2, consK, tupK, lstK, fzK, slK3, slK2, slK, cbK, coK, isiK, drpK, retK, retOK, ifSK, setK, setOK, nxK, asgK, parK, par3K, augK, appK, wcK, wdK, callK, callOK, callSK2, callSK, forK, lcK, parOK2, parOK, raiseK, bodyX, startE, xSeq, sqF, xNext, xBreak, xCont, xNever, xIfS, xRet, xRetN, xRetV, xRetO, xSet, xSetO, xDrop, xAsg, ygT_t, ygsC, ygsN, ygN, xPar, xPar3, xParO, xAug, xAppend, xFrz, xVar, xC, xOp, xUn, pNeg_i, xTest, asB_b, xAnd, xOr, xNot, xAndV, xOrV, xNotV, xIf, xIfT, xChain, xNil, xCons, xTup, xLst, xFz, xCall, xCallO, xCallS, rOfT_d, rOfT_o, rOwT_o, ywNil, ywDat, ywVar, xCB, xCO, xIsi, xSl, xRev, pRev, xpN, xpS, asI_i, xIxO, xLenO, xLenS, xFor, xWhile, ziT, ziL, itT_t, itL_l, ziR1, ziR2, ziET, ziEL, ziZ, zpT, lrK2, xLr2, xLr1, enT_t, enL_l, xLc, lc2K, xLc2, noOwnB, wipeE, xYes, xRaise, xTry, tyF, xXf, pAdd_i, pAdd_t, pAdd_l, pSub_i, pLt_i, pLe_i, pGt_i, pGe_i, pIs_n, pIsNot_n, pIsB_b, pNotB_b, isN_n, isN_b, isN_i, isN_s, isN_t, isN_l, pIx_t, pIx_l, pLen_t, pLen_l, pMin2_i, pMax2_i, pAbs_i, pInt_i, pTuple_t, pTuple_l, pList_t, pList_l, pIadd_i, pSl_t, pSl_l, pEqI, pNeI, pEqS, pNeS, at0, at1, at2, at3, at4, at5, at6, at7, bx_ret, bx_exc, bx_fail, bd_ret, bd_exc, bd_fail, exS_ret, exS_exc, exS_fail, ofO_some, ofO_none, fnE, isi_T, isi_B, isi_I, isi_S, isi_L, sizeL, Option.bind_some, Option.map_some, Option.some.injEq, Int.reduceEq, Int.reduceLE, Int.reduceLT, Int.reduceNeg, Int.reduceAdd, Int.reduceSub, Int.reduceMul, decide_true, decide_false, decide_eq_true_eq, decide_not, eq_self, Int.cast_ofNat_Int, reduceCtorEq, List.length_cons, List.length_nil, List.map_cons, List.map_nil, List.replicate, List.cons_append, List.nil_append, List.append_nil, List.getElem?_cons_zero, List.getElem?_cons_succ, List.getElem?_nil, List.set_cons_zero, List.set_cons_succ, Nat.reduceAdd, Nat.reduceSub, Nat.reduceEqDiff, Nat.reduceLeDiff, Nat.reduceLT, Nat.zero_add, Nat.add_zero, true_and, and_true, false_and, and_false, Bool.not_true, Bool.not_false, Bool.true_and, Bool.and_true, Bool.false_and, Bool.and_false, Bool.or_false, Bool.false_or, Bool.or_true, Bool.true_or, Bool.not_eq_true', if_true, if_false, Bool.false_eq_true, Bool.not_eq_true, ↓reduceIte, ite_true, ite_false, Bool.true_eq_false, not_true_eq_false, not_false_eq_true, Nat.zero_le]) ?_
        simp only [r_draw, bx_draw, bd_draw, exS_draw, opK2, opK, chK4, chK3, chK2, chK, unK, andK, orK, notK, andVK2, andVK, orVK2, orVK, notVK2, notVK, ifVK, ifTK, consK2, consK, tupK, lstK, fzK, slK3, slK2, slK, cbK, coK, isiK, drpK, retK, retOK, ifSK, setK, setOK, nxK, asgK, parK, par3K, augK, appK, wcK, wdK, callK, callOK, callSK2, callSK, forK, lcK, parOK2, parOK, raiseK, bodyX, startE, xSeq, sqF, xNext, xBreak, xCont, xNever, xIfS, xRet, xRetN, xRetV, xRetO, xSet, xSetO, xDrop, xAsg, ygT_t, ygsC, ygsN, ygN, xPar, xPar3, xParO, xAug, xAppend, xFrz, xVar, xC, xOp, xUn, pNeg_i, xTest, asB_b, xAnd, xOr, xNot, xAndV, xOrV, xNotV, xIf, xIfT, xChain, xNil, xCons, xTup, xLst, xFz, xCall, xCallO, xCallS, rOfT_d, rOfT_o, rOwT_o, ywNil, ywDat, ywVar, xCB, xCO, xIsi, xSl, xRev, pRev, xpN, xpS, asI_i, xIxO, xLenO, xLenS, xFor, xWhile, ziT, ziL, itT_t, itL_l, ziR1, ziR2, ziET, ziEL, ziZ, zpT, lrK2, xLr2, xLr1, enT_t, enL_l, xLc, lc2K, xLc2, noOwnB, wipeE, xYes, xRaise, xTry, tyF, xXf, pAdd_i, pAdd_t, pAdd_l, pSub_i, pLt_i, pLe_i, pGt_i, pGe_i, pIs_n, pIsNot_n, pIsB_b, pNotB_b, isN_n, isN_b, isN_i, isN_s, isN_t, isN_l, pIx_t, pIx_l, pLen_t, pLen_l, pMin2_i, pMax2_i, pAbs_i, pInt_i, pTuple_t, pTuple_l, pList_t, pList_l, pIadd_i, pSl_t, pSl_l, pEqI, pNeI, pEqS, pNeS, at0, at1, at2, at3, at4, at5, at6, at7, bx_ret, bx_exc, bx_fail, bd_ret, bd_exc, bd_fail, exS_ret, exS_exc, exS_fail, ofO_some, ofO_none, fnE, isi_T, isi_B, isi_I, isi_S, isi_L, sizeL, Option.bind_some, Option.map_some, Option.some.injEq, Int.reduceEq, Int.reduceLE, Int.reduceLT, Int.reduceNeg, Int.reduceAdd, Int.reduceSub, Int.reduceMul, decide_true, decide_false, decide_eq_true_eq, decide_not, eq_self, Int.cast_ofNat_Int, reduceCtorEq, List.length_cons, List.length_nil, List.map_cons, List.map_nil, List.replicate, List.cons_append, List.nil_append, List.append_nil, List.getElem?_cons_zero, List.getElem?_cons_succ, List.getElem?_nil, List.set_cons_zero, List.set_cons_succ, Nat.reduceAdd, Nat.reduceSub, Nat.reduceEqDiff, Nat.reduceLeDiff, Nat.reduceLT, Nat.zero_add, Nat.add_zero, true_and, and_true, false_and, and_false, Bool.not_true, Bool.not_false, Bool.true_and, Bool.and_true, Bool.false_and, Bool.and_false, Bool.or_false, Bool.false_or, Bool.or_true, Bool.true_or, Bool.not_eq_true', if_true, if_false, Bool.false_eq_true, Bool.not_eq_true, ↓reduceIte, ite_true, ite_false, Bool.true_eq_false, not_true_eq_false, not_false_eq_true, Nat.zero_le]
        refine Dr.draw (k := 0) (by omega) (by omega) fun r r0 r1 => ?_
        obtain ⟨x, e, hx⟩ := okM L r eL r0 (by omega)
        simp only [e, hput2, hput, r_draw, bx_draw, bd_draw, exS_draw, opK2, opK, chK4, chK3, chK2, chK, unK, andK, orK, notK, andVK2, andVK, orVK2, orVK, notVK2, notVK, ifVK, ifTK, consK2, consK, tupK, lstK, fzK, slK3, slK2, slK, cbK, coK, isiK, drpK, retK, retOK, ifSK, setK, setOK, nxK, asgK, parK, par3K, augK, appK, wcK, wdK, callK, callOK, callSK2, callSK, forK, lcK, parOK2, parOK, raiseK, bodyX, startE, xSeq, sqF, xNext, xBreak, xCont, xNever, xIfS, xRet, xRetN, xRetV, xRetO, xSet, xSetO, xDrop, xAsg, ygT_t, ygsC, ygsN, ygN, xPar, xPar3, xParO, xAug, xAppend, xFrz, xVar, xC, xOp, xUn, pNeg_i, xTest, asB_b, xAnd, xOr, xNot, xAndV, xOrV, xNotV, xIf, xIfT, xChain, xNil, xCons, xTup, xLst, xFz, xCall, xCallO, xCallS, rOfT_d, rOfT_o, rOwT_o, ywNil, ywDat, ywVar, xCB, xCO, xIsi, xSl, xRev, pRev, xpN, xpS, asI_i, xIxO, xLenO, xLenS, xFor, xWhile, ziT, ziL, itT_t, itL_l, ziR1, ziR2, ziET, ziEL, ziZ, zpT, lrK2, xLr2, xLr1, enT_t, enL_l, xLc, lc2K, xLc2, noOwnB, wipeE, xYes, xRaise, xTry, tyF, xXf, pAdd_i, pAdd_t, pAdd_l, pSub_i, pLt_i, pLe_i, pGt_i, pGe_i, pIs_n, pIsNot_n, pIsB_b, pNotB_b, isN_n, isN_b, isN_i, isN_s, isN_t, isN_l, pIx_t, pIx_l, pLen_t, pLen_l, pMin2_i, pMax2_i, pAbs_i, pInt_i, pTuple_t, pTuple_l, pList_t, pList_l, pIadd_i, pSl_t, pSl_l, pEqI, pNeI, pEqS, pNeS, at0, at1, at2, at3, at4, at5, at6, at7, bx_ret, bx_exc, bx_fail, bd_ret, bd_exc, bd_fail, exS_ret, exS_exc, exS_fail, ofO_some, ofO_none, fnE, isi_T, isi_B, isi_I, isi_S, isi_L, sizeL, Option.bind_some, Option.map_some, Option.some.injEq, Int.reduceEq, Int.reduceLE, Int.reduceLT, Int.reduceNeg, Int.reduceAdd, Int.reduceSub, Int.reduceMul, decide_true, decide_false, decide_eq_true_eq, decide_not, eq_self, Int.cast_ofNat_Int, reduceCtorEq, List.length_cons, List.length_nil, List.map_cons, List.map_nil, List.replicate, List.cons_append, List.nil_append, List.append_nil, List.getElem?_cons_zero, List.getElem?_cons_succ, List.getElem?_nil, List.set_cons_zero, List.set_cons_succ, Nat.reduceAdd, Nat.reduceSub, Nat.reduceEqDiff, Nat.reduceLeDiff, Nat.reduceLT, Nat.zero_add, Nat.add_zero, true_and, and_true, false_and, and_false, Bool.not_true, Bool.not_false, Bool.true_and, Bool.and_true, Bool.false_and, Bool.and_false, Bool.or_false, Bool.false_or, Bool.or_true, Bool.true_or, Bool.not_eq_true', if_true, if_false, Bool.false_eq_true, Bool.not_eq_true, ↓reduceIte, ite_true, ite_false, Bool.true_eq_false, not_true_eq_false, not_false_eq_true, Nat.zero_le]
        exact Dr.ret ⟨_, rfl, SpP.put h ((RowG.put hG (by omega) hx hp)) (by omega)⟩
end LW


set_option maxRecDepth 100000
set_option maxHeartbeats 1000000
namespace LW
open PySem PySem.Spec PyProof.Rows L2 VL
theorem d_wide : Dr 140 (w__law_wide [.tok]) (fun w => ∃ d, w = .dat d ∧ ∃ c : Cd, d = c.d ∧ c.Ok) := by
  rw [wd__law_wide]
  refine Dr.body rfl ?_
  unfold t__law_wide
  refine Dr.le (k := 2 + (33 + (0 + (33 + (2 + 2))))) ?_ (by decide)
  refine Dr.seq (J := fun ρ => ∃ lw hg : Int, -32768 ≤ lw ∧ lw ≤ 0 ∧ 0 ≤ hg ∧ hg ≤ 32767 ∧ ρ = [some .tok, some (.dat (.list [.int 0, .int (-1), .int (-32768), .int lw])), some (.dat (.list [.int 0, .int 1, .int 32767, .int hg])), none, none, none, none]) 2 _ ?_ ?_
  · simp only [r_draw, bx_draw, bd_draw, exS_draw, opK2, opK, chK4, chK3, chK2, chK, unK, andK, orK, notK, andVK2, andVK, orVK2, orVK, notVK2, notVK, ifVK, ifTK, consK2, consK, tupK, lstK, fzK, slK3, slK2, slK, cbK, coK, isiK, drpK, retK, retOK, ifSK, setK, setOK, nxK, asgK, parK, par3K, augK, appK, wcK, wdK, callK, callOK, callSK2, callSK, forK, lcK, parOK2, parOK, raiseK, bodyX, startE, xSeq, sqF, xNext, xBreak, xCont, xNever, xIfS, xRet, xRetN, xRetV, xRetO, xSet, xSetO, xDrop, xAsg, ygT_t, ygsC, ygsN, ygN, xPar, xPar3, xParO, xAug, xAppend, xFrz, xVar, xC, xOp, xUn, pNeg_i, xTest, asB_b, xAnd, xOr, xNot, xAndV, xOrV, xNotV, xIf, xIfT, xChain, xNil, xCons, xTup, xLst, xFz, xCall, xCallO, xCallS, rOfT_d, rOfT_o, rOwT_o, ywNil, ywDat, ywVar, xCB, xCO, xIsi, xSl, xRev, pRev, xpN, xpS, asI_i, xIxO, xLenO, xLenS, xFor, xWhile, ziT, ziL, itT_t, itL_l, ziR1, ziR2, ziET, ziEL, ziZ, zpT, lrK2, xLr2, xLr1, enT_t, enL_l, xLc, lc2K, xLc2, noOwnB, wipeE, xYes, xRaise, xTry, tyF, xXf, pAdd_i, pAdd_t, pAdd_l, pSub_i, pLt_i, pLe_i, pGt_i, pGe_i, pIs_n, pIsNot_n, pIsB_b, pNotB_b, isN_n, isN_b, isN_i, isN_s, isN_t, isN_l, pIx_t, pIx_l, pLen_t, pLen_l, pMin2_i, pMax2_i, pAbs_i, pInt_i, pTuple_t, pTuple_l, pList_t, pList_l, pIadd_i, pSl_t, pSl_l, pEqI, pNeI, pEqS, pNeS, at0, at1, at2, at3, at4, at5, at6, at7, bx_ret, bx_exc, bx_fail, bd_ret, bd_exc, bd_fail, exS_ret, exS_exc, exS_fail, ofO_some, ofO_none, fnE, isi_T, isi_B, isi_I, isi_S, isi_L, sizeL, Option.bind_some, Option.map_some, Option.some.injEq, Int.reduceEq, Int.reduceLE, Int.reduceLT, Int.reduceNeg, Int.reduceAdd, Int.reduceSub, Int.reduceMul, decide_true, decide_false, decide_eq_true_eq, decide_not, eq_self, Int.cast_ofNat_Int, reduceCtorEq, List.length_cons, List.length_nil, List.map_cons, List.map_nil, List.replicate, List.cons_append, List.nil_append, List.append_nil, List.getElem?_cons_zero, List.getElem?_cons_succ, List.getElem?_nil, List.set_cons_zero, List.set_cons_succ, Nat.reduceAdd, Nat.reduceSub, Nat.reduceEqDiff, Nat.reduceLeDiff, Nat.reduceLT, Nat.zero_add, Nat.add_zero, true_and, and_true, false_and, and_false, Bool.not_true, Bool.not_false, Bool.true_and, Bool.and_true, Bool.false_and, Bool.and_false, Bool.or_false, Bool.false_or, Bool.or_true, Bool.true_or, Bool.not_eq_true', if_true, if_false, Bool.false_eq_true, Bool.not_eq_true, ↓reduceIte, ite_true, ite_false, Bool.true_eq_false, not_true_eq_false, not_false_eq_true, Nat.zero_le]
    refine Dr.draw (by omega) (by omega) fun r r0 r1 => ?_
    try simp only [r_draw, bx_draw, bd_draw, exS_draw, opK2, opK, chK4, chK3, chK2, chK, unK, andK, orK, notK, andVK2, andVK, orVK2, orVK, notVK2, notVK, ifVK, ifTK, consK2, consK, tupK, lstK, fzK, slK3, slK2, slK, cbK, coK, isiK, drpK, retK, retOK, ifSK, setK, setOK, nxK, asgK, parK, par3K, augK, appK, wcK, wdK, callK, callOK, callSK2, callSK, forK, lcK, parOK2, parOK, raiseK, bodyX, startE, xSeq, sqF, xNext, xBreak, xCont, xNever, xIfS, xRet, xRetN, xRetV, xRetO, xSet, xSetO, xDrop, xAsg, ygT_t, ygsC, ygsN, ygN, xPar, xPar3, xParO, xAug, xAppend, xFrz, xVar, xC, xOp, xUn, pNeg_i, xTest, asB_b, xAnd, xOr, xNot, xAndV, xOrV, xNotV, xIf, xIfT, xChain, xNil, xCons, xTup, xLst, xFz, xCall, xCallO, xCallS, rOfT_d, rOfT_o, rOwT_o, ywNil, ywDat, ywVar, xCB, xCO, xIsi, xSl, xRev, pRev, xpN, xpS, asI_i, xIxO, xLenO, xLenS, xFor, xWhile, ziT, ziL, itT_t, itL_l, ziR1, ziR2, ziET, ziEL, ziZ, zpT, lrK2, xLr2, xLr1, enT_t, enL_l, xLc, lc2K, xLc2, noOwnB, wipeE, xYes, xRaise, xTry, tyF, xXf, pAdd_i, pAdd_t, pAdd_l, pSub_i, pLt_i, pLe_i, pGt_i, pGe_i, pIs_n, pIsNot_n, pIsB_b, pNotB_b, isN_n, isN_b, isN_i, isN_s, isN_t, isN_l, pIx_t, pIx_l, pLen_t, pLen_l, pMin2_i, pMax2_i, pAbs_i, pInt_i, pTuple_t, pTuple_l, pList_t, pList_l, pIadd_i, pSl_t, pSl_l, pEqI, pNeI, pEqS, pNeS, at0, at1, at2, at3, at4, at5, at6, at7, bx_ret, bx_exc, bx_fail, bd_ret, bd_exc, bd_fail, exS_ret, exS_exc, exS_fail, ofO_some, ofO_none, fnE, isi_T, isi_B, isi_I, isi_S, isi_L, sizeL, Option.bind_some, Option.map_some, Option.some.injEq, Int.reduceEq, Int.reduceLE, Int.reduceLT, Int.reduceNeg, Int.reduceAdd, Int.reduceSub, Int.reduceMul, decide_true, decide_false, decide_eq_true_eq, decide_not, eq_self, Int.cast_ofNat_Int, reduceCtorEq, List.length_cons, List.length_nil, List.map_cons, List.map_nil, List.replicate, List.cons_append, List.nil_append, List.append_nil, List.getElem?_cons_zero, List.getElem?_cons_succ, List.getElem?_nil, List.set_cons_zero, List.set_cons_succ, Nat.reduceAdd, Nat.reduceSub, Nat.reduceEqDiff, Nat.reduceLeDiff, Nat.reduceLT, Nat.zero_add, Nat.add_zero, true_and, and_true, false_and, and_false, Bool.not_true, Bool.not_false, Bool.true_and, Bool.and_true, Bool.false_and, Bool.and_false, Bool.or_false, Bool.false_or, Bool.or_true, Bool.true_or, Bool.not_eq_true', if_true, if_false, Bool.false_eq_true, Bool.not_eq_true, ↓reduceIte, ite_true, ite_false, Bool.true_eq_false, not_true_eq_false, not_false_eq_true, Nat.zero_le]
    refine Dr.draw (by omega) (by omega) fun r' r0' r1' => ?_
    try simp only [r_draw, bx_draw, bd_draw, exS_draw, opK2, opK, chK4, chK3, chK2, chK, unK, andK, orK, notK, andVK2, andVK, orVK2, orVK, notVK2, notVK, ifVK, ifTK, consK2, consK, tupK, lstK, fzK, slK3, slK2, slK, cbK, coK, isiK, drpK, retK, retOK, ifSK, setK, setOK, nxK, asgK, parK, par3K, augK, appK, wcK, wdK, callK, callOK, callSK2, callSK, forK, lcK, parOK2, parOK, raiseK, bodyX, startE, xSeq, sqF, xNext, xBreak, xCont, xNever, xIfS, xRet, xRetN, xRetV, xRetO, xSet, xSetO, xDrop, xAsg, ygT_t, ygsC, ygsN, ygN, xPar, xPar3, xParO, xAug, xAppend, xFrz, xVar, xC, xOp, xUn, pNeg_i, xTest, asB_b, xAnd, xOr, xNot, xAndV, xOrV, xNotV, xIf, xIfT, xChain, xNil, xCons, xTup, xLst, xFz, xCall, xCallO, xCallS, rOfT_d, rOfT_o, rOwT_o, ywNil, ywDat, ywVar, xCB, xCO, xIsi, xSl, xRev, pRev, xpN, xpS, asI_i, xIxO, xLenO, xLenS, xFor, xWhile, ziT, ziL, itT_t, itL_l, ziR1, ziR2, ziET, ziEL, ziZ, zpT, lrK2, xLr2, xLr1, enT_t, enL_l, xLc, lc2K, xLc2, noOwnB, wipeE, xYes, xRaise, xTry, tyF, xXf, pAdd_i, pAdd_t, pAdd_l, pSub_i, pLt_i, pLe_i, pGt_i, pGe_i, pIs_n, pIsNot_n, pIsB_b, pNotB_b, isN_n, isN_b, isN_i, isN_s, isN_t, isN_l, pIx_t, pIx_l, pLen_t, pLen_l, pMin2_i, pMax2_i, pAbs_i, pInt_i, pTuple_t, pTuple_l, pList_t, pList_l, pIadd_i, pSl_t, pSl_l, pEqI, pNeI, pEqS, pNeS, at0, at1, at2, at3, at4, at5, at6, at7, bx_ret, bx_exc, bx_fail, bd_ret, bd_exc, bd_fail, exS_ret, exS_exc, exS_fail, ofO_some, ofO_none, fnE, isi_T, isi_B, isi_I, isi_S, isi_L, sizeL, Option.bind_some, Option.map_some, Option.some.injEq, Int.reduceEq, Int.reduceLE, Int.reduceLT, Int.reduceNeg, Int.reduceAdd, Int.reduceSub, Int.reduceMul, decide_true, decide_false, decide_eq_true_eq, decide_not, eq_self, Int.cast_ofNat_Int, reduceCtorEq, List.length_cons, List.length_nil, List.map_cons, List.map_nil, List.replicate, List.cons_append, List.nil_append, List.append_nil, List.getElem?_cons_zero, List.getElem?_cons_succ, List.getElem?_nil, List.set_cons_zero, List.set_cons_succ, Nat.reduceAdd, Nat.reduceSub, Nat.reduceEqDiff, Nat.reduceLeDiff, Nat.reduceLT, Nat.zero_add, Nat.add_zero, true_and, and_true, false_and, and_false, Bool.not_true, Bool.not_false, Bool.true_and, Bool.and_true, Bool.false_and, Bool.and_false, Bool.or_false, Bool.false_or, Bool.or_true, Bool.true_or, Bool.not_eq_true', if_true, if_false, Bool.false_eq_true, Bool.not_eq_true, ↓reduceIte, ite_true, ite_false, Bool.true_eq_false, not_true_eq_false, not_false_eq_true, Nat.zero_le]
    exact Dr.ret ⟨_, rfl, 0 - r, r', by omega, by omega, by omega, by omega, rfl⟩
  rintro ρ ⟨low, high, l0, l1, h0, h1, rfl⟩
  refine Dr.seq (J := fun ρ => ∃ steps : List Int, 1 ≤ steps.length ∧ steps.length ≤ 16 ∧ (∀ s ∈ steps, 1 ≤ s ∧ s ≤ 9999) ∧ ρ = [some .tok, some (.dat (.list [.int 0, .int (-1), .int (-32768), .int low])), some (.dat (.list [.int 0, .int 1, .int 32767, .int high])), some (.dat (.list (steps.map .int))), none, none, none]) 33 _ ?_ ?_
  · simp only [r_draw, bx_draw, bd_draw, exS_draw, opK2, opK, chK4, chK3, chK2, chK, unK, andK, orK, notK, andVK2, andVK, orVK2, orVK, notVK2, notVK, ifVK, ifTK, consK2, consK, tupK, lstK, fzK, slK3, slK2, slK, cbK, coK, isiK, drpK, retK, retOK, ifSK, setK, setOK, nxK, asgK, parK, par3K, augK, appK, wcK, wdK, callK, callOK, callSK2, callSK, forK, lcK, parOK2, parOK, raiseK, bodyX, startE, xSeq, sqF, xNext, xBreak, xCont, xNever, xIfS, xRet, xRetN, xRetV, xRetO, xSet, xSetO, xDrop, xAsg, ygT_t, ygsC, ygsN, ygN, xPar, xPar3, xParO, xAug, xAppend, xFrz, xVar, xC, xOp, xUn, pNeg_i, xTest, asB_b, xAnd, xOr, xNot, xAndV, xOrV, xNotV, xIf, xIfT, xChain, xNil, xCons, xTup, xLst, xFz, xCall, xCallO, xCallS, rOfT_d, rOfT_o, rOwT_o, ywNil, ywDat, ywVar, xCB, xCO, xIsi, xSl, xRev, pRev, xpN, xpS, asI_i, xIxO, xLenO, xLenS, xFor, xWhile, ziT, ziL, itT_t, itL_l, ziR1, ziR2, ziET, ziEL, ziZ, zpT, lrK2, xLr2, xLr1, enT_t, enL_l, xLc, lc2K, xLc2, noOwnB, wipeE, xYes, xRaise, xTry, tyF, xXf, pAdd_i, pAdd_t, pAdd_l, pSub_i, pLt_i, pLe_i, pGt_i, pGe_i, pIs_n, pIsNot_n, pIsB_b, pNotB_b, isN_n, isN_b, isN_i, isN_s, isN_t, isN_l, pIx_t, pIx_l, pLen_t, pLen_l, pMin2_i, pMax2_i, pAbs_i, pInt_i, pTuple_t, pTuple_l, pList_t, pList_l, pIadd_i, pSl_t, pSl_l, pEqI, pNeI, pEqS, pNeS, at0, at1, at2, at3, at4, at5, at6, at7, bx_ret, bx_exc, bx_fail, bd_ret, bd_exc, bd_fail, exS_ret, exS_exc, exS_fail, ofO_some, ofO_none, fnE, isi_T, isi_B, isi_I, isi_S, isi_L, sizeL, Option.bind_some, Option.map_some, Option.some.injEq, Int.reduceEq, Int.reduceLE, Int.reduceLT, Int.reduceNeg, Int.reduceAdd, Int.reduceSub, Int.reduceMul, decide_true, decide_false, decide_eq_true_eq, decide_not, eq_self, Int.cast_ofNat_Int, reduceCtorEq, List.length_cons, List.length_nil, List.map_cons, List.map_nil, List.replicate, List.cons_append, List.nil_append, List.append_nil, List.getElem?_cons_zero, List.getElem?_cons_succ, List.getElem?_nil, List.set_cons_zero, List.set_cons_succ, Nat.reduceAdd, Nat.reduceSub, Nat.reduceEqDiff, Nat.reduceLeDiff, Nat.reduceLT, Nat.zero_add, Nat.add_zero, true_and, and_true, false_and, and_false, Bool.not_true, Bool.not_false, Bool.true_and, Bool.and_true, Bool.false_and, Bool.and_false, Bool.or_false, Bool.false_or, Bool.or_true, Bool.true_or, Bool.not_eq_true', if_true, if_false, Bool.false_eq_true, Bool.not_eq_true, ↓reduceIte, ite_true, ite_false, Bool.true_eq_false, not_true_eq_false, not_false_eq_true, Nat.zero_le]
    refine Dr.draw (k := 32) (by omega) (by omega) fun r r0 r1 => ?_
    simp only [rgT1_i (j := 1 + r) (by omega) (by omega), r_draw, bx_draw, bd_draw, exS_draw, opK2, opK, chK4, chK3, chK2, chK, unK, andK, orK, notK, andVK2, andVK, orVK2, orVK, notVK2, notVK, ifVK, ifTK, consK2, consK, tupK, lstK, fzK, slK3, slK2, slK, cbK, coK, isiK, drpK, retK, retOK, ifSK, setK, setOK, nxK, asgK, parK, par3K, augK, appK, wcK, wdK, callK, callOK, callSK2, callSK, forK, lcK, parOK2, parOK, raiseK, bodyX, startE, xSeq, sqF, xNext, xBreak, xCont, xNever, xIfS, xRet, xRetN, xRetV, xRetO, xSet, xSetO, xDrop, xAsg, ygT_t, ygsC, ygsN, ygN, xPar, xPar3, xParO, xAug, xAppend, xFrz, xVar, xC, xOp, xUn, pNeg_i, xTest, asB_b, xAnd, xOr, xNot, xAndV, xOrV, xNotV, xIf, xIfT, xChain, xNil, xCons, xTup, xLst, xFz, xCall, xCallO, xCallS, rOfT_d, rOfT_o, rOwT_o, ywNil, ywDat, ywVar, xCB, xCO, xIsi, xSl, xRev, pRev, xpN, xpS, asI_i, xIxO, xLenO, xLenS, xFor, xWhile, ziT, ziL, itT_t, itL_l, ziR1, ziR2, ziET, ziEL, ziZ, zpT, lrK2, xLr2, xLr1, enT_t, enL_l, xLc, lc2K, xLc2, noOwnB, wipeE, xYes, xRaise, xTry, tyF, xXf, pAdd_i, pAdd_t, pAdd_l, pSub_i, pLt_i, pLe_i, pGt_i, pGe_i, pIs_n, pIsNot_n, pIsB_b, pNotB_b, isN_n, isN_b, isN_i, isN_s, isN_t, isN_l, pIx_t, pIx_l, pLen_t, pLen_l, pMin2_i, pMax2_i, pAbs_i, pInt_i, pTuple_t, pTuple_l, pList_t, pList_l, pIadd_i, pSl_t, pSl_l, pEqI, pNeI, pEqS, pNeS, at0, at1, at2, at3, at4, at5, at6, at7, bx_ret, bx_exc, bx_fail, bd_ret, bd_exc, bd_fail, exS_ret, exS_exc, exS_fail, ofO_some, ofO_none, fnE, isi_T, isi_B, isi_I, isi_S, isi_L, sizeL, Option.bind_some, Option.map_some, Option.some.injEq, Int.reduceEq, Int.reduceLE, Int.reduceLT, Int.reduceNeg, Int.reduceAdd, Int.reduceSub, Int.reduceMul, decide_true, decide_false, decide_eq_true_eq, decide_not, eq_self, Int.cast_ofNat_Int, reduceCtorEq, List.length_cons, List.length_nil, List.map_cons, List.map_nil, List.replicate, List.cons_append, List.nil_append, List.append_nil, List.getElem?_cons_zero, List.getElem?_cons_succ, List.getElem?_nil, List.set_cons_zero, List.set_cons_succ, Nat.reduceAdd, Nat.reduceSub, Nat.reduceEqDiff, Nat.reduceLeDiff, Nat.reduceLT, Nat.zero_add, Nat.add_zero, true_and, and_true, false_and, and_false, Bool.not_true, Bool.not_false, Bool.true_and, Bool.and_true, Bool.false_and, Bool.and_false, Bool.or_false, Bool.false_or, Bool.or_true, Bool.true_or, Bool.not_eq_true', if_true, if_false, Bool.false_eq_true, Bool.not_eq_true, ↓reduceIte, ite_true, ite_false, Bool.true_eq_false, not_true_eq_false, not_false_eq_true, Nat.zero_le]
    have hlen : (rngD 0 (1 + r).toNat).length = (1 + r).toNat := rngD_len _ _
    refine Dr.le (k := 2 * (rngD 0 (1 + r).toNat).length + 0) ?_ (by rw [hlen]; omega)
    refine Dr.exS (P := fun d => ∃ steps : List Int, d = .list (steps.map .int) ∧ steps.length = (1 + r).toNat ∧ ∀ s ∈ steps, 1 ≤ s ∧ s ≤ 9999) ?_ ?_
    · refine Dr.bd (j := 0) (Dr.lcT (k := 2) (R := fun z => ∃ i : Int, z = .int i ∧ 1 ≤ i ∧ i ≤ 9999) _ [] (by rw [hlen, sizeL]; simp only [List.length_nil]; omega) fun d hd => ⟨_, rfl, ?_⟩) fun ys hys => ?_
      · unfold e__law_wide_0
        simp only [r_draw, bx_draw, bd_draw, exS_draw, opK2, opK, chK4, chK3, chK2, chK, unK, andK, orK, notK, andVK2, andVK, orVK2, orVK, notVK2, notVK, ifVK, ifTK, consK2, consK, tupK, lstK, fzK, slK3, slK2, slK, cbK, coK, isiK, drpK, retK, retOK, ifSK, setK, setOK, nxK, asgK, parK, par3K, augK, appK, wcK, wdK, callK, callOK, callSK2, callSK, forK, lcK, parOK2, parOK, raiseK, bodyX, startE, xSeq, sqF, xNext, xBreak, xCont, xNever, xIfS, xRet, xRetN, xRetV, xRetO, xSet, xSetO, xDrop, xAsg, ygT_t, ygsC, ygsN, ygN, xPar, xPar3, xParO, xAug, xAppend, xFrz, xVar, xC, xOp, xUn, pNeg_i, xTest, asB_b, xAnd, xOr, xNot, xAndV, xOrV, xNotV, xIf, xIfT, xChain, xNil, xCons, xTup, xLst, xFz, xCall, xCallO, xCallS, rOfT_d, rOfT_o, rOwT_o, ywNil, ywDat, ywVar, xCB, xCO, xIsi, xSl, xRev, pRev, xpN, xpS, asI_i, xIxO, xLenO, xLenS, xFor, xWhile, ziT, ziL, itT_t, itL_l, ziR1, ziR2, ziET, ziEL, ziZ, zpT, lrK2, xLr2, xLr1, enT_t, enL_l, xLc, lc2K, xLc2, noOwnB, wipeE, xYes, xRaise, xTry, tyF, xXf, pAdd_i, pAdd_t, pAdd_l, pSub_i, pLt_i, pLe_i, pGt_i, pGe_i, pIs_n, pIsNot_n, pIsB_b, pNotB_b, isN_n, isN_b, isN_i, isN_s, isN_t, isN_l, pIx_t, pIx_l, pLen_t, pLen_l, pMin2_i, pMax2_i, pAbs_i, pInt_i, pTuple_t, pTuple_l, pList_t, pList_l, pIadd_i, pSl_t, pSl_l, pEqI, pNeI, pEqS, pNeS, at0, at1, at2, at3, at4, at5, at6, at7, bx_ret, bx_exc, bx_fail, bd_ret, bd_exc, bd_fail, exS_ret, exS_exc, exS_fail, ofO_some, ofO_none, fnE, isi_T, isi_B, isi_I, isi_S, isi_L, sizeL, Option.bind_some, Option.map_some, Option.some.injEq, Int.reduceEq, Int.reduceLE, Int.reduceLT, Int.reduceNeg, Int.reduceAdd, Int.reduceSub, Int.reduceMul, decide_true, decide_false, decide_eq_true_eq, decide_not, eq_self, Int.cast_ofNat_Int, reduceCtorEq, List.length_cons, List.length_nil, List.map_cons, List.map_nil, List.replicate, List.cons_append, List.nil_append, List.append_nil, List.getElem?_cons_zero, List.getElem?_cons_succ, List.getElem?_nil, List.set_cons_zero, List.set_cons_succ, Nat.reduceAdd, Nat.reduceSub, Nat.reduceEqDiff, Nat.reduceLeDiff, Nat.reduceLT, Nat.zero_add, Nat.add_zero, true_and, and_true, false_and, and_false, Bool.not_true, Bool.not_false, Bool.true_and, Bool.and_true, Bool.false_and, Bool.and_false, Bool.or_false, Bool.false_or, Bool.or_true, Bool.true_or, Bool.not_eq_true', if_true, if_false, Bool.false_eq_true, Bool.not_eq_true, ↓reduceIte, ite_true, ite_false, Bool.true_eq_false, not_true_eq_false, not_false_eq_true, Nat.zero_le]
        refine Dr.draw (by omega) (by omega) fun q q0 q1 => ?_
        try simp only [r_draw, bx_draw, bd_draw, exS_draw, opK2, opK, chK4, chK3, chK2, chK, unK, andK, orK, notK, andVK2, andVK, orVK2, orVK, notVK2, notVK, ifVK, ifTK, consK2, consK, tupK, lstK, fzK, slK3, slK2, slK, cbK, coK, isiK, drpK, retK, retOK, ifSK, setK, setOK, nxK, asgK, parK, par3K, augK, appK, wcK, wdK, callK, callOK, callSK2, callSK, forK, lcK, parOK2, parOK, raiseK, bodyX, startE, xSeq, sqF, xNext, xBreak, xCont, xNever, xIfS, xRet, xRetN, xRetV, xRetO, xSet, xSetO, xDrop, xAsg, ygT_t, ygsC, ygsN, ygN, xPar, xPar3, xParO, xAug, xAppend, xFrz, xVar, xC, xOp, xUn, pNeg_i, xTest, asB_b, xAnd, xOr, xNot, xAndV, xOrV, xNotV, xIf, xIfT, xChain, xNil, xCons, xTup, xLst, xFz, xCall, xCallO, xCallS, rOfT_d, rOfT_o, rOwT_o, ywNil, ywDat, ywVar, xCB, xCO, xIsi, xSl, xRev, pRev, xpN, xpS, asI_i, xIxO, xLenO, xLenS, xFor, xWhile, ziT, ziL, itT_t, itL_l, ziR1, ziR2, ziET, ziEL, ziZ, zpT, lrK2, xLr2, xLr1, enT_t, enL_l, xLc, lc2K, xLc2, noOwnB, wipeE, xYes, xRaise, xTry, tyF, xXf, pAdd_i, pAdd_t, pAdd_l, pSub_i, pLt_i, pLe_i, pGt_i, pGe_i, pIs_n, pIsNot_n, pIsB_b, pNotB_b, isN_n, isN_b, isN_i, isN_s, isN_t, isN_l, pIx_t, pIx_l, pLen_t, pLen_l, pMin2_i, pMax2_i, pAbs_i, pInt_i, pTuple_t, pTuple_l, pList_t, pList_l, pIadd_i, pSl_t, pSl_l, pEqI, pNeI, pEqS, pNeS, at0, at1, at2, at3, at4, at5, at6, at7, bx_ret, bx_exc, bx_fail, bd_ret, bd_exc, bd_fail, exS_ret, exS_exc, exS_fail, ofO_some, ofO_none, fnE, isi_T, isi_B, isi_I, isi_S, isi_L, sizeL, Option.bind_some, Option.map_some, Option.some.injEq, Int.reduceEq, Int.reduceLE, Int.reduceLT, Int.reduceNeg, Int.reduceAdd, Int.reduceSub, Int.reduceMul, decide_true, decide_false, decide_eq_true_eq, decide_not, eq_self, Int.cast_ofNat_Int, reduceCtorEq, List.length_cons, List.length_nil, List.map_cons, List.map_nil, List.replicate, List.cons_append, List.nil_append, List.append_nil, List.getElem?_cons_zero, List.getElem?_cons_succ, List.getElem?_nil, List.set_cons_zero, List.set_cons_succ, Nat.reduceAdd, Nat.reduceSub, Nat.reduceEqDiff, Nat.reduceLeDiff, Nat.reduceLT, Nat.zero_add, Nat.add_zero, true_and, and_true, false_and, and_false, Bool.not_true, Bool.not_false, Bool.true_and, Bool.and_true, Bool.false_and, Bool.and_false, Bool.or_false, Bool.false_or, Bool.or_true, Bool.true_or, Bool.not_eq_true', if_true, if_false, Bool.false_eq_true, Bool.not_eq_true, ↓reduceIte, ite_true, ite_false, Bool.true_eq_false, not_true_eq_false, not_false_eq_true, Nat.zero_le]
        refine Dr.draw (by omega) (by omega) fun z z0 z1 => ?_
        have hz : z = 0 ∨ z = 1 ∨ z = 2 := by omega
        rcases hz with rfl | rfl | rfl <;> simp only [opK2, opK, chK4, chK3, chK2, chK, unK, andK, orK, notK, andVK2, andVK, orVK2, orVK, notVK2, notVK, ifVK, ifTK, consK2, consK, tupK, lstK, fzK, slK3, slK2, slK, cbK, coK, isiK, drpK, retK, retOK, ifSK, setK, setOK, nxK, asgK, parK, par3K, augK, appK, wcK, wdK, callK, callOK, callSK2, callSK, forK, lcK, parOK2, parOK, raiseK, bodyX, startE, xSeq, sqF, xNext, xBreak, xCont, xNever, xIfS, xRet, xRetN, xRetV, xRetO, xSet, xSetO, xDrop, xAsg, ygT_t, ygsC, ygsN, ygN, xPar, xPar3, xParO, xAug, xAppend, xFrz, xVar, xC, xOp, xUn, pNeg_i, xTest, asB_b, xAnd, xOr, xNot, xAndV, xOrV, xNotV, xIf, xIfT, xChain, xNil, xCons, xTup, xLst, xFz, xCall, xCallO, xCallS, rOfT_d, rOfT_o, rOwT_o, ywNil, ywDat, ywVar, xCB, xCO, xIsi, xSl, xRev, pRev, xpN, xpS, asI_i, xIxO, xLenO, xLenS, xFor, xWhile, ziT, ziL, itT_t, itL_l, ziR1, ziR2, ziET, ziEL, ziZ, zpT, lrK2, xLr2, xLr1, enT_t, enL_l, xLc, lc2K, xLc2, noOwnB, wipeE, xYes, xRaise, xTry, tyF, xXf, pAdd_i, pAdd_t, pAdd_l, pSub_i, pLt_i, pLe_i, pGt_i, pGe_i, pIs_n, pIsNot_n, pIsB_b, pNotB_b, isN_n, isN_b, isN_i, isN_s, isN_t, isN_l, pIx_t, pIx_l, pLen_t, pLen_l, pMin2_i, pMax2_i, pAbs_i, pInt_i, pTuple_t, pTuple_l, pList_t, pList_l, pIadd_i, pSl_t, pSl_l, pEqI, pNeI, pEqS, pNeS, at0, at1, at2, at3, at4, at5, at6, at7, bx_ret, bx_exc, bx_fail, bd_ret, bd_exc, bd_fail, exS_ret, exS_exc, exS_fail, ofO_some, ofO_none, fnE, isi_T, isi_B, isi_I, isi_S, isi_L, sizeL, Option.bind_some, Option.map_some, Option.some.injEq, Int.reduceEq, Int.reduceLE, Int.reduceLT, Int.reduceNeg, Int.reduceAdd, Int.reduceSub, Int.reduceMul, decide_true, decide_false, decide_eq_true_eq, decide_not, eq_self, Int.cast_ofNat_Int, reduceCtorEq, List.length_cons, List.length_nil, List.map_cons, List.map_nil, List.replicate, List.cons_append, List.nil_append, List.append_nil, List.getElem?_cons_zero, List.getElem?_cons_succ, List.getElem?_nil, List.set_cons_zero, List.set_cons_succ, Nat.reduceAdd, Nat.reduceSub, Nat.reduceEqDiff, Nat.reduceLeDiff, Nat.reduceLT, Nat.zero_add, Nat.add_zero, true_and, and_true, false_and, and_false, Bool.not_true, Bool.not_false, Bool.true_and, Bool.and_true, Bool.false_and, Bool.and_false, Bool.or_false, Bool.false_or, Bool.or_true, Bool.true_or, Bool.not_eq_true', if_true, if_false, Bool.false_eq_true, Bool.not_eq_true, ↓reduceIte, ite_true, ite_false, Bool.true_eq_false, not_true_eq_false, not_false_eq_true, Nat.zero_le] <;> exact Dr.ret ⟨_, rfl, by omega, by omega⟩
      · obtain ⟨zs, rfl, hz, hR⟩ := hys
        obtain ⟨ns, rfl, hn⟩ := list_of hR
        rw [List.length_map, hlen] at hz
        exact Dr.ret ⟨ns, rfl, hz, hn⟩
    · rintro d ⟨steps, rfl, hs, hv⟩
      try simp only [opK2, opK, chK4, chK3, chK2, chK, unK, andK, orK, notK, andVK2, andVK, orVK2, orVK, notVK2, notVK, ifVK, ifTK, consK2, consK, tupK, lstK, fzK, slK3, slK2, slK, cbK, coK, isiK, drpK, retK, retOK, ifSK, setK, setOK, nxK, asgK, parK, par3K, augK, appK, wcK, wdK, callK, callOK, callSK2, callSK, forK, lcK, parOK2, parOK, raiseK, bodyX, startE, xSeq, sqF, xNext, xBreak, xCont, xNever, xIfS, xRet, xRetN, xRetV, xRetO, xSet, xSetO, xDrop, xAsg, ygT_t, ygsC, ygsN, ygN, xPar, xPar3, xParO, xAug, xAppend, xFrz, xVar, xC, xOp, xUn, pNeg_i, xTest, asB_b, xAnd, xOr, xNot, xAndV, xOrV, xNotV, xIf, xIfT, xChain, xNil, xCons, xTup, xLst, xFz, xCall, xCallO, xCallS, rOfT_d, rOfT_o, rOwT_o, ywNil, ywDat, ywVar, xCB, xCO, xIsi, xSl, xRev, pRev, xpN, xpS, asI_i, xIxO, xLenO, xLenS, xFor, xWhile, ziT, ziL, itT_t, itL_l, ziR1, ziR2, ziET, ziEL, ziZ, zpT, lrK2, xLr2, xLr1, enT_t, enL_l, xLc, lc2K, xLc2, noOwnB, wipeE, xYes, xRaise, xTry, tyF, xXf, pAdd_i, pAdd_t, pAdd_l, pSub_i, pLt_i, pLe_i, pGt_i, pGe_i, pIs_n, pIsNot_n, pIsB_b, pNotB_b, isN_n, isN_b, isN_i, isN_s, isN_t, isN_l, pIx_t, pIx_l, pLen_t, pLen_l, pMin2_i, pMax2_i, pAbs_i, pInt_i, pTuple_t, pTuple_l, pList_t, pList_l, pIadd_i, pSl_t, pSl_l, pEqI, pNeI, pEqS, pNeS, at0, at1, at2, at3, at4, at5, at6, at7, bx_ret, bx_exc, bx_fail, bd_ret, bd_exc, bd_fail, exS_ret, exS_exc, exS_fail, ofO_some, ofO_none, fnE, isi_T, isi_B, isi_I, isi_S, isi_L, sizeL, Option.bind_some, Option.map_some, Option.some.injEq, Int.reduceEq, Int.reduceLE, Int.reduceLT, Int.reduceNeg, Int.reduceAdd, Int.reduceSub, Int.reduceMul, decide_true, decide_false, decide_eq_true_eq, decide_not, eq_self, Int.cast_ofNat_Int, reduceCtorEq, List.length_cons, List.length_nil, List.map_cons, List.map_nil, List.replicate, List.cons_append, List.nil_append, List.append_nil, List.getElem?_cons_zero, List.getElem?_cons_succ, List.getElem?_nil, List.set_cons_zero, List.set_cons_succ, Nat.reduceAdd, Nat.reduceSub, Nat.reduceEqDiff, Nat.reduceLeDiff, Nat.reduceLT, Nat.zero_add, Nat.add_zero, true_and, and_true, false_and, and_false, Bool.not_true, Bool.not_false, Bool.true_and, Bool.and_true, Bool.false_and, Bool.and_false, Bool.or_false, Bool.false_or, Bool.or_true, Bool.true_or, Bool.not_eq_true', if_true, if_false, Bool.false_eq_true, Bool.not_eq_true, ↓reduceIte, ite_true, ite_false, Bool.true_eq_false, not_true_eq_false, not_false_eq_true, Nat.zero_le]
      exact Dr.ret ⟨_, rfl, steps, by omega, by omega, hv, rfl⟩
  rintro ρ ⟨steps, s0, s1, sv, rfl⟩
  refine Dr.seq (J := fun ρ => ρ = [some .tok, some (.dat (.list [.int 0, .int (-1), .int (-32768), .int low])), some (.dat (.list [.int 0, .int 1, .int 32767, .int high])), some (.dat (.list (steps.map .int))), none, some (.own []), none]) 0 _ ?_ ?_
  · simp only [opK2, opK, chK4, chK3, chK2, chK, unK, andK, orK, notK, andVK2, andVK, orVK2, orVK, notVK2, notVK, ifVK, ifTK, consK2, consK, tupK, lstK, fzK, slK3, slK2, slK, cbK, coK, isiK, drpK, retK, retOK, ifSK, setK, setOK, nxK, asgK, parK, par3K, augK, appK, wcK, wdK, callK, callOK, callSK2, callSK, forK, lcK, parOK2, parOK, raiseK, bodyX, startE, xSeq, sqF, xNext, xBreak, xCont, xNever, xIfS, xRet, xRetN, xRetV, xRetO, xSet, xSetO, xDrop, xAsg, ygT_t, ygsC, ygsN, ygN, xPar, xPar3, xParO, xAug, xAppend, xFrz, xVar, xC, xOp, xUn, pNeg_i, xTest, asB_b, xAnd, xOr, xNot, xAndV, xOrV, xNotV, xIf, xIfT, xChain, xNil, xCons, xTup, xLst, xFz, xCall, xCallO, xCallS, rOfT_d, rOfT_o, rOwT_o, ywNil, ywDat, ywVar, xCB, xCO, xIsi, xSl, xRev, pRev, xpN, xpS, asI_i, xIxO, xLenO, xLenS, xFor, xWhile, ziT, ziL, itT_t, itL_l, ziR1, ziR2, ziET, ziEL, ziZ, zpT, lrK2, xLr2, xLr1, enT_t, enL_l, xLc, lc2K, xLc2, noOwnB, wipeE, xYes, xRaise, xTry, tyF, xXf, pAdd_i, pAdd_t, pAdd_l, pSub_i, pLt_i, pLe_i, pGt_i, pGe_i, pIs_n, pIsNot_n, pIsB_b, pNotB_b, isN_n, isN_b, isN_i, isN_s, isN_t, isN_l, pIx_t, pIx_l, pLen_t, pLen_l, pMin2_i, pMax2_i, pAbs_i, pInt_i, pTuple_t, pTuple_l, pList_t, pList_l, pIadd_i, pSl_t, pSl_l, pEqI, pNeI, pEqS, pNeS, at0, at1, at2, at3, at4, at5, at6, at7, bx_ret, bx_exc, bx_fail, bd_ret, bd_exc, bd_fail, exS_ret, exS_exc, exS_fail, ofO_some, ofO_none, fnE, isi_T, isi_B, isi_I, isi_S, isi_L, sizeL, Option.bind_some, Option.map_some, Option.some.injEq, Int.reduceEq, Int.reduceLE, Int.reduceLT, Int.reduceNeg, Int.reduceAdd, Int.reduceSub, Int.reduceMul, decide_true, decide_false, decide_eq_true_eq, decide_not, eq_self, Int.cast_ofNat_Int, reduceCtorEq, List.length_cons, List.length_nil, List.map_cons, List.map_nil, List.replicate, List.cons_append, List.nil_append, List.append_nil, List.getElem?_cons_zero, List.getElem?_cons_succ, List.getElem?_nil, List.set_cons_zero, List.set_cons_succ, Nat.reduceAdd, Nat.reduceSub, Nat.reduceEqDiff, Nat.reduceLeDiff, Nat.reduceLT, Nat.zero_add, Nat.add_zero, true_and, and_true, false_and, and_false, Bool.not_true, Bool.not_false, Bool.true_and, Bool.and_true, Bool.false_and, Bool.and_false, Bool.or_false, Bool.false_or, Bool.or_true, Bool.true_or, Bool.not_eq_true', if_true, if_false, Bool.false_eq_true, Bool.not_eq_true, ↓reduceIte, ite_true, ite_false, Bool.true_eq_false, not_true_eq_false, not_false_eq_true, Nat.zero_le]
    exact Dr.ret ⟨_, rfl, rfl⟩
  rintro ρ rfl
  refine Dr.seq (J := fun ρ => ∃ (moves : List (Int × Int)) (x : Option VL.W), 2 ≤ moves.length ∧ moves.length ≤ 16 ∧ (∀ p ∈ moves, -32 ≤ p.1 ∧ p.1 ≤ 32 ∧ -15 ≤ p.2 ∧ p.2 ≤ 15) ∧ ρ = [some .tok, some (.dat (.list [.int 0, .int (-1), .int (-32768), .int low])), some (.dat (.list [.int 0, .int 1, .int 32767, .int high])), some (.dat (.list (steps.map .int))), x, some (.own (moves.map mvD)), none]) 33 _ ?_ ?_
  · simp only [r_draw, bx_draw, bd_draw, exS_draw, opK2, opK, chK4, chK3, chK2, chK, unK, andK, orK, notK, andVK2, andVK, orVK2, orVK, notVK2, notVK, ifVK, ifTK, consK2, consK, tupK, lstK, fzK, slK3, slK2, slK, cbK, coK, isiK, drpK, retK, retOK, ifSK, setK, setOK, nxK, asgK, parK, par3K, augK, appK, wcK, wdK, callK, callOK, callSK2, callSK, forK, lcK, parOK2, parOK, raiseK, bodyX, startE, xSeq, sqF, xNext, xBreak, xCont, xNever, xIfS, xRet, xRetN, xRetV, xRetO, xSet, xSetO, xDrop, xAsg, ygT_t, ygsC, ygsN, ygN, xPar, xPar3, xParO, xAug, xAppend, xFrz, xVar, xC, xOp, xUn, pNeg_i, xTest, asB_b, xAnd, xOr, xNot, xAndV, xOrV, xNotV, xIf, xIfT, xChain, xNil, xCons, xTup, xLst, xFz, xCall, xCallO, xCallS, rOfT_d, rOfT_o, rOwT_o, ywNil, ywDat, ywVar, xCB, xCO, xIsi, xSl, xRev, pRev, xpN, xpS, asI_i, xIxO, xLenO, xLenS, xFor, xWhile, ziT, ziL, itT_t, itL_l, ziR1, ziR2, ziET, ziEL, ziZ, zpT, lrK2, xLr2, xLr1, enT_t, enL_l, xLc, lc2K, xLc2, noOwnB, wipeE, xYes, xRaise, xTry, tyF, xXf, pAdd_i, pAdd_t, pAdd_l, pSub_i, pLt_i, pLe_i, pGt_i, pGe_i, pIs_n, pIsNot_n, pIsB_b, pNotB_b, isN_n, isN_b, isN_i, isN_s, isN_t, isN_l, pIx_t, pIx_l, pLen_t, pLen_l, pMin2_i, pMax2_i, pAbs_i, pInt_i, pTuple_t, pTuple_l, pList_t, pList_l, pIadd_i, pSl_t, pSl_l, pEqI, pNeI, pEqS, pNeS, at0, at1, at2, at3, at4, at5, at6, at7, bx_ret, bx_exc, bx_fail, bd_ret, bd_exc, bd_fail, exS_ret, exS_exc, exS_fail, ofO_some, ofO_none, fnE, isi_T, isi_B, isi_I, isi_S, isi_L, sizeL, Option.bind_some, Option.map_some, Option.some.injEq, Int.reduceEq, Int.reduceLE, Int.reduceLT, Int.reduceNeg, Int.reduceAdd, Int.reduceSub, Int.reduceMul, decide_true, decide_false, decide_eq_true_eq, decide_not, eq_self, Int.cast_ofNat_Int, reduceCtorEq, List.length_cons, List.length_nil, List.map_cons, List.map_nil, List.replicate, List.cons_append, List.nil_append, List.append_nil, List.getElem?_cons_zero, List.getElem?_cons_succ, List.getElem?_nil, List.set_cons_zero, List.set_cons_succ, Nat.reduceAdd, Nat.reduceSub, Nat.reduceEqDiff, Nat.reduceLeDiff, Nat.reduceLT, Nat.zero_add, Nat.add_zero, true_and, and_true, false_and, and_false, Bool.not_true, Bool.not_false, Bool.true_and, Bool.and_true, Bool.false_and, Bool.and_false, Bool.or_false, Bool.false_or, Bool.or_true, Bool.true_or, Bool.not_eq_true', if_true, if_false, Bool.false_eq_true, Bool.not_eq_true, ↓reduceIte, ite_true, ite_false, Bool.true_eq_false, not_true_eq_false, not_false_eq_true, Nat.zero_le]
    refine Dr.draw (k := 32) (by omega) (by omega) fun r r0 r1 => ?_
    simp only [rgT1_i (j := 2 + r) (by omega) (by omega), r_draw, bx_draw, bd_draw, exS_draw, opK2, opK, chK4, chK3, chK2, chK, unK, andK, orK, notK, andVK2, andVK, orVK2, orVK, notVK2, notVK, ifVK, ifTK, consK2, consK, tupK, lstK, fzK, slK3, slK2, slK, cbK, coK, isiK, drpK, retK, retOK, ifSK, setK, setOK, nxK, asgK, parK, par3K, augK, appK, wcK, wdK, callK, callOK, callSK2, callSK, forK, lcK, parOK2, parOK, raiseK, bodyX, startE, xSeq, sqF, xNext, xBreak, xCont, xNever, xIfS, xRet, xRetN, xRetV, xRetO, xSet, xSetO, xDrop, xAsg, ygT_t, ygsC, ygsN, ygN, xPar, xPar3, xParO, xAug, xAppend, xFrz, xVar, xC, xOp, xUn, pNeg_i, xTest, asB_b, xAnd, xOr, xNot, xAndV, xOrV, xNotV, xIf, xIfT, xChain, xNil, xCons, xTup, xLst, xFz, xCall, xCallO, xCallS, rOfT_d, rOfT_o, rOwT_o, ywNil, ywDat, ywVar, xCB, xCO, xIsi, xSl, xRev, pRev, xpN, xpS, asI_i, xIxO, xLenO, xLenS, xFor, xWhile, ziT, ziL, itT_t, itL_l, ziR1, ziR2, ziET, ziEL, ziZ, zpT, lrK2, xLr2, xLr1, enT_t, enL_l, xLc, lc2K, xLc2, noOwnB, wipeE, xYes, xRaise, xTry, tyF, xXf, pAdd_i, pAdd_t, pAdd_l, pSub_i, pLt_i, pLe_i, pGt_i, pGe_i, pIs_n, pIsNot_n, pIsB_b, pNotB_b, isN_n, isN_b, isN_i, isN_s, isN_t, isN_l, pIx_t, pIx_l, pLen_t, pLen_l, pMin2_i, pMax2_i, pAbs_i, pInt_i, pTuple_t, pTuple_l, pList_t, pList_l, pIadd_i, pSl_t, pSl_l, pEqI, pNeI, pEqS, pNeS, at0, at1, at2, at3, at4, at5, at6, at7, bx_ret, bx_exc, bx_fail, bd_ret, bd_exc, bd_fail, exS_ret, exS_exc, exS_fail, ofO_some, ofO_none, fnE, isi_T, isi_B, isi_I, isi_S, isi_L, sizeL, Option.bind_some, Option.map_some, Option.some.injEq, Int.reduceEq, Int.reduceLE, Int.reduceLT, Int.reduceNeg, Int.reduceAdd, Int.reduceSub, Int.reduceMul, decide_true, decide_false, decide_eq_true_eq, decide_not, eq_self, Int.cast_ofNat_Int, reduceCtorEq, List.length_cons, List.length_nil, List.map_cons, List.map_nil, List.replicate, List.cons_append, List.nil_append, List.append_nil, List.getElem?_cons_zero, List.getElem?_cons_succ, List.getElem?_nil, List.set_cons_zero, List.set_cons_succ, Nat.reduceAdd, Nat.reduceSub, Nat.reduceEqDiff, Nat.reduceLeDiff, Nat.reduceLT, Nat.zero_add, Nat.add_zero, true_and, and_true, false_and, and_false, Bool.not_true, Bool.not_false, Bool.true_and, Bool.and_true, Bool.false_and, Bool.and_false, Bool.or_false, Bool.false_or, Bool.or_true, Bool.true_or, Bool.not_eq_true', if_true, if_false, Bool.false_eq_true, Bool.not_eq_true, ↓reduceIte, ite_true, ite_false, Bool.true_eq_false, not_true_eq_false, not_false_eq_true, Nat.zero_le]
    have hlen : (rngD 0 (2 + r).toNat).length = (2 + r).toNat := rngD_len _ _
    refine Dr.le (k := 2 * (rngD 0 (2 + r).toNat).length) ?_ (by rw [hlen]; omega)
    refine Dr.forT (J := fun ds ρ => ∃ (moves : List (Int × Int)) (x : Option VL.W), moves.length + ds.length = (2 + r).toNat ∧ (∀ p ∈ moves, -32 ≤ p.1 ∧ p.1 ≤ 32 ∧ -15 ≤ p.2 ∧ p.2 ≤ 15) ∧ ρ = [some .tok, some (.dat (.list [.int 0, .int (-1), .int (-32768), .int low])), some (.dat (.list [.int 0, .int 1, .int 32767, .int high])), some (.dat (.list (steps.map .int))), x, some (.own (moves.map mvD)), none]) ?_ ?_ _ _ ⟨[], none, by rw [hlen]; simp, by simp, rfl⟩
    · rintro ρ ⟨moves, x, hm, hv, rfl⟩
      simp only [List.length_nil] at hm
      exact ⟨_, rfl, moves, x, by omega, by omega, hv, rfl⟩
    · rintro d ds ρ ⟨moves, x, hm, hv, rfl⟩
      rw [List.length_cons] at hm
      refine ⟨_, rfl, ?_⟩
      unfold b__law_wide_1
      try simp only [r_draw, bx_draw, bd_draw, exS_draw, opK2, opK, chK4, chK3, chK2, chK, unK, andK, orK, notK, andVK2, andVK, orVK2, orVK, notVK2, notVK, ifVK, ifTK, consK2, consK, tupK, lstK, fzK, slK3, slK2, slK, cbK, coK, isiK, drpK, retK, retOK, ifSK, setK, setOK, nxK, asgK, parK, par3K, augK, appK, wcK, wdK, callK, callOK, callSK2, callSK, forK, lcK, parOK2, parOK, raiseK, bodyX, startE, xSeq, sqF, xNext, xBreak, xCont, xNever, xIfS, xRet, xRetN, xRetV, xRetO, xSet, xSetO, xDrop, xAsg, ygT_t, ygsC, ygsN, ygN, xPar, xPar3, xParO, xAug, xAppend, xFrz, xVar, xC, xOp, xUn, pNeg_i, xTest, asB_b, xAnd, xOr, xNot, xAndV, xOrV, xNotV, xIf, xIfT, xChain, xNil, xCons, xTup, xLst, xFz, xCall, xCallO, xCallS, rOfT_d, rOfT_o, rOwT_o, ywNil, ywDat, ywVar, xCB, xCO, xIsi, xSl, xRev, pRev, xpN, xpS, asI_i, xIxO, xLenO, xLenS, xFor, xWhile, ziT, ziL, itT_t, itL_l, ziR1, ziR2, ziET, ziEL, ziZ, zpT, lrK2, xLr2, xLr1, enT_t, enL_l, xLc, lc2K, xLc2, noOwnB, wipeE, xYes, xRaise, xTry, tyF, xXf, pAdd_i, pAdd_t, pAdd_l, pSub_i, pLt_i, pLe_i, pGt_i, pGe_i, pIs_n, pIsNot_n, pIsB_b, pNotB_b, isN_n, isN_b, isN_i, isN_s, isN_t, isN_l, pIx_t, pIx_l, pLen_t, pLen_l, pMin2_i, pMax2_i, pAbs_i, pInt_i, pTuple_t, pTuple_l, pList_t, pList_l, pIadd_i, pSl_t, pSl_l, pEqI, pNeI, pEqS, pNeS, at0, at1, at2, at3, at4, at5, at6, at7, bx_ret, bx_exc, bx_fail, bd_ret, bd_exc, bd_fail, exS_ret, exS_exc, exS_fail, ofO_some, ofO_none, fnE, isi_T, isi_B, isi_I, isi_S, isi_L, sizeL, Option.bind_some, Option.map_some, Option.some.injEq, Int.reduceEq, Int.reduceLE, Int.reduceLT, Int.reduceNeg, Int.reduceAdd, Int.reduceSub, Int.reduceMul, decide_true, decide_false, decide_eq_true_eq, decide_not, eq_self, Int.cast_ofNat_Int, reduceCtorEq, List.length_cons, List.length_nil, List.map_cons, List.map_nil, List.replicate, List.cons_append, List.nil_append, List.append_nil, List.getElem?_cons_zero, List.getElem?_cons_succ, List.getElem?_nil, List.set_cons_zero, List.set_cons_succ, Nat.reduceAdd, Nat.reduceSub, Nat.reduceEqDiff, Nat.reduceLeDiff, Nat.reduceLT, Nat.zero_add, Nat.add_zero, true_and, and_true, false_and, and_false, Bool.not_true, Bool.not_false, Bool.true_and, Bool.and_true, Bool.false_and, Bool.and_false, Bool.or_false, Bool.false_or, Bool.or_true, Bool.true_or, Bool.not_eq_true', if_true, if_false, Bool.false_eq_true, Bool.not_eq_true, ↓reduceIte, ite_true, ite_false, Bool.true_eq_false, not_true_eq_false, not_false_eq_true, Nat.zero_le]
      refine Dr.draw (by omega) (by omega) fun a a0 a1 => ?_
      try simp only [r_draw, bx_draw, bd_draw, exS_draw, opK2, opK, chK4, chK3, chK2, chK, unK, andK, orK, notK, andVK2, andVK, orVK2, orVK, notVK2, notVK, ifVK, ifTK, consK2, consK, tupK, lstK, fzK, slK3, slK2, slK, cbK, coK, isiK, drpK, retK, retOK, ifSK, setK, setOK, nxK, asgK, parK, par3K, augK, appK, wcK, wdK, callK, callOK, callSK2, callSK, forK, lcK, parOK2, parOK, raiseK, bodyX, startE, xSeq, sqF, xNext, xBreak, xCont, xNever, xIfS, xRet, xRetN, xRetV, xRetO, xSet, xSetO, xDrop, xAsg, ygT_t, ygsC, ygsN, ygN, xPar, xPar3, xParO, xAug, xAppend, xFrz, xVar, xC, xOp, xUn, pNeg_i, xTest, asB_b, xAnd, xOr, xNot, xAndV, xOrV, xNotV, xIf, xIfT, xChain, xNil, xCons, xTup, xLst, xFz, xCall, xCallO, xCallS, rOfT_d, rOfT_o, rOwT_o, ywNil, ywDat, ywVar, xCB, xCO, xIsi, xSl, xRev, pRev, xpN, xpS, asI_i, xIxO, xLenO, xLenS, xFor, xWhile, ziT, ziL, itT_t, itL_l, ziR1, ziR2, ziET, ziEL, ziZ, zpT, lrK2, xLr2, xLr1, enT_t, enL_l, xLc, lc2K, xLc2, noOwnB, wipeE, xYes, xRaise, xTry, tyF, xXf, pAdd_i, pAdd_t, pAdd_l, pSub_i, pLt_i, pLe_i, pGt_i, pGe_i, pIs_n, pIsNot_n, pIsB_b, pNotB_b, isN_n, isN_b, isN_i, isN_s, isN_t, isN_l, pIx_t, pIx_l, pLen_t, pLen_l, pMin2_i, pMax2_i, pAbs_i, pInt_i, pTuple_t, pTuple_l, pList_t, pList_l, pIadd_i, pSl_t, pSl_l, pEqI, pNeI, pEqS, pNeS, at0, at1, at2, at3, at4, at5, at6, at7, bx_ret, bx_exc, bx_fail, bd_ret, bd_exc, bd_fail, exS_ret, exS_exc, exS_fail, ofO_some, ofO_none, fnE, isi_T, isi_B, isi_I, isi_S, isi_L, sizeL, Option.bind_some, Option.map_some, Option.some.injEq, Int.reduceEq, Int.reduceLE, Int.reduceLT, Int.reduceNeg, Int.reduceAdd, Int.reduceSub, Int.reduceMul, decide_true, decide_false, decide_eq_true_eq, decide_not, eq_self, Int.cast_ofNat_Int, reduceCtorEq, List.length_cons, List.length_nil, List.map_cons, List.map_nil, List.replicate, List.cons_append, List.nil_append, List.append_nil, List.getElem?_cons_zero, List.getElem?_cons_succ, List.getElem?_nil, List.set_cons_zero, List.set_cons_succ, Nat.reduceAdd, Nat.reduceSub, Nat.reduceEqDiff, Nat.reduceLeDiff, Nat.reduceLT, Nat.zero_add, Nat.add_zero, true_and, and_true, false_and, and_false, Bool.not_true, Bool.not_false, Bool.true_and, Bool.and_true, Bool.false_and, Bool.and_false, Bool.or_false, Bool.false_or, Bool.or_true, Bool.true_or, Bool.not_eq_true', if_true, if_false, Bool.false_eq_true, Bool.not_eq_true, ↓reduceIte, ite_true, ite_false, Bool.true_eq_false, not_true_eq_false, not_false_eq_true, Nat.zero_le]
      refine Dr.draw (by omega) (by omega) fun b b0 b1 => ?_
      have lt : (moves.map mvD).length < 16777216 := by rw [List.length_map]; omega
      simp only [lt, r_draw, bx_draw, bd_draw, exS_draw, opK2, opK, chK4, chK3, chK2, chK, unK, andK, orK, notK, andVK2, andVK, orVK2, orVK, notVK2, notVK, ifVK, ifTK, consK2, consK, tupK, lstK, fzK, slK3, slK2, slK, cbK, coK, isiK, drpK, retK, retOK, ifSK, setK, setOK, nxK, asgK, parK, par3K, augK, appK, wcK, wdK, callK, callOK, callSK2, callSK, forK, lcK, parOK2, parOK, raiseK, bodyX, startE, xSeq, sqF, xNext, xBreak, xCont, xNever, xIfS, xRet, xRetN, xRetV, xRetO, xSet, xSetO, xDrop, xAsg, ygT_t, ygsC, ygsN, ygN, xPar, xPar3, xParO, xAug, xAppend, xFrz, xVar, xC, xOp, xUn, pNeg_i, xTest, asB_b, xAnd, xOr, xNot, xAndV, xOrV, xNotV, xIf, xIfT, xChain, xNil, xCons, xTup, xLst, xFz, xCall, xCallO, xCallS, rOfT_d, rOfT_o, rOwT_o, ywNil, ywDat, ywVar, xCB, xCO, xIsi, xSl, xRev, pRev, xpN, xpS, asI_i, xIxO, xLenO, xLenS, xFor, xWhile, ziT, ziL, itT_t, itL_l, ziR1, ziR2, ziET, ziEL, ziZ, zpT, lrK2, xLr2, xLr1, enT_t, enL_l, xLc, lc2K, xLc2, noOwnB, wipeE, xYes, xRaise, xTry, tyF, xXf, pAdd_i, pAdd_t, pAdd_l, pSub_i, pLt_i, pLe_i, pGt_i, pGe_i, pIs_n, pIsNot_n, pIsB_b, pNotB_b, isN_n, isN_b, isN_i, isN_s, isN_t, isN_l, pIx_t, pIx_l, pLen_t, pLen_l, pMin2_i, pMax2_i, pAbs_i, pInt_i, pTuple_t, pTuple_l, pList_t, pList_l, pIadd_i, pSl_t, pSl_l, pEqI, pNeI, pEqS, pNeS, at0, at1, at2, at3, at4, at5, at6, at7, bx_ret, bx_exc, bx_fail, bd_ret, bd_exc, bd_fail, exS_ret, exS_exc, exS_fail, ofO_some, ofO_none, fnE, isi_T, isi_B, isi_I, isi_S, isi_L, sizeL, Option.bind_some, Option.map_some, Option.some.injEq, Int.reduceEq, Int.reduceLE, Int.reduceLT, Int.reduceNeg, Int.reduceAdd, Int.reduceSub, Int.reduceMul, decide_true, decide_false, decide_eq_true_eq, decide_not, eq_self, Int.cast_ofNat_Int, reduceCtorEq, List.length_cons, List.length_nil, List.map_cons, List.map_nil, List.replicate, List.cons_append, List.nil_append, List.append_nil, List.getElem?_cons_zero, List.getElem?_cons_succ, List.getElem?_nil, List.set_cons_zero, List.set_cons_succ, Nat.reduceAdd, Nat.reduceSub, Nat.reduceEqDiff, Nat.reduceLeDiff, Nat.reduceLT, Nat.zero_add, Nat.add_zero, true_and, and_true, false_and, and_false, Bool.not_true, Bool.not_false, Bool.true_and, Bool.and_true, Bool.false_and, Bool.and_false, Bool.or_false, Bool.false_or, Bool.or_true, Bool.true_or, Bool.not_eq_true', if_true, if_false, Bool.false_eq_true, Bool.not_eq_true, ↓reduceIte, ite_true, ite_false, Bool.true_eq_false, not_true_eq_false, not_false_eq_true, Nat.zero_le]
      refine Dr.ret (.inl ⟨_, .inl rfl, moves ++ [(a - 32, b - 15)], some (.dat d), by simp only [List.length_append, List.length_cons, List.length_nil]; omega, fun p hp => ?_, by rw [List.map_append]; rfl⟩)
      rcases List.mem_append.mp hp with hp | hp
      · exact hv p hp
      · rw [List.mem_singleton] at hp
        subst hp
        exact ⟨by dsimp only; omega, by dsimp only; omega, by dsimp only; omega, by dsimp only; omega⟩
  rintro ρ ⟨moves, x, m0, m1, mv, rfl⟩
  refine Dr.seq (J := fun ρ => ∃ fade : Int, (fade = 0 ∨ 2 ≤ fade ∧ fade ≤ 99) ∧ ρ = [some .tok, some (.dat (.list [.int 0, .int (-1), .int (-32768), .int low])), some (.dat (.list [.int 0, .int 1, .int 32767, .int high])), some (.dat (.list (steps.map .int))), x, some (.own (moves.map mvD)), some (.dat (.int fade))]) 2 _ ?_ ?_
  · simp only [r_draw, bx_draw, bd_draw, exS_draw, opK2, opK, chK4, chK3, chK2, chK, unK, andK, orK, notK, andVK2, andVK, orVK2, orVK, notVK2, notVK, ifVK, ifTK, consK2, consK, tupK, lstK, fzK, slK3, slK2, slK, cbK, coK, isiK, drpK, retK, retOK, ifSK, setK, setOK, nxK, asgK, parK, par3K, augK, appK, wcK, wdK, callK, callOK, callSK2, callSK, forK, lcK, parOK2, parOK, raiseK, bodyX, startE, xSeq, sqF, xNext, xBreak, xCont, xNever, xIfS, xRet, xRetN, xRetV, xRetO, xSet, xSetO, xDrop, xAsg, ygT_t, ygsC, ygsN, ygN, xPar, xPar3, xParO, xAug, xAppend, xFrz, xVar, xC, xOp, xUn, pNeg_i, xTest, asB_b, xAnd, xOr, xNot, xAndV, xOrV, xNotV, xIf, xIfT, xChain, xNil, xCons, xTup, xLst, xFz, xCall, xCallO, xCallS, rOfT_d, rOfT_o, rOwT_o, ywNil, ywDat, ywVar, xCB, xCO, xIsi, xSl, xRev, pRev, xpN, xpS, asI_i, xIxO, xLenO, xLenS, xFor, xWhile, ziT, ziL, itT_t, itL_l, ziR1, ziR2, ziET, ziEL, ziZ, zpT, lrK2, xLr2, xLr1, enT_t, enL_l, xLc, lc2K, xLc2, noOwnB, wipeE, xYes, xRaise, xTry, tyF, xXf, pAdd_i, pAdd_t, pAdd_l, pSub_i, pLt_i, pLe_i, pGt_i, pGe_i, pIs_n, pIsNot_n, pIsB_b, pNotB_b, isN_n, isN_b, isN_i, isN_s, isN_t, isN_l, pIx_t, pIx_l, pLen_t, pLen_l, pMin2_i, pMax2_i, pAbs_i, pInt_i, pTuple_t, pTuple_l, pList_t, pList_l, pIadd_i, pSl_t, pSl_l, pEqI, pNeI, pEqS, pNeS, at0, at1, at2, at3, at4, at5, at6, at7, bx_ret, bx_exc, bx_fail, bd_ret, bd_exc, bd_fail, exS_ret, exS_exc, exS_fail, ofO_some, ofO_none, fnE, isi_T, isi_B, isi_I, isi_S, isi_L, sizeL, Option.bind_some, Option.map_some, Option.some.injEq, Int.reduceEq, Int.reduceLE, Int.reduceLT, Int.reduceNeg, Int.reduceAdd, Int.reduceSub, Int.reduceMul, decide_true, decide_false, decide_eq_true_eq, decide_not, eq_self, Int.cast_ofNat_Int, reduceCtorEq, List.length_cons, List.length_nil, List.map_cons, List.map_nil, List.replicate, List.cons_append, List.nil_append, List.append_nil, List.getElem?_cons_zero, List.getElem?_cons_succ, List.getElem?_nil, List.set_cons_zero, List.set_cons_succ, Nat.reduceAdd, Nat.reduceSub, Nat.reduceEqDiff, Nat.reduceLeDiff, Nat.reduceLT, Nat.zero_add, Nat.add_zero, true_and, and_true, false_and, and_false, Bool.not_true, Bool.not_false, Bool.true_and, Bool.and_true, Bool.false_and, Bool.and_false, Bool.or_false, Bool.false_or, Bool.or_true, Bool.true_or, Bool.not_eq_true', if_true, if_false, Bool.false_eq_true, Bool.not_eq_true, ↓reduceIte, ite_true, ite_false, Bool.true_eq_false, not_true_eq_false, not_false_eq_true, Nat.zero_le]
    refine Dr.draw (by omega) (by omega) fun r r0 r1 => ?_
    try simp only [r_draw, bx_draw, bd_draw, exS_draw, opK2, opK, chK4, chK3, chK2, chK, unK, andK, orK, notK, andVK2, andVK, orVK2, orVK, notVK2, notVK, ifVK, ifTK, consK2, consK, tupK, lstK, fzK, slK3, slK2, slK, cbK, coK, isiK, drpK, retK, retOK, ifSK, setK, setOK, nxK, asgK, parK, par3K, augK, appK, wcK, wdK, callK, callOK, callSK2, callSK, forK, lcK, parOK2, parOK, raiseK, bodyX, startE, xSeq, sqF, xNext, xBreak, xCont, xNever, xIfS, xRet, xRetN, xRetV, xRetO, xSet, xSetO, xDrop, xAsg, ygT_t, ygsC, ygsN, ygN, xPar, xPar3, xParO, xAug, xAppend, xFrz, xVar, xC, xOp, xUn, pNeg_i, xTest, asB_b, xAnd, xOr, xNot, xAndV, xOrV, xNotV, xIf, xIfT, xChain, xNil, xCons, xTup, xLst, xFz, xCall, xCallO, xCallS, rOfT_d, rOfT_o, rOwT_o, ywNil, ywDat, ywVar, xCB, xCO, xIsi, xSl, xRev, pRev, xpN, xpS, asI_i, xIxO, xLenO, xLenS, xFor, xWhile, ziT, ziL, itT_t, itL_l, ziR1, ziR2, ziET, ziEL, ziZ, zpT, lrK2, xLr2, xLr1, enT_t, enL_l, xLc, lc2K, xLc2, noOwnB, wipeE, xYes, xRaise, xTry, tyF, xXf, pAdd_i, pAdd_t, pAdd_l, pSub_i, pLt_i, pLe_i, pGt_i, pGe_i, pIs_n, pIsNot_n, pIsB_b, pNotB_b, isN_n, isN_b, isN_i, isN_s, isN_t, isN_l, pIx_t, pIx_l, pLen_t, pLen_l, pMin2_i, pMax2_i, pAbs_i, pInt_i, pTuple_t, pTuple_l, pList_t, pList_l, pIadd_i, pSl_t, pSl_l, pEqI, pNeI, pEqS, pNeS, at0, at1, at2, at3, at4, at5, at6, at7, bx_ret, bx_exc, bx_fail, bd_ret, bd_exc, bd_fail, exS_ret, exS_exc, exS_fail, ofO_some, ofO_none, fnE, isi_T, isi_B, isi_I, isi_S, isi_L, sizeL, Option.bind_some, Option.map_some, Option.some.injEq, Int.reduceEq, Int.reduceLE, Int.reduceLT, Int.reduceNeg, Int.reduceAdd, Int.reduceSub, Int.reduceMul, decide_true, decide_false, decide_eq_true_eq, decide_not, eq_self, Int.cast_ofNat_Int, reduceCtorEq, List.length_cons, List.length_nil, List.map_cons, List.map_nil, List.replicate, List.cons_append, List.nil_append, List.append_nil, List.getElem?_cons_zero, List.getElem?_cons_succ, List.getElem?_nil, List.set_cons_zero, List.set_cons_succ, Nat.reduceAdd, Nat.reduceSub, Nat.reduceEqDiff, Nat.reduceLeDiff, Nat.reduceLT, Nat.zero_add, Nat.add_zero, true_and, and_true, false_and, and_false, Bool.not_true, Bool.not_false, Bool.true_and, Bool.and_true, Bool.false_and, Bool.and_false, Bool.or_false, Bool.false_or, Bool.or_true, Bool.true_or, Bool.not_eq_true', if_true, if_false, Bool.false_eq_true, Bool.not_eq_true, ↓reduceIte, ite_true, ite_false, Bool.true_eq_false, not_true_eq_false, not_false_eq_true, Nat.zero_le]
    refine Dr.draw (by omega) (by omega) fun q q0 q1 => ?_
    have hq : q = 0 ∨ q = 1 ∨ q = 2 ∨ q = 3 := by omega
    rcases hq with rfl | rfl | rfl | rfl
    · simp only [opK2, opK, chK4, chK3, chK2, chK, unK, andK, orK, notK, andVK2, andVK, orVK2, orVK, notVK2, notVK, ifVK, ifTK, consK2, consK, tupK, lstK, fzK, slK3, slK2, slK, cbK, coK, isiK, drpK, retK, retOK, ifSK, setK, setOK, nxK, asgK, parK, par3K, augK, appK, wcK, wdK, callK, callOK, callSK2, callSK, forK, lcK, parOK2, parOK, raiseK, bodyX, startE, xSeq, sqF, xNext, xBreak, xCont, xNever, xIfS, xRet, xRetN, xRetV, xRetO, xSet, xSetO, xDrop, xAsg, ygT_t, ygsC, ygsN, ygN, xPar, xPar3, xParO, xAug, xAppend, xFrz, xVar, xC, xOp, xUn, pNeg_i, xTest, asB_b, xAnd, xOr, xNot, xAndV, xOrV, xNotV, xIf, xIfT, xChain, xNil, xCons, xTup, xLst, xFz, xCall, xCallO, xCallS, rOfT_d, rOfT_o, rOwT_o, ywNil, ywDat, ywVar, xCB, xCO, xIsi, xSl, xRev, pRev, xpN, xpS, asI_i, xIxO, xLenO, xLenS, xFor, xWhile, ziT, ziL, itT_t, itL_l, ziR1, ziR2, ziET, ziEL, ziZ, zpT, lrK2, xLr2, xLr1, enT_t, enL_l, xLc, lc2K, xLc2, noOwnB, wipeE, xYes, xRaise, xTry, tyF, xXf, pAdd_i, pAdd_t, pAdd_l, pSub_i, pLt_i, pLe_i, pGt_i, pGe_i, pIs_n, pIsNot_n, pIsB_b, pNotB_b, isN_n, isN_b, isN_i, isN_s, isN_t, isN_l, pIx_t, pIx_l, pLen_t, pLen_l, pMin2_i, pMax2_i, pAbs_i, pInt_i, pTuple_t, pTuple_l, pList_t, pList_l, pIadd_i, pSl_t, pSl_l, pEqI, pNeI, pEqS, pNeS, at0, at1, at2, at3, at4, at5, at6, at7, bx_ret, bx_exc, bx_fail, bd_ret, bd_exc, bd_fail, exS_ret, exS_exc, exS_fail, ofO_some, ofO_none, fnE, isi_T, isi_B, isi_I, isi_S, isi_L, sizeL, Option.bind_some, Option.map_some, Option.some.injEq, Int.reduceEq, Int.reduceLE, Int.reduceLT, Int.reduceNeg, Int.reduceAdd, Int.reduceSub, Int.reduceMul, decide_true, decide_false, decide_eq_true_eq, decide_not, eq_self, Int.cast_ofNat_Int, reduceCtorEq, List.length_cons, List.length_nil, List.map_cons, List.map_nil, List.replicate, List.cons_append, List.nil_append, List.append_nil, List.getElem?_cons_zero, List.getElem?_cons_succ, List.getElem?_nil, List.set_cons_zero, List.set_cons_succ, Nat.reduceAdd, Nat.reduceSub, Nat.reduceEqDiff, Nat.reduceLeDiff, Nat.reduceLT, Nat.zero_add, Nat.add_zero, true_and, and_true, false_and, and_false, Bool.not_true, Bool.not_false, Bool.true_and, Bool.and_true, Bool.false_and, Bool.and_false, Bool.or_false, Bool.false_or, Bool.or_true, Bool.true_or, Bool.not_eq_true', if_true, if_false, Bool.false_eq_true, Bool.not_eq_true, ↓reduceIte, ite_true, ite_false, Bool.true_eq_false, not_true_eq_false, not_false_eq_true, Nat.zero_le]; exact Dr.ret ⟨_, rfl, 0, .inl rfl, rfl⟩
    · simp only [opK2, opK, chK4, chK3, chK2, chK, unK, andK, orK, notK, andVK2, andVK, orVK2, orVK, notVK2, notVK, ifVK, ifTK, consK2, consK, tupK, lstK, fzK, slK3, slK2, slK, cbK, coK, isiK, drpK, retK, retOK, ifSK, setK, setOK, nxK, asgK, parK, par3K, augK, appK, wcK, wdK, callK, callOK, callSK2, callSK, forK, lcK, parOK2, parOK, raiseK, bodyX, startE, xSeq, sqF, xNext, xBreak, xCont, xNever, xIfS, xRet, xRetN, xRetV, xRetO, xSet, xSetO, xDrop, xAsg, ygT_t, ygsC, ygsN, ygN, xPar, xPar3, xParO, xAug, xAppend, xFrz, xVar, xC, xOp, xUn, pNeg_i, xTest, asB_b, xAnd, xOr, xNot, xAndV, xOrV, xNotV, xIf, xIfT, xChain, xNil, xCons, xTup, xLst, xFz, xCall, xCallO, xCallS, rOfT_d, rOfT_o, rOwT_o, ywNil, ywDat, ywVar, xCB, xCO, xIsi, xSl, xRev, pRev, xpN, xpS, asI_i, xIxO, xLenO, xLenS, xFor, xWhile, ziT, ziL, itT_t, itL_l, ziR1, ziR2, ziET, ziEL, ziZ, zpT, lrK2, xLr2, xLr1, enT_t, enL_l, xLc, lc2K, xLc2, noOwnB, wipeE, xYes, xRaise, xTry, tyF, xXf, pAdd_i, pAdd_t, pAdd_l, pSub_i, pLt_i, pLe_i, pGt_i, pGe_i, pIs_n, pIsNot_n, pIsB_b, pNotB_b, isN_n, isN_b, isN_i, isN_s, isN_t, isN_l, pIx_t, pIx_l, pLen_t, pLen_l, pMin2_i, pMax2_i, pAbs_i, pInt_i, pTuple_t, pTuple_l, pList_t, pList_l, pIadd_i, pSl_t, pSl_l, pEqI, pNeI, pEqS, pNeS, at0, at1, at2, at3, at4, at5, at6, at7, bx_ret, bx_exc, bx_fail, bd_ret, bd_exc, bd_fail, exS_ret, exS_exc, exS_fail, ofO_some, ofO_none, fnE, isi_T, isi_B, isi_I, isi_S, isi_L, sizeL, Option.bind_some, Option.map_some, Option.some.injEq, Int.reduceEq, Int.reduceLE, Int.reduceLT, Int.reduceNeg, Int.reduceAdd, Int.reduceSub, Int.reduceMul, decide_true, decide_false, decide_eq_true_eq, decide_not, eq_self, Int.cast_ofNat_Int, reduceCtorEq, List.length_cons, List.length_nil, List.map_cons, List.map_nil, List.replicate, List.cons_append, List.nil_append, List.append_nil, List.getElem?_cons_zero, List.getElem?_cons_succ, List.getElem?_nil, List.set_cons_zero, List.set_cons_succ, Nat.reduceAdd, Nat.reduceSub, Nat.reduceEqDiff, Nat.reduceLeDiff, Nat.reduceLT, Nat.zero_add, Nat.add_zero, true_and, and_true, false_and, and_false, Bool.not_true, Bool.not_false, Bool.true_and, Bool.and_true, Bool.false_and, Bool.and_false, Bool.or_false, Bool.false_or, Bool.or_true, Bool.true_or, Bool.not_eq_true', if_true, if_false, Bool.false_eq_true, Bool.not_eq_true, ↓reduceIte, ite_true, ite_false, Bool.true_eq_false, not_true_eq_false, not_false_eq_true, Nat.zero_le]; exact Dr.ret ⟨_, rfl, 2, .inr ⟨by omega, by omega⟩, rfl⟩
    · simp only [opK2, opK, chK4, chK3, chK2, chK, unK, andK, orK, notK, andVK2, andVK, orVK2, orVK, notVK2, notVK, ifVK, ifTK, consK2, consK, tupK, lstK, fzK, slK3, slK2, slK, cbK, coK, isiK, drpK, retK, retOK, ifSK, setK, setOK, nxK, asgK, parK, par3K, augK, appK, wcK, wdK, callK, callOK, callSK2, callSK, forK, lcK, parOK2, parOK, raiseK, bodyX, startE, xSeq, sqF, xNext, xBreak, xCont, xNever, xIfS, xRet, xRetN, xRetV, xRetO, xSet, xSetO, xDrop, xAsg, ygT_t, ygsC, ygsN, ygN, xPar, xPar3, xParO, xAug, xAppend, xFrz, xVar, xC, xOp, xUn, pNeg_i, xTest, asB_b, xAnd, xOr, xNot, xAndV, xOrV, xNotV, xIf, xIfT, xChain, xNil, xCons, xTup, xLst, xFz, xCall, xCallO, xCallS, rOfT_d, rOfT_o, rOwT_o, ywNil, ywDat, ywVar, xCB, xCO, xIsi, xSl, xRev, pRev, xpN, xpS, asI_i, xIxO, xLenO, xLenS, xFor, xWhile, ziT, ziL, itT_t, itL_l, ziR1, ziR2, ziET, ziEL, ziZ, zpT, lrK2, xLr2, xLr1, enT_t, enL_l, xLc, lc2K, xLc2, noOwnB, wipeE, xYes, xRaise, xTry, tyF, xXf, pAdd_i, pAdd_t, pAdd_l, pSub_i, pLt_i, pLe_i, pGt_i, pGe_i, pIs_n, pIsNot_n, pIsB_b, pNotB_b, isN_n, isN_b, isN_i, isN_s, isN_t, isN_l, pIx_t, pIx_l, pLen_t, pLen_l, pMin2_i, pMax2_i, pAbs_i, pInt_i, pTuple_t, pTuple_l, pList_t, pList_l, pIadd_i, pSl_t, pSl_l, pEqI, pNeI, pEqS, pNeS, at0, at1, at2, at3, at4, at5, at6, at7, bx_ret, bx_exc, bx_fail, bd_ret, bd_exc, bd_fail, exS_ret, exS_exc, exS_fail, ofO_some, ofO_none, fnE, isi_T, isi_B, isi_I, isi_S, isi_L, sizeL, Option.bind_some, Option.map_some, Option.some.injEq, Int.reduceEq, Int.reduceLE, Int.reduceLT, Int.reduceNeg, Int.reduceAdd, Int.reduceSub, Int.reduceMul, decide_true, decide_false, decide_eq_true_eq, decide_not, eq_self, Int.cast_ofNat_Int, reduceCtorEq, List.length_cons, List.length_nil, List.map_cons, List.map_nil, List.replicate, List.cons_append, List.nil_append, List.append_nil, List.getElem?_cons_zero, List.getElem?_cons_succ, List.getElem?_nil, List.set_cons_zero, List.set_cons_succ, Nat.reduceAdd, Nat.reduceSub, Nat.reduceEqDiff, Nat.reduceLeDiff, Nat.reduceLT, Nat.zero_add, Nat.add_zero, true_and, and_true, false_and, and_false, Bool.not_true, Bool.not_false, Bool.true_and, Bool.and_true, Bool.false_and, Bool.and_false, Bool.or_false, Bool.false_or, Bool.or_true, Bool.true_or, Bool.not_eq_true', if_true, if_false, Bool.false_eq_true, Bool.not_eq_true, ↓reduceIte, ite_true, ite_false, Bool.true_eq_false, not_true_eq_false, not_false_eq_true, Nat.zero_le]; exact Dr.ret ⟨_, rfl, 99, .inr ⟨by omega, by omega⟩, rfl⟩
    · simp only [opK2, opK, chK4, chK3, chK2, chK, unK, andK, orK, notK, andVK2, andVK, orVK2, orVK, notVK2, notVK, ifVK, ifTK, consK2, consK, tupK, lstK, fzK, slK3, slK2, slK, cbK, coK, isiK, drpK, retK, retOK, ifSK, setK, setOK, nxK, asgK, parK, par3K, augK, appK, wcK, wdK, callK, callOK, callSK2, callSK, forK, lcK, parOK2, parOK, raiseK, bodyX, startE, xSeq, sqF, xNext, xBreak, xCont, xNever, xIfS, xRet, xRetN, xRetV, xRetO, xSet, xSetO, xDrop, xAsg, ygT_t, ygsC, ygsN, ygN, xPar, xPar3, xParO, xAug, xAppend, xFrz, xVar, xC, xOp, xUn, pNeg_i, xTest, asB_b, xAnd, xOr, xNot, xAndV, xOrV, xNotV, xIf, xIfT, xChain, xNil, xCons, xTup, xLst, xFz, xCall, xCallO, xCallS, rOfT_d, rOfT_o, rOwT_o, ywNil, ywDat, ywVar, xCB, xCO, xIsi, xSl, xRev, pRev, xpN, xpS, asI_i, xIxO, xLenO, xLenS, xFor, xWhile, ziT, ziL, itT_t, itL_l, ziR1, ziR2, ziET, ziEL, ziZ, zpT, lrK2, xLr2, xLr1, enT_t, enL_l, xLc, lc2K, xLc2, noOwnB, wipeE, xYes, xRaise, xTry, tyF, xXf, pAdd_i, pAdd_t, pAdd_l, pSub_i, pLt_i, pLe_i, pGt_i, pGe_i, pIs_n, pIsNot_n, pIsB_b, pNotB_b, isN_n, isN_b, isN_i, isN_s, isN_t, isN_l, pIx_t, pIx_l, pLen_t, pLen_l, pMin2_i, pMax2_i, pAbs_i, pInt_i, pTuple_t, pTuple_l, pList_t, pList_l, pIadd_i, pSl_t, pSl_l, pEqI, pNeI, pEqS, pNeS, at0, at1, at2, at3, at4, at5, at6, at7, bx_ret, bx_exc, bx_fail, bd_ret, bd_exc, bd_fail, exS_ret, exS_exc, exS_fail, ofO_some, ofO_none, fnE, isi_T, isi_B, isi_I, isi_S, isi_L, sizeL, Option.bind_some, Option.map_some, Option.some.injEq, Int.reduceEq, Int.reduceLE, Int.reduceLT, Int.reduceNeg, Int.reduceAdd, Int.reduceSub, Int.reduceMul, decide_true, decide_false, decide_eq_true_eq, decide_not, eq_self, Int.cast_ofNat_Int, reduceCtorEq, List.length_cons, List.length_nil, List.map_cons, List.map_nil, List.replicate, List.cons_append, List.nil_append, List.append_nil, List.getElem?_cons_zero, List.getElem?_cons_succ, List.getElem?_nil, List.set_cons_zero, List.set_cons_succ, Nat.reduceAdd, Nat.reduceSub, Nat.reduceEqDiff, Nat.reduceLeDiff, Nat.reduceLT, Nat.zero_add, Nat.add_zero, true_and, and_true, false_and, and_false, Bool.not_true, Bool.not_false, Bool.true_and, Bool.and_true, Bool.false_and, Bool.and_false, Bool.or_false, Bool.false_or, Bool.or_true, Bool.true_or, Bool.not_eq_true', if_true, if_false, Bool.false_eq_true, Bool.not_eq_true, ↓reduceIte, ite_true, ite_false, Bool.true_eq_false, not_true_eq_false, not_false_eq_true, Nat.zero_le]; exact Dr.ret ⟨_, rfl, 2 + r, .inr ⟨by omega, by omega⟩, rfl⟩
  rintro ρ ⟨fade, hf, rfl⟩
  simp only [r_draw, bx_draw, bd_draw, exS_draw, opK2, opK, chK4, chK3, chK2, chK, unK, andK, orK, notK, andVK2, andVK, orVK2, orVK, notVK2, notVK, ifVK, ifTK, consK2, consK, tupK, lstK, fzK, slK3, slK2, slK, cbK, coK, isiK, drpK, retK, retOK, ifSK, setK, setOK, nxK, asgK, parK, par3K, augK, appK, wcK, wdK, callK, callOK, callSK2, callSK, forK, lcK, parOK2, parOK, raiseK, bodyX, startE, xSeq, sqF, xNext, xBreak, xCont, xNever, xIfS, xRet, xRetN, xRetV, xRetO, xSet, xSetO, xDrop, xAsg, ygT_t, ygsC, ygsN, ygN, xPar, xPar3, xParO, xAug, xAppend, xFrz, xVar, xC, xOp, xUn, pNeg_i, xTest, asB_b, xAnd, xOr, xNot, xAndV, xOrV, xNotV, xIf, xIfT, xChain, xNil, xCons, xTup, xLst, xFz, xCall, xCallO, xCallS, rOfT_d, rOfT_o, rOwT_o, ywNil, ywDat, ywVar, xCB, xCO, xIsi, xSl, xRev, pRev, xpN, xpS, asI_i, xIxO, xLenO, xLenS, xFor, xWhile, ziT, ziL, itT_t, itL_l, ziR1, ziR2, ziET, ziEL, ziZ, zpT, lrK2, xLr2, xLr1, enT_t, enL_l, xLc, lc2K, xLc2, noOwnB, wipeE, xYes, xRaise, xTry, tyF, xXf, pAdd_i, pAdd_t, pAdd_l, pSub_i, pLt_i, pLe_i, pGt_i, pGe_i, pIs_n, pIsNot_n, pIsB_b, pNotB_b, isN_n, isN_b, isN_i, isN_s, isN_t, isN_l, pIx_t, pIx_l, pLen_t, pLen_l, pMin2_i, pMax2_i, pAbs_i, pInt_i, pTuple_t, pTuple_l, pList_t, pList_l, pIadd_i, pSl_t, pSl_l, pEqI, pNeI, pEqS, pNeS, at0, at1, at2, at3, at4, at5, at6, at7, bx_ret, bx_exc, bx_fail, bd_ret, bd_exc, bd_fail, exS_ret, exS_exc, exS_fail, ofO_some, ofO_none, fnE, isi_T, isi_B, isi_I, isi_S, isi_L, sizeL, Option.bind_some, Option.map_some, Option.some.injEq, Int.reduceEq, Int.reduceLE, Int.reduceLT, Int.reduceNeg, Int.reduceAdd, Int.reduceSub, Int.reduceMul, decide_true, decide_false, decide_eq_true_eq, decide_not, eq_self, Int.cast_ofNat_Int, reduceCtorEq, List.length_cons, List.length_nil, List.map_cons, List.map_nil, List.replicate, List.cons_append, List.nil_append, List.append_nil, List.getElem?_cons_zero, List.getElem?_cons_succ, List.getElem?_nil, List.set_cons_zero, List.set_cons_succ, Nat.reduceAdd, Nat.reduceSub, Nat.reduceEqDiff, Nat.reduceLeDiff, Nat.reduceLT, Nat.zero_add, Nat.add_zero, true_and, and_true, false_and, and_false, Bool.not_true, Bool.not_false, Bool.true_and, Bool.and_true, Bool.false_and, Bool.and_false, Bool.or_false, Bool.false_or, Bool.or_true, Bool.true_or, Bool.not_eq_true', if_true, if_false, Bool.false_eq_true, Bool.not_eq_true, ↓reduceIte, ite_true, ite_false, Bool.true_eq_false, not_true_eq_false, not_false_eq_true, Nat.zero_le]
  refine Dr.draw (by omega) (by omega) fun r r0 r1 => ?_
  obtain ⟨lw, el, w0, w1⟩ : ∃ lw : Int, atI [PyData.int 0, .int (-1), .int (-32768), .int low] r = some (.int lw) ∧ -32768 ≤ lw ∧ lw ≤ 0 := by
    have hr : r = 0 ∨ r = 1 ∨ r = 2 ∨ r = 3 := by omega
    rcases hr with rfl | rfl | rfl | rfl
    · exact ⟨_, at0, by omega, by omega⟩
    · exact ⟨_, at1, by omega, by omega⟩
    · exact ⟨_, at2, by omega, by omega⟩
    · exact ⟨_, at3, by omega, by omega⟩
  simp only [el, r_draw, bx_draw, bd_draw, exS_draw, opK2, opK, chK4, chK3, chK2, chK, unK, andK, orK, notK, andVK2, andVK, orVK2, orVK, notVK2, notVK, ifVK, ifTK, consK2, consK, tupK, lstK, fzK, slK3, slK2, slK, cbK, coK, isiK, drpK, retK, retOK, ifSK, setK, setOK, nxK, asgK, parK, par3K, augK, appK, wcK, wdK, callK, callOK, callSK2, callSK, forK, lcK, parOK2, parOK, raiseK, bodyX, startE, xSeq, sqF, xNext, xBreak, xCont, xNever, xIfS, xRet, xRetN, xRetV, xRetO, xSet, xSetO, xDrop, xAsg, ygT_t, ygsC, ygsN, ygN, xPar, xPar3, xParO, xAug, xAppend, xFrz, xVar, xC, xOp, xUn, pNeg_i, xTest, asB_b, xAnd, xOr, xNot, xAndV, xOrV, xNotV, xIf, xIfT, xChain, xNil, xCons, xTup, xLst, xFz, xCall, xCallO, xCallS, rOfT_d, rOfT_o, rOwT_o, ywNil, ywDat, ywVar, xCB, xCO, xIsi, xSl, xRev, pRev, xpN, xpS, asI_i, xIxO, xLenO, xLenS, xFor, xWhile, ziT, ziL, itT_t, itL_l, ziR1, ziR2, ziET, ziEL, ziZ, zpT, lrK2, xLr2, xLr1, enT_t, enL_l, xLc, lc2K, xLc2, noOwnB, wipeE, xYes, xRaise, xTry, tyF, xXf, pAdd_i, pAdd_t, pAdd_l, pSub_i, pLt_i, pLe_i, pGt_i, pGe_i, pIs_n, pIsNot_n, pIsB_b, pNotB_b, isN_n, isN_b, isN_i, isN_s, isN_t, isN_l, pIx_t, pIx_l, pLen_t, pLen_l, pMin2_i, pMax2_i, pAbs_i, pInt_i, pTuple_t, pTuple_l, pList_t, pList_l, pIadd_i, pSl_t, pSl_l, pEqI, pNeI, pEqS, pNeS, at0, at1, at2, at3, at4, at5, at6, at7, bx_ret, bx_exc, bx_fail, bd_ret, bd_exc, bd_fail, exS_ret, exS_exc, exS_fail, ofO_some, ofO_none, fnE, isi_T, isi_B, isi_I, isi_S, isi_L, sizeL, Option.bind_some, Option.map_some, Option.some.injEq, Int.reduceEq, Int.reduceLE, Int.reduceLT, Int.reduceNeg, Int.reduceAdd, Int.reduceSub, Int.reduceMul, decide_true, decide_false, decide_eq_true_eq, decide_not, eq_self, Int.cast_ofNat_Int, reduceCtorEq, List.length_cons, List.length_nil, List.map_cons, List.map_nil, List.replicate, List.cons_append, List.nil_append, List.append_nil, List.getElem?_cons_zero, List.getElem?_cons_succ, List.getElem?_nil, List.set_cons_zero, List.set_cons_succ, Nat.reduceAdd, Nat.reduceSub, Nat.reduceEqDiff, Nat.reduceLeDiff, Nat.reduceLT, Nat.zero_add, Nat.add_zero, true_and, and_true, false_and, and_false, Bool.not_true, Bool.not_false, Bool.true_and, Bool.and_true, Bool.false_and, Bool.and_false, Bool.or_false, Bool.false_or, Bool.or_true, Bool.true_or, Bool.not_eq_true', if_true, if_false, Bool.false_eq_true, Bool.not_eq_true, ↓reduceIte, ite_true, ite_false, Bool.true_eq_false, not_true_eq_false, not_false_eq_true, Nat.zero_le]
  refine Dr.draw (by omega) (by omega) fun q q0 q1 => ?_
  obtain ⟨hg, eh, g0, g1⟩ : ∃ hg : Int, atI [PyData.int 0, .int 1, .int 32767, .int high] q = some (.int hg) ∧ 0 ≤ hg ∧ hg ≤ 32767 := by
    have hr : q = 0 ∨ q = 1 ∨ q = 2 ∨ q = 3 := by omega
    rcases hr with rfl | rfl | rfl | rfl
    · exact ⟨_, at0, by omega, by omega⟩
    · exact ⟨_, at1, by omega, by omega⟩
    · exact ⟨_, at2, by omega, by omega⟩
    · exact ⟨_, at3, by omega, by omega⟩
  simp only [eh, r_draw, bx_draw, bd_draw, exS_draw, opK2, opK, chK4, chK3, chK2, chK, unK, andK, orK, notK, andVK2, andVK, orVK2, orVK, notVK2, notVK, ifVK, ifTK, consK2, consK, tupK, lstK, fzK, slK3, slK2, slK, cbK, coK, isiK, drpK, retK, retOK, ifSK, setK, setOK, nxK, asgK, parK, par3K, augK, appK, wcK, wdK, callK, callOK, callSK2, callSK, forK, lcK, parOK2, parOK, raiseK, bodyX, startE, xSeq, sqF, xNext, xBreak, xCont, xNever, xIfS, xRet, xRetN, xRetV, xRetO, xSet, xSetO, xDrop, xAsg, ygT_t, ygsC, ygsN, ygN, xPar, xPar3, xParO, xAug, xAppend, xFrz, xVar, xC, xOp, xUn, pNeg_i, xTest, asB_b, xAnd, xOr, xNot, xAndV, xOrV, xNotV, xIf, xIfT, xChain, xNil, xCons, xTup, xLst, xFz, xCall, xCallO, xCallS, rOfT_d, rOfT_o, rOwT_o, ywNil, ywDat, ywVar, xCB, xCO, xIsi, xSl, xRev, pRev, xpN, xpS, asI_i, xIxO, xLenO, xLenS, xFor, xWhile, ziT, ziL, itT_t, itL_l, ziR1, ziR2, ziET, ziEL, ziZ, zpT, lrK2, xLr2, xLr1, enT_t, enL_l, xLc, lc2K, xLc2, noOwnB, wipeE, xYes, xRaise, xTry, tyF, xXf, pAdd_i, pAdd_t, pAdd_l, pSub_i, pLt_i, pLe_i, pGt_i, pGe_i, pIs_n, pIsNot_n, pIsB_b, pNotB_b, isN_n, isN_b, isN_i, isN_s, isN_t, isN_l, pIx_t, pIx_l, pLen_t, pLen_l, pMin2_i, pMax2_i, pAbs_i, pInt_i, pTuple_t, pTuple_l, pList_t, pList_l, pIadd_i, pSl_t, pSl_l, pEqI, pNeI, pEqS, pNeS, at0, at1, at2, at3, at4, at5, at6, at7, bx_ret, bx_exc, bx_fail, bd_ret, bd_exc, bd_fail, exS_ret, exS_exc, exS_fail, ofO_some, ofO_none, fnE, isi_T, isi_B, isi_I, isi_S, isi_L, sizeL, Option.bind_some, Option.map_some, Option.some.injEq, Int.reduceEq, Int.reduceLE, Int.reduceLT, Int.reduceNeg, Int.reduceAdd, Int.reduceSub, Int.reduceMul, decide_true, decide_false, decide_eq_true_eq, decide_not, eq_self, Int.cast_ofNat_Int, reduceCtorEq, List.length_cons, List.length_nil, List.map_cons, List.map_nil, List.replicate, List.cons_append, List.nil_append, List.append_nil, List.getElem?_cons_zero, List.getElem?_cons_succ, List.getElem?_nil, List.set_cons_zero, List.set_cons_succ, Nat.reduceAdd, Nat.reduceSub, Nat.reduceEqDiff, Nat.reduceLeDiff, Nat.reduceLT, Nat.zero_add, Nat.add_zero, true_and, and_true, false_and, and_false, Bool.not_true, Bool.not_false, Bool.true_and, Bool.and_true, Bool.false_and, Bool.and_false, Bool.or_false, Bool.false_or, Bool.or_true, Bool.true_or, Bool.not_eq_true', if_true, if_false, Bool.false_eq_true, Bool.not_eq_true, ↓reduceIte, ite_true, ite_false, Bool.true_eq_false, not_true_eq_false, not_false_eq_true, Nat.zero_le]
  exact Dr.ret ⟨_, rfl, _, rfl, ⟨lw, hg, steps, moves, fade⟩, rfl, ⟨w0, w1, g0, g1, s0, s1, sv, m0, m1, mv, hf⟩⟩
theorem Gd_cd {c : Cd} (h : c.Ok) : ∃ ds, c.d = .tuple ds ∧ Gd 16 ds := by
  refine ⟨_, rfl, rfl, fun x hx => ?_⟩
  simp only [List.mem_cons, List.not_mem_nil, or_false] at hx
  rcases hx with rfl | rfl | rfl | rfl | rfl
  · intro xs e; cases e
  · intro xs e; cases e
  · intro xs e
    cases e
    refine ⟨by rw [List.length_map]; exact h.s1, fun y hy => ?_⟩
    obtain ⟨i, _, rfl⟩ := List.mem_map.mp hy
    exact .int i
  · intro xs e
    cases e
    refine ⟨by rw [List.length_map]; exact h.m1, fun y hy => ?_⟩
    obtain ⟨i, _, rfl⟩ := List.mem_map.mp hy
    exact .tup (.cons (.int _) (.cons (.int _) .nil))
  · intro xs e; cases e
theorem r_last (ns : List Int) (x2 x3 x5 x6 : Option VL.W) (d : Dt) : (xSeq (xSet 6 (xCall w__law_fault [] (ywDat (xVar 4) (ywNil))))
  (xIfS (xOr (xTest (xOp pNe (xCB pRepr (xCons (xCall w__law_outcome [] (ywDat (xVar 4) (ywNil))) (xNil))) (xCB pRepr (xCons (xVar 6) (xNil))))) (xTest (xOp pNe (xCB pRepr (xCons (xCall w_is_coder [] (ywDat (xVar 4) (ywNil))) (xNil))) (xCB pRepr (xCons (xOp pIs (xVar 6) (xC .none)) (xNil)))))) (xRet (xC (.bool false))) (xNext))) [some (.scr ns), some .tok, x2, x3, some (.dat d), x5, x6] = .ret (.nx [some (.scr ns), some .tok, x2, x3, some (.dat d), x5, some (.dat (ftD (cf d)))]) := by
  simp only [r_lfault, r_outcome, r_is_coder, pRepr_of (sh_cf d) (by decide) (by decide), ftD_none, pRepr_of (sh_true _) (by decide) (by decide), beq_self_eq_true, opK2, opK, chK4, chK3, chK2, chK, unK, andK, orK, notK, andVK2, andVK, orVK2, orVK, notVK2, notVK, ifVK, ifTK, consK2, consK, tupK, lstK, fzK, slK3, slK2, slK, cbK, coK, isiK, drpK, retK, retOK, ifSK, setK, setOK, nxK, asgK, parK, par3K, augK, appK, wcK, wdK, callK, callOK, callSK2, callSK, forK, lcK, parOK2, parOK, raiseK, bodyX, startE, xSeq, sqF, xNext, xBreak, xCont, xNever, xIfS, xRet, xRetN, xRetV, xRetO, xSet, xSetO, xDrop, xAsg, ygT_t, ygsC, ygsN, ygN, xPar, xPar3, xParO, xAug, xAppend, xFrz, xVar, xC, xOp, xUn, pNeg_i, xTest, asB_b, xAnd, xOr, xNot, xAndV, xOrV, xNotV, xIf, xIfT, xChain, xNil, xCons, xTup, xLst, xFz, xCall, xCallO, xCallS, rOfT_d, rOfT_o, rOwT_o, ywNil, ywDat, ywVar, xCB, xCO, xIsi, xSl, xRev, pRev, xpN, xpS, asI_i, xIxO, xLenO, xLenS, xFor, xWhile, ziT, ziL, itT_t, itL_l, ziR1, ziR2, ziET, ziEL, ziZ, zpT, lrK2, xLr2, xLr1, enT_t, enL_l, xLc, lc2K, xLc2, noOwnB, wipeE, xYes, xRaise, xTry, tyF, xXf, pAdd_i, pAdd_t, pAdd_l, pSub_i, pLt_i, pLe_i, pGt_i, pGe_i, pIs_n, pIsNot_n, pIsB_b, pNotB_b, isN_n, isN_b, isN_i, isN_s, isN_t, isN_l, pIx_t, pIx_l, pLen_t, pLen_l, pMin2_i, pMax2_i, pAbs_i, pInt_i, pTuple_t, pTuple_l, pList_t, pList_l, pIadd_i, pSl_t, pSl_l, pEqI, pNeI, pEqS, pNeS, at0, at1, at2, at3, at4, at5, at6, at7, bx_ret, bx_exc, bx_fail, bd_ret, bd_exc, bd_fail, exS_ret, exS_exc, exS_fail, ofO_some, ofO_none, fnE, isi_T, isi_B, isi_I, isi_S, isi_L, sizeL, Option.bind_some, Option.map_some, Option.some.injEq, Int.reduceEq, Int.reduceLE, Int.reduceLT, Int.reduceNeg, Int.reduceAdd, Int.reduceSub, Int.reduceMul, decide_true, decide_false, decide_eq_true_eq, decide_not, eq_self, Int.cast_ofNat_Int, reduceCtorEq, List.length_cons, List.length_nil, List.map_cons, List.map_nil, List.replicate, List.cons_append, List.nil_append, List.append_nil, List.getElem?_cons_zero, List.getElem?_cons_succ, List.getElem?_nil, List.set_cons_zero, List.set_cons_succ, Nat.reduceAdd, Nat.reduceSub, Nat.reduceEqDiff, Nat.reduceLeDiff, Nat.reduceLT, Nat.zero_add, Nat.add_zero, true_and, and_true, false_and, and_false, Bool.not_true, Bool.not_false, Bool.true_and, Bool.and_true, Bool.false_and, Bool.and_false, Bool.or_false, Bool.false_or, Bool.or_true, Bool.true_or, Bool.not_eq_true', if_true, if_false, Bool.false_eq_true, Bool.not_eq_true, ↓reduceIte, ite_true, ite_false, Bool.true_eq_false, not_true_eq_false, not_false_eq_true, Nat.zero_le]
theorem law_holds : ∀ ns : List Int, ns.length ≤ 63 → SS t_law lawEnd ((startE 7 [.scr ns]).set 1 (some .tok)) 0 := by
  intro ns hns
  refine Dr.law (k := 200 * 7 + 0) ?_ (by decide)
  unfold t_law
  refine Dr.seq (J := fun _ => True) (200 * 7) _ ?_ ?_
  · have a1 : 2 ≤ 2 + mn (ns.length : Int) 5 ∧ 2 + mn (ns.length : Int) 5 ≤ 7 := by unfold mn; split <;> omega
    have hlen : (rngD 0 (2 + mn (ns.length : Int) 5).toNat).length = (2 + mn (ns.length : Int) 5).toNat := rngD_len _ _
    simp only [rgT1_i (j := 2 + mn (ns.length : Int) 5) (by omega) (by omega), opK2, opK, chK4, chK3, chK2, chK, unK, andK, orK, notK, andVK2, andVK, orVK2, orVK, notVK2, notVK, ifVK, ifTK, consK2, consK, tupK, lstK, fzK, slK3, slK2, slK, cbK, coK, isiK, drpK, retK, retOK, ifSK, setK, setOK, nxK, asgK, parK, par3K, augK, appK, wcK, wdK, callK, callOK, callSK2, callSK, forK, lcK, parOK2, parOK, raiseK, bodyX, startE, xSeq, sqF, xNext, xBreak, xCont, xNever, xIfS, xRet, xRetN, xRetV, xRetO, xSet, xSetO, xDrop, xAsg, ygT_t, ygsC, ygsN, ygN, xPar, xPar3, xParO, xAug, xAppend, xFrz, xVar, xC, xOp, xUn, pNeg_i, xTest, asB_b, xAnd, xOr, xNot, xAndV, xOrV, xNotV, xIf, xIfT, xChain, xNil, xCons, xTup, xLst, xFz, xCall, xCallO, xCallS, rOfT_d, rOfT_o, rOwT_o, ywNil, ywDat, ywVar, xCB, xCO, xIsi, xSl, xRev, pRev, xpN, xpS, asI_i, xIxO, xLenO, xLenS, xFor, xWhile, ziT, ziL, itT_t, itL_l, ziR1, ziR2, ziET, ziEL, ziZ, zpT, lrK2, xLr2, xLr1, enT_t, enL_l, xLc, lc2K, xLc2, noOwnB, wipeE, xYes, xRaise, xTry, tyF, xXf, pAdd_i, pAdd_t, pAdd_l, pSub_i, pLt_i, pLe_i, pGt_i, pGe_i, pIs_n, pIsNot_n, pIsB_b, pNotB_b, isN_n, isN_b, isN_i, isN_s, isN_t, isN_l, pIx_t, pIx_l, pLen_t, pLen_l, pMin2_i, pMax2_i, pAbs_i, pInt_i, pTuple_t, pTuple_l, pList_t, pList_l, pIadd_i, pSl_t, pSl_l, pEqI, pNeI, pEqS, pNeS, at0, at1, at2, at3, at4, at5, at6, at7, bx_ret, bx_exc, bx_fail, bd_ret, bd_exc, bd_fail, exS_ret, exS_exc, exS_fail, ofO_some, ofO_none, fnE, isi_T, isi_B, isi_I, isi_S, isi_L, sizeL, Option.bind_some, Option.map_some, Option.some.injEq, Int.reduceEq, Int.reduceLE, Int.reduceLT, Int.reduceNeg, Int.reduceAdd, Int.reduceSub, Int.reduceMul, decide_true, decide_false, decide_eq_true_eq, decide_not, eq_self, Int.cast_ofNat_Int, reduceCtorEq, List.length_cons, List.length_nil, List.map_cons, List.map_nil, List.replicate, List.cons_append, List.nil_append, List.append_nil, List.getElem?_cons_zero, List.getElem?_cons_succ, List.getElem?_nil, List.set_cons_zero, List.set_cons_succ, Nat.reduceAdd, Nat.reduceSub, Nat.reduceEqDiff, Nat.reduceLeDiff, Nat.reduceLT, Nat.zero_add, Nat.add_zero, true_and, and_true, false_and, and_false, Bool.not_true, Bool.not_false, Bool.true_and, Bool.and_true, Bool.false_and, Bool.and_false, Bool.or_false, Bool.false_or, Bool.or_true, Bool.true_or, Bool.not_eq_true', if_true, if_false, Bool.false_eq_true, Bool.not_eq_true, ↓reduceIte, ite_true, ite_false, Bool.true_eq_false, not_true_eq_false, not_false_eq_true, Nat.zero_le]
    refine Dr.le (k := 200 * (rngD 0 (2 + mn (ns.length : Int) 5).toNat).length) ?_ (by rw [hlen]; omega)
    refine Dr.forT (J := fun ds ρ => ∃ (x2 x3 x4 x5 x6 : Option VL.W), ρ = [some (.scr ns), some .tok, x2, x3, x4, x5, x6]) ?_ ?_ _ _ ⟨none, none, none, none, none, rfl⟩
    · rintro ρ _
      exact ⟨_, rfl⟩
    · rintro d ds ρ ⟨x2, x3, x4, x5, x6, rfl⟩
      refine ⟨_, rfl, ?_⟩
      unfold b_law_1
      refine Dr.le (k := 140 + (5 * 2)) ?_ (by decide)
      refine Dr.seq (J := fun ρ => ∃ c : Cd, c.Ok ∧ ρ = [some (.scr ns), some .tok, some (.dat d), some (.dat c.d), x4, x5, x6]) 140 _ ?_ ?_
      · simp only [r_draw, bx_draw, bd_draw, exS_draw, opK2, opK, chK4, chK3, chK2, chK, unK, andK, orK, notK, andVK2, andVK, orVK2, orVK, notVK2, notVK, ifVK, ifTK, consK2, consK, tupK, lstK, fzK, slK3, slK2, slK, cbK, coK, isiK, drpK, retK, retOK, ifSK, setK, setOK, nxK, asgK, parK, par3K, augK, appK, wcK, wdK, callK, callOK, callSK2, callSK, forK, lcK, parOK2, parOK, raiseK, bodyX, startE, xSeq, sqF, xNext, xBreak, xCont, xNever, xIfS, xRet, xRetN, xRetV, xRetO, xSet, xSetO, xDrop, xAsg, ygT_t, ygsC, ygsN, ygN, xPar, xPar3, xParO, xAug, xAppend, xFrz, xVar, xC, xOp, xUn, pNeg_i, xTest, asB_b, xAnd, xOr, xNot, xAndV, xOrV, xNotV, xIf, xIfT, xChain, xNil, xCons, xTup, xLst, xFz, xCall, xCallO, xCallS, rOfT_d, rOfT_o, rOwT_o, ywNil, ywDat, ywVar, xCB, xCO, xIsi, xSl, xRev, pRev, xpN, xpS, asI_i, xIxO, xLenO, xLenS, xFor, xWhile, ziT, ziL, itT_t, itL_l, ziR1, ziR2, ziET, ziEL, ziZ, zpT, lrK2, xLr2, xLr1, enT_t, enL_l, xLc, lc2K, xLc2, noOwnB, wipeE, xYes, xRaise, xTry, tyF, xXf, pAdd_i, pAdd_t, pAdd_l, pSub_i, pLt_i, pLe_i, pGt_i, pGe_i, pIs_n, pIsNot_n, pIsB_b, pNotB_b, isN_n, isN_b, isN_i, isN_s, isN_t, isN_l, pIx_t, pIx_l, pLen_t, pLen_l, pMin2_i, pMax2_i, pAbs_i, pInt_i, pTuple_t, pTuple_l, pList_t, pList_l, pIadd_i, pSl_t, pSl_l, pEqI, pNeI, pEqS, pNeS, at0, at1, at2, at3, at4, at5, at6, at7, bx_ret, bx_exc, bx_fail, bd_ret, bd_exc, bd_fail, exS_ret, exS_exc, exS_fail, ofO_some, ofO_none, fnE, isi_T, isi_B, isi_I, isi_S, isi_L, sizeL, Option.bind_some, Option.map_some, Option.some.injEq, Int.reduceEq, Int.reduceLE, Int.reduceLT, Int.reduceNeg, Int.reduceAdd, Int.reduceSub, Int.reduceMul, decide_true, decide_false, decide_eq_true_eq, decide_not, eq_self, Int.cast_ofNat_Int, reduceCtorEq, List.length_cons, List.length_nil, List.map_cons, List.map_nil, List.replicate, List.cons_append, List.nil_append, List.append_nil, List.getElem?_cons_zero, List.getElem?_cons_succ, List.getElem?_nil, List.set_cons_zero, List.set_cons_succ, Nat.reduceAdd, Nat.reduceSub, Nat.reduceEqDiff, Nat.reduceLeDiff, Nat.reduceLT, Nat.zero_add, Nat.add_zero, true_and, and_true, false_and, and_false, Bool.not_true, Bool.not_false, Bool.true_and, Bool.and_true, Bool.false_and, Bool.and_false, Bool.or_false, Bool.false_or, Bool.or_true, Bool.true_or, Bool.not_eq_true', if_true, if_false, Bool.false_eq_true, Bool.not_eq_true, ↓reduceIte, ite_true, ite_false, Bool.true_eq_false, not_true_eq_false, not_false_eq_true, Nat.zero_le]
        refine Dr.exS (j := 0) (Dr.call d_wide) fun d hd => ?_
        obtain ⟨c, rfl, hc⟩ := hd
        exact Dr.ret ⟨_, rfl, c, hc, rfl⟩
      rintro ρ ⟨c, hc, rfl⟩
      have e0 := cf_ok hc
      refine Dr.step (ρ' := [some (.scr ns), some .tok, some (.dat d), some (.dat c.d), x4, x5, x6]) (by
        simp only [r_outcome, r_is_coder, e0, ftD, Option.isNone_none, opK2, opK, chK4, chK3, chK2, chK, unK, andK, orK, notK, andVK2, andVK, orVK2, orVK, notVK2, notVK, ifVK, ifTK, consK2, consK, tupK, lstK, fzK, slK3, slK2, slK, cbK, coK, isiK, drpK, retK, retOK, ifSK, setK, setOK, nxK, asgK, parK, par3K, augK, appK, wcK, wdK, callK, callOK, callSK2, callSK, forK, lcK, parOK2, parOK, raiseK, bodyX, startE, xSeq, sqF, xNext, xBreak, xCont, xNever, xIfS, xRet, xRetN, xRetV, xRetO, xSet, xSetO, xDrop, xAsg, ygT_t, ygsC, ygsN, ygN, xPar, xPar3, xParO, xAug, xAppend, xFrz, xVar, xC, xOp, xUn, pNeg_i, xTest, asB_b, xAnd, xOr, xNot, xAndV, xOrV, xNotV, xIf, xIfT, xChain, xNil, xCons, xTup, xLst, xFz, xCall, xCallO, xCallS, rOfT_d, rOfT_o, rOwT_o, ywNil, ywDat, ywVar, xCB, xCO, xIsi, xSl, xRev, pRev, xpN, xpS, asI_i, xIxO, xLenO, xLenS, xFor, xWhile, ziT, ziL, itT_t, itL_l, ziR1, ziR2, ziET, ziEL, ziZ, zpT, lrK2, xLr2, xLr1, enT_t, enL_l, xLc, lc2K, xLc2, noOwnB, wipeE, xYes, xRaise, xTry, tyF, xXf, pAdd_i, pAdd_t, pAdd_l, pSub_i, pLt_i, pLe_i, pGt_i, pGe_i, pIs_n, pIsNot_n, pIsB_b, pNotB_b, isN_n, isN_b, isN_i, isN_s, isN_t, isN_l, pIx_t, pIx_l, pLen_t, pLen_l, pMin2_i, pMax2_i, pAbs_i, pInt_i, pTuple_t, pTuple_l, pList_t, pList_l, pIadd_i, pSl_t, pSl_l, pEqI, pNeI, pEqS, pNeS, at0, at1, at2, at3, at4, at5, at6, at7, bx_ret, bx_exc, bx_fail, bd_ret, bd_exc, bd_fail, exS_ret, exS_exc, exS_fail, ofO_some, ofO_none, fnE, isi_T, isi_B, isi_I, isi_S, isi_L, sizeL, Option.bind_some, Option.map_some, Option.some.injEq, Int.reduceEq, Int.reduceLE, Int.reduceLT, Int.reduceNeg, Int.reduceAdd, Int.reduceSub, Int.reduceMul, decide_true, decide_false, decide_eq_true_eq, decide_not, eq_self, Int.cast_ofNat_Int, reduceCtorEq, List.length_cons, List.length_nil, List.map_cons, List.map_nil, List.replicate, List.cons_append, List.nil_append, List.append_nil, List.getElem?_cons_zero, List.getElem?_cons_succ, List.getElem?_nil, List.set_cons_zero, List.set_cons_succ, Nat.reduceAdd, Nat.reduceSub, Nat.reduceEqDiff, Nat.reduceLeDiff, Nat.reduceLT, Nat.zero_add, Nat.add_zero, true_and, and_true, false_and, and_false, Bool.not_true, Bool.not_false, Bool.true_and, Bool.and_true, Bool.false_and, Bool.and_false, Bool.or_false, Bool.false_or, Bool.or_true, Bool.true_or, Bool.not_eq_true', if_true, if_false, Bool.false_eq_true, Bool.not_eq_true, ↓reduceIte, ite_true, ite_false, Bool.true_eq_false, not_true_eq_false, not_false_eq_true, Nat.zero_le]) ?_
      refine Dr.step (ρ' := [some (.scr ns), some .tok, some (.dat d), some (.dat c.d), some (.dat c.d), x5, x6]) (by
        simp only [opK2, opK, chK4, chK3, chK2, chK, unK, andK, orK, notK, andVK2, andVK, orVK2, orVK, notVK2, notVK, ifVK, ifTK, consK2, consK, tupK, lstK, fzK, slK3, slK2, slK, cbK, coK, isiK, drpK, retK, retOK, ifSK, setK, setOK, nxK, asgK, parK, par3K, augK, appK, wcK, wdK, callK, callOK, callSK2, callSK, forK, lcK, parOK2, parOK, raiseK, bodyX, startE, xSeq, sqF, xNext, xBreak, xCont, xNever, xIfS, xRet, xRetN, xRetV, xRetO, xSet, xSetO, xDrop, xAsg, ygT_t, ygsC, ygsN, ygN, xPar, xPar3, xParO, xAug, xAppend, xFrz, xVar, xC, xOp, xUn, pNeg_i, xTest, asB_b, xAnd, xOr, xNot, xAndV, xOrV, xNotV, xIf, xIfT, xChain, xNil, xCons, xTup, xLst, xFz, xCall, xCallO, xCallS, rOfT_d, rOfT_o, rOwT_o, ywNil, ywDat, ywVar, xCB, xCO, xIsi, xSl, xRev, pRev, xpN, xpS, asI_i, xIxO, xLenO, xLenS, xFor, xWhile, ziT, ziL, itT_t, itL_l, ziR1, ziR2, ziET, ziEL, ziZ, zpT, lrK2, xLr2, xLr1, enT_t, enL_l, xLc, lc2K, xLc2, noOwnB, wipeE, xYes, xRaise, xTry, tyF, xXf, pAdd_i, pAdd_t, pAdd_l, pSub_i, pLt_i, pLe_i, pGt_i, pGe_i, pIs_n, pIsNot_n, pIsB_b, pNotB_b, isN_n, isN_b, isN_i, isN_s, isN_t, isN_l, pIx_t, pIx_l, pLen_t, pLen_l, pMin2_i, pMax2_i, pAbs_i, pInt_i, pTuple_t, pTuple_l, pList_t, pList_l, pIadd_i, pSl_t, pSl_l, pEqI, pNeI, pEqS, pNeS, at0, at1, at2, at3, at4, at5, at6, at7, bx_ret, bx_exc, bx_fail, bd_ret, bd_exc, bd_fail, exS_ret, exS_exc, exS_fail, ofO_some, ofO_none, fnE, isi_T, isi_B, isi_I, isi_S, isi_L, sizeL, Option.bind_some, Option.map_some, Option.some.injEq, Int.reduceEq, Int.reduceLE, Int.reduceLT, Int.reduceNeg, Int.reduceAdd, Int.reduceSub, Int.reduceMul, decide_true, decide_false, decide_eq_true_eq, decide_not, eq_self, Int.cast_ofNat_Int, reduceCtorEq, List.length_cons, List.length_nil, List.map_cons, List.map_nil, List.replicate, List.cons_append, List.nil_append, List.append_nil, List.getElem?_cons_zero, List.getElem?_cons_succ, List.getElem?_nil, List.set_cons_zero, List.set_cons_succ, Nat.reduceAdd, Nat.reduceSub, Nat.reduceEqDiff, Nat.reduceLeDiff, Nat.reduceLT, Nat.zero_add, Nat.add_zero, true_and, and_true, false_and, and_false, Bool.not_true, Bool.not_false, Bool.true_and, Bool.and_true, Bool.false_and, Bool.and_false, Bool.or_false, Bool.false_or, Bool.or_true, Bool.true_or, Bool.not_eq_true', if_true, if_false, Bool.false_eq_true, Bool.not_eq_true, ↓reduceIte, ite_true, ite_false, Bool.true_eq_false, not_true_eq_false, not_false_eq_true, Nat.zero_le]) ?_
      have hl2 : (rngD 0 (2 : Int).toNat).length = 2 := rngD_len _ _
      simp only [rgT1_i (j := 2) (by omega) (by omega), opK2, opK, chK4, chK3, chK2, chK, unK, andK, orK, notK, andVK2, andVK, orVK2, orVK, notVK2, notVK, ifVK, ifTK, consK2, consK, tupK, lstK, fzK, slK3, slK2, slK, cbK, coK, isiK, drpK, retK, retOK, ifSK, setK, setOK, nxK, asgK, parK, par3K, augK, appK, wcK, wdK, callK, callOK, callSK2, callSK, forK, lcK, parOK2, parOK, raiseK, bodyX, startE, xSeq, sqF, xNext, xBreak, xCont, xNever, xIfS, xRet, xRetN, xRetV, xRetO, xSet, xSetO, xDrop, xAsg, ygT_t, ygsC, ygsN, ygN, xPar, xPar3, xParO, xAug, xAppend, xFrz, xVar, xC, xOp, xUn, pNeg_i, xTest, asB_b, xAnd, xOr, xNot, xAndV, xOrV, xNotV, xIf, xIfT, xChain, xNil, xCons, xTup, xLst, xFz, xCall, xCallO, xCallS, rOfT_d, rOfT_o, rOwT_o, ywNil, ywDat, ywVar, xCB, xCO, xIsi, xSl, xRev, pRev, xpN, xpS, asI_i, xIxO, xLenO, xLenS, xFor, xWhile, ziT, ziL, itT_t, itL_l, ziR1, ziR2, ziET, ziEL, ziZ, zpT, lrK2, xLr2, xLr1, enT_t, enL_l, xLc, lc2K, xLc2, noOwnB, wipeE, xYes, xRaise, xTry, tyF, xXf, pAdd_i, pAdd_t, pAdd_l, pSub_i, pLt_i, pLe_i, pGt_i, pGe_i, pIs_n, pIsNot_n, pIsB_b, pNotB_b, isN_n, isN_b, isN_i, isN_s, isN_t, isN_l, pIx_t, pIx_l, pLen_t, pLen_l, pMin2_i, pMax2_i, pAbs_i, pInt_i, pTuple_t, pTuple_l, pList_t, pList_l, pIadd_i, pSl_t, pSl_l, pEqI, pNeI, pEqS, pNeS, at0, at1, at2, at3, at4, at5, at6, at7, bx_ret, bx_exc, bx_fail, bd_ret, bd_exc, bd_fail, exS_ret, exS_exc, exS_fail, ofO_some, ofO_none, fnE, isi_T, isi_B, isi_I, isi_S, isi_L, sizeL, Option.bind_some, Option.map_some, Option.some.injEq, Int.reduceEq, Int.reduceLE, Int.reduceLT, Int.reduceNeg, Int.reduceAdd, Int.reduceSub, Int.reduceMul, decide_true, decide_false, decide_eq_true_eq, decide_not, eq_self, Int.cast_ofNat_Int, reduceCtorEq, List.length_cons, List.length_nil, List.map_cons, List.map_nil, List.replicate, List.cons_append, List.nil_append, List.append_nil, List.getElem?_cons_zero, List.getElem?_cons_succ, List.getElem?_nil, List.set_cons_zero, List.set_cons_succ, Nat.reduceAdd, Nat.reduceSub, Nat.reduceEqDiff, Nat.reduceLeDiff, Nat.reduceLT, Nat.zero_add, Nat.add_zero, true_and, and_true, false_and, and_false, Bool.not_true, Bool.not_false, Bool.true_and, Bool.and_true, Bool.false_and, Bool.and_false, Bool.or_false, Bool.false_or, Bool.or_true, Bool.true_or, Bool.not_eq_true', if_true, if_false, Bool.false_eq_true, Bool.not_eq_true, ↓reduceIte, ite_true, ite_false, Bool.true_eq_false, not_true_eq_false, not_false_eq_true, Nat.zero_le]
      refine Dr.le (k := 5 * (rngD 0 (2 : Int).toNat).length) ?_ (by rw [hl2]; omega)
      obtain ⟨cs, ecs, hcs⟩ := Gd_cd hc
      refine Dr.forT (J := fun es ρ => ∃ (n : Nat) (t : Dt) (y5 y6 : Option VL.W), (es.length = 2 → n ≤ 16) ∧ (es.length = 1 → n ≤ 273) ∧ es.length ≤ 2 ∧ (∀ xs, t = .tuple xs → xs.length = 5 → Gd n xs) ∧ ρ = [some (.scr ns), some .tok, some (.dat d), some (.dat c.d), some (.dat t), y5, y6]) ?_ ?_ _ _ ⟨16, c.d, x5, x6, fun _ => Nat.le_refl _, fun _ => by decide, by rw [hl2]; exact Nat.le_refl _, fun xs e _ => by rw [ecs] at e; cases e; exact hcs, rfl⟩
      · rintro ρ ⟨n, t, y5, y6, _, _, _, _, rfl⟩
        exact .inl ⟨_, .inl rfl, _, _, _, _, _, rfl⟩
      · rintro e es ρ ⟨n, t, y5, y6, n2, n1, nl, hg, rfl⟩
        rw [List.length_cons] at n2 n1 nl
        refine ⟨_, rfl, ?_⟩
        unfold b_law_0
        refine Dr.le (k := 5 + 0) ?_ (by decide)
        have hn : n ≤ 273 := by
          by_cases h : es.length = 1
          · have := n2 (by omega); omega
          · exact n1 (by omega)
        refine Dr.seq (J := fun ρ => ∃ t' : Dt, (∀ xs, t' = .tuple xs → xs.length = 5 → Gd (17 * n + 1) xs) ∧ ρ = [some (.scr ns), some .tok, some (.dat d), some (.dat c.d), some (.dat t'), some (.dat e), y6]) 5 _ ?_ ?_
        · by_cases ht : ∃ xs, t = .tuple xs ∧ xs.length = 5
          · obtain ⟨xs, rfl, h5⟩ := ht
            have h5' : ((xs.length : Nat) : Int) = 5 := by omega
            simp only [h5', r_draw, bx_draw, bd_draw, exS_draw, opK2, opK, chK4, chK3, chK2, chK, unK, andK, orK, notK, andVK2, andVK, orVK2, orVK, notVK2, notVK, ifVK, ifTK, consK2, consK, tupK, lstK, fzK, slK3, slK2, slK, cbK, coK, isiK, drpK, retK, retOK, ifSK, setK, setOK, nxK, asgK, parK, par3K, augK, appK, wcK, wdK, callK, callOK, callSK2, callSK, forK, lcK, parOK2, parOK, raiseK, bodyX, startE, xSeq, sqF, xNext, xBreak, xCont, xNever, xIfS, xRet, xRetN, xRetV, xRetO, xSet, xSetO, xDrop, xAsg, ygT_t, ygsC, ygsN, ygN, xPar, xPar3, xParO, xAug, xAppend, xFrz, xVar, xC, xOp, xUn, pNeg_i, xTest, asB_b, xAnd, xOr, xNot, xAndV, xOrV, xNotV, xIf, xIfT, xChain, xNil, xCons, xTup, xLst, xFz, xCall, xCallO, xCallS, rOfT_d, rOfT_o, rOwT_o, ywNil, ywDat, ywVar, xCB, xCO, xIsi, xSl, xRev, pRev, xpN, xpS, asI_i, xIxO, xLenO, xLenS, xFor, xWhile, ziT, ziL, itT_t, itL_l, ziR1, ziR2, ziET, ziEL, ziZ, zpT, lrK2, xLr2, xLr1, enT_t, enL_l, xLc, lc2K, xLc2, noOwnB, wipeE, xYes, xRaise, xTry, tyF, xXf, pAdd_i, pAdd_t, pAdd_l, pSub_i, pLt_i, pLe_i, pGt_i, pGe_i, pIs_n, pIsNot_n, pIsB_b, pNotB_b, isN_n, isN_b, isN_i, isN_s, isN_t, isN_l, pIx_t, pIx_l, pLen_t, pLen_l, pMin2_i, pMax2_i, pAbs_i, pInt_i, pTuple_t, pTuple_l, pList_t, pList_l, pIadd_i, pSl_t, pSl_l, pEqI, pNeI, pEqS, pNeS, at0, at1, at2, at3, at4, at5, at6, at7, bx_ret, bx_exc, bx_fail, bd_ret, bd_exc, bd_fail, exS_ret, exS_exc, exS_fail, ofO_some, ofO_none, fnE, isi_T, isi_B, isi_I, isi_S, isi_L, sizeL, Option.bind_some, Option.map_some, Option.some.injEq, Int.reduceEq, Int.reduceLE, Int.reduceLT, Int.reduceNeg, Int.reduceAdd, Int.reduceSub, Int.reduceMul, decide_true, decide_false, decide_eq_true_eq, decide_not, eq_self, Int.cast_ofNat_Int, reduceCtorEq, List.length_cons, List.length_nil, List.map_cons, List.map_nil, List.replicate, List.cons_append, List.nil_append, List.append_nil, List.getElem?_cons_zero, List.getElem?_cons_succ, List.getElem?_nil, List.set_cons_zero, List.set_cons_succ, Nat.reduceAdd, Nat.reduceSub, Nat.reduceEqDiff, Nat.reduceLeDiff, Nat.reduceLT, Nat.zero_add, Nat.add_zero, true_and, and_true, false_and, and_false, Bool.not_true, Bool.not_false, Bool.true_and, Bool.and_true, Bool.false_and, Bool.and_false, Bool.or_false, Bool.false_or, Bool.or_true, Bool.true_or, Bool.not_eq_true', if_true, if_false, Bool.false_eq_true, Bool.not_eq_true, ↓reduceIte, ite_true, ite_false, Bool.true_eq_false, not_true_eq_false, not_false_eq_true, Nat.zero_le]
            refine Dr.exS (j := 0) (Dr.call (Dr.mono (d_spoiled (by omega) (hg xs rfl h5)) (Nat.le_refl _) (fun w hw => hw))) fun t' ht' => ?_
            exact Dr.ret ⟨_, rfl, t', ht', rfl⟩
          · refine Dr.le (k := 0) ?_ (by decide)
            have hg' : ∀ xs, t = .tuple xs → xs.length = 5 → Gd (17 * n + 1) xs := fun xs e h5 => absurd ⟨xs, e, h5⟩ ht
            cases t with
            | tuple xs =>
              have h5 : ¬ ((xs.length : Nat) : Int) = 5 := fun z => ht ⟨xs, rfl, by omega⟩
              simp only [h5, opK2, opK, chK4, chK3, chK2, chK, unK, andK, orK, notK, andVK2, andVK, orVK2, orVK, notVK2, notVK, ifVK, ifTK, consK2, consK, tupK, lstK, fzK, slK3, slK2, slK, cbK, coK, isiK, drpK, retK, retOK, ifSK, setK, setOK, nxK, asgK, parK, par3K, augK, appK, wcK, wdK, callK, callOK, callSK2, callSK, forK, lcK, parOK2, parOK, raiseK, bodyX, startE, xSeq, sqF, xNext, xBreak, xCont, xNever, xIfS, xRet, xRetN, xRetV, xRetO, xSet, xSetO, xDrop, xAsg, ygT_t, ygsC, ygsN, ygN, xPar, xPar3, xParO, xAug, xAppend, xFrz, xVar, xC, xOp, xUn, pNeg_i, xTest, asB_b, xAnd, xOr, xNot, xAndV, xOrV, xNotV, xIf, xIfT, xChain, xNil, xCons, xTup, xLst, xFz, xCall, xCallO, xCallS, rOfT_d, rOfT_o, rOwT_o, ywNil, ywDat, ywVar, xCB, xCO, xIsi, xSl, xRev, pRev, xpN, xpS, asI_i, xIxO, xLenO, xLenS, xFor, xWhile, ziT, ziL, itT_t, itL_l, ziR1, ziR2, ziET, ziEL, ziZ, zpT, lrK2, xLr2, xLr1, enT_t, enL_l, xLc, lc2K, xLc2, noOwnB, wipeE, xYes, xRaise, xTry, tyF, xXf, pAdd_i, pAdd_t, pAdd_l, pSub_i, pLt_i, pLe_i, pGt_i, pGe_i, pIs_n, pIsNot_n, pIsB_b, pNotB_b, isN_n, isN_b, isN_i, isN_s, isN_t, isN_l, pIx_t, pIx_l, pLen_t, pLen_l, pMin2_i, pMax2_i, pAbs_i, pInt_i, pTuple_t, pTuple_l, pList_t, pList_l, pIadd_i, pSl_t, pSl_l, pEqI, pNeI, pEqS, pNeS, at0, at1, at2, at3, at4, at5, at6, at7, bx_ret, bx_exc, bx_fail, bd_ret, bd_exc, bd_fail, exS_ret, exS_exc, exS_fail, ofO_some, ofO_none, fnE, isi_T, isi_B, isi_I, isi_S, isi_L, sizeL, Option.bind_some, Option.map_some, Option.some.injEq, Int.reduceEq, Int.reduceLE, Int.reduceLT, Int.reduceNeg, Int.reduceAdd, Int.reduceSub, Int.reduceMul, decide_true, decide_false, decide_eq_true_eq, decide_not, eq_self, Int.cast_ofNat_Int, reduceCtorEq, List.length_cons, List.length_nil, List.map_cons, List.map_nil, List.replicate, List.cons_append, List.nil_append, List.append_nil, List.getElem?_cons_zero, List.getElem?_cons_succ, List.getElem?_nil, List.set_cons_zero, List.set_cons_succ, Nat.reduceAdd, Nat.reduceSub, Nat.reduceEqDiff, Nat.reduceLeDiff, Nat.reduceLT, Nat.zero_add, Nat.add_zero, true_and, and_true, false_and, and_false, Bool.not_true, Bool.not_false, Bool.true_and, Bool.and_true, Bool.false_and, Bool.and_false, Bool.or_false, Bool.false_or, Bool.or_true, Bool.true_or, Bool.not_eq_true', if_true, if_false, Bool.false_eq_true, Bool.not_eq_true, ↓reduceIte, ite_true, ite_false, Bool.true_eq_false, not_true_eq_false, not_false_eq_true, Nat.zero_le]
              exact Dr.ret ⟨_, rfl, _, hg', rfl⟩
            | _ =>
              simp only [opK2, opK, chK4, chK3, chK2, chK, unK, andK, orK, notK, andVK2, andVK, orVK2, orVK, notVK2, notVK, ifVK, ifTK, consK2, consK, tupK, lstK, fzK, slK3, slK2, slK, cbK, coK, isiK, drpK, retK, retOK, ifSK, setK, setOK, nxK, asgK, parK, par3K, augK, appK, wcK, wdK, callK, callOK, callSK2, callSK, forK, lcK, parOK2, parOK, raiseK, bodyX, startE, xSeq, sqF, xNext, xBreak, xCont, xNever, xIfS, xRet, xRetN, xRetV, xRetO, xSet, xSetO, xDrop, xAsg, ygT_t, ygsC, ygsN, ygN, xPar, xPar3, xParO, xAug, xAppend, xFrz, xVar, xC, xOp, xUn, pNeg_i, xTest, asB_b, xAnd, xOr, xNot, xAndV, xOrV, xNotV, xIf, xIfT, xChain, xNil, xCons, xTup, xLst, xFz, xCall, xCallO, xCallS, rOfT_d, rOfT_o, rOwT_o, ywNil, ywDat, ywVar, xCB, xCO, xIsi, xSl, xRev, pRev, xpN, xpS, asI_i, xIxO, xLenO, xLenS, xFor, xWhile, ziT, ziL, itT_t, itL_l, ziR1, ziR2, ziET, ziEL, ziZ, zpT, lrK2, xLr2, xLr1, enT_t, enL_l, xLc, lc2K, xLc2, noOwnB, wipeE, xYes, xRaise, xTry, tyF, xXf, pAdd_i, pAdd_t, pAdd_l, pSub_i, pLt_i, pLe_i, pGt_i, pGe_i, pIs_n, pIsNot_n, pIsB_b, pNotB_b, isN_n, isN_b, isN_i, isN_s, isN_t, isN_l, pIx_t, pIx_l, pLen_t, pLen_l, pMin2_i, pMax2_i, pAbs_i, pInt_i, pTuple_t, pTuple_l, pList_t, pList_l, pIadd_i, pSl_t, pSl_l, pEqI, pNeI, pEqS, pNeS, at0, at1, at2, at3, at4, at5, at6, at7, bx_ret, bx_exc, bx_fail, bd_ret, bd_exc, bd_fail, exS_ret, exS_exc, exS_fail, ofO_some, ofO_none, fnE, isi_T, isi_B, isi_I, isi_S, isi_L, sizeL, Option.bind_some, Option.map_some, Option.some.injEq, Int.reduceEq, Int.reduceLE, Int.reduceLT, Int.reduceNeg, Int.reduceAdd, Int.reduceSub, Int.reduceMul, decide_true, decide_false, decide_eq_true_eq, decide_not, eq_self, Int.cast_ofNat_Int, reduceCtorEq, List.length_cons, List.length_nil, List.map_cons, List.map_nil, List.replicate, List.cons_append, List.nil_append, List.append_nil, List.getElem?_cons_zero, List.getElem?_cons_succ, List.getElem?_nil, List.set_cons_zero, List.set_cons_succ, Nat.reduceAdd, Nat.reduceSub, Nat.reduceEqDiff, Nat.reduceLeDiff, Nat.reduceLT, Nat.zero_add, Nat.add_zero, true_and, and_true, false_and, and_false, Bool.not_true, Bool.not_false, Bool.true_and, Bool.and_true, Bool.false_and, Bool.and_false, Bool.or_false, Bool.false_or, Bool.or_true, Bool.true_or, Bool.not_eq_true', if_true, if_false, Bool.false_eq_true, Bool.not_eq_true, ↓reduceIte, ite_true, ite_false, Bool.true_eq_false, not_true_eq_false, not_false_eq_true, Nat.zero_le]
              exact Dr.ret ⟨_, rfl, _, hg', rfl⟩
        · rintro ρ ⟨t', hg', rfl⟩
          rw [r_last]
          refine Dr.ret (.inl ⟨_, .inl rfl, 17 * n + 1, t', _, _, fun z => by omega, fun z => ?_, by omega, hg', rfl⟩)
          have := n2 (by omega)
          omega
  · intro ρ _
    simp only [opK2, opK, chK4, chK3, chK2, chK, unK, andK, orK, notK, andVK2, andVK, orVK2, orVK, notVK2, notVK, ifVK, ifTK, consK2, consK, tupK, lstK, fzK, slK3, slK2, slK, cbK, coK, isiK, drpK, retK, retOK, ifSK, setK, setOK, nxK, asgK, parK, par3K, augK, appK, wcK, wdK, callK, callOK, callSK2, callSK, forK, lcK, parOK2, parOK, raiseK, bodyX, startE, xSeq, sqF, xNext, xBreak, xCont, xNever, xIfS, xRet, xRetN, xRetV, xRetO, xSet, xSetO, xDrop, xAsg, ygT_t, ygsC, ygsN, ygN, xPar, xPar3, xParO, xAug, xAppend, xFrz, xVar, xC, xOp, xUn, pNeg_i, xTest, asB_b, xAnd, xOr, xNot, xAndV, xOrV, xNotV, xIf, xIfT, xChain, xNil, xCons, xTup, xLst, xFz, xCall, xCallO, xCallS, rOfT_d, rOfT_o, rOwT_o, ywNil, ywDat, ywVar, xCB, xCO, xIsi, xSl, xRev, pRev, xpN, xpS, asI_i, xIxO, xLenO, xLenS, xFor, xWhile, ziT, ziL, itT_t, itL_l, ziR1, ziR2, ziET, ziEL, ziZ, zpT, lrK2, xLr2, xLr1, enT_t, enL_l, xLc, lc2K, xLc2, noOwnB, wipeE, xYes, xRaise, xTry, tyF, xXf, pAdd_i, pAdd_t, pAdd_l, pSub_i, pLt_i, pLe_i, pGt_i, pGe_i, pIs_n, pIsNot_n, pIsB_b, pNotB_b, isN_n, isN_b, isN_i, isN_s, isN_t, isN_l, pIx_t, pIx_l, pLen_t, pLen_l, pMin2_i, pMax2_i, pAbs_i, pInt_i, pTuple_t, pTuple_l, pList_t, pList_l, pIadd_i, pSl_t, pSl_l, pEqI, pNeI, pEqS, pNeS, at0, at1, at2, at3, at4, at5, at6, at7, bx_ret, bx_exc, bx_fail, bd_ret, bd_exc, bd_fail, exS_ret, exS_exc, exS_fail, ofO_some, ofO_none, fnE, isi_T, isi_B, isi_I, isi_S, isi_L, sizeL, Option.bind_some, Option.map_some, Option.some.injEq, Int.reduceEq, Int.reduceLE, Int.reduceLT, Int.reduceNeg, Int.reduceAdd, Int.reduceSub, Int.reduceMul, decide_true, decide_false, decide_eq_true_eq, decide_not, eq_self, Int.cast_ofNat_Int, reduceCtorEq, List.length_cons, List.length_nil, List.map_cons, List.map_nil, List.replicate, List.cons_append, List.nil_append, List.append_nil, List.getElem?_cons_zero, List.getElem?_cons_succ, List.getElem?_nil, List.set_cons_zero, List.set_cons_succ, Nat.reduceAdd, Nat.reduceSub, Nat.reduceEqDiff, Nat.reduceLeDiff, Nat.reduceLT, Nat.zero_add, Nat.add_zero, true_and, and_true, false_and, and_false, Bool.not_true, Bool.not_false, Bool.true_and, Bool.and_true, Bool.false_and, Bool.and_false, Bool.or_false, Bool.false_or, Bool.or_true, Bool.true_or, Bool.not_eq_true', if_true, if_false, Bool.false_eq_true, Bool.not_eq_true, ↓reduceIte, ite_true, ite_false, Bool.true_eq_false, not_true_eq_false, not_false_eq_true, Nat.zero_le]
    exact Dr.ret rfl
end LW


open PySem PySem.W PySem.Calls PyProof.Rows
set_option maxRecDepth 100000 in
set_option maxHeartbeats 0 in
theorem PySem.Challenge.cw_stepsound_k02_whole_faults_of_coders_holds : PySem.Challenge.rw_stepsound_k02_whole_faults_of_coders.Holds := by
  w_on; o_law
  refine HandSHeadRun.head_any (r := OpenLaw.row PySem.Challenge.rw_stepsound_k02_whole_faults_of_coders) (q := view (OpenLaw.row PySem.Challenge.rw_stepsound_k02_whole_faults_of_coders).prog [21]) (H := LW.hk) (ob := LW.ob) (M := 6000) (loose := LW.names) (d := HandSHeadRun.topDef (OpenLaw.row PySem.Challenge.rw_stepsound_k02_whole_faults_of_coders).prog 21) (kwd := []) VL.obX_eq
    (by kernel_rfl) (fun s => by kernel_rfl) LW.run (by kernel_rfl) (by kernel_rfl) (by kernel_rfl) (by rfl) (by first | assumption | decide +kernel) (by decide +kernel) ⟨rfl, rfl, rfl, rfl, rfl, by decide +kernel⟩ ?hw ?hc
  case hw => w_witness2
  case hc =>
    refine VL.walkG (l := PySem.Challenge.rw_stepsound_k02_whole_faults_of_coders) (k := 8) rfl (by kernel_rfl) ⟨rfl, by decide, by decide⟩ ?F
    intro w mg fa h Y G hmg0
    obtain ⟨K, KX, c, x⟩ := Y
    have hmg : mg ("law" : PySem.Str) = some (.ref fa) := by
      have e : (HandSHeadRun.topDef (OpenLaw.row PySem.Challenge.rw_stepsound_k02_whole_faults_of_coders).prog 21).name = ("law" : PySem.Str) := by kernel_rfl
      rw [← e]
      exact hmg0
    have T := LW.tx KX G c x
    have ea := hmg.symm.trans T.g_law
    cases ea
    obtain ⟨fd, F⟩ := T.d_law
    exact ⟨K, fd, KX, fun s v => (L2.FunD.bindsA (ps := ["script"]) F (fun _ _ _ _ _ _ us hl => match us, hl with | [_], _ => rfl)) s [v] rfl, fun base _ _ => LW.all_ok T F LW.law_holds⟩

