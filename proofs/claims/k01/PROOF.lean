import PyProof.Rows.All
import Wide.All
import OpenK.AllK
import Wide.FinOn
import KE.KStateDown
import KE.KDictKeyed
import KE.KExcIs
import Lean
import HandS.ForMost
import HandS.ForExc
import HandS.More
import HandS.Defaults
import HandS.Head0
import HandS.Head1
import HandS.Head2
import HandS.HeadEnd
import HandS.HeadHook1
import HandS.HeadHook2
import HandS.HeadHook4
import HandS.IsInst
import HandS.TupAny
import HandS.TupMul
import HandS.TupLe
import HandS.Deep
import HandS.Walk
import HandS.CallSlots
import HandS.Flow
import HandS.Zip
import HandS.Conv
import HandS.Lambda
import PyProof.ReprRoads
import HandS.Style
import KE.GoesEnum
import KE.GoesNew
import PyProof.FactsAll.tuple_2
import HandS.ExcInit
import HandS.ExcField
import HandS.TryMany
import HandS.Wide
import KE.KExcInit
import KE.KTupSum
import KE.GoesMore
import KE.KDictDisplayH
import KE.KDictWalk
import KE.LtData
import KE.SortData
import KE.KDictSum
import KE.KDictCopyH
import HandS.DictTup
import PyProof.Transfer
import HandS.DictComp
import HandS.Text
import HandS.FStr
import PyProof.StrOps2
import KE.KUnpackStar
import HandS.SetBool
import HandS.TupSets
import HandS.RevRange
import HandS.MakeKw
import HandS.Dict
import PySem.Challenge.RW_stepsound_k01_errors
set_option Elab.async false
set_option linter.all false
set_option maxRecDepth 100000
set_option maxHeartbeats 2000000
/-! VL: plain values over the hand layer: what a def does to data, without the heap. -/
namespace VL
open PySem PySem.Spec PyProof.Rows L2
abbrev Dt := PyData
/-! ### keys of dicts: numbers, None, tuples of such -/
mutual
def keyOf : Dt → Option NestedKey
  | .none => some .none
  | .bool b => some (.num (if b = true then 1 else 0))
  | .int i => some (.num i)
  | .tuple ds => (keysOf ds).map .tup
  | .str _ => none
  | .list _ => none
  | .dict _ => none
def keysOf : List Dt → Option (List NestedKey)
  | [] => some []
  | d :: ds => (keyOf d).bind fun k => (keysOf ds).map fun ks => k :: ks
end
mutual
def nkHash : NestedKey → Int
  | .none => reduceHash 0xFCA86420
  | .num i => hashInt i
  | .text _ => 0
  | .tup ks => reduceHash (Builtin.Tuple.tupleHashOf (nkHashes ks))
def nkHashes : List NestedKey → List Int
  | [] => []
  | k :: ks => nkHash k :: nkHashes ks
end
mutual
def nkFree : NestedKey → Bool
  | .none => true
  | .num _ => true
  | .text _ => false
  | .tup ks => nkFrees ks
def nkFrees : List NestedKey → Bool
  | [] => true
  | k :: ks => nkFree k && nkFrees ks
end
mutual
theorem nkHash_eq (w : World) : ∀ {k : NestedKey}, nkFree k = true → NestedKey.hash w k = nkHash k
  | .none, _ => by rw [nkHash, NestedKey.hash]
  | .num i, _ => by rw [nkHash, NestedKey.hash]
  | .text _, h => by simp [nkFree] at h
  | .tup ks, h => by rw [nkHash, NestedKey.hash, nkHashes_eq w (by simpa only [nkFree] using h)]
theorem nkHashes_eq (w : World) : ∀ {ks : List NestedKey}, nkFrees ks = true → NestedKey.hashes w ks = nkHashes ks
  | [], _ => by rw [nkHashes, NestedKey.hashes]
  | k :: ks, h => by
    simp only [nkFrees, Bool.and_eq_true] at h
    rw [nkHashes, NestedKey.hashes, nkHash_eq w h.1, nkHashes_eq w h.2]
end
mutual
theorem keyOf_free : ∀ {d : Dt} {k : NestedKey}, keyOf d = some k → nkFree k = true
  | .none, k, h => by simp only [keyOf, Option.some.injEq] at h; subst h; rfl
  | .bool b, k, h => by simp only [keyOf, Option.some.injEq] at h; subst h; rfl
  | .int i, k, h => by simp only [keyOf, Option.some.injEq] at h; subst h; rfl
  | .tuple ds, k, h => by
    simp only [keyOf, Option.map_eq_some_iff] at h
    obtain ⟨ks, h1, rfl⟩ := h
    rw [nkFree]
    exact keysOf_free h1
  | .str _, k, h => by simp [keyOf] at h
  | .list _, k, h => by simp [keyOf] at h
  | .dict _, k, h => by simp [keyOf] at h
theorem keysOf_free : ∀ {ds : List Dt} {ks : List NestedKey}, keysOf ds = some ks → nkFrees ks = true
  | [], ks, h => by simp only [keysOf, Option.some.injEq] at h; subst h; rfl
  | d :: ds, ks, h => by
    simp only [keysOf, Option.bind_eq_some_iff, Option.map_eq_some_iff] at h
    obtain ⟨k, h1, ks', h2, rfl⟩ := h
    rw [nkFrees, keyOf_free h1, keysOf_free h2]
    rfl
end
/-- a dict whose keys are such tuples: the key, where its tuple stands, the value -/
def DictO (a : Addr) (es : List (NestedKey × Addr × V)) (o : Obj) : HO := .ext fun h => es.length ≤ sizeLine ∧ (a == sysModules) = false ∧ (∀ e ∈ es, nkFree e.1 = true ∧ e.1.depth ≤ 8) ∧
  ∃ xs : List (NestedKey × Addr × Value), Paired (fun p q => p.1 = q.1 ∧ p.2.1 = q.2.1 ∧ RelV p.2.2 q.2.2) es xs ∧
    ∃ ents ep, h.get? a = some o ∧ o.ExactDict ∧ o.data = .dict ents ep ∧ ents.toList = xs.map (fun x => (⟨nkHash x.1, .ref x.2.1, x.2.2⟩ : DictEntry)) ∧ (xs.map (·.1)).Nodup
/-- an own class, plain -/
structure ClsOk (K : PySem.W.Frag) (c : Str) : Prop where
  cl : Cls K (He.ga K c)
  ha : PySem.W.findIn K (.ref (He.ga K c)) "__class__" = some (some (.builtin "object.__class__"))
  hn : PySem.W.specialIn K (.builtin "object.__class__") "__get__" = some (some (.builtin "getset_descriptor.__get__"))
  htk : PySem.W.takesIn K (.builtin "object.__class__") = some true
  hm : PySem.W.mroIn K (He.ga K c) (.type "object") = some true
  ki : ∀ T ∈ ["bool", "int", "str", "list", "tuple"], PySem.W.kitOne K (.ref (He.ga K c)) (.type T) = some false
/-- an own class of errors -/
structure XCls (K : PySem.W.Frag) (c : Str) : Prop where
  hg : PySem.W.findIn K (.ref (He.ga K c)) "__getattribute__" = some (some (.builtin "BaseException.__getattribute__"))
  hk : PySem.W.findIn K (.ref (He.ga K c)) "__getattr__" = some none
  hs : PySem.W.subIn K (.ref (He.ga K c)) (.type "BaseException") = some true
  hd : PySem.W.hasDictIn K (He.ga K c) = true
  ha : PySem.W.findIn K (.ref (He.ga K c)) "__class__" = some (some (.builtin "object.__class__"))
  hn : PySem.W.specialIn K (.builtin "object.__class__") "__get__" = some (some (.builtin "getset_descriptor.__get__"))
  ht : PySem.W.takesIn K (.builtin "object.__class__") = some true
  hm : PySem.W.mroIn K (He.ga K c) (.type "object") = some true
  ki : ∀ T ∈ ["bool", "int", "str", "list", "tuple"], PySem.W.kitOne K (.ref (He.ga K c)) (.type T) = some false
/-- an error's object: its class, its dict -/
def ErrO (cls : Value) (d : Option Addr) (a : Addr) : HO := .ext fun h => ∃ (oe : Obj) (vs : Array Value), h.get? a = some oe ∧ Zc cls d oe ∧ oe.data = .fields vs
/-! ### data that stand in a part of the heap -/
mutual
inductive DR (K : PySem.W.Frag) (G : Hp) : V → Dt → Prop
  | non : DR K G .non .none
  | bl (b : Bool) : DR K G (.bl b) (.bool b)
  | int (i : Int) : DR K G (.int i) (.int i)
  | str (x : Str) : DR K G (.str x) (.str x)
  | lst {a : Addr} {xs : List V} {ds : List Dt} : G a = some (.lst xs) → DRs K G xs ds → DR K G (.ref a) (.list ds)
  | tup {a : Addr} {xs : List V} {ds : List Dt} : SqT K G a xs → DRs K G xs ds → DR K G (.ref a) (.tuple ds)
  | dic {a : Addr} : G a = some (.dK []) → DR K G (.ref a) (.dict [])
  | dct {a : Addr} {es : List (NestedKey × Addr × V)} {o : Obj} {kvs : List (Dt × Dt)} : G a = some (DictO a es o) → DKs K G es kvs → DR K G (.ref a) (.dict ((.none, .none) :: kvs))
  | ins {a dx : Addr} {c : Str} {fs : List (Str × V)} {kvs : List (Dt × Dt)} : ClsOk K c → G a = some (.ins (He.ga K c) dx fs) → G dx = some (.own a) → DFs K G fs kvs → DR K G (.ref a) (.dict ((.list [], .str c) :: kvs))
  | err {a dd : Addr} {c : Str} {fs gs : List (Str × V)} {kvs : List (Dt × Dt)} : XCls K c → G a = some (ErrO (.ref (He.ga K c)) (some dd) a) → G dd = some (.xd fs) → (∀ p ∈ gs, fs.lookup p.1 = some p.2) → DFs K G gs kvs → DR K G (.ref a) (.dict ((.list [.none], .str c) :: kvs))
  | dst {a : Addr} {fs : List (Str × V)} {kvs : List (Dt × Dt)} : G a = some (.dK (fs.map fun p => (.inr p.1, p.2))) → DFs K G fs kvs → DR K G (.ref a) (.dict ((.none, .str "") :: kvs))
inductive DRs (K : PySem.W.Frag) (G : Hp) : List V → List Dt → Prop
  | nil : DRs K G [] []
  | cons {v : V} {vs : List V} {d : Dt} {ds : List Dt} : DR K G v d → DRs K G vs ds → DRs K G (v :: vs) (d :: ds)
inductive DKs (K : PySem.W.Frag) (G : Hp) : List (NestedKey × Addr × V) → List (Dt × Dt) → Prop
  | nil : DKs K G [] []
  | cons {k : NestedKey} {b : Addr} {v : V} {kd vd : Dt} {es : List (NestedKey × Addr × V)} {kvs : List (Dt × Dt)} : DR K G (.ref b) kd → keyOf kd = some k → DR K G v vd → DKs K G es kvs → DKs K G ((k, b, v) :: es) ((kd, vd) :: kvs)
inductive DFs (K : PySem.W.Frag) (G : Hp) : List (Str × V) → List (Dt × Dt) → Prop
  | nil : DFs K G [] []
  | cons {f : Str} {v : V} {vd : Dt} {fs : List (Str × V)} {kvs : List (Dt × Dt)} : DR K G v vd → DFs K G fs kvs → DFs K G ((f, v) :: fs) ((.str f, vd) :: kvs)
end
theorem sameT {K : PySem.W.Frag} {H H' : Hp} {a : Addr} {xs : List V} (e : Same H H') (h : SqT K H a xs) : SqT K H' a xs := by
  rcases h with (h | ⟨o, h⟩) | h
  · exact .inl (.inl (e _ _ h))
  · exact .inl (.inr ⟨o, e _ _ h⟩)
  · exact .inr h
section
variable {K : PySem.W.Frag} {G H : Hp}
mutual
theorem DR.same (s : Same G H) : ∀ {v : V} {d : Dt}, DR K G v d → DR K H v d
  | _, _, .non => .non
  | _, _, .bl b => .bl b
  | _, _, .int i => .int i
  | _, _, .str x => .str x
  | _, _, .lst a r => .lst (s _ _ a) (DRs.same s r)
  | _, _, .tup a r => .tup (sameT s a) (DRs.same s r)
  | _, _, .dic a => .dic (s _ _ a)
  | _, _, .dct a r => .dct (s _ _ a) (DKs.same s r)
  | _, _, .ins k a b r => .ins k (s _ _ a) (s _ _ b) (DFs.same s r)
  | _, _, .err k a b l r => .err k (s _ _ a) (s _ _ b) l (DFs.same s r)
  | _, _, .dst a r => .dst (s _ _ a) (DFs.same s r)
theorem DRs.same (s : Same G H) : ∀ {vs : List V} {ds : List Dt}, DRs K G vs ds → DRs K H vs ds
  | _, _, .nil => .nil
  | _, _, .cons a r => .cons (DR.same s a) (DRs.same s r)
theorem DKs.same (s : Same G H) : ∀ {es : List (NestedKey × Addr × V)} {kvs : List (Dt × Dt)}, DKs K G es kvs → DKs K H es kvs
  | _, _, .nil => .nil
  | _, _, .cons a e b r => .cons (DR.same s a) e (DR.same s b) (DKs.same s r)
theorem DFs.same (s : Same G H) : ∀ {fs : List (Str × V)} {kvs : List (Dt × Dt)}, DFs K G fs kvs → DFs K H fs kvs
  | _, _, .nil => .nil
  | _, _, .cons a r => .cons (DR.same s a) (DFs.same s r)
end
mutual
theorem DR.dp : ∀ {d : Dt} {v : V}, d.hasDict = false → DR K G v d → Dp K G v d
  | .none, _, _, h => by cases h; exact .non
  | .bool b, _, _, h => by cases h; exact .bl b
  | .int i, _, _, h => by cases h; exact .int i
  | .str x, _, _, h => by cases h; exact .str x
  | .list ds, _, n, h => by
    cases h with
    | lst a r => exact .lst (SqL.of a) (DRs.dp (by simpa only [PyData.hasDict] using n) r)
  | .tuple ds, _, n, h => by
    cases h with
    | tup a r => exact .tup a (DRs.dp (by simpa only [PyData.hasDict] using n) r)
  | .dict _, _, n, h => by simp [PyData.hasDict] at n
theorem DRs.dp : ∀ {ds : List Dt} {vs : List V}, PyData.hasDictAll ds = false → DRs K G vs ds → DpAll K G vs ds
  | [], _, _, h => by cases h; exact .nil
  | d :: ds, _, n, h => by
    cases h with
    | cons a r =>
      simp only [PyData.hasDictAll, Bool.or_eq_false_iff] at n
      exact .cons (DR.dp n.1 a) (DRs.dp n.2 r)
end
theorem DRs.length : ∀ {ds : List Dt} {vs : List V}, DRs K G vs ds → vs.length = ds.length
  | [], _, h => by cases h; rfl
  | d :: ds, _, h => by
    cases h with
    | cons a r => simp [DRs.length r]
theorem DRs.get : ∀ {ds : List Dt} {vs : List V} {i : Nat} {d : Dt}, DRs K G vs ds → ds[i]? = some d → ∃ v, vs[i]? = some v ∧ DR K G v d
  | [], _, i, d, h, e => by simp at e
  | d :: ds, _, i, d', h, e => by
    cases h with
    | cons a r =>
      cases i with
      | zero => simp at e; subst e; exact ⟨_, rfl, a⟩
      | succ i =>
        obtain ⟨v, h1, h2⟩ := DRs.get r (i := i) (by simpa using e)
        exact ⟨v, by simpa using h1, h2⟩
theorem DRs.append : ∀ {ds es : List Dt} {vs us : List V}, DRs K G vs ds → DRs K G us es → DRs K G (vs ++ us) (ds ++ es)
  | [], _, _, _, h, h' => by cases h; exact h'
  | d :: ds, _, _, _, h, h' => by
    cases h with
    | cons a r => exact .cons a (DRs.append r h')
theorem DRs.drop : ∀ {ds : List Dt} {vs : List V} (n : Nat), DRs K G vs ds → DRs K G (vs.drop n) (ds.drop n)
  | _, _, 0, h => h
  | [], _, n + 1, h => by cases h; exact .nil
  | d :: ds, _, n + 1, h => by
    cases h with
    | cons a r => exact DRs.drop n r
theorem DRs.take : ∀ {ds : List Dt} {vs : List V} (n : Nat), DRs K G vs ds → DRs K G (vs.take n) (ds.take n)
  | _, _, 0, h => .nil
  | [], _, n + 1, h => by cases h; exact .nil
  | d :: ds, _, n + 1, h => by
    cases h with
    | cons a r => exact .cons a (DRs.take n r)
theorem DRs.ints : ∀ (ns : List Int), DRs K G (ns.map V.int) (ns.map PyData.int)
  | [] => .nil
  | n :: ns => .cons (.int n) (DRs.ints ns)
theorem DRs.bools : ∀ (ns : List Bool), DRs K G (ns.map V.bl) (ns.map PyData.bool)
  | [] => .nil
  | n :: ns => .cons (.bl n) (DRs.bools ns)
end
theorem same_upd {H : Hp} {p : Addr} {o : HO} (n : H p = none) : Same H (upd H p o) := fun b u e => by
  rw [upd_ne (ne_of_none e n)]; exact e
theorem same_upd2 {G H : Hp} {p : Addr} {o : HO} (s : Same G H) : Same (upd G p o) (upd H p o) := fun b u e => by
  by_cases hb : b = p
  · subst hb; rw [upd_same] at e ⊢; exact e
  · rw [upd_ne hb] at e ⊢; exact s _ _ e
/-- nothing of G' is new but what was not there -/
def New (G H G' : Hp) : Prop := ∀ a o, G' a = some o → G a = some o ∨ H a = none
theorem new_upd {G H : Hp} {p : Addr} {o : HO} (n : H p = none) : New G H (upd G p o) := fun a u e => by
  by_cases h : a = p
  · subst h; exact .inr n
  · rw [upd_ne h] at e; exact .inl e
theorem New.refl {G H : Hp} : New G H G := fun _ _ e => .inl e
/-! ### the tables of code objects -/
/-- a datum is no code object -/
theorem codeO_ne {c : Addr} {q : Str} {a : Addr} {es : List (NestedKey × Addr × V)} {o : Obj} : LamX.CodeO c q ≠ DictO a es o := fun e => by
  unfold LamX.CodeO DictO at e
  have e1 := HO.ext.inj e
  have key : ∀ h : Heap, (∃ (oc : Obj) (vs : Array Value) (t : Tok), h.get? c = some oc ∧ oc.data = .fields vs ∧ vs[1]? = some (.str q t)) → ∃ (o : Obj) (ents : Array DictEntry) (ep : Nat), h.get? a = some o ∧ o.data = .dict ents ep := fun h hh => by
    have e2 : _ = _ := congrFun e1 h
    have hh' := e2 ▸ hh
    obtain ⟨_, _, _, xs, _, ents, ep, h1, _, h2, _⟩ := hh'
    exact ⟨o, ents, ep, h1, h2⟩
  have h0 := key ⟨Array.replicate (c + a + 1) { cls := .none, data := .fields #[.none, .str q default] }, {}⟩
  have g : ∀ b, b < c + a + 1 → (⟨Array.replicate (c + a + 1) { cls := .none, data := .fields #[.none, .str q default] }, {}⟩ : Heap).get? b = some { cls := .none, data := .fields #[.none, .str q default] } := fun b hb => by
    have e1 : (Array.replicate (c + a + 1) ({ cls := .none, data := .fields #[.none, .str q default] } : Obj))[b]? = some { cls := .none, data := .fields #[.none, .str q default] } := by
      rw [Array.getElem?_replicate, if_pos hb]
    simp only [Heap.get?, e1]
  obtain ⟨o, ents, ep, h1, h2⟩ := h0 ⟨_, _, default, g c (Nat.lt_succ_of_le (Nat.le_add_right c a)), rfl, rfl⟩
  rw [g a (Nat.lt_succ_of_le (Nat.le_add_left a c))] at h1
  cases h1
  cases h2
/-- the tables stand, and out of O -/
structure TbO (T L : List (Addr × Str)) (O H : Hp) : Prop where
  at_ : LamX.Tabs T H
  out : ∀ p ∈ T, O p.1 = none
  lam : ∀ p ∈ L, H p.1 = some (LamX.CodeO p.1 p.2)
/-- a thing that is no table and no code object -/
def Plain (o : HO) : Prop := (∀ ps, o ≠ .tbl ps) ∧ ∀ c q, o ≠ LamX.CodeO c q
theorem plain_lst {xs : List V} : Plain (.lst xs) := ⟨fun _ e => (by cases e), fun _ _ e => (by unfold LamX.CodeO at e; cases e)⟩
theorem plain_dK {xs} : Plain (.dK xs) := ⟨fun _ e => (by cases e), fun _ _ e => (by unfold LamX.CodeO at e; cases e)⟩
theorem plain_ins {C dx fs} : Plain (.ins C dx fs) := ⟨fun _ e => (by cases e), fun _ _ e => (by unfold LamX.CodeO at e; cases e)⟩
theorem plain_own {a} : Plain (.own a) := ⟨fun _ e => (by cases e), fun _ _ e => (by unfold LamX.CodeO at e; cases e)⟩
theorem plain_dct {a es o} : Plain (DictO a es o) := ⟨fun _ e => (by unfold DictO at e; cases e), fun _ _ e => codeO_ne e.symm⟩
theorem tabs_upd {T : List (Addr × Str)} {H : Hp} {a : Addr} {o u : HO} (t : LamX.Tabs T H) (h : H a = some u ∧ Plain u ∨ H a = none) : LamX.Tabs T (upd H a o) := fun p hp => by
  obtain ⟨ps, h1, h2, h3⟩ := t p hp
  have n1 : p.1 ≠ a := fun e => by
    rw [e] at h1
    rcases h with ⟨h, z, _⟩ | h
    · rw [h] at h1; cases h1; exact z _ rfl
    · rw [h] at h1; cases h1
  refine ⟨ps, by rw [upd_ne n1]; exact h1, h2, fun pos cv hc => ?_⟩
  obtain ⟨c, e1, e2⟩ := h3 pos cv hc
  have n2 : c ≠ a := fun e => by
    rw [e] at e2
    rcases h with ⟨h, _, z⟩ | h
    · rw [h] at e2; cases e2; exact z _ _ rfl
    · rw [h] at e2; cases e2
  exact ⟨c, e1, by rw [upd_ne n2]; exact e2⟩
/-- the defs that may make lambdas -/
def lamU : List He.Defn := [("law", none), ("_law_right", none), ("_law_nine_right", none), ("_law_tiny_right", none), ("_law_refused_right", none), ("_law_begins_right", none), ("_law_stretch_right", none), ("_law_sum_right", none), ("_law_long_right", none), ("_law_times_right", none), ("_law_deed", none), ("_law_levels_right", none), ("_law_full_right", none), ("_law_none_right", none), ("_law_go", none), ("_law_first", none), ("_law_second", none), ("_law_third", none)]
def lamNm (p : He.Defn) : Str := p.1 ++ ".<locals>." ++ "<lambda>"
def hasFn (K : PySem.W.Frag) (p : He.Defn) : Bool := (match K.lookup (He.fAd K p) with | some ⟨_, _, .func _, _⟩ => true | _ => false) && (K.lookup (He.cT K p).2).isNone
def lamT (K : PySem.W.Frag) (tf : List He.Defn) : List (Addr × Str) := tf.map fun p => ((He.cT K p).2, lamNm p)
/-- their tables -/
def tabT (K : PySem.W.Frag) : List (Addr × Str) := lamT K (lamU.filter (hasFn K))
/-! ### the machine of the draws -/
def mKvs (lc ll : Addr) (z : Int) : List (L2.Key × V) := [(.inr "cells", .ref lc), (.inr "left", .ref ll), (.inr "at", .int z)]
structure Mach (m : Addr) (n : Nat) (O H : Hp) : Prop where
  same : Same O H
  om : O m = none
  ex : ∃ (lc ll : Addr) (cs ls : List Int) (z : Int), O lc = none ∧ O ll = none ∧ lc ≠ ll ∧ H m = some (.dK (mKvs lc ll z)) ∧ H lc = some (.lst (cs.map V.int)) ∧ H ll = some (.lst (ls.map V.int)) ∧ 0 ≤ z ∧ z ≤ n ∧ cs.length ≤ 63 ∧ ls.length ≤ 63
def Good (mo : Option Addr) (n : Nat) (O H : Hp) : Prop := match mo with
  | none => Same O H
  | some m => Mach m n O H
theorem Good.same {mo : Option Addr} {n : Nat} {O H : Hp} (g : Good mo n O H) : Same O H := by
  cases mo with
  | none => exact g
  | some m => exact Mach.same g
/-- O and H changed alike at an address of O's, or at a free one -/
theorem Good.upd {mo : Option Addr} {n : Nat} {O H : Hp} {p : Addr} {o : HO} (g : Good mo n O H) (h : O p ≠ none ∨ H p = none) : Good mo n (upd O p o) (upd H p o) := by
  cases mo with
  | none => exact same_upd2 g
  | some m =>
    obtain ⟨s, om, lc, ll, cs, ls, z, h1, h2, h3, h4, h5, h6, r⟩ := g
    have ne : ∀ {q : Addr} {u : HO}, O q = none → H q = some u → q ≠ p := fun {q u} a b e => by
      subst e
      rcases h with h | h
      · exact h a
      · rw [h] at b; cases b
    exact ⟨same_upd2 s, by rw [upd_ne (ne om h4)]; exact om, lc, ll, cs, ls, z, by rw [upd_ne (ne h1 h5)]; exact h1, by rw [upd_ne (ne h2 h6)]; exact h2, h3, by rw [upd_ne (ne om h4)]; exact h4,
      by rw [upd_ne (ne h1 h5)]; exact h5, by rw [upd_ne (ne h2 h6)]; exact h6, r⟩
/-- the grown part -/
def grow (O H H' : Hp) : Hp := fun a => match H a with
  | none => H' a
  | some _ => O a
theorem grow_old {O H H' : Hp} {a : Addr} {o : HO} (h : H a = some o) : grow O H H' a = O a := by unfold grow; rw [h]
theorem grow_new {O H H' : Hp} {a : Addr} (h : H a = none) : grow O H H' a = H' a := by unfold grow; rw [h]
theorem grow_same {O H H' : Hp} (s : Same O H) : Same O (grow O H H') := fun a o e => by rw [grow_old (s _ _ e)]; exact e
theorem Good.grow {mo : Option Addr} {n : Nat} {O H H' : Hp} (g : Good mo n O H) (s : Same H H') : Good mo n (grow O H H') H' := by
  have sg : Same (VL.grow O H H') H' := fun a o e => by
    cases q : H a with
    | none => rw [grow_new q] at e; exact e
    | some u => rw [grow_old q] at e; rw [s _ _ q, ← q]; exact g.same _ _ e
  cases mo with
  | none => exact sg
  | some m =>
    obtain ⟨s0, om, lc, ll, cs, ls, z, h1, h2, h3, h4, h5, h6, r⟩ := g
    exact ⟨sg, by rw [grow_old h4]; exact om, lc, ll, cs, ls, z, by rw [grow_old h5]; exact h1, by rw [grow_old h6]; exact h2, h3, s _ _ h4, s _ _ h5, s _ _ h6, r⟩
theorem TbO.grow {T L : List (Addr × Str)} {O H H' : Hp} (t : TbO T L O H) (s : Same H H') : TbO T L (grow O H H') H' := ⟨t.at_.ext s, fun p hp => by
  obtain ⟨ps, h1, _⟩ := t.at_ p hp
  rw [grow_old h1]
  exact t.out p hp, fun p hp => s _ _ (t.lam p hp)⟩
theorem lam_upd {L : List (Addr × Str)} {H : Hp} {a : Addr} {o u : HO} (t : ∀ p ∈ L, H p.1 = some (LamX.CodeO p.1 p.2)) (h : H a = some u ∧ Plain u ∨ H a = none) : ∀ p ∈ L, upd H a o p.1 = some (LamX.CodeO p.1 p.2) := fun p hp => by
  have e := t p hp
  rw [upd_ne fun z => by
    rw [z] at e
    rcases h with ⟨h, _, q⟩ | h
    · rw [h] at e; exact q _ _ (Option.some.inj e)
    · rw [h] at e; cases e]
  exact e
theorem TbO.upd {T L : List (Addr × Str)} {O H : Hp} {a : Addr} {o u : HO} (t : TbO T L O H) (ho : O a = some u) (h : H a = some u) (p : Plain u) : TbO T L (upd O a o) (upd H a o) := ⟨tabs_upd t.at_ (.inl ⟨h, p⟩), fun q hq => by
  rw [upd_ne fun e => by have := t.out q hq; rw [e, ho] at this; cases this]
  exact t.out q hq, lam_upd t.lam (.inl ⟨h, p⟩)⟩
/-- an own error: its class's name, its fields -/
structure Exc where
  name : Str
  fs : List (Str × Dt)
def ExcAt (K : PySem.W.Frag) (G : Hp) (x : Exc) (cls : Value) (d : Option Addr) : Prop :=
  cls = .ref (He.ga K x.name) ∧ ∃ a fs, d = some a ∧ G a = some (.xd fs) ∧ ∀ f dv, x.fs.lookup f = some dv → ∃ v, fs.lookup f = some v ∧ DR K G v dv
theorem ExcAt.same {K : PySem.W.Frag} {G G' : Hp} {x : Exc} {cls : Value} {d : Option Addr} (s : Same G G') (h : ExcAt K G x cls d) : ExcAt K G' x cls d := by
  obtain ⟨h1, a, fs, h2, h3, h4⟩ := h
  refine ⟨h1, a, fs, h2, s _ _ h3, fun f dv e => ?_⟩
  obtain ⟨v, e1, r⟩ := h4 f dv e
  exact ⟨v, e1, DR.same s r⟩
/-! ### what a name stands for -/
/-- what a thing of one's own holds: a datum, or a list of its own -/
inductive Cl where
  | d (x : Dt)
  | l (xs : List Dt)
inductive W where
  | dat (d : Dt)
  /-- a list of one's own: no other name, no datum has it -/
  | own (ds : List Dt)
  /-- the machine of the draws -/
  | tok
  /-- the script -/
  | scr (ns : List Int)
  /-- an error in hand: where it stands, what it is -/
  | err (p : Addr × Value × Option Addr) (x : Exc)
  /-- a lambda: where it stands, its code object and name -/
  | lam (f c : Addr) (q : Str) (mo : Option Addr) (G : Hp)
  /-- a dict of one's own -/
  | dct (kvs : List (Dt × Cl))
  /-- an instance of one's own -/
  | obj (c : Str) (fs : List (Str × Cl))
abbrev Nv := List (Option W)
structure Ct where
  mo : Option Addr
  T : List (Addr × Str)
  L : List (Addr × Str)
  G0 : Hp
  O0 : Hp
  H0 : Hp
abbrev Ct.e (C : Ct) : Option Addr × List (Addr × Str) := (C.mo, C.L)
/-- it stands at a, of one's own -/
structure Ow (C : Ct) (G O : Hp) (a : Addr) (o : HO) : Prop where
  g : G a = none
  h0 : C.H0 a = none
  o : O a = some o
def RelC (K : PySem.W.Frag) (C : Ct) (G O : Hp) : Cl → V → List Addr → Prop
  | .d x, v, fp => DR K G v x ∧ fp = []
  | .l ds, v, fp => ∃ a xs, v = .ref a ∧ fp = [a] ∧ Ow C G O a (.lst xs) ∧ DRs K G xs ds
inductive DCs (K : PySem.W.Frag) (C : Ct) (G O : Hp) : List (NestedKey × Addr × V) → List (Dt × Cl) → List Addr → Prop
  | nil : DCs K C G O [] [] []
  | cons {k : NestedKey} {b : Addr} {v : V} {kd : Dt} {c : Cl} {fp fps : List Addr} {es : List (NestedKey × Addr × V)} {kvs : List (Dt × Cl)} : DR K G (.ref b) kd → keyOf kd = some k → RelC K C G O c v fp → (∀ x ∈ fp, x ∉ fps) → DCs K C G O es kvs fps → DCs K C G O ((k, b, v) :: es) ((kd, c) :: kvs) (fp ++ fps)
inductive FCs (K : PySem.W.Frag) (C : Ct) (G O : Hp) : List (Str × V) → List (Str × Cl) → List Addr → Prop
  | nil : FCs K C G O [] [] []
  | cons {f : Str} {v : V} {c : Cl} {fp fps : List Addr} {es : List (Str × V)} {kvs : List (Str × Cl)} : RelC K C G O c v fp → (∀ x ∈ fp, x ∉ fps) → FCs K C G O es kvs fps → FCs K C G O ((f, v) :: es) ((f, c) :: kvs) (fp ++ fps)
/-- the thing, and where it stands -/
def RelF (K : PySem.W.Frag) (C : Ct) (G O : Hp) : W → V → List Addr → Prop
  | .dat d, v, fp => DR K G v d ∧ fp = []
  | .own ds, v, fp => ∃ a xs, v = .ref a ∧ fp = [a] ∧ Ow C G O a (.lst xs) ∧ DRs K G xs ds
  | .tok, v, fp => (∃ m, C.mo = some m ∧ v = .ref m) ∧ fp = []
  | .scr ns, v, fp => (∃ a, v = .ref a ∧ SqL K G a (ns.map V.int)) ∧ fp = []
  | .err p x, v, fp => (v = .ref p.1 ∧ ExcAt K G x p.2.1 p.2.2) ∧ fp = []
  | .lam f c q mo G1, v, fp => (v = .ref f ∧ (c, q) ∈ C.L ∧ C.mo = mo ∧ Same G1 G) ∧ fp = []
  | .dct kvs, v, fp => ∃ a es fps ob, v = .ref a ∧ fp = a :: fps ∧ a ∉ fps ∧ Ow C G O a (DictO a es ob) ∧ DCs K C G O es kvs fps
  | .obj c fs, v, fp => ClsOk K c ∧ ∃ a dx vs fps, v = .ref a ∧ fp = a :: dx :: fps ∧ a ≠ dx ∧ a ∉ fps ∧ dx ∉ fps ∧ Ow C G O a (.ins (He.ga K c) dx vs) ∧ Ow C G O dx (.own a) ∧ FCs K C G O vs fs fps
def RelW (K : PySem.W.Frag) (C : Ct) (G O : Hp) : W → V → Prop
  | .dat d, v => DR K G v d
  | .own ds, v => ∃ a xs, v = .ref a ∧ G a = none ∧ C.H0 a = none ∧ O a = some (.lst xs) ∧ DRs K G xs ds
  | .tok, v => ∃ m, C.mo = some m ∧ v = .ref m
  | .scr ns, v => ∃ a, v = .ref a ∧ SqL K G a (ns.map V.int)
  | .err p x, v => v = .ref p.1 ∧ ExcAt K G x p.2.1 p.2.2
  | .lam f c q mo G1, v => v = .ref f ∧ (c, q) ∈ C.L ∧ C.mo = mo ∧ Same G1 G
  | .dct kvs, v => ∃ fp, RelF K C G O (.dct kvs) v fp
  | .obj c fs, v => ∃ fp, RelF K C G O (.obj c fs) v fp
section
variable {K : PySem.W.Frag} {C C' : Ct} {G O H G' O' H' : Hp}
theorem RelF.w {w : W} {v : V} {fp : List Addr} (r : RelF K C G O w v fp) : RelW K C G O w v := by
  cases w with
  | dat d => exact r.1
  | own ds => obtain ⟨a, xs, e, _, o, q⟩ := r; exact ⟨a, xs, e, o.g, o.h0, o.o, q⟩
  | tok => exact r.1
  | scr ns => exact r.1
  | err p x => exact r.1
  | lam f c q mo G1 => exact r.1
  | dct kvs => exact ⟨fp, r⟩
  | obj c fs => exact ⟨fp, r⟩
theorem RelW.f {w : W} {v : V} (r : RelW K C G O w v) : ∃ fp, RelF K C G O w v fp := by
  cases w with
  | dat d => exact ⟨[], r, rfl⟩
  | own ds => obtain ⟨a, xs, e, h1, h2, h3, q⟩ := r; exact ⟨[a], a, xs, e, rfl, ⟨h1, h2, h3⟩, q⟩
  | tok => exact ⟨[], r, rfl⟩
  | scr ns => exact ⟨[], r, rfl⟩
  | err p x => exact ⟨[], r, rfl⟩
  | lam f c q mo G1 => exact ⟨[], r, rfl⟩
  | dct kvs => exact r
  | obj c fs => exact r
/-- the same places seen from elsewhere -/
structure Sees (C C' : Ct) (G O G' O' : Hp) (fp : List Addr) : Prop where
  sg : Same G G'
  at_ : ∀ b ∈ fp, O' b = O b ∧ G' b = none ∧ C'.H0 b = none
theorem Sees.sub {fp fp' : List Addr} (s : Sees C C' G O G' O' fp) (h : ∀ b ∈ fp', b ∈ fp) : Sees C C' G O G' O' fp' := ⟨s.sg, fun b hb => s.at_ b (h b hb)⟩
theorem Ow.see {a : Addr} {o : HO} {fp : List Addr} (w : Ow C G O a o) (s : Sees C C' G O G' O' fp) (h : a ∈ fp) : Ow C' G' O' a o := ⟨(s.at_ a h).2.1, (s.at_ a h).2.2, by rw [(s.at_ a h).1]; exact w.o⟩
theorem RelC.see {c : Cl} {v : V} {fp : List Addr} (r : RelC K C G O c v fp) (s : Sees C C' G O G' O' fp) : RelC K C' G' O' c v fp := by
  cases c with
  | d x => exact ⟨DR.same s.sg r.1, r.2⟩
  | l ds => obtain ⟨a, xs, e, e2, o, q⟩ := r; exact ⟨a, xs, e, e2, o.see s (by rw [e2]; exact List.mem_singleton.mpr rfl), DRs.same s.sg q⟩
theorem DCs.see {es : List (NestedKey × Addr × V)} {kvs : List (Dt × Cl)} {fp : List Addr} (r : DCs K C G O es kvs fp) (s : Sees C C' G O G' O' fp) : DCs K C' G' O' es kvs fp := by
  induction r with
  | nil => exact .nil
  | cons a e b d r ih => exact .cons (DR.same s.sg a) e (b.see (s.sub fun _ h => List.mem_append_left _ h)) d (ih (s.sub fun _ h => List.mem_append_right _ h))
theorem FCs.see {es : List (Str × V)} {kvs : List (Str × Cl)} {fp : List Addr} (r : FCs K C G O es kvs fp) (s : Sees C C' G O G' O' fp) : FCs K C' G' O' es kvs fp := by
  induction r with
  | nil => exact .nil
  | cons b d r ih => exact .cons (b.see (s.sub fun _ h => List.mem_append_left _ h)) d (ih (s.sub fun _ h => List.mem_append_right _ h))
theorem RelF.see {w : W} {v : V} {fp : List Addr} (r : RelF K C G O w v fp) (s : Sees C C' G O G' O' fp) (hm : C'.e = C.e) : RelF K C' G' O' w v fp := by
  cases w with
  | dat d => exact ⟨DR.same s.sg r.1, r.2⟩
  | own ds => obtain ⟨a, xs, e, e2, o, q⟩ := r; exact ⟨a, xs, e, e2, o.see s (by rw [e2]; exact List.mem_singleton.mpr rfl), DRs.same s.sg q⟩
  | tok => rw [RelF, show C'.mo = C.mo from congrArg Prod.fst hm]; exact r
  | lam f c q mo G1 => exact ⟨⟨r.1.1, by rw [show C'.L = C.L from congrArg Prod.snd hm]; exact r.1.2.1, by rw [show C'.mo = C.mo from congrArg Prod.fst hm]; exact r.1.2.2.1, r.1.2.2.2.trans s.sg⟩, r.2⟩
  | scr ns => obtain ⟨⟨a, e, h⟩, e2⟩ := r; exact ⟨⟨a, e, s.sg.seq h⟩, e2⟩
  | err p x => exact ⟨⟨r.1.1, r.1.2.same s.sg⟩, r.2⟩
  | dct kvs =>
    obtain ⟨a, es, fps, ob, e, e2, n, o, q⟩ := r
    exact ⟨a, es, fps, ob, e, e2, n, o.see s (by rw [e2]; exact List.mem_cons_self), q.see (s.sub fun _ h => by rw [e2]; exact List.mem_cons_of_mem _ h)⟩
  | obj c fs =>
    obtain ⟨kk, a, dx, vs, fps, e, e2, n1, n2, n3, o1, o2, q⟩ := r
    exact ⟨kk, a, dx, vs, fps, e, e2, n1, n2, n3, o1.see s (by rw [e2]; exact List.mem_cons_self), o2.see s (by rw [e2]; exact List.mem_cons_of_mem _ List.mem_cons_self), q.see (s.sub fun _ h => by rw [e2]; exact List.mem_cons_of_mem _ (List.mem_cons_of_mem _ h))⟩
theorem RelC.ow {c : Cl} {v : V} {fp : List Addr} (r : RelC K C G O c v fp) : ∀ b ∈ fp, ∃ o, Ow C G O b o ∧ Plain o := fun b hb => by
  cases c with
  | d x => rw [r.2] at hb; cases hb
  | l ds => obtain ⟨a, xs, e, e2, o, q⟩ := r; rw [e2] at hb; rw [List.mem_singleton.mp hb]; exact ⟨_, o, plain_lst⟩
theorem DCs.ow {es : List (NestedKey × Addr × V)} {kvs : List (Dt × Cl)} {fp : List Addr} (r : DCs K C G O es kvs fp) : ∀ b ∈ fp, ∃ o, Ow C G O b o ∧ Plain o := by
  induction r with
  | nil => intro b hb; cases hb
  | cons a e q d r ih =>
    intro b hb
    rcases List.mem_append.mp hb with h | h
    · exact q.ow b h
    · exact ih b h
theorem FCs.ow {es : List (Str × V)} {kvs : List (Str × Cl)} {fp : List Addr} (r : FCs K C G O es kvs fp) : ∀ b ∈ fp, ∃ o, Ow C G O b o ∧ Plain o := by
  induction r with
  | nil => intro b hb; cases hb
  | cons q d r ih =>
    intro b hb
    rcases List.mem_append.mp hb with h | h
    · exact q.ow b h
    · exact ih b h
theorem RelF.ow {w : W} {v : V} {fp : List Addr} (r : RelF K C G O w v fp) : ∀ b ∈ fp, ∃ o, Ow C G O b o ∧ Plain o := fun b hb => by
  cases w with
  | dat d => rw [r.2] at hb; cases hb
  | own ds => obtain ⟨a, xs, e, e2, o, q⟩ := r; rw [e2] at hb; rw [List.mem_singleton.mp hb]; exact ⟨_, o, plain_lst⟩
  | tok => rw [r.2] at hb; cases hb
  | scr ns => rw [r.2] at hb; cases hb
  | err p x => rw [r.2] at hb; cases hb
  | lam f c q mo G1 => rw [r.2] at hb; cases hb
  | dct kvs =>
    obtain ⟨a, es, fps, ob, e, e2, n, o, q⟩ := r
    rw [e2] at hb
    rcases List.mem_cons.mp hb with h | h
    · rw [h]; exact ⟨_, o, plain_dct⟩
    · exact q.ow b h
  | obj c fs =>
    obtain ⟨kk, a, dx, vs, fps, e, e2, n1, n2, n3, o1, o2, q⟩ := r
    rw [e2] at hb
    rcases List.mem_cons.mp hb with h | h
    · rw [h]; exact ⟨_, o1, plain_ins⟩
    · rcases List.mem_cons.mp h with h | h
      · rw [h]; exact ⟨_, o2, plain_own⟩
      · exact q.ow b h
end
/-- all but the names -/
structure Io (C : Ct) (n : Nat) (G O H : Hp) : Prop where
  good : Good C.mo n O H
  go : Same G O
  g0 : Same C.G0 G
  o0 : Same C.O0 O
  oh : Same C.O0 C.H0
  nO : New C.O0 C.H0 O
  nG : New C.G0 C.H0 G
  h0 : ∀ a, H a = none → C.H0 a = none
  tb : TbO C.T C.L O H
/-- the names stand for things that stand apart -/
structure Sl (K : PySem.W.Frag) (C : Ct) (σ : L2.St) (ρ : Nv) (G O : Hp) (F : Nat → List Addr) : Prop where
  at_ : ∀ (i : Nat) (w : W), ρ[i]? = some (some w) → ∃ v, σ[i]? = some (some v) ∧ RelF K C G O w v (F i)
  ap : ∀ (i j : Nat) (w u : W), i ≠ j → ρ[i]? = some (some w) → ρ[j]? = some (some u) → ∀ b ∈ F i, b ∉ F j
structure In (K : PySem.W.Frag) (C : Ct) (σ : L2.St) (ρ : Nv) (n : Nat) (G O H : Hp) : Prop extends Io C n G O H where
  ht : C.T = tabT K
  len : σ.length = ρ.length
  sep : ∃ F, Sl K C σ ρ G O F
/-- a thing of one's own that no name has -/
def FrW (K : PySem.W.Frag) (C : Ct) (σ : L2.St) (ρ : Nv) (G O : Hp) (w : W) (v : V) : Prop :=
  ∃ F fp, Sl K C σ ρ G O F ∧ RelF K C G O w v fp ∧ ∀ (j : Nat) (u : W), ρ[j]? = some (some u) → ∀ b ∈ fp, b ∉ F j
theorem FrW.w {K : PySem.W.Frag} {C : Ct} {σ : L2.St} {ρ : Nv} {G O : Hp} {w : W} {v : V} (f : FrW K C σ ρ G O w v) : RelW K C G O w v := by
  obtain ⟨F, fp, _, r, _⟩ := f
  exact r.w
section
variable {K : PySem.W.Frag} {C C' : Ct} {σ : L2.St} {ρ : Nv} {n : Nat} {G O H G' O' H' : Hp} {F : Nat → List Addr}
theorem Io.oH (I : Io C n G O H) : Same O H := I.good.same
theorem Io.gH (I : Io C n G O H) : Same G H := I.go.trans I.oH
theorem In.slot (I : In K C σ ρ n G O H) (i : Nat) (w : W) (e : ρ[i]? = some (some w)) : ∃ v, σ[i]? = some (some v) ∧ RelW K C G O w v := by
  obtain ⟨F, S⟩ := I.sep
  obtain ⟨v, h1, h2⟩ := S.at_ i w e
  exact ⟨v, h1, h2.w⟩
theorem Sl.see (S : Sl K C σ ρ G O F) (sg : Same G G') (h : ∀ (i : Nat) (w : W), ρ[i]? = some (some w) → ∀ b ∈ F i, O' b = O b ∧ G' b = none ∧ C'.H0 b = none) (hm : C'.e = C.e) : Sl K C' σ ρ G' O' F :=
  ⟨fun i w e => by
    obtain ⟨v, h1, h2⟩ := S.at_ i w e
    exact ⟨v, h1, h2.see ⟨sg, h i w e⟩ hm⟩, S.ap⟩
theorem Sl.ow (S : Sl K C σ ρ G O F) {i : Nat} {w : W} (e : ρ[i]? = some (some w)) : ∀ b ∈ F i, ∃ o, Ow C G O b o ∧ Plain o := by
  obtain ⟨v, _, h⟩ := S.at_ i w e
  exact h.ow
theorem Io.pure (I : Io C n G O H) (sh : Same H H') (sg : Same G G') (sgh : Same G' H') (nw : New G H G') : Io C n G' (grow O H H') H' := by
  have hn : ∀ a, H' a = none → H a = none := fun a e => by
    cases q : H a with
    | none => rfl
    | some o => rw [sh _ _ q] at e; cases e
  refine ⟨I.good.grow sh, fun a o e => ?_, I.g0.trans sg, I.o0.trans (grow_same I.oH), I.oh, fun a o e => ?_, fun a o e => ?_, fun a e => I.h0 a (hn a e), I.tb.grow sh⟩
  · rcases nw a o e with q | q
    · rw [grow_old (I.gH _ _ q)]; exact I.go _ _ q
    · rw [grow_new q]; exact sgh _ _ e
  · cases q : H a with
    | none => exact .inr (I.h0 a q)
    | some u => rw [grow_old q] at e; exact I.nO a o e
  · rcases nw a o e with q | q
    · exact I.nG a o q
    · exact .inr (I.h0 a q)
theorem Sl.pure (S : Sl K C σ ρ G O F) (I : Io C n G O H) (sg : Same G G') (nw : New G H G') : Sl K C σ ρ G' (grow O H H') F := S.see sg (fun i w e b hb => by
  obtain ⟨o, w, _⟩ := S.ow e b hb
  have hh := I.oH _ _ w.o
  refine ⟨grow_old hh, ?_, w.h0⟩
  cases z : G' b with
  | none => rfl
  | some u =>
    rcases nw b u z with y | y
    · rw [w.g] at y; cases y
    · rw [hh] at y; cases y) rfl
/-- a step that changes nothing old -/
theorem In.pure (I : In K C σ ρ n G O H) (sh : Same H H') (sg : Same G G') (sgh : Same G' H') (nw : New G H G') : In K C σ ρ n G' (grow O H H') H' := by
  obtain ⟨F, S⟩ := I.sep
  exact ⟨I.toIo.pure sh sg sgh nw, I.ht, I.len, F, S.pure I.toIo sg nw⟩
/-- a new frozen thing -/
theorem In.new {p : Addr} {o : HO} (I : In K C σ ρ n G O H) (hp : H p = none) : In K C σ ρ n (upd G p o) (grow O H (upd H p o)) (upd H p o) :=
  I.pure (same_upd hp) (same_upd (by cases q : G p with | none => rfl | some u => rw [I.gH _ _ q] at hp; cases hp)) (same_upd2 I.gH) (new_upd hp)
theorem In.gfree {p : Addr} (I : Io C n G O H) (hp : H p = none) : G p = none := by
  cases q : G p with | none => rfl | some u => rw [I.gH _ _ q] at hp; cases hp
theorem In.newSame {p : Addr} {o : HO} (I : Io C n G O H) (hp : H p = none) : Same G (upd G p o) := same_upd (In.gfree I hp)
theorem In.dat (I : In K C σ ρ n G O H) {v : V} {d : Dt} (r : DR K G v d) : FrW K C σ ρ G O (.dat d) v := by
  obtain ⟨F, S⟩ := I.sep
  exact ⟨F, [], S, ⟨r, rfl⟩, fun _ _ _ b hb => by cases hb⟩
/-- a name is given a thing -/
theorem In.setW (I : In K C σ ρ n G O H) (i : Nat) {v : V} {w : W} (f : FrW K C σ ρ G O w v) : In K C (σ.set i (some v)) (ρ.set i (some w)) n G O H := by
  obtain ⟨F, fp, S, r, ap⟩ := f
  have old : ∀ {j : Nat} {u : W}, i ≠ j → (ρ.set i (some w))[j]? = some (some u) → ρ[j]? = some (some u) := fun {j u} h e => by rw [List.getElem?_set_ne h] at e; exact e
  have lt : ∀ {u : W}, (ρ.set i (some w))[i]? = some (some u) → i < ρ.length ∧ u = w := fun {u} e => by
    by_cases hi : i < ρ.length
    · rw [List.getElem?_set_self hi] at e; cases e; exact ⟨hi, rfl⟩
    · rw [List.getElem?_eq_none (by simpa using hi)] at e; cases e
  refine ⟨I.toIo, I.ht, by simp [I.len], fun j => if j = i then fp else F j, fun j u e => ?_, fun j k u x jk e1 e2 b hb => ?_⟩
  · by_cases h : i = j
    · subst h
      obtain ⟨hi, rfl⟩ := lt e
      exact ⟨v, by rw [List.getElem?_set_self (by rw [I.len]; exact hi)], by rw [if_pos rfl]; exact r⟩
    · obtain ⟨u', h1, h2⟩ := S.at_ j u (old h e)
      exact ⟨u', by rw [List.getElem?_set_ne h]; exact h1, by rw [if_neg (Ne.symm h)]; exact h2⟩
  · try dsimp only at hb ⊢
    by_cases hj : i = j
    · subst hj
      rw [if_pos rfl] at hb
      rw [if_neg (Ne.symm jk)]
      exact ap k x (old jk e2) b hb
    · rw [if_neg (Ne.symm hj)] at hb
      by_cases hk : i = k
      · subst hk
        rw [if_pos rfl]
        exact fun z => ap j u (old hj e1) b z hb
      · rw [if_neg (Ne.symm hk)]
        exact S.ap j k u x jk (old hj e1) (old hk e2) b hb
/-- a name is given a datum -/
theorem In.set (I : In K C σ ρ n G O H) (i : Nat) {v : V} {d : Dt} (r : DR K G v d) : In K C (σ.set i (some v)) (ρ.set i (some (.dat d))) n G O H := I.setW i (I.dat r)
/-! what is one's own becomes a datum -/
def fzC : Cl → Dt
  | .d x => x
  | .l ds => .list ds
def fzW : W → Dt
  | .dat d => d
  | .own ds => .list ds
  | .dct kvs => .dict ((.none, .none) :: kvs.map fun p => (p.1, fzC p.2))
  | .obj c fs => .dict ((.list [], .str c) :: fs.map fun p => (.str p.1, fzC p.2))
  | _ => .none
open Classical in
noncomputable def frz (G O : Hp) (fp : List Addr) : Hp := fun a => if a ∈ fp then O a else G a
theorem frz_in {fp : List Addr} {a : Addr} (h : a ∈ fp) : frz G O fp a = O a := if_pos h
theorem frz_out {fp : List Addr} {a : Addr} (h : a ∉ fp) : frz G O fp a = G a := if_neg h
theorem frz_same {fp : List Addr} (h : ∀ b ∈ fp, G b = none) : Same G (frz G O fp) := fun a o e => by
  by_cases ha : a ∈ fp
  · rw [h a ha] at e; cases e
  · rw [frz_out ha]; exact e
theorem RelC.frz {c : Cl} {v : V} {fp fp' : List Addr} (r : RelC K C G O c v fp) (h : ∀ b ∈ fp, b ∈ fp') (s : Same G (frz G O fp')) : DR K (frz G O fp') v (fzC c) := by
  cases c with
  | d x => exact DR.same s r.1
  | l ds =>
    obtain ⟨a, xs, rfl, rfl, o, q⟩ := r
    exact .lst (by rw [frz_in (h a (List.mem_singleton.mpr rfl))]; exact o.o) (DRs.same s q)
theorem DCs.frz {es : List (NestedKey × Addr × V)} {kvs : List (Dt × Cl)} {fp fp' : List Addr} (r : DCs K C G O es kvs fp) (h : ∀ b ∈ fp, b ∈ fp') (s : Same G (frz G O fp')) : DKs K (frz G O fp') es (kvs.map fun p => (p.1, fzC p.2)) := by
  induction r with
  | nil => exact .nil
  | cons a e b d r ih => exact .cons (DR.same s a) e (b.frz (fun x hx => h x (List.mem_append_left _ hx)) s) (ih fun x hx => h x (List.mem_append_right _ hx))
theorem FCs.frz {es : List (Str × V)} {kvs : List (Str × Cl)} {fp fp' : List Addr} (r : FCs K C G O es kvs fp) (h : ∀ b ∈ fp, b ∈ fp') (s : Same G (frz G O fp')) : DFs K (frz G O fp') es (kvs.map fun p => (.str p.1, fzC p.2)) := by
  induction r with
  | nil => exact .nil
  | cons b d r ih => exact .cons (b.frz (fun x hx => h x (List.mem_append_left _ hx)) s) (ih fun x hx => h x (List.mem_append_right _ hx))
/-- what can become a datum -/
def isOwn : W → Bool
  | .dat _ => true
  | .own _ => true
  | .dct _ => true
  | .obj _ _ => true
  | _ => false
theorem RelF.frz {w : W} {v : V} {fp : List Addr} (r : RelF K C G O w v fp) (h : isOwn w = true) : Same G (frz G O fp) ∧ DR K (frz G O fp) v (fzW w) := by
  have s : Same G (VL.frz G O fp) := frz_same fun b hb => by obtain ⟨_, o, _⟩ := r.ow b hb; exact o.g
  refine ⟨s, ?_⟩
  cases w with
  | dat d => exact DR.same s r.1
  | own ds =>
    obtain ⟨a, xs, rfl, rfl, o, q⟩ := r
    exact .lst (by rw [frz_in (List.mem_singleton.mpr rfl)]; exact o.o) (DRs.same s q)
  | dct kvs =>
    obtain ⟨a, es, fps, ob, rfl, rfl, n, o, q⟩ := r
    exact .dct (by rw [frz_in List.mem_cons_self]; exact o.o) (q.frz (fun b hb => List.mem_cons_of_mem _ hb) s)
  | obj c fs =>
    obtain ⟨kk, a, dx, vs, fps, rfl, rfl, n1, n2, n3, o1, o2, q⟩ := r
    exact .ins kk (by rw [frz_in List.mem_cons_self]; exact o1.o) (by rw [frz_in (List.mem_cons_of_mem _ List.mem_cons_self)]; exact o2.o) (q.frz (fun b hb => List.mem_cons_of_mem _ (List.mem_cons_of_mem _ hb)) s)
  | tok => cases h
  | scr ns => cases h
  | err p x => cases h
  | lam f c q mo G1 => cases h
theorem Io.frz (I : Io C n G O H) {fp : List Addr} (h : ∀ b ∈ fp, ∃ o, Ow C G O b o ∧ Plain o) : Io C n (VL.frz G O fp) O H := by
  refine ⟨I.good, fun b u e => ?_, I.g0.trans (frz_same fun b hb => by obtain ⟨_, o, _⟩ := h b hb; exact o.g), I.o0, I.oh, I.nO, fun b u e => ?_, I.h0, I.tb⟩
  · by_cases hb : b ∈ fp
    · rw [frz_in hb] at e; exact e
    · rw [frz_out hb] at e; exact I.go _ _ e
  · by_cases hb : b ∈ fp
    · obtain ⟨_, o, _⟩ := h b hb; exact .inr o.h0
    · rw [frz_out hb] at e; exact I.nG b u e
theorem Sl.frz (S : Sl K C σ ρ G O F) {fp : List Addr} (h : ∀ b ∈ fp, G b = none) (ap : ∀ (j : Nat) (u : W), ρ[j]? = some (some u) → ∀ b ∈ fp, b ∉ F j) : Sl K C σ ρ (VL.frz G O fp) O F := S.see (frz_same h) (fun i w e b hb => by
  obtain ⟨o, q, _⟩ := S.ow e b hb
  exact ⟨rfl, by rw [frz_out fun z => ap i w e b z hb]; exact q.g, q.h0⟩) rfl
/-- a thing of one's own that no name has becomes a datum -/
theorem In.frzW (I : In K C σ ρ n G O H) {w : W} {v : V} (f : FrW K C σ ρ G O w v) (h : isOwn w = true) : ∃ G', In K C σ ρ n G' O H ∧ Same G G' ∧ DR K G' v (fzW w) := by
  obtain ⟨F, fp, S, r, ap⟩ := f
  obtain ⟨s, d⟩ := r.frz h
  exact ⟨_, ⟨I.toIo.frz r.ow, I.ht, I.len, F, S.frz (fun b hb => by obtain ⟨_, o, _⟩ := r.ow b hb; exact o.g) ap⟩, s, d⟩
/-- the thing of a name becomes a datum -/
theorem In.frzS (I : In K C σ ρ n G O H) {i : Nat} {w : W} (hi : ρ[i]? = some (some w)) (h : isOwn w = true) : ∃ G', Same G G' ∧ In K C σ (ρ.set i (some (.dat (fzW w)))) n G' O H := by
  obtain ⟨F, S⟩ := I.sep
  obtain ⟨v, hs, r⟩ := S.at_ i w hi
  obtain ⟨s, d⟩ := r.frz h
  have hl : i < ρ.length := by
    by_cases hl : i < ρ.length
    · exact hl
    · rw [List.getElem?_eq_none (by simpa using hl)] at hi; cases hi
  have old : ∀ {j : Nat} {u : W}, i ≠ j → (ρ.set i (some (.dat (fzW w))))[j]? = some (some u) → ρ[j]? = some (some u) := fun {j u} h e => by rw [List.getElem?_set_ne h] at e; exact e
  refine ⟨_, s, I.toIo.frz r.ow, I.ht, by simp [I.len], fun j => if j = i then [] else F j, fun j u e => ?_, fun j k u x jk e1 e2 b hb => ?_⟩
  · by_cases h : i = j
    · subst h
      rw [List.getElem?_set_self hl] at e
      cases e
      exact ⟨v, hs, by rw [if_pos rfl]; exact ⟨d, rfl⟩⟩
    · have e' := old h e
      obtain ⟨u', h1, h2⟩ := S.at_ j u e'
      refine ⟨u', h1, ?_⟩
      rw [if_neg (Ne.symm h)]
      refine h2.see ⟨s, fun b hb => ?_⟩ rfl
      obtain ⟨ob, wb, _⟩ := h2.ow b hb
      exact ⟨rfl, by rw [frz_out fun z => S.ap i j w u h hi e' b z hb]; exact wb.g, wb.h0⟩
  · try dsimp only at hb ⊢
    by_cases hj : i = j
    · subst hj; rw [if_pos rfl] at hb; cases hb
    · rw [if_neg (Ne.symm hj)] at hb
      by_cases hk : i = k
      · subst hk; rw [if_pos rfl]; intro z; cases z
      · rw [if_neg (Ne.symm hk)]
        exact S.ap j k u x jk (old hj e1) (old hk e2) b hb
/-- one's own list becomes a datum -/
theorem In.frz (I : In K C σ ρ n G O H) {i : Nat} {ds : List Dt} (hi : ρ[i]? = some (some (.own ds))) : ∃ G', Same G G' ∧ In K C σ (ρ.set i (some (.dat (.list ds)))) n G' O H := I.frzS hi rfl
end
end VL


set_option maxRecDepth 100000
set_option maxHeartbeats 2000000
namespace VL
open PySem PySem.Spec PyProof.Rows L2
abbrev XW := Exc → Nat → Prop
abbrev VT := Nv → Nat → (Dt → Nat → Prop) → XW → Prop
abbrev VB := Nv → Nat → (Bool → Nat → Prop) → XW → Prop
abbrev VA := Nv → Nat → (List Dt → Nat → Prop) → XW → Prop
/-- what an error's wish tells the frame -/
def LkX (K : PySem.W.Frag) (U : WX) (C : Ct) (σ : L2.St) (ρ : Nv) (E0 : XW) : Prop :=
  ∀ x n', E0 x n' → ∀ cls d G' O' H', In K C σ ρ n' G' O' H' → ExcAt K G' x cls d → U cls d σ H'
def up (K : PySem.W.Frag) (U : WX) (t : VT) : TE := fun σ H Q => ∃ (C : Ct) (ρ : Nv) (n : Nat) (G O : Hp) (Q0 : Dt → Nat → Prop) (E0 : XW), In K C σ ρ n G O H ∧ t ρ n Q0 E0 ∧
  (∀ d n', Q0 d n' → ∀ v G' O' H', In K C σ ρ n' G' O' H' → Same G G' → DR K G' v d → Q v H') ∧ LkX K U C σ ρ E0
def upB (K : PySem.W.Frag) (U : WX) (t : VB) : TT := fun σ H Q => ∃ (C : Ct) (ρ : Nv) (n : Nat) (G O : Hp) (Q0 : Bool → Nat → Prop) (E0 : XW), In K C σ ρ n G O H ∧ t ρ n Q0 E0 ∧
  (∀ b n', Q0 b n' → ∀ G' O' H', In K C σ ρ n' G' O' H' → Same G G' → Q b H') ∧ LkX K U C σ ρ E0
def upA (K : PySem.W.Frag) (U : WX) (t : VA) : TA := fun σ H Q => ∃ (C : Ct) (ρ : Nv) (n : Nat) (G O : Hp) (Q0 : List Dt → Nat → Prop) (E0 : XW), In K C σ ρ n G O H ∧ t ρ n Q0 E0 ∧
  (∀ ds n', Q0 ds n' → ∀ vs G' O' H', In K C σ ρ n' G' O' H' → Same G G' → DRs K G' vs ds → Q vs H') ∧ LkX K U C σ ρ E0
/-- a fresh list of one's own -/
def Fresh (C : Ct) (σ : L2.St) (ρ : Nv) (K : PySem.W.Frag) (G O : Hp) (a : Addr) (ds : List Dt) : Prop := FrW K C σ ρ G O (.own ds) (.ref a)
def upO (K : PySem.W.Frag) (U : WX) (t : VA) : TE := fun σ H Q => ∃ (C : Ct) (ρ : Nv) (n : Nat) (G O : Hp) (Q0 : List Dt → Nat → Prop) (E0 : XW), In K C σ ρ n G O H ∧ t ρ n Q0 E0 ∧
  (∀ ds n', Q0 ds n' → ∀ a G' O' H', In K C σ ρ n' G' O' H' → Same G G' → Fresh C σ ρ K G' O' a ds → Q (.ref a) H') ∧ LkX K U C σ ρ E0
abbrev VE (X : Cx) (U : WX) (e : Expr) (t : VT) : Prop := PE X e (up X.K U t)
abbrev VTt (X : Cx) (U : WX) (e : Expr) (t : VB) : Prop := PT X e (upB X.K U t)
abbrev VAa (X : Cx) (U : WX) (es : List Expr) (t : VA) : Prop := PA X es (upA X.K U t)
abbrev VO (X : Cx) (U : WX) (e : Expr) (t : VA) : Prop := PE X e (upO X.K U t)
theorem pe_imp {X : Cx} {e : Expr} {t t' : TE} (h : PE X e t) (w : ∀ σ H Q, t' σ H Q → t σ H Q) : PE X e t' := ⟨fun pins s σ H Q I q => h.run pins s σ H Q I (w _ _ _ q)⟩
theorem pt_imp {X : Cx} {e : Expr} {t t' : TT} (h : PT X e t) (w : ∀ σ H Q, t' σ H Q → t σ H Q) : PT X e t' := ⟨fun pins s σ H Q I q => h.run pins s σ H Q I (w _ _ _ q)⟩
theorem pa_imp {X : Cx} {e : List Expr} {t t' : TA} (h : PA X e t) (w : ∀ σ H Q, t' σ H Q → t σ H Q) : PA X e t' := ⟨fun pos pins s σ H Q I q => h.run pos pins s σ H Q I (w _ _ _ q)⟩
theorem ps_imp {X : Cx} {e : Stmt} {t t' : TS} (h : PS X e t) (w : ∀ D σ H, t' D σ H → t D σ H) : PS X e t' := ⟨fun pins s σ H D I q => h.run pins s σ H D I (w _ _ _ q)⟩
theorem pss_imp {X : Cx} {e : List Stmt} {t t' : TS} (h : PSs X e t) (w : ∀ D σ H, t' D σ H → t D σ H) : PSs X e t' := ⟨fun pins s σ H D I q => h.run pins s σ H D I (w _ _ _ q)⟩
section
variable {X : Cx} {U : WX} {a b c e : Expr} {es rest : List Expr} {pos : Pos} {ta tb tc : VT} {xa xb : VB} {al : VA}
/-! ### names, constants -/
def vVar (i : Nat) : VT := fun ρ n Q _ => match ρ[i]? with
  | some (some (.dat d)) => Q d n
  | _ => False
def vC (d : Dt) : VT := fun _ n Q _ => Q d n
theorem ve_of {t : TE} {u : VT} (h : PE X e t) (w : ∀ C σ ρ n G O H Q Q0 E0, In X.K C σ ρ n G O H → u ρ n Q0 E0 → (∀ d n', Q0 d n' → ∀ v G' O' H', In X.K C σ ρ n' G' O' H' → Same G G' → DR X.K G' v d → Q v H') → LkX X.K U C σ ρ E0 → t σ H Q) : VE X U e u :=
  pe_imp h fun σ H Q ⟨C, ρ, n, G, O, Q0, E0, I, h1, h2, h3⟩ => w C σ ρ n G O H Q Q0 E0 I h1 h2 h3
theorem ve_var (i : Nat) {x : Str} (hN : X.N[i]? = some x := by rfl) (hv : Vis X.env.scope x := by first | exact Or.inl rfl | exact Or.inr (Or.inl rfl) | exact Or.inr (Or.inr rfl)) (hd : (x == ("__debug__" : Str)) = false := by decide)
    (hcd : (x == ("__classdict__" : Str)) = false := by decide) : VE X U (.Name x pos) (vVar i) := by
  refine ve_of (pe_var hN hv hd hcd) fun C σ ρ n G O H Q Q0 E0 I h hq _ => ?_
  unfold vVar at h
  split at h
  · next d e =>
    obtain ⟨v, e1, r⟩ := I.slot i _ e
    exact ⟨v, e1, hq d n h v G O H I (Same.refl _) r⟩
  · exact h.elim
theorem ve_const {d : Dt} {v : V} (h : PE X e (tC v)) (r : ∀ G, DR X.K G v d) : VE X U e (vC d) :=
  ve_of h fun C σ ρ n G O H Q Q0 E0 I h hq _ => hq d n h v G O H I (Same.refl _) (r G)
theorem ve_int {i j} : VE X U (.Constant (.int i) j pos) (vC (.int i)) := ve_const pe_int fun _ => .int i
theorem ve_bl {i j} : VE X U (.Constant (.bool i) j pos) (vC (.bool i)) := ve_const pe_bl fun _ => .bl i
theorem ve_non {j} : VE X U (.Constant .none j pos) (vC .none) := ve_const pe_non fun _ => .non
theorem ve_str {x j} : VE X U (.Constant (.str x) j pos) (vC (.str x)) := ve_const pe_str fun _ => .str x
/-! ### operators -/
abbrev R2D := Dt → Dt → (Dt → Prop) → Prop
def lift2 (K : PySem.W.Frag) (r : R2D) : R2 := fun x y H Q => ∃ G d1 d2 Q0, Same G H ∧ DR K G x d1 ∧ DR K G y d2 ∧ r d1 d2 Q0 ∧
  ∀ d, Q0 d → ∀ v G' H', Same H H' → Same G G' → Same G' H' → New G H G' → DR K G' v d → Q v H'
abbrev VOp (X : Cx) (f : Value → Value → Sem Value) (r : R2D) : Prop := OpR X f (lift2 X.K r)
def vOp (r : R2D) (ta tb : VT) : VT := fun ρ n Q E => ta ρ n (fun d1 n1 => tb ρ n1 (fun d2 n2 => r d1 d2 fun d => Q d n2) E) E
theorem up_op {r : R2D} : ∀ σ H Q, up X.K U (vOp r ta tb) σ H Q → tOp (lift2 X.K r) (up X.K U ta) (up X.K U tb) σ H Q :=
  fun σ H Q ⟨C, ρ, n, G, O, Q0, E0, I, h, hq, he⟩ => ⟨C, ρ, n, G, O, _, E0, I, h, fun d1 n1 h1 v1 G1 O1 H1 I1 s1 r1 => ⟨C, ρ, n1, G1, O1, _, E0, I1, h1, fun d2 n2 h2 v2 G2 O2 H2 I2 s2 r2 =>
    ⟨G2, d1, d2, _, I2.gH, DR.same s2 r1, r2, h2, fun d hd v G' H' sh sg sgh nw rd => hq d n2 hd v G' _ H' (I2.pure sh sg sgh nw) ((s1.trans s2).trans sg) rd⟩, he⟩, he⟩
theorem ve_op {op : Operator} {r : R2D} (ho : VOp X (binaryOp op) r) (ha : VE X U a ta) (hb : VE X U b tb) : VE X U (.BinOp a op b pos) (vOp r ta tb) := pe_imp (pe_op ho ha hb) up_op
theorem ve_cmp {op : CmpOp} {r : R2D} (ho : VOp X (compareOp op) r) (ha : VE X U a ta) (hb : VE X U b tb) (hm : behindInMarks op b = false := by first | exact nomark _ | rfl) : VE X U (.Compare a [op] [b] pos) (vOp r ta tb) := pe_imp (pe_cmpR ho ha hb hm) up_op
/-- a value as a test -/
def isB (Q : Bool → Prop) : Dt → Prop
  | .bool b => Q b
  | _ => False
def vTest (t : VT) : VB := fun ρ n Q E => t ρ n (fun d n' => isB (fun b => Q b n') d) E
theorem vt_cmp {op : CmpOp} {r : R2D} (ho : VOp X (compareOp op) r) (ha : VE X U a ta) (hb : VE X U b tb) (hm : behindInMarks op b = false := by first | exact nomark _ | rfl) : VTt X U (.Compare a [op] [b] pos) (vTest (vOp r ta tb)) :=
  pt_imp (pt_cmpR ho ha hb hm) fun σ H Q h => by
    obtain ⟨C, ρ, n, G, O, Q0, E0, I, h, hq, he⟩ := h
    refine up_op σ H _ ⟨C, ρ, n, G, O, _, E0, I, h, fun d n' h1 v G' O' H' I' s' r' => ?_, he⟩
    cases d with
    | bool b => cases r'; exact ⟨b, rfl, hq b n' h1 G' O' H' I' s'⟩
    | _ => exact h1.elim
theorem vt_val {t : VT} (h : VE X U e t) (he : ∀ whole, isTrue e X.env whole = (do let v ← whole; standAt e.pos; holding [v] (truthy v)) := by intro _; rfl) : VTt X U e (vTest t) :=
  pt_imp (pt_val h he) fun σ H Q ⟨C, ρ, n, G, O, Q0, E0, I, h, hq, he⟩ => ⟨C, ρ, n, G, O, _, E0, I, h, fun d n' h1 v G' O' H' I' s' r' => by
    cases d with
    | bool b => cases r'; exact ⟨b, rfl, hq b n' h1 G' O' H' I' s'⟩
    | _ => exact h1.elim, he⟩
/-! ### one-place operators -/
abbrev R1D := Dt → (Dt → Prop) → Prop
def vUn (r : R1D) (ta : VT) : VT := fun ρ n Q E => ta ρ n (fun d1 n1 => r d1 fun d => Q d n1) E
def dNeg : R1D := fun d Q => match d with
  | .int i => Q (.int (-i))
  | _ => False
theorem ve_neg (ha : VE X U a ta) : VE X U (.UnaryOp .USub a pos) (vUn dNeg ta) :=
  pe_imp (pe_un un_neg ha) fun σ H Q ⟨C, ρ, n, G, O, Q0, E0, I, h, hq, he⟩ => ⟨C, ρ, n, G, O, _, E0, I, h, fun d n' h1 v G' O' H' I' s' r' => by
    cases d with
    | int i => cases r'; exact ⟨i, rfl, hq _ n' h1 _ G' O' H' I' s' (.int _)⟩
    | _ => exact h1.elim, he⟩
/-! ### and, or, not, if -/
def vNot (t : VB) : VB := fun ρ n Q E => t ρ n (fun c n1 => Q (!c) n1) E
theorem vt_not (ha : VTt X U a xa) : VTt X U (.UnaryOp .Not a pos) (vNot xa) :=
  pt_imp (pt_not ha) fun σ H Q ⟨C, ρ, n, G, O, Q0, E0, I, h, hq, he⟩ => ⟨C, ρ, n, G, O, _, E0, I, h, fun c n1 h1 G1 O1 H1 I1 s1 => hq _ n1 h1 G1 O1 H1 I1 s1, he⟩
/-! ### argument lists, displays -/
def vNil : VA := fun _ n Q _ => Q [] n
def vCons (ta : VT) (tr : VA) : VA := fun ρ n Q E => ta ρ n (fun d n1 => tr ρ n1 (fun ds n2 => Q (d :: ds) n2) E) E
theorem va_nil : VAa X U [] vNil := pa_imp pa_nil fun σ H Q ⟨C, ρ, n, G, O, Q0, E0, I, h, hq, he⟩ => hq [] n h [] G O H I (Same.refl _) .nil
theorem va_cons (ha : VE X U e ta) (hr : VAa X U es al) (hs : starEach (e :: es) X.env = (false, eval e X.env) :: starEach es X.env := by rfl) : VAa X U (e :: es) (vCons ta al) :=
  pa_imp (pa_cons ha hr hs) fun σ H Q ⟨C, ρ, n, G, O, Q0, E0, I, h, hq, he⟩ => ⟨C, ρ, n, G, O, _, E0, I, h, fun d n1 h1 v G1 O1 H1 I1 s1 r1 => ⟨C, ρ, n1, G1, O1, _, E0, I1, h1, fun ds n2 h2 vs G2 O2 H2 I2 s2 r2 =>
    hq _ n2 h2 _ G2 O2 H2 I2 (s1.trans s2) (.cons (DR.same s2 r1) r2), he⟩, he⟩
def vTup (t : VA) : VT := fun ρ n Q E => t ρ n (fun ds n1 => ds.length ≤ sizeLine ∧ Q (.tuple ds) n1) E
theorem ve_tup {x1} (h : VAa X U es al) : VE X U (.Tuple es x1 pos) (vTup al) :=
  pe_imp (pe_tup h) fun σ H Q ⟨C, ρ, n, G, O, Q0, E0, I, h, hq, he⟩ => ⟨C, ρ, n, G, O, _, E0, I, h, fun ds n1 h1 vs G1 O1 H1 I1 s1 r1 =>
    ⟨by rw [DRs.length r1]; exact h1.1, fun p hp => hq _ n1 h1.2 _ _ _ _ (I1.new hp) (s1.trans (In.newSame I1.toIo hp)) (.tup (SqT.of upd_same) (DRs.same (In.newSame I1.toIo hp) r1))⟩, he⟩
/-- a new list of one's own -/
theorem frW_new {K : PySem.W.Frag} {C : Ct} {σ : L2.St} {ρ : Nv} {n : Nat} {G O H : Hp} {p : Addr} {o : HO} {w : W} (I : In K C σ ρ n G O H) (hp : H p = none) (r : ∀ O', Ow C G O' p o → RelF K C G O' w (.ref p) [p]) :
    In K C σ ρ n G (grow O H (L2.upd H p o)) (L2.upd H p o) ∧ FrW K C σ ρ G (grow O H (L2.upd H p o)) w (.ref p) := by
  obtain ⟨F, S⟩ := I.sep
  refine ⟨I.pure (same_upd hp) (Same.refl _) (I.gH.trans (same_upd hp)) New.refl, F, [p], S.pure I.toIo (Same.refl _) New.refl, r _ ⟨In.gfree I.toIo hp, I.h0 p hp, by rw [grow_new hp, upd_same]⟩, fun j u e b hb z => ?_⟩
  rw [List.mem_singleton.mp hb] at z
  obtain ⟨o, q, _⟩ := S.ow e p z
  rw [I.oH _ _ q.o] at hp
  cases hp
theorem fresh_new {K : PySem.W.Frag} {C : Ct} {σ : L2.St} {ρ : Nv} {n : Nat} {G O H : Hp} {p : Addr} {xs : List V} {ds : List Dt} (I : In K C σ ρ n G O H) (hp : H p = none) (r : DRs K G xs ds) :
    In K C σ ρ n G (grow O H (L2.upd H p (.lst xs))) (L2.upd H p (.lst xs)) ∧ Fresh C σ ρ K G (grow O H (L2.upd H p (.lst xs))) p ds := frW_new I hp fun O' w => ⟨p, xs, rfl, rfl, w, r⟩
def vLst (t : VA) : VA := fun ρ n Q E => t ρ n (fun ds n1 => ds.length ≤ sizeLine ∧ Q ds n1) E
theorem vo_lst (h : VAa X U es al) : VO X U (.List es pos) (vLst al) :=
  pe_imp (pe_lst h) fun σ H Q ⟨C, ρ, n, G, O, Q0, E0, I, h, hq, he⟩ => ⟨C, ρ, n, G, O, _, E0, I, h, fun ds n1 h1 vs G1 O1 H1 I1 s1 r1 =>
    ⟨by rw [DRs.length r1]; exact h1.1, fun p hp => hq _ n1 h1.2 p _ _ _ (fresh_new I1 hp r1).1 s1 (fresh_new I1 hp r1).2⟩, he⟩
/-- a list of one's own, as a datum -/
def vFz (t : VA) : VT := fun ρ n Q E => t ρ n (fun ds n1 => Q (.list ds) n1) E
theorem In.frzFresh {K : PySem.W.Frag} {C : Ct} {σ : L2.St} {ρ : Nv} {n : Nat} {G O H : Hp} {a : Addr} {ds : List Dt} (I : In K C σ ρ n G O H) (f : Fresh C σ ρ K G O a ds) : ∃ G', In K C σ ρ n G' O H ∧ Same G G' ∧ DR K G' (.ref a) (.list ds) := I.frzW f rfl
theorem ve_fz (h : VO X U e al) : VE X U e (vFz al) :=
  pe_imp h fun σ H Q ⟨C, ρ, n, G, O, Q0, E0, I, h, hq, he⟩ => ⟨C, ρ, n, G, O, _, E0, I, h, fun ds n1 h1 a G1 O1 H1 I1 s1 f => by
    obtain ⟨G2, I2, s2, r⟩ := In.frzFresh I1 f
    exact hq _ n1 h1 _ G2 O1 H1 I2 (s1.trans s2) r, he⟩
end
end VL


set_option maxRecDepth 100000
set_option maxHeartbeats 2000000
namespace VL
open PySem PySem.Spec PyProof.Rows L2
/-! ### statements -/
structure VN where
  nx : Nv → Nat → Prop
  rt : W → Nat → Prop
  bk : Nv → Nat → Prop
  ct : Nv → Nat → Prop
  xc : Exc → Nv → Nat → Prop
structure LkS (K : PySem.W.Frag) (U : WX) (C : Ct) (V : VN) (D : Ends) : Prop where
  nx : ∀ ρ' n', V.nx ρ' n' → ∀ σ' G' O' H', In K C σ' ρ' n' G' O' H' → D.nx σ' H'
  rt : ∀ w n', V.rt w n' → ∀ v G' O' H', Io C n' G' O' H' → RelW K C G' O' w v → D.rt v H'
  bk : ∀ ρ' n', V.bk ρ' n' → ∀ σ' G' O' H', In K C σ' ρ' n' G' O' H' → D.bk σ' H'
  ct : ∀ ρ' n', V.ct ρ' n' → ∀ σ' G' O' H', In K C σ' ρ' n' G' O' H' → D.ct σ' H'
  xc : ∀ x ρ' n', V.xc x ρ' n' → ∀ cls d σ' G' O' H', In K C σ' ρ' n' G' O' H' → ExcAt K G' x cls d → U cls d σ' H'
abbrev VST := VN → Nv → Nat → Prop
def upS (K : PySem.W.Frag) (U : WX) (t : VST) : TS := fun D σ H => ∃ (C : Ct) (ρ : Nv) (n : Nat) (G O : Hp) (V : VN), In K C σ ρ n G O H ∧ t V ρ n ∧ LkS K U C V D
abbrev VS (X : Cx) (U : WX) (st : Stmt) (t : VST) : Prop := PS X st (upS X.K U t)
abbrev VSs (X : Cx) (U : WX) (st : List Stmt) (t : VST) : Prop := PSs X st (upS X.K U t)
theorem LkS.lkx {K : PySem.W.Frag} {U : WX} {C : Ct} {V : VN} {D : Ends} (L : LkS K U C V D) (σ : L2.St) (ρ : Nv) : LkX K U C σ ρ (fun x n' => V.xc x ρ n') := fun x n' h cls d G' O' H' I r => L.xc x ρ n' h cls d σ G' O' H' I r
section
variable {X : Cx} {U : WX} {e : Expr} {pos : Pos} {te : VT} {al : VA} {st : Stmt} {sts rest : List Stmt} {t u : VST} {xb : VB}
def vSeq (t u : VST) : VST := fun V ρ n => t { V with nx := u V } ρ n
def vNext : VST := fun V ρ n => V.nx ρ n
theorem vs_nil : VSs X U [] vNext := pss_imp pss_nil fun D σ H ⟨C, ρ, n, G, O, V, I, h, L⟩ => L.nx ρ n h σ G O H I
theorem vs_cons (h1 : VS X U st t) (h2 : VSs X U rest u) : VSs X U (st :: rest) (vSeq t u) := pss_imp (pss_cons h1 h2) fun D σ H ⟨C, ρ, n, G, O, V, I, h, L⟩ =>
  ⟨C, ρ, n, G, O, { V with nx := u V }, I, h, ⟨fun ρ' n' q σ' G' O' H' I' => ⟨C, ρ', n', G', O', V, I', q, L⟩, L.rt, L.bk, L.ct, L.xc⟩⟩
theorem vs_one (h1 : VS X U st t) : VSs X U [st] t := pss_one h1
def vRet (te : VT) : VST := fun V ρ n => te ρ n (fun d n' => V.rt (.dat d) n') fun x n' => V.xc x ρ n'
theorem vs_ret (he : VE X U e te) : VS X U (.Return (some e) pos) (vRet te) := ps_imp (ps_ret he) fun D σ H ⟨C, ρ, n, G, O, V, I, h, L⟩ =>
  ⟨C, ρ, n, G, O, _, _, I, h, fun d n' q v G' O' H' I' _ r => L.rt _ n' q v G' O' H' I'.toIo r, L.lkx σ ρ⟩
def vIfS (c : VB) (t u : VST) : VST := fun V ρ n => c ρ n (fun b n' => if b = true then t V ρ n' else u V ρ n') fun x n' => V.xc x ρ n'
theorem vs_if {c : Expr} {a b : List Stmt} (hc : VTt X U c xb) (ha : VSs X U a t) (hb : VSs X U b u) : VS X U (.If c a b pos) (vIfS xb t u) := ps_imp (ps_if hc ha hb) fun D σ H ⟨C, ρ, n, G, O, V, I, h, L⟩ =>
  ⟨C, ρ, n, G, O, _, _, I, h, fun b n' q G' O' H' I' _ => by
    cases b with
    | true => rw [if_pos rfl] at q ⊢; exact ⟨C, ρ, n', G', O', V, I', q, L⟩
    | false => rw [if_neg Bool.false_ne_true] at q ⊢; exact ⟨C, ρ, n', G', O', V, I', q, L⟩, L.lkx σ ρ⟩
/-! ### names that are given values -/
def vSet (i : Nat) (te : VT) : VST := fun V ρ n => te ρ n (fun d n' => V.nx (ρ.set i (some (.dat d))) n') fun x n' => V.xc x ρ n'
theorem vs_set {i : Nat} {x : Str} {pos' : Pos} (hN : X.N.Nodup) (hi : X.N[i]? = some x) (hx : Loc X.env.scope x) (he : VE X U e te) (hs : swapsWith e (some (.Name x pos')) pos.line X.env = pure false := by rfl) (hf : X.fn x = true ∨ X.env.scope.names.lookup x = some .local := by first | exact .inl rfl | exact .inr rfl | assumption) :
    VS X U (.Assign [.Name x pos'] e pos) (vSet i te) := ps_imp (ps_set hN hi hx he hs hf) fun D σ H ⟨C, ρ, n, G, O, V, I, h, L⟩ =>
  ⟨C, ρ, n, G, O, _, _, I, h, fun d n' q v G' O' H' I' _ r => L.nx _ n' q _ G' O' H' (I'.set i r), L.lkx σ ρ⟩
/-! ### targets -/
abbrev VGt := Dt → Nv → (Nv → Prop) → Prop
def upG (K : PySem.W.Frag) (g : VGt) : TG := fun v σ H Q => ∃ (C : Ct) (ρ : Nv) (n : Nat) (G O : Hp) (d : Dt) (Q0 : Nv → Prop), In K C σ ρ n G O H ∧ DR K G v d ∧ g d ρ Q0 ∧ ∀ ρ', Q0 ρ' → ∀ σ', In K C σ' ρ' n G O H → Q σ' H
abbrev VGs := List Dt → Nv → (Nv → Prop) → Prop
def upGs (K : PySem.W.Frag) (g : VGs) : TGs := fun vs σ H Q => ∃ (C : Ct) (ρ : Nv) (n : Nat) (G O : Hp) (ds : List Dt) (Q0 : Nv → Prop), In K C σ ρ n G O H ∧ DRs K G vs ds ∧ g ds ρ Q0 ∧ ∀ ρ', Q0 ρ' → ∀ σ', In K C σ' ρ' n G O H → Q σ' H
theorem pg_imp {e : Expr} {t t' : TG} (h : PG X e t) (w : ∀ v σ H Q, t' v σ H Q → t v σ H Q) : PG X e t' := ⟨fun pins s σ H v u Q I r q => h.run pins s σ H v u Q I r (w _ _ _ _ q)⟩
theorem pgs_imp {e : List Expr} {t t' : TGs} (h : PGs X e t) (w : ∀ v σ H Q, t' v σ H Q → t v σ H Q) : PGs X e t' := ⟨fun pins s σ H v u Q I r q => h.run pins s σ H v u Q I r (w _ _ _ _ q)⟩
def gN (i : Nat) : VGt := fun d ρ Q => Q (ρ.set i (some (.dat d)))
theorem vg_name {i : Nat} {x : Str} (hN : X.N.Nodup) (hi : X.N[i]? = some x) (hx : Loc X.env.scope x) (hf : X.fn x = true ∨ X.env.scope.names.lookup x = some .local := by first | exact .inl rfl | exact .inr rfl | assumption) : PG X (.Name x pos) (upG X.K (gN i)) :=
  pg_imp (pg_name hN hi hx hf) fun v σ H Q ⟨C, ρ, n, G, O, d, Q0, I, r, h, hq⟩ => hq _ h _ (I.set i r)
def gsN : VGs := fun ds ρ Q => match ds with
  | [] => Q ρ
  | _ => False
def gsC (g : VGt) (r : VGs) : VGs := fun ds ρ Q => match ds with
  | d :: ds => g d ρ fun ρ1 => r ds ρ1 Q
  | [] => False
theorem vgs_nil : PGs X [] (upGs X.K gsN) := pgs_imp pgs_nil fun vs σ H Q ⟨C, ρ, n, G, O, ds, Q0, I, r, h, hq⟩ => by
  cases ds with
  | nil => cases r; exact ⟨rfl, hq _ h _ I⟩
  | cons d ds => exact h.elim
theorem vgs_cons {e : Expr} {es : List Expr} {g : VGt} {r : VGs} (h1 : PG X e (upG X.K g)) (h2 : PGs X es (upGs X.K r)) (hs : (assignEach (e :: es) X.env).map (·.2) = assign e X.env :: (assignEach es X.env).map (·.2) := by rfl) : PGs X (e :: es) (upGs X.K (gsC g r)) :=
  pgs_imp (pgs_cons h1 h2 hs) fun vs σ H Q ⟨C, ρ, n, G, O, ds, Q0, I, r, h, hq⟩ => by
  cases ds with
  | nil => exact h.elim
  | cons d ds =>
    cases r with
    | cons r1 r2 => exact ⟨_, _, rfl, C, ρ, n, G, O, d, _, I, r1, h, fun ρ1 h1 σ1 I1 => ⟨C, ρ1, n, G, O, ds, Q0, I1, r2, h1, hq⟩⟩
def gT (k : Nat) (r : VGs) : VGt := fun d ρ Q => match d with
  | .tuple ds => ds.length = k ∧ r ds ρ Q
  | _ => False
theorem vg_tup {es : List Expr} {k : Nat} {r : VGs} {n : Nat} (hc : X.calm = true) (h : PGs X es (upGs X.K r)) (hn : (assignEach es X.env).length = n := by rfl) (hst : (assignEach es X.env).findIdx? (·.1) = none := by rfl) : PG X (.Tuple es k pos) (upG X.K (gT n r)) :=
  pg_imp (pg_tup hc h hn hst) fun v σ H Q ⟨C, ρ, m, G, O, d, Q0, I, r, h, hq⟩ => by
  cases d with
  | tuple ds =>
    cases r with
    | tup a r => exact ⟨_, _, rfl, sameT I.gH a, by rw [DRs.length r]; exact h.1, C, ρ, m, G, O, ds, Q0, I, r, h.2, hq⟩
  | _ => exact h.elim
end
/-! ### defs -/
structure FnG (P : Program) (w : World) (K : PySem.W.Frag) (mg : Str → Option Value) (base : Heap) (k : Nat) (f : Addr) (fd : FuncData) (ps : List Str) (sp : Sp) : Prop where
  len : ∀ vs H Q E, sp vs H Q E → vs.length = ps.length
  run : ∀ (A : Around) (outer : List PySem.Env) (s : Shared) (H : Hp) (args : Args) (us : List Value) (vs : List V) (Q : VK) (E : XK), A.guards = some [] → Room k A → Env0 P w K mg base A outer s H → BindsTo s fd args (ps.zip us) → Vals vs us → sp vs H Q E →
    codeAny (model P w) A (.call (.ref f) args) (CR (L2.CX P w) outer P w H s Q E) s
theorem FnG.mono {P : Program} {w : World} {K : PySem.W.Frag} {mg : Str → Option Value} {base : Heap} {j k : Nat} {f : Addr} {fd : FuncData} {ps : List Str} {sp : Sp} (F : FnG P w K mg base j f fd ps sp) (h : j ≤ k) : FnG P w K mg base k f fd ps sp :=
  ⟨F.len, fun A outer s H args us vs Q E hg hr => F.run A outer s H args us vs Q E hg (hr.mono h)⟩
theorem FnG.imp {P : Program} {w : World} {K : PySem.W.Frag} {mg : Str → Option Value} {base : Heap} {k : Nat} {f : Addr} {fd : FuncData} {ps : List Str} {sp sp' : Sp} (F : FnG P w K mg base k f fd ps sp) (h : ∀ vs H Q E, sp' vs H Q E → sp vs H Q E) : FnG P w K mg base k f fd ps sp' :=
  ⟨fun vs H Q E q => F.len vs H Q E (h _ _ _ _ q), fun A outer s H args us vs Q E hg hr he hb hv hs => F.run A outer s H args us vs Q E hg hr he hb hv (h _ _ _ _ hs)⟩
/-- a def by its body; nothing that is being shown (repr) is under way -/
theorem fnG_of {P : Program} {w : World} {K : PySem.W.Frag} {mg : Str → Option Value} {base : Heap} {k : Nat} {x qual : Str} {params : Arguments} {body : List Stmt} {scope : Scope} {dvs : List V} {kws : List (Str × V)} {f : Addr} {fd : FuncData} {N ps : List Str} {sp : Sp}
    (F : FunD K x qual params body scope dvs kws f fd) (S : FnScope N ps scope) (len : ∀ vs H Q E, sp vs H Q E → vs.length = ps.length)
    (hb : ∀ (cdv : Value) (A : Around) (outer : List PySem.Env) (s : Shared) (H : Hp) (vs : List V) (Q : VK) (E : XK), fd.code = cdv → A.guards = some [] → Room k (A.deeper (envOfC qual scope s.heap.objs.size f cdv)) → sp vs H Q E →
      ∃ t, PSs (cxOf (L2.CX P w) P w K mg base N qual scope f cdv A outer s H E) body t ∧ t { nx := fun _ H' => Q .non H', rt := Q } (start N vs) H) : FnG P w K mg base (k + 1) f fd ps sp := by
  obtain ⟨oc, od, dV, kV, doc, pm, an, cdv, ct, osl, rfl, lk, hcd, _, _⟩ := F.ex
  constructor
  · exact len
  intro A outer s H args us vs Q E hg hr e0 hbd rv hsp
  have hk : ∀ b o, base.get? b = some o → s.heap.get? b = some o := fun b o e => (e0.bs b o e).1
  have KI : K.In s.heap := e0.mod.kin.keeps hk
  have nl : s.heap.NoLimit := e0.mod.nolimit.keeps hk
  have kinds : ∀ y ∈ ps.zip us, scope.names.lookup y.1 = some .local ∨ (scope.names.lookup y.1 = some .cell ∧ ((cellsFrom (s.heap.objs.size + 1) scope.names []).lookup y.1).isSome = true) := by
    rintro ⟨nm, val⟩ hy
    rcases S.par nm (List.of_mem_zip hy).1 with q | q
    · exact Or.inl q
    · exact Or.inr ⟨q, PySem.W.cellsFrom_some _ _ _ (Or.inl q)⟩
  refine codeAny_call_function hr.depth (KI _ _ lk) rfl S.co S.gen rfl (PySem.W.codeRec_of KI hcd) (hbd _ _ _ _ ?_)
  refine wpAny_newFunctionEnv_cells S.kind kinds fun env he s1 ic => ?_
  subst he
  refine ⟨nl.keeps ic.toInCall.keep, codeAny_func ?_⟩
  obtain ⟨t, ht, hq⟩ := hb cdv A outer s H vs Q E rfl hg (hr.deeper _) hsp
  have I0 := inv_start (CX := L2.CX P w) (E := E) S hr.hd e0 (len _ _ _ _ hsp) rv ic
  refine wpAny_mono (ht.run [] s1 (start N vs) H _ I0 hq) (fun fl s' hs => ?_) fun e s' hs => hs
  cases fl with
  | ret u =>
    obtain ⟨v, σ', H', J, r1, q⟩ := hs
    exact ⟨v, H', J.os, J.bare, J.base, J.hok, r1, q⟩
  | next =>
    obtain ⟨σ', H', J, q⟩ := hs
    exact ⟨V.non, H', J.os, J.bare, J.base, J.hok, rfl, q⟩
  | brk => obtain ⟨_, _, _, q⟩ := hs; exact False.elim q
  | cont => obtain ⟨_, _, _, q⟩ := hs; exact False.elim q
/-! ### what a def does to values -/
abbrev VFn := List W → Nat → (W → Nat → Prop) → XW → Prop
def RelWs (K : PySem.W.Frag) (C : Ct) (G O : Hp) : List W → List V → Prop
  | [], [] => True
  | w :: ws, v :: vs => RelW K C G O w v ∧ RelWs K C G O ws vs
  | _, _ => False
theorem RelWs.length {K : PySem.W.Frag} {C : Ct} {G O : Hp} : ∀ {ws : List W} {vs : List V}, RelWs K C G O ws vs → vs.length = ws.length
  | [], [], _ => rfl
  | _ :: _, _ :: _, h => by simp [RelWs.length h.2]
  | [], _ :: _, h => h.elim
  | _ :: _, [], h => h.elim
theorem RelWs.get {K : PySem.W.Frag} {C : Ct} {G O : Hp} : ∀ {ws : List W} {vs : List V} {i : Nat} {w : W}, RelWs K C G O ws vs → ws[i]? = some w → ∃ v, vs[i]? = some v ∧ RelW K C G O w v
  | [], _, _, _, _, e => by simp at e
  | _ :: _, [], _, _, h, _ => h.elim
  | w :: ws, v :: vs, 0, _, h, e => by simp at e; subst e; exact ⟨v, rfl, h.1⟩
  | w :: ws, v :: vs, i + 1, _, h, e => by
    obtain ⟨u, h1, h2⟩ := RelWs.get (i := i) h.2 (by simpa using e)
    exact ⟨u, by simpa using h1, h2⟩
def lift (K : PySem.W.Frag) (c : VFn) : Sp := fun vs H Q E => ∃ (C : Ct) (n : Nat) (ws : List W) (Q0 : W → Nat → Prop) (E0 : XW), (C.H0 = H ∧ C.T = tabT K) ∧ Io C n C.G0 C.O0 H ∧ RelWs K C C.G0 C.O0 ws vs ∧ c ws n Q0 E0 ∧
  (∀ w n', Q0 w n' → ∀ v G' O' H', Io C n' G' O' H' → RelW K C G' O' w v → Q v H') ∧ (∀ x n', E0 x n' → ∀ cls d G' O' H', Io C n' G' O' H' → ExcAt K G' x cls d → E cls d H')
def startE (m : Nat) (ws : List W) : Nv := ws.map some ++ List.replicate (m - ws.length) none
def bodyV (m k : Nat) (t : VST) : VFn := fun ws n Q E => ws.length = k ∧ t ⟨fun _ n' => Q (.dat .none) n', Q, fun _ _ => False, fun _ _ => False, fun x _ n' => E x n'⟩ (startE m ws) n
theorem RelW.here {K : PySem.W.Frag} {C : Ct} {n : Nat} {G O : Hp} {w : W} {v : V} (h : Io C n G O C.H0) (r : RelW K C G O w v) : RelF K C G O w v [] := by
  obtain ⟨fp, f⟩ := r.f
  cases fp with
  | nil => exact f
  | cons b fp =>
    obtain ⟨o, q, _⟩ := f.ow b List.mem_cons_self
    have := h.oH _ _ q.o
    rw [q.h0] at this
    cases this
theorem in_start {K : PySem.W.Frag} {C : Ct} {n : Nat} {N : List Str} {ws : List W} {vs : List V} (ht : C.T = tabT K) (h : Io C n C.G0 C.O0 C.H0) (r : RelWs K C C.G0 C.O0 ws vs) : In K C (start N vs) (startE N.length ws) n C.G0 C.O0 C.H0 := by
  have el := r.length
  refine ⟨h, ht, ?_, fun _ => [], fun i w e => ?_, fun _ _ _ _ _ _ _ b hb => by cases hb⟩
  · unfold L2.start startE; simp [el]
  · unfold startE at e
    by_cases hi : i < ws.length
    · rw [List.getElem?_append_left (by simpa using hi), List.getElem?_map] at e
      cases q : ws[i]? with
      | none => rw [q] at e; cases e
      | some w' =>
        rw [q] at e
        cases e
        obtain ⟨v, hv, rw'⟩ := r.get q
        refine ⟨v, ?_, rw'.here h⟩
        unfold L2.start
        rw [List.getElem?_append_left (by rw [List.length_map, el]; exact hi), List.getElem?_map, hv]
        rfl
    · rw [List.getElem?_append_right (by simpa using hi), List.getElem?_replicate] at e
      split at e <;> cases e
/-- THE RULE: a def's body gives what the def does to values -/
theorem fnV {P : Program} {w : World} {K : PySem.W.Frag} {mg : Str → Option Value} {base : Heap} {k : Nat} {x qual : Str} {params : Arguments} {body : List Stmt} {scope : Scope} {dvs : List V} {kws : List (Str × V)} {f : Addr} {fd : FuncData} {N ps : List Str} {t : VST}
    (F : FunD K x qual params body scope dvs kws f fd) (S : FnScope N ps scope)
    (hb : ∀ (cdv : Value) (A : Around) (outer : List PySem.Env) (s : Shared) (H : Hp) (E : XK), fd.code = cdv → A.guards = some [] → Room k (A.deeper (envOfC qual scope s.heap.objs.size f cdv)) →
      VSs (cxOf (L2.CX P w) P w K mg base N qual scope f cdv A outer s H E) (fun cls d _ H' => E cls d H') body t) : FnG P w K mg base (k + 1) f fd ps (lift K (bodyV N.length ps.length t)) := by
  refine fnG_of F S (fun vs H Q E h => ?_) (fun cdv A outer s H vs Q E hcv hg hr h => ⟨_, hb cdv A outer s H E hcv hg hr, ?_⟩)
  · obtain ⟨C, n, ws, Q0, E0, e0, io, r, h, _⟩ := h
    rw [r.length, h.1]
  · obtain ⟨C, n, ws, Q0, E0, e0, io, r, h, hq, he⟩ := h
    obtain ⟨e0, et⟩ := e0
    subst e0
    refine ⟨C, _, n, C.G0, C.O0, _, in_start et io r, h.2, ⟨fun ρ' n' q σ' G' O' H' I' => hq _ n' q .non G' O' H' I'.toIo .non, hq, fun _ _ q => q.elim, fun _ _ q => q.elim, fun x ρ' n' q cls d σ' G' O' H' I' r' => he x n' q cls d G' O' H' I'.toIo r'⟩⟩
/-- another promise that says no more -/
theorem FnG.weak {P : Program} {w : World} {K : PySem.W.Frag} {mg : Str → Option Value} {base : Heap} {k : Nat} {f : Addr} {fd : FuncData} {ps : List Str} {c c' : VFn} (F : FnG P w K mg base k f fd ps (lift K c)) (h : ∀ ws n Q E, c' ws n Q E → c ws n Q E) : FnG P w K mg base k f fd ps (lift K c') :=
  F.imp fun vs H Q E ⟨C, n, ws, Q0, E0, e0, io, r, q, hq, he⟩ => ⟨C, n, ws, Q0, E0, e0, io, r, h _ _ _ _ q, hq, he⟩
/-! ### calls -/
abbrev Ct.now (C : Ct) (G O H : Hp) : Ct := ⟨C.mo, C.T, C.L, G, O, H⟩
theorem In.call {K : PySem.W.Frag} {C : Ct} {σ : L2.St} {ρ : Nv} {n n' : Nat} {G O H G' O' H' : Hp} (I : In K C σ ρ n G O H) (J : Io (C.now G O H) n' G' O' H') : In K C σ ρ n' G' O' H' := by
  obtain ⟨F, S⟩ := I.sep
  refine ⟨⟨J.good, J.go, I.g0.trans J.g0, I.o0.trans J.o0, I.oh, fun a o e => ?_, fun a o e => ?_, fun a e => I.h0 a (J.h0 a e), J.tb⟩, I.ht, I.len, F, S.see J.g0 (fun i w e b hb => ?_) rfl⟩
  · rcases J.nO a o e with q | q
    · exact I.nO a o q
    · exact .inr (I.h0 a q)
  · rcases J.nG a o e with q | q
    · exact I.nG a o q
    · exact .inr (I.h0 a q)
  · obtain ⟨o, q, _⟩ := S.ow e b hb
    have q2 : O' b = some o := J.o0 _ _ q.o
    refine ⟨q2.trans q.o.symm, ?_, q.h0⟩
    cases z : G' b with
    | none => rfl
    | some u =>
      rcases J.nG b u z with y | y
      · have y' : G b = some u := y
        rw [q.g] at y'; cases y'
      · have y' : H b = none := y
        rw [I.oH _ _ q.o] at y'; cases y'
/-- what a call hands back is no one's -/
theorem In.callW {K : PySem.W.Frag} {C : Ct} {σ : L2.St} {ρ : Nv} {n n' : Nat} {G O H G' O' H' : Hp} {w : W} {v : V} (I : In K C σ ρ n G O H) (J : Io (C.now G O H) n' G' O' H') (r : RelW K (C.now G O H) G' O' w v) : FrW K C σ ρ G' O' w v := by
  obtain ⟨F, S⟩ := (I.call J).sep
  obtain ⟨fp, f⟩ := r.f
  have hn : ∀ b ∈ fp, H b = none := fun b hb => by obtain ⟨o, q, _⟩ := f.ow b hb; exact q.h0
  obtain ⟨F0, S0⟩ := I.sep
  refine ⟨F0, fp, ?_, f.see ⟨Same.refl _, fun b hb => ?_⟩ rfl, fun j u e b hb z => ?_⟩
  · refine S0.see J.g0 (fun i w e b hb => ?_) rfl
    obtain ⟨o, q, _⟩ := S0.ow e b hb
    have q2 : O' b = some o := J.o0 _ _ q.o
    refine ⟨q2.trans q.o.symm, ?_, q.h0⟩
    cases z : G' b with
    | none => rfl
    | some u =>
      rcases J.nG b u z with y | y
      · have y' : G b = some u := y
        rw [q.g] at y'; cases y'
      · have y' : H b = none := y
        rw [I.oH _ _ q.o] at y'; cases y'
  · obtain ⟨o, q, _⟩ := f.ow b hb
    exact ⟨rfl, q.g, I.h0 b (hn b hb)⟩
  · obtain ⟨o, q, _⟩ := S0.ow e b z
    have := hn b hb
    rw [I.oH _ _ q.o] at this
    cases this
/-- arguments: data, the machine, the script -/
abbrev VAW := Nv → Nat → (List W → Nat → Prop) → XW → Prop
def RWs (K : PySem.W.Frag) (C : Ct) (G : Hp) : List W → List V → Prop
  | [], [] => True
  | w :: ws, v :: vs => (match w with | .dat d => DR K G v d | .own _ => False | .err _ _ => False | .lam _ _ _ _ _ => False | .dct _ => False | .obj _ _ => False | .tok => ∃ m, C.mo = some m ∧ v = .ref m | .scr ns => ∃ a, v = .ref a ∧ SqL K G a (ns.map V.int)) ∧ RWs K C G ws vs
  | _, _ => False
theorem RWs.same {K : PySem.W.Frag} {C : Ct} {G G' : Hp} (s : Same G G') : ∀ {ws : List W} {vs : List V}, RWs K C G ws vs → RWs K C G' ws vs
  | [], [], _ => trivial
  | [], _ :: _, h => h.elim
  | _ :: _, [], h => h.elim
  | w :: ws, v :: vs, h => by
    refine ⟨?_, RWs.same s h.2⟩
    cases w with
    | dat d => exact DR.same s h.1
    | own ds => exact h.1.elim
    | tok => exact h.1
    | scr ns => obtain ⟨a, e, q⟩ := h.1; exact ⟨a, e, s.seq q⟩
    | err p x => exact h.1
    | lam f c q mo G1 => exact h.1
    | dct kvs => exact h.1
    | obj c fs => exact h.1
theorem RWs.rel {K : PySem.W.Frag} {C C' : Ct} {G O : Hp} (hm : C'.mo = C.mo) : ∀ {ws : List W} {vs : List V}, RWs K C G ws vs → RelWs K C' G O ws vs
  | [], [], _ => trivial
  | [], _ :: _, h => h.elim
  | _ :: _, [], h => h.elim
  | w :: ws, v :: vs, h => by
    refine ⟨?_, RWs.rel hm h.2⟩
    cases w with
    | dat d => exact h.1
    | own ds => exact h.1.elim
    | tok => obtain ⟨m, e, q⟩ := h.1; exact ⟨m, hm.trans e, q⟩
    | scr ns => exact h.1
    | err p x => exact h.1.elim
    | lam f c q mo G1 => exact h.1.elim
    | dct kvs => exact h.1.elim
    | obj c fs => exact h.1.elim
def upW (K : PySem.W.Frag) (U : WX) (t : VAW) : TA := fun σ H Q => ∃ (C : Ct) (ρ : Nv) (n : Nat) (G O : Hp) (Q0 : List W → Nat → Prop) (E0 : XW), In K C σ ρ n G O H ∧ t ρ n Q0 E0 ∧
  (∀ ws n', Q0 ws n' → ∀ vs G' O' H', In K C σ ρ n' G' O' H' → Same G G' → RWs K C G' ws vs → Q vs H') ∧ LkX K U C σ ρ E0
abbrev VAg (X : Cx) (U : WX) (es : List Expr) (t : VAW) : Prop := PA X es (upW X.K U t)
section
variable {X : Cx} {U : WX} {e : Expr} {es : List Expr} {pos p : Pos} {te : VT} {al : VAW} {x : Str} {k : Nat} {f : Addr} {fd : FuncData} {ps : List Str} {c : VFn}
def wNil : VAW := fun _ n Q _ => Q [] n
def wDat (te : VT) (r : VAW) : VAW := fun ρ n Q E => te ρ n (fun d n1 => r ρ n1 (fun ws n2 => Q (.dat d :: ws) n2) E) E
def wVar (i : Nat) (r : VAW) : VAW := fun ρ n Q E => match ρ[i]? with
  | some (some .tok) => r ρ n (fun ws n2 => Q (.tok :: ws) n2) E
  | some (some (.scr ns)) => r ρ n (fun ws n2 => Q (.scr ns :: ws) n2) E
  | _ => False
theorem wa_nil : VAg X U [] wNil := pa_imp pa_nil fun σ H Q ⟨C, ρ, n, G, O, Q0, E0, I, h, hq, he⟩ => hq [] n h [] G O H I (Same.refl _) trivial
theorem wa_dat (ha : VE X U e te) (hr : VAg X U es al) (hs : starEach (e :: es) X.env = (false, eval e X.env) :: starEach es X.env := by rfl) : VAg X U (e :: es) (wDat te al) :=
  pa_imp (pa_cons ha hr hs) fun σ H Q ⟨C, ρ, n, G, O, Q0, E0, I, h, hq, he⟩ => ⟨C, ρ, n, G, O, _, E0, I, h, fun d n1 h1 v G1 O1 H1 I1 s1 r1 => ⟨C, ρ, n1, G1, O1, _, E0, I1, h1, fun ds n2 h2 vs G2 O2 H2 I2 s2 r2 =>
    hq _ n2 h2 _ G2 O2 H2 I2 (s1.trans s2) ⟨DR.same s2 r1, r2⟩, he⟩, he⟩
theorem wa_var (i : Nat) (hr : VAg X U es al) (hN : X.N[i]? = some x := by rfl) (hv : Vis X.env.scope x := by first | exact Or.inl rfl | exact Or.inr (Or.inl rfl) | exact Or.inr (Or.inr rfl)) (hd : (x == ("__debug__" : Str)) = false := by decide)
    (hcd : (x == ("__classdict__" : Str)) = false := by decide) (hs : starEach (.Name x pos :: es) X.env = (false, eval (.Name x pos) X.env) :: starEach es X.env := by rfl) : VAg X U (.Name x pos :: es) (wVar i al) :=
  pa_imp (pa_cons (pe_var hN hv hd hcd) hr hs) fun σ H Q ⟨C, ρ, n, G, O, Q0, E0, I, h, hq, he⟩ => by
    unfold wVar at h
    split at h
    · next e0 =>
      obtain ⟨v, e1, m, em, ev⟩ := I.slot i _ e0
      exact ⟨v, e1, C, ρ, n, G, O, _, E0, I, h, fun ws n2 h2 vs G2 O2 H2 I2 s2 r2 => hq _ n2 h2 _ G2 O2 H2 I2 s2 ⟨⟨m, em, ev⟩, r2⟩, he⟩
    · next ns e0 =>
      obtain ⟨v, e1, a, ea, sq⟩ := I.slot i _ e0
      exact ⟨v, e1, C, ρ, n, G, O, _, E0, I, h, fun ws n2 h2 vs G2 O2 H2 I2 s2 r2 => hq _ n2 h2 _ G2 O2 H2 I2 s2 ⟨⟨a, ea, s2.seq sq⟩, r2⟩, he⟩
    · exact h.elim
/-- a call of a def of the text -/
theorem pe_callG {sp : Sp} {dvs : List V} {ds : List Value} {t : TA} (F : FnG X.prog X.w X.K X.mg X.base k f fd ps sp) (hG : X.A.guards = some []) (hr : Room k X.A) (tk : Takes X U) (hg : Gl X x) (hm : X.mg x = some (.ref f)) (hk : PySem.W.keepIn X.K (.ref f) = true) (hb : Binds X.K fd ps ds) (hd : Vals dvs ds)
    (ha : PA X (e :: es) t) (hdb : (x == ("__debug__" : Str)) = false := by decide) (he : starEach (e :: es) X.env = (false, eval e X.env) :: starEach es X.env := by rfl) (hpl : (backTo pos (starEach es X.env)).any (·.1) = false := by rfl) :
    PE X (.Call (.Name x p) (e :: es) [] pos) (fun σ H Q => t σ H fun vs H1 => sp (vs ++ dvs) H1 Q fun cls d H' => U cls d σ H') := by
  constructor
  intro pins s σ H Q I h
  refine wpAny_Call_Name_kw (ld_glob I hg hm ?_ hdb)
  refine PySem.W.callWith_K (h₀ := X.base) I.ok.mod.kin hk (thn (ha.run pos pins s σ H _ I h) fun us s1 z => ?_) he hpl
  obtain ⟨vs, H1, I1, r, q⟩ := z
  refine ⟨I1.kIn, ?_⟩
  have r2 : Vals (vs ++ dvs) (us ++ ds) := r.append hd
  have hl : (us ++ ds).length = ps.length := r2.length.symm.trans (F.len _ _ _ _ q)
  refine wpAny_call (codeAny_mono (F.run X.A X.stack s1 H1 ⟨us, []⟩ (us ++ ds) (vs ++ dvs) Q _ hG hr I1.env0 (hb s1 us I1.kIn hl) r2 q) fun rs s' hq => ?_)
  match rs, hq with
  | .error e, hq => exact passAt tk σ pins H1 s1 e s' I1 hq
  | .ok (.ret u), hq => exact I1.after hq
def rOf (Q : Dt → Nat → Prop) : W → Nat → Prop := fun w n => match w with
  | .dat d => Q d n
  | .own ds => Q (.list ds) n
  | .dct kvs => Q (fzW (.dct kvs)) n
  | .obj c fs => Q (fzW (.obj c fs)) n
  | _ => False
theorem rOf_own {Q : Dt → Nat → Prop} {w : W} {n : Nat} (h : rOf Q w n) : isOwn w = true ∧ Q (fzW w) n := by
  cases w <;> first | exact ⟨rfl, h⟩ | exact h.elim
def vCall (c : VFn) (dw : List W) (al : VAW) : VT := fun ρ n Q E => al ρ n (fun ws n1 => c (ws ++ dw) n1 (rOf Q) E) E
/-- the defaults' data stand in the written part -/
def RDf (K : PySem.W.Frag) : List W → List V → Prop
  | [], [] => True
  | w :: ws, v :: vs => (match w with | .dat d => ∀ G, DR K G v d | _ => False) ∧ RDf K ws vs
  | _, _ => False
theorem RDf.rws {K : PySem.W.Frag} {C : Ct} {G : Hp} : ∀ {dw : List W} {dvs : List V}, RDf K dw dvs → RWs K C G dw dvs
  | [], [], _ => trivial
  | [], _ :: _, h => h.elim
  | _ :: _, [], h => h.elim
  | w :: ws, v :: vs, d => by
    refine ⟨?_, RDf.rws d.2⟩
    cases w with
    | dat x => exact d.1 G
    | _ => exact d.1.elim
theorem RDf.app {K : PySem.W.Frag} {C : Ct} {G : Hp} {dw : List W} {dvs : List V} (d : RDf K dw dvs) : ∀ {ws : List W} {vs : List V}, RWs K C G ws vs → RWs K C G (ws ++ dw) (vs ++ dvs)
  | _ :: _, _ :: _, h => ⟨h.1, RDf.app d h.2⟩
  | [], _ :: _, h => h.elim
  | _ :: _, [], h => h.elim
  | [], [], _ => d.rws
theorem ve_call {dw : List W} {dvs : List V} {ds : List Value} (F : FnG X.prog X.w X.K X.mg X.base k f fd ps (lift X.K c)) (hG : X.A.guards = some []) (hr : Room k X.A) (tk : Takes X U) (hg : Gl X x) (hm : X.mg x = some (.ref f)) (hk : PySem.W.keepIn X.K (.ref f) = true) (hb : Binds X.K fd ps ds) (hd : Vals dvs ds) (hdw : RDf X.K dw dvs)
    (ha : VAg X U (e :: es) al) (hdb : (x == ("__debug__" : Str)) = false := by decide) (he : starEach (e :: es) X.env = (false, eval e X.env) :: starEach es X.env := by rfl) (hpl : (backTo pos (starEach es X.env)).any (·.1) = false := by rfl) :
    VE X U (.Call (.Name x p) (e :: es) [] pos) (vCall c dw al) :=
  pe_imp (pe_callG F hG hr tk hg hm hk hb hd ha hdb he hpl) fun σ H Q ⟨C, ρ, n, G, O, Q0, E0, I, h, hq, hE⟩ => ⟨C, ρ, n, G, O, _, E0, I, h, fun ws n1 h1 vs G1 O1 H1 I1 s1 r1 =>
    ⟨C.now G1 O1 H1, n1, _, _, E0, ⟨rfl, I1.ht⟩, ⟨I1.good, I1.go, Same.refl _, Same.refl _, I1.oH, New.refl, New.refl, fun _ q => q, I1.tb⟩, RWs.rel (C := C) (C' := C.now G1 O1 H1) rfl (hdw.app r1), h1, fun w n' q v G' O' H' J rw' => by
      obtain ⟨ho, q⟩ := rOf_own q
      obtain ⟨G2, I3, s3, r3⟩ := (I1.call J).frzW (I1.callW J rw') ho
      exact hq _ n' q _ G2 O' H' I3 ((s1.trans J.g0).trans s3) r3, fun x n' q cls d G' O' H' J r => hE x n' q cls d G' O' H' (I1.call J) r⟩, hE⟩
end
end VL


set_option maxRecDepth 100000
set_option maxHeartbeats 2000000
namespace VL
open PySem PySem.Spec PyProof.Rows L2
/-! ### operators on data -/
def dAdd : R2D := fun a b Q => match a, b with
  | .int i, .int j => Q (.int (i + j))
  | .str x, .str y => x.length + y.length ≤ sizeLine ∧ Q (.str (x ++ y))
  | .tuple xs, .tuple ys => xs.length + ys.length ≤ sizeLine ∧ Q (.tuple (xs ++ ys))
  | .list xs, .list ys => xs.length + ys.length ≤ sizeLine ∧ Q (.list (xs ++ ys))
  | _, _ => False
def dPow : R2D := fun a b Q => match a, b with
  | .int i, .int j => CPow i j ∧ Q (.int (i ^ j.toNat))
  | _, _ => False
/-- what may be compared: two texts, or data of plain signs that are not too deep -/
def shp (a b : Dt) : Prop := match a, b with
  | .str _, .str _ => True
  | a, b => SeqAt.shaped a = true ∧ SeqAt.shaped b = true
def dEq : R2D := fun a b Q => shp a b ∧ Q (.bool (PyData.eqv a b))
def dNe : R2D := fun a b Q => shp a b ∧ Q (.bool (!PyData.eqv a b))
def dLt : R2D := fun a b Q => match a, b with
  | .int i, .int j => Q (.bool (decide (i < j)))
  | _, _ => False
def isNoneD : Dt → Bool
  | .none => true
  | _ => false
section
variable {X : Cx}
theorem op2I {f : Value → Value → Sem Value} {C : Int → Int → Prop} {g : Int → Int → V} {r : R2D} (o : OpR X f (rI C g)) (h : ∀ a b Q, r a b Q → ∃ i j d, a = .int i ∧ b = .int j ∧ C i j ∧ (∀ G, DR X.K G (g i j) d) ∧ Q d) : VOp X f r := by
  intro pins s σ H x y v u Q I rx ry ⟨G, d1, d2, Q0, sg, r1, r2, q, hq⟩
  obtain ⟨i, j, d, rfl, rfl, c, rd, q⟩ := h _ _ _ q
  cases r1
  cases r2
  exact o pins s σ H _ _ v u Q I rx ry ⟨i, j, rfl, rfl, c, hq d q _ G H (Same.refl _) (Same.refl _) sg New.refl (rd G)⟩
theorem op2I0 {f : Value → Value → Sem Value} {g : Int → Int → V} {r : R2D} (o : OpR X f (rI0 g)) (h : ∀ a b Q, r a b Q → ∃ i j d, a = .int i ∧ b = .int j ∧ (∀ G, DR X.K G (g i j) d) ∧ Q d) : VOp X f r := by
  intro pins s σ H x y v u Q I rx ry ⟨G, d1, d2, Q0, sg, r1, r2, q, hq⟩
  obtain ⟨i, j, d, rfl, rfl, rd, q⟩ := h _ _ _ q
  cases r1
  cases r2
  exact o pins s σ H _ _ v u Q I rx ry ⟨i, j, rfl, rfl, hq d q _ G H (Same.refl _) (Same.refl _) sg New.refl (rd G)⟩
theorem o_pow : VOp X (binaryOp .Pow) dPow := op2I op_pow fun a b Q h => by
  cases a <;> cases b <;> first | exact ⟨_, _, _, rfl, rfl, h.1, fun _ => .int _, h.2⟩ | exact h.elim
theorem o_lt : VOp X (compareOp .Lt) dLt := op2I0 op_lt fun a b Q h => by
  cases a <;> cases b <;> first | exact ⟨_, _, _, rfl, rfl, fun _ => .bl _, h⟩ | exact h.elim
theorem str_eqv (x y : Str) : decide (V.str x = V.str y) = PyData.eqv (.str x) (.str y) := by
  simp only [PyData.eqv]
  by_cases h : x = y
  · subst h; simp
  · have h' : ¬ V.str x = V.str y := fun e => h (V.str.inj e)
    rw [decide_eq_false h']
    exact (beq_eq_false_iff_ne.mpr h).symm
theorem shp_cases {a b : Dt} (h : shp a b) : (∃ x y, a = .str x ∧ b = .str y) ∨ (SeqAt.shaped a = true ∧ SeqAt.shaped b = true) := by
  cases a <;> cases b <;> first | exact .inr h | exact .inl ⟨_, _, rfl, rfl⟩
theorem o_eq (hu : X.A.units + 64 < cLine) : VOp X (compareOp .Eq) dEq := by
  intro pins s σ H x y v u Q I rx ry ⟨G, d1, d2, Q0, sg, r1, r2, q, hq⟩
  rcases shp_cases q.1 with ⟨a, b, rfl, rfl⟩ | ⟨q1, q2⟩
  · cases r1; cases r2
    exact op_eq pins s σ H _ _ v u Q I rx ry ⟨rfl, by rw [str_eqv]; exact hq _ q.2 _ G H (Same.refl _) (Same.refl _) sg New.refl (.bl _)⟩
  · exact op_eqD hu pins s σ H x y v u Q I rx ry ⟨d1, d2, DR.dp (PyData.hasDict_of_canLay _ (SeqAt.canLay_of_shaped q1)) (DR.same sg r1), DR.dp (PyData.hasDict_of_canLay _ (SeqAt.canLay_of_shaped q2)) (DR.same sg r2), q1, q2, hq _ q.2 _ G H (Same.refl _) (Same.refl _) sg New.refl (.bl _)⟩
theorem o_ne (hu : X.A.units + 64 < cLine) : VOp X (compareOp .NotEq) dNe := by
  intro pins s σ H x y v u Q I rx ry ⟨G, d1, d2, Q0, sg, r1, r2, q, hq⟩
  rcases shp_cases q.1 with ⟨a, b, rfl, rfl⟩ | ⟨q1, q2⟩
  · cases r1; cases r2
    exact op_ne pins s σ H _ _ v u Q I rx ry ⟨rfl, by rw [str_eqv]; exact hq _ q.2 _ G H (Same.refl _) (Same.refl _) sg New.refl (.bl _)⟩
  · exact op_neD hu pins s σ H x y v u Q I rx ry ⟨d1, d2, DR.dp (PyData.hasDict_of_canLay _ (SeqAt.canLay_of_shaped q1)) (DR.same sg r1), DR.dp (PyData.hasDict_of_canLay _ (SeqAt.canLay_of_shaped q2)) (DR.same sg r2), q1, q2, hq _ q.2 _ G H (Same.refl _) (Same.refl _) sg New.refl (.bl _)⟩
theorem gfree {G H : Hp} {p : Addr} (s : Same G H) (h : H p = none) : G p = none := by
  cases q : G p with | none => rfl | some u => rw [s _ _ q] at h; cases h
theorem o_add : VOp X (binaryOp .Add) dAdd := by
  intro pins s σ H x y v u Q I rx ry ⟨G, d1, d2, Q0, sg, r1, r2, q, hq⟩
  cases d1 with
  | int i =>
    cases d2 with
    | int j =>
      cases r1; cases r2
      exact op_add pins s σ H _ _ v u Q I rx ry ⟨i, j, rfl, rfl, hq _ q _ G H (Same.refl _) (Same.refl _) sg New.refl (.int _)⟩
    | _ => exact q.elim
  | str a =>
    cases d2 with
    | str b =>
      cases r1; cases r2
      exact op_add_str pins s σ H _ _ v u Q I rx ry ⟨a, b, rfl, rfl, q.1, hq _ q.2 _ G H (Same.refl _) (Same.refl _) sg New.refl (.str _)⟩
    | _ => exact q.elim
  | tuple xs =>
    cases d2 with
    | tuple ys =>
      cases r1 with
      | tup a1 q1 =>
        cases r2 with
        | tup a2 q2 =>
          refine op_catA pins s σ H _ _ v u Q I rx ry ⟨_, _, _, _, rfl, rfl, sameT sg a1, sameT sg a2, by rw [q1.length, q2.length]; exact q.1, fun e => ?_, fun _ e => ?_, fun _ _ p hp => ?_⟩
          · subst e
            cases xs with
            | nil => exact hq _ q.2 _ G H (Same.refl _) (Same.refl _) sg New.refl (.tup a2 q2)
            | cons => cases q1
          · subst e
            cases ys with
            | nil => exact hq _ q.2 _ G H (Same.refl _) (Same.refl _) sg New.refl (.tup a1 (by rw [List.append_nil]; exact q1))
            | cons => cases q2
          · have n := gfree sg hp
            exact hq _ q.2 _ (L2.upd G p _) _ (same_upd hp) (same_upd n) (same_upd2 sg) (new_upd hp) (.tup (SqT.of upd_same) (DRs.same (same_upd n) (q1.append q2)))
    | _ => exact q.elim
  | list xs =>
    cases d2 with
    | list ys =>
      cases r1 with
      | lst a1 q1 =>
        cases r2 with
        | lst a2 q2 =>
          refine op_cat pins s σ H _ _ v u Q I rx ry ⟨_, _, _, _, rfl, rfl, sg _ _ a1, sg _ _ a2, by rw [q1.length, q2.length]; exact q.1, fun p hp => ?_⟩
          have n := gfree sg hp
          exact hq _ q.2 _ (L2.upd G p _) _ (same_upd hp) (same_upd n) (same_upd2 sg) (new_upd hp) (.lst upd_same (DRs.same (same_upd n) (q1.append q2)))
    | _ => exact q.elim
  | _ => cases d2 <;> exact q.elim
end
/-! ### places -/
def dIx : R2D := fun a b Q => match a, b with
  | .tuple ds, .int i => (match atI ds i with | some d => Q d | none => False)
  | .list ds, .int i => (match atI ds i with | some d => Q d | none => False)
  | .str z, .int i => z.length ≤ sizeLine ∧ (match atI z.cps.toList i with | some c => Q (.str ⟨#[c]⟩) | none => False)
  | _, _ => False
theorem DRs.atI {K : PySem.W.Frag} {G : Hp} {xs : List V} {ds : List Dt} {i : Int} {d : Dt} (r : DRs K G xs ds) (h : L2.atI ds i = some d) : ∃ v, L2.atI xs i = some v ∧ DR K G v d := by
  unfold L2.atI at h ⊢
  rw [r.length]
  cases q : ixN ds.length i with
  | none => rw [q] at h; cases h
  | some j =>
    rw [q] at h
    obtain ⟨v, h1, h2⟩ := r.get (i := j) (d := d) h
    exact ⟨v, h1, h2⟩
section
variable {X : Cx} {U : WX} {a b e : Expr} {es : List Expr} {pos p2 : Pos} {ta tb te : VT} {al : VA}
theorem ix_imp {K : PySem.W.Frag} : ∀ x y H Q, lift2 K dIx x y H Q → rIx K x y H Q := by
  rintro x y H Q ⟨G, d1, d2, Q0, sg, r1, r2, q, hq⟩
  cases d1 with
  | tuple ds =>
    cases d2 with
    | int i =>
      cases r1 with
      | tup a1 q1 =>
        cases r2
        have q' : (match L2.atI ds i with | some d => Q0 d | none => False) := q
        cases hh : L2.atI ds i with
        | none => rw [hh] at q'; exact q'.elim
        | some d =>
          rw [hh] at q'
          obtain ⟨w, h1, h2⟩ := q1.atI hh
          exact .inr (.inl ⟨_, _, i, w, rfl, rfl, sameT sg a1, h1, hq d q' _ G H (Same.refl _) (Same.refl _) sg New.refl h2⟩)
    | _ => exact q.elim
  | list ds =>
    cases d2 with
    | int i =>
      cases r1 with
      | lst a1 q1 =>
        cases r2
        have q' : (match L2.atI ds i with | some d => Q0 d | none => False) := q
        cases hh : L2.atI ds i with
        | none => rw [hh] at q'; exact q'.elim
        | some d =>
          rw [hh] at q'
          obtain ⟨w, h1, h2⟩ := q1.atI hh
          exact .inl ⟨_, _, i, w, rfl, rfl, SqL.of (sg _ _ a1), h1, hq d q' _ G H (Same.refl _) (Same.refl _) sg New.refl h2⟩
    | _ => exact q.elim
  | str z =>
    cases d2 with
    | int i =>
      cases r1
      cases r2
      have q' : z.length ≤ sizeLine ∧ (match L2.atI z.cps.toList i with | some c => Q0 (.str ⟨#[c]⟩) | none => False) := q
      cases hh : L2.atI z.cps.toList i with
      | none => rw [hh] at q'; exact q'.2.elim
      | some c =>
        rw [hh] at q'
        exact .inr (.inr ⟨z, i, c, rfl, rfl, q'.1, hh, hq _ q'.2 _ G H (Same.refl _) (Same.refl _) sg New.refl (.str _)⟩)
    | _ => exact q.elim
  | _ => cases d2 <;> exact q.elim
theorem tOp_imp {K : PySem.W.Frag} {r : R2D} {r' : R2} (w : ∀ x y H Q, lift2 K r x y H Q → r' x y H Q) : ∀ σ H Q, tOp (lift2 K r) (up K U ta) (up K U tb) σ H Q → tOp r' (up K U ta) (up K U tb) σ H Q :=
  fun σ H Q ⟨C, ρ, n, G, O, Q0, E0, I, h, hq, he⟩ => ⟨C, ρ, n, G, O, Q0, E0, I, h, fun d1 n1 h1 v1 G1 O1 H1 I1 s1 r1 => by
    obtain ⟨C, ρ, n, G, O, Q0, E0, I, h, hq, he⟩ := hq d1 n1 h1 v1 G1 O1 H1 I1 s1 r1
    exact ⟨C, ρ, n, G, O, Q0, E0, I, h, fun d2 n2 h2 v2 G2 O2 H2 I2 s2 r2 => w _ _ _ _ (hq d2 n2 h2 v2 G2 O2 H2 I2 s2 r2), he⟩, he⟩
theorem ve_ix (ha : VE X U a ta) (hb : VE X U b tb) (hs : PlainIx b := by exact fun _ _ => rfl) : VE X U (.Subscript a b pos) (vOp dIx ta tb) := pe_imp (pe_ix ix_seq ha hb hs) fun σ H Q h => tOp_imp ix_imp σ H Q (up_op σ H Q h)
/-! ### slices -/
def cutD {α : Type} (xs : List α) (lo hi : Option Int) : List α := (xs.drop (HT.sIx xs.length 0 lo)).take (HT.sIx xs.length xs.length hi - HT.sIx xs.length 0 lo)
end
end VL


set_option maxRecDepth 100000
set_option maxHeartbeats 2000000
namespace VL
open PySem PySem.Spec PyProof.Rows L2
/-! ### built-in functions on data -/
abbrev RCD := List Dt → (Dt → Prop) → Prop
def liftC (K : PySem.W.Frag) (r : RCD) : List V → Hp → VK → Prop := fun xs H Q => ∃ G ds Q0, Same G H ∧ DRs K G xs ds ∧ r ds Q0 ∧ ∀ d, Q0 d → ∀ v G' H', Same H H' → Same G G' → Same G' H' → New G H G' → DR K G' v d → Q v H'
abbrev VCal (X : Cx) (f : Value) (r : RCD) : Prop := CallR X f (liftC X.K r)
def vCB (r : RCD) (al : VA) : VT := fun ρ n Q E => al ρ n (fun ds n' => r ds fun d => Q d n') E
section
variable {X : Cx} {U : WX} {a b e : Expr} {es : List Expr} {pos p : Pos} {ta tb te : VT} {al : VA} {x : Str} {id T : String} {r : RCD}
theorem up_cb : ∀ σ H Q, up X.K U (vCB r al) σ H Q → tCB (liftC X.K r) (upA X.K U al) σ H Q :=
  fun σ H Q ⟨C, ρ, n, G, O, Q0, E0, I, h, hq, he⟩ => ⟨C, ρ, n, G, O, _, E0, I, h, fun ds n1 h1 vs G1 O1 H1 I1 s1 r1 => ⟨G1, ds, _, I1.gH, r1, h1, fun d hd v G' H' sh sg sgh nw rd => hq d n1 hd v G' _ H' (I1.pure sh sg sgh nw) (s1.trans sg) rd⟩, he⟩
theorem ve_callB (hc : VCal X (.builtin id) r) (hg : Gl X x) (hm : X.mg x = none) (hv : bootBuiltins x = some (.builtin id)) (ha : VAa X U (e :: es) al) (hn : x ≠ "__name__" := by decide) (hdb : (x == ("__debug__" : Str)) = false := by decide)
    (he : starEach (e :: es) X.env = (false, eval e X.env) :: starEach es X.env := by rfl) (hpl : (backTo pos (starEach es X.env)).any (·.1) = false := by rfl) : VE X U (.Call (.Name x p) (e :: es) [] pos) (vCB r al) := pe_imp (pe_callB hc hg hm hv ha hn hdb he hpl) up_cb
theorem call_imp {f : Value} {r r' : List V → Hp → VK → Prop} (h : CallR X f r) (w : ∀ xs H Q, r' xs H Q → r xs H Q) : CallR X f r' := fun pins s σ H xs us Q I rv q => h pins s σ H xs us Q I rv (w _ _ _ q)
def bMin2 : RCD := fun ds Q => match ds with
  | [.int i, .int j] => Q (.int (if j < i then j else i))
  | _ => False
theorem c_min2 (hc : X.calm = true) : VCal X (.builtin "min") bMin2 := call_imp (call_min2 hc) fun xs H Q ⟨G, ds, Q0, sg, r, q, hq⟩ => by
  match ds, r, q with
  | [.int i, .int j], .cons (.int _) (.cons (.int _) .nil), q => exact ⟨i, j, rfl, hq _ q _ G H (Same.refl _) (Same.refl _) sg New.refl (.int _)⟩
def intsD : List Dt → Option (List Int)
  | [] => some []
  | .int i :: r => (intsD r).map (i :: ·)
  | _ => none
theorem intsD_map : ∀ ns : List Int, intsD (ns.map PyData.int) = some ns
  | [] => rfl
  | n :: ns => by simp [intsD, intsD_map ns]
/-! ### repr -/
def bRepr : RCD := fun ds Q => match ds with
  | [d] => d.hasDict = false ∧ d.showable = true ∧ d.shown.length ≤ sizeLine ∧ d.depth ≤ 60 ∧ Q (.str d.shown)
  | _ => False
/-! ### isinstance -/
def tyN : Dt → String
  | .none => "NoneType"
  | .bool _ => "bool"
  | .int _ => "int"
  | .str _ => "str"
  | .list _ => "list"
  | .tuple _ => "tuple"
  | .dict _ => "dict"
def isiD (T : String) (d : Dt) : Bool := tyN d == T || (T == "int" && tyN d == "bool")
/-- an error's object as it stands -/
theorem DR.errAt {X : Cx} {pins : List (Addr × Obj)} {σ : L2.St} {H : Hp} {s : Shared} {a dd : Addr} {c : Str} {fs : List (Str × V)} (k : XCls X.K c) (ea : H a = some (ErrO (.ref (He.ga X.K c)) (some dd) a)) (eb : H dd = some (.xd fs)) (I : Inv X pins σ H s) :
    ∃ od oe, PySem.W.InstAt s.heap a oe (He.ga X.K c) (some od) := by
  obtain ⟨⟨oe, vs, h1, hz, hd⟩, _⟩ := I.hok a _ ea
  obtain ⟨mA, hns, hr⟩ := (show ObjOk X.prog X.w H s.heap dd (.xd fs) from I.hok dd _ eb)
  obtain ⟨od, ho, _⟩ := lookIn_ns hns
  exact ⟨od, oe, h1, hz.1, by unfold PySem.W.notCls; rw [hd] <;> rfl, by rw [hz.2]; exact ho⟩
end
end VL


set_option maxRecDepth 100000
set_option maxHeartbeats 2000000
namespace VL
open PySem PySem.Spec PyProof.Rows L2
/-! ### enumerate of a tuple -/
/-! ### what is walked, as data -/
structure WalkD (K : PySem.W.Frag) (J : It) (G : Hp) (ds : List Dt) : Prop where
  stop : ∀ H, Same G H → J.stop ds.length H
  go : ∀ i H, Same G H → i < ds.length → J.go i H
  yld : ∀ i H x H' G1 d, Same G G1 → Same G1 H → J.yld i H x H' → ds[i]? = some d → ∃ G2, Same H H' ∧ Same G1 G2 ∧ Same G2 H' ∧ New G1 H G2 ∧ DR K G2 x d
def upI (K : PySem.W.Frag) (U : WX) (t : VA) : TI := fun σ H R => ∃ (C : Ct) (ρ : Nv) (n : Nat) (G O : Hp) (Q0 : List Dt → Nat → Prop) (E0 : XW), In K C σ ρ n G O H ∧ t ρ n Q0 E0 ∧
  (∀ ds n', Q0 ds n' → ∀ J G' O' H', In K C σ ρ n' G' O' H' → Same G G' → WalkD K J G' ds → R J H') ∧ LkX K U C σ ρ E0
abbrev VI (X : Cx) (U : WX) (tg iter : Expr) (t : VA) : Prop := PI X tg iter (upI X.K U t)
theorem pi_imp {X : Cx} {tg iter : Expr} {t t' : TI} (h : PI X tg iter t) (w : ∀ σ H R, t' σ H R → t σ H R) : PI X tg iter t' := by
  obtain ⟨h⟩ := h
  exact ⟨fun pins s σ H R I q => h pins s σ H R I (w _ _ _ q)⟩
section
variable {X : Cx} {U : WX} {tg e : Expr} {pos p tpos : Pos} {te : VT} {al : VA} {elts : List Expr} {kk : Nat}
/-- range -/
def rngD (lo : Int) (n : Nat) : List Dt := (List.range n).map fun i : Nat => PyData.int (lo + i)
theorem rngD_length (lo : Int) (n : Nat) : (rngD lo n).length = n := by simp [rngD]
theorem rngD_get {lo : Int} {n i : Nat} {d : Dt} (h : (rngD lo n)[i]? = some d) : d = .int (lo + i) := by
  unfold rngD at h
  rw [List.getElem?_map] at h
  cases q : (List.range n)[i]? with
  | none => rw [q] at h; cases h
  | some k =>
    rw [q] at h
    cases h
    rw [(List.getElem?_eq_some_iff.mp q).2.symm]
    simp
theorem walkD_rng {K : PySem.W.Frag} {G : Hp} {lo : Int} {n : Nat} : WalkD K (Itr lo n) G (rngD lo n) where
  stop := fun H s => by rw [rngD_length]; exact Nat.le_refl _
  go := fun i H s hi => by rw [rngD_length] at hi; exact hi
  yld := fun i H x H' G1 d s1 s2 y e => by
    obtain ⟨e1, y⟩ := y
    subst e1
    subst y
    rw [rngD_get e]
    exact ⟨G1, Same.refl _, Same.refl _, s2, New.refl, .int _⟩
def rng1 (Q : List Dt → Prop) (ds : List Dt) : Prop := match ds with
  | [.int j] => -(2 ^ 62) ≤ j ∧ j < 2 ^ 62 ∧ Q (rngD 0 j.toNat)
  | _ => False
def iR1 (al : VA) : VA := fun ρ n Q E => al ρ n (fun ds n' => rng1 (fun r => Q r n') ds) E
theorem vi_range1 {a : Expr} (hg : Gl X "range") (hm : X.mg "range" = none) (ha : VAa X U [a] al) (hs : starEach [a] X.env = [(false, eval a X.env)] := by rfl) : VI X U tg (.Call (.Name "range" p) [a] [] pos) (iR1 al) :=
  pi_imp (pi_range1 hg hm ha hs) fun σ H R ⟨C, ρ, n, G, O, Q0, E0, I, h, hq, he⟩ => ⟨C, ρ, n, G, O, _, E0, I, h, fun ds n' q vs G' O' H' I' s' r => by
    match ds, r, q with
    | [.int j], .cons (.int _) .nil, q => exact ⟨j, rfl, q.1, q.2.1, hq _ n' q.2.2 _ G' O' H' I' s' walkD_rng⟩, he⟩
/-- enumerate -/
def enumD (ds : List Dt) : List Dt := ds.mapIdx fun i d => PyData.tuple [.int (i : Int), d]
theorem enumD_length (ds : List Dt) : (enumD ds).length = ds.length := by simp [enumD]
theorem enumD_get {ds : List Dt} {i : Nat} {d : Dt} (h : (enumD ds)[i]? = some d) : ∃ x, ds[i]? = some x ∧ d = .tuple [.int (i : Int), x] := by
  unfold enumD at h
  rw [List.getElem?_mapIdx] at h
  cases q : ds[i]? with
  | none => rw [q] at h; cases h
  | some x => rw [q] at h; cases h; exact ⟨x, rfl, rfl⟩
theorem walkD_enumL {K : PySem.W.Frag} {G : Hp} {a : Addr} {xs : List V} {ds : List Dt} (h : G a = some (.lst xs)) (r : DRs K G xs ds) : WalkD K (Ite K a) G (enumD ds) where
  stop := fun H s => ⟨xs, SqL.of (s _ _ h), by rw [enumD_length]; exact Nat.le_of_eq r.length⟩
  go := fun i H s hi => ⟨xs, xs[i]'(by rw [r.length]; rw [enumD_length] at hi; exact hi), SqL.of (s _ _ h), by simp⟩
  yld := fun i H x H' G1 d s1 s2 y e => by
    obtain ⟨T, z, e1, hT, e2, y⟩ := y
    subst e1 e2
    obtain ⟨dx, hx, rfl⟩ := enumD_get e
    obtain ⟨v, hv, rv⟩ := r.get hx
    have := y xs (SqL.of ((s1.trans s2) _ _ h))
    rw [hv] at this
    cases this
    have n := gfree s2 hT
    exact ⟨L2.upd G1 T _, same_upd hT, same_upd n, same_upd2 s2, new_upd hT, .tup (SqT.of upd_same) (.cons (.int _) (.cons (DR.same (s1.trans (same_upd n)) rv) .nil))⟩
def iEL (al : VA) : VA := fun ρ n Q E => al ρ n (fun ds n' => match ds with
  | [.list xs] => Q (enumD xs) n'
  | _ => False) E
theorem vi_enumL (hg : Gl X "enumerate") (hm : X.mg "enumerate" = none) (ha : VAa X U [e] al) (hs : starEach [e] X.env = [(false, eval e X.env)] := by rfl) : VI X U (.Tuple elts kk tpos) (.Call (.Name "enumerate" p) [e] [] pos) (iEL al) :=
  pi_imp (pi_enum hg hm ha hs) fun σ H R ⟨C, ρ, n, G, O, Q0, E0, I, h, hq, he⟩ => ⟨C, ρ, n, G, O, _, E0, I, h, fun ds n' q vs G' O' H' I' s' r => by
    match ds, r, q with
    | [.list xs], .cons (.lst a r1) .nil, q => exact ⟨_, _, rfl, SqL.of (I'.gH _ _ a), hq _ n' q _ G' O' H' I' s' (walkD_enumL a r1)⟩, he⟩
/-! ### for -/
def vLoop (g : VGt) (tb : VST) (V : VN) : List Dt → Nv → Nat → Prop
  | [], ρ, n => V.nx ρ n
  | d :: ds, ρ, n => g d ρ fun ρ1 => tb { V with nx := vLoop g tb V ds, ct := vLoop g tb V ds, bk := V.nx } ρ1 n
abbrev Ct.at (C : Ct) (G : Hp) : Ct := ⟨C.mo, C.T, C.L, G, C.O0, C.H0⟩
theorem Io.to {C : Ct} {n : Nat} {G1 G O H : Hp} (I : Io C n G O H) (s : Same G1 G) (b : Same C.G0 G1) : Io (C.at G1) n G O H :=
  ⟨I.good, I.go, s, I.o0, I.oh, I.nO, fun a o e => by
    rcases I.nG a o e with q | q
    · exact .inl (b _ _ q)
    · exact .inr q, I.h0, I.tb⟩
theorem Io.back {C : Ct} {n : Nat} {G1 G O H : Hp} (I : Io (C.at G1) n G O H) (b : Same C.G0 G1) (nb : New C.G0 C.H0 G1) : Io C n G O H :=
  ⟨I.good, I.go, b.trans I.g0, I.o0, I.oh, I.nO, fun a o e => by
    rcases I.nG a o e with q | q
    · exact nb _ _ q
    · exact .inr q, I.h0, I.tb⟩
theorem RelW.at' {K : PySem.W.Frag} {C C' : Ct} {G O : Hp} {w : W} {v : V} (r : RelW K C G O w v) (h : C'.H0 = C.H0) (hm : C'.e = C.e) : RelW K C' G O w v := by
  obtain ⟨fp, f⟩ := r.f
  exact (f.see ⟨Same.refl _, fun b hb => by obtain ⟨o, q, _⟩ := f.ow b hb; exact ⟨rfl, q.g, by rw [h]; exact q.h0⟩⟩ hm).w
theorem RelW.back {K : PySem.W.Frag} {C : Ct} {G1 G O : Hp} {w : W} {v : V} (r : RelW K (C.at G1) G O w v) : RelW K C G O w v := r.at' rfl rfl
theorem Sl.at' {K : PySem.W.Frag} {C C' : Ct} {σ : L2.St} {ρ : Nv} {G O : Hp} {F : Nat → List Addr} (S : Sl K C σ ρ G O F) (h : C'.H0 = C.H0) (hm : C'.e = C.e) : Sl K C' σ ρ G O F := S.see (Same.refl _) (fun i w e b hb => by
  obtain ⟨o, q, _⟩ := S.ow e b hb
  exact ⟨rfl, q.g, by rw [h]; exact q.h0⟩) hm
theorem In.to {K : PySem.W.Frag} {C : Ct} {σ : L2.St} {ρ : Nv} {n : Nat} {G1 G O H : Hp} (I : In K C σ ρ n G O H) (s : Same G1 G) (b : Same C.G0 G1) : In K (C.at G1) σ ρ n G O H := by
  obtain ⟨F, S⟩ := I.sep
  exact ⟨I.toIo.to s b, I.ht, I.len, F, S.at' rfl rfl⟩
theorem In.back {K : PySem.W.Frag} {C : Ct} {σ : L2.St} {ρ : Nv} {n : Nat} {G1 G O H : Hp} (I : In K (C.at G1) σ ρ n G O H) (b : Same C.G0 G1) (nb : New C.G0 C.H0 G1) : In K C σ ρ n G O H := by
  obtain ⟨F, S⟩ := I.sep
  exact ⟨I.toIo.back b nb, I.ht, I.len, F, S.at' rfl rfl⟩
def vFor (ti : VA) (g : VGt) (tb : VST) : VST := fun V ρ n => ti ρ n (fun ds n' => vLoop g tb V ds ρ n') fun x n' => V.xc x ρ n'
theorem vs_for {iter : Expr} {body : List Stmt} {g : VGt} {tb : VST} {ti : VA} (hp : PassesOwn (model X.prog X.w) X.A X.env X.xe) (hc : X.calm = true) (hi : VI X U tg iter ti) (hg : PG X tg (upG X.K g)) (hb : VSs X U body tb)
    (hs : ∀ x, foldedSetIterable iter X.env x = pure x := by intro _; rfl) :
    VS X U (.For tg iter body [] pos) (vFor ti g tb) := ps_imp (ps_for hp hc hi hg hb hs) fun D σ H ⟨C, ρ, n, G, O, V, I, h, L⟩ => by
  refine ⟨C, ρ, n, G, O, _, _, I, h, fun ds n' q J G1 O1 H1 I1 s1 w => ?_, L.lkx σ ρ⟩
  refine ⟨fun i m σ H => ∃ ρ n G O, In X.K C σ ρ n G O H ∧ Same G1 G ∧ i ≤ ds.length ∧ m = ds.length - i ∧ vLoop g tb V (ds.drop i) ρ n, ⟨_, ρ, n', G1, O1, I1, Same.refl _, Nat.zero_le _, rfl, q⟩, ?_⟩
  rintro i m σ2 H2 ⟨ρ2, n2, G2, O2, I2, s2, hi, rfl, q2⟩
  by_cases hlt : i < ds.length
  · refine .inr ⟨w.go i H2 (s2.trans I2.gH) hlt, fun σ' H' => ∃ ρ n G O, In X.K C σ' ρ n G O H' ∧ Same G1 G ∧ vLoop g tb V (ds.drop (i + 1)) ρ n, ?_, fun x H3 y => ?_⟩
    · rintro σ' H' ⟨ρ', n'', G', O', I', s', q'⟩
      exact ⟨ds.length - (i + 1), by omega, ρ', n'', G', O', I', s', hlt, rfl, q'⟩
    · have ed : ds[i]? = some ds[i] := by simp [hlt]
      obtain ⟨G4, sh, sg, sgh, nw, rd⟩ := w.yld i H2 x H3 G2 ds[i] s2 I2.gH y ed
      have I4 := I2.pure sh sg sgh nw
      rw [List.drop_eq_getElem_cons hlt] at q2
      refine ⟨C, ρ2, n2, G4, _, ds[i], _, I4, rd, q2, fun ρ5 q5 σ5 I5 => ?_⟩
      have b1 : Same C.G0 G1 := I1.g0
      have b2 : New C.G0 C.H0 G1 := I1.nG
      refine ⟨C.at G1, ρ5, n2, G4, _, _, I5.to (s2.trans sg) b1, q5, ⟨fun ρ' n' q' σ' G' O' H' I' => ⟨ρ', n', G', O', I'.back b1 b2, I'.g0, q'⟩, fun w' n' q' v G' O' H' J r => L.rt w' n' q' v G' O' H' (J.back b1 b2) r.back, fun ρ' n' q' σ' G' O' H' I' => L.nx ρ' n' q' σ' G' O' H' (I'.back b1 b2),
        fun ρ' n' q' σ' G' O' H' I' => ⟨ρ', n', G', O', I'.back b1 b2, I'.g0, q'⟩, fun x ρ' n' q' cls d σ' G' O' H' I' r => L.xc x ρ' n' q' cls d σ' G' O' H' (I'.back b1 b2) r⟩⟩
  · have e : i = ds.length := by omega
    subst e
    rw [List.drop_length] at q2
    exact .inl ⟨w.stop H2 (s2.trans I2.gH), L.nx _ n2 q2 _ _ _ _ I2⟩
/-! ### while -/
end
end VL


set_option maxRecDepth 100000
set_option maxHeartbeats 400000
namespace VL
open PySem PySem.Spec PyProof.Rows L2
/-! ### list comprehensions -/
def wipeE (ρ : Nv) : List Nat → Nv
  | [] => ρ
  | v :: vs => (wipeE ρ vs).set v none
theorem wipeE_length (ρ : Nv) : ∀ vs, (wipeE ρ vs).length = ρ.length
  | [] => rfl
  | v :: vs => by unfold wipeE; rw [List.length_set, wipeE_length ρ vs]
theorem wipeE_out {ρ : Nv} {i : Nat} : ∀ {vs : List Nat}, i ∉ vs → (wipeE ρ vs)[i]? = ρ[i]?
  | [], _ => rfl
  | v :: vs, h => by
    unfold wipeE
    rw [List.getElem?_set_ne (fun e => h (by simp [e])), wipeE_out fun z => h (List.mem_cons_of_mem _ z)]
theorem wipeE_some {ρ : Nv} {i : Nat} {w : W} : ∀ {vs : List Nat}, (wipeE ρ vs)[i]? = some (some w) → ρ[i]? = some (some w) ∧ i ∉ vs
  | [], h => ⟨h, by simp⟩
  | v :: vs, h => by
    unfold wipeE at h
    by_cases hi : v = i
    · subst hi
      by_cases hv : v < (wipeE ρ vs).length
      · rw [List.getElem?_set_self hv] at h; cases h
      · rw [List.getElem?_eq_none (by simpa using hv)] at h; cases h
    · rw [List.getElem?_set_ne hi] at h
      obtain ⟨h1, h2⟩ := wipeE_some h
      exact ⟨h1, by simp only [List.mem_cons, not_or]; exact ⟨fun e => hi e.symm, h2⟩⟩
theorem wipe_out {σ : L2.St} {i : Nat} : ∀ {vs : List Nat}, i ∉ vs → (wipe σ vs)[i]? = σ[i]?
  | [], _ => rfl
  | v :: vs, h => by
    unfold wipe
    rw [List.getElem?_set_ne (fun e => h (by simp [e])), wipe_out fun z => h (List.mem_cons_of_mem _ z)]
theorem wipe_set {σ : L2.St} {i : Nat} {x : Option V} : ∀ {vs : List Nat}, i ∈ vs → wipe (σ.set i x) vs = wipe σ vs
  | [], h => by cases h
  | v :: vs, h => by
    unfold wipe
    by_cases hv : i ∈ vs
    · rw [wipe_set hv]
    · have e : i = v := by
        rcases List.mem_cons.mp h with z | z
        · exact z
        · exact absurd z hv
      subst e
      have key : ∀ us : List Nat, i ∉ us → wipe (σ.set i x) us = (wipe σ us).set i x := by
        intro us
        induction us with
        | nil => intro _; rfl
        | cons u us ih =>
          intro hn
          unfold wipe
          rw [ih fun z => hn (List.mem_cons_of_mem _ z), List.set_comm _ _ (fun e => hn (by simp [e]))]
      rw [key vs hv, List.set_set]
theorem wipeE_set {σ : Nv} {i : Nat} {x : Option W} : ∀ {vs : List Nat}, i ∈ vs → wipeE (σ.set i x) vs = wipeE σ vs
  | [], h => by cases h
  | v :: vs, h => by
    unfold wipeE
    by_cases hv : i ∈ vs
    · rw [wipeE_set hv]
    · have e : i = v := by
        rcases List.mem_cons.mp h with z | z
        · exact z
        · exact absurd z hv
      subst e
      have key : ∀ us : List Nat, i ∉ us → wipeE (σ.set i x) us = (wipeE σ us).set i x := by
        intro us
        induction us with
        | nil => intro _; rfl
        | cons u us ih =>
          intro hn
          unfold wipeE
          rw [ih fun z => hn (List.mem_cons_of_mem _ z), List.set_comm _ _ (fun e => hn (by simp [e]))]
      rw [key vs hv, List.set_set]
section
variable {K : PySem.W.Frag} {C : Ct} {σ : L2.St} {ρ : Nv} {n n' : Nat} {G O H G' O' H' : Hp}
theorem Sl.wipe {F : Nat → List Addr} (S : Sl K C σ ρ G O F) (vs : List Nat) : Sl K C (L2.wipe σ vs) (wipeE ρ vs) G O F := by
  refine ⟨fun i w e => ?_, fun i j w u ij e1 e2 => S.ap i j w u ij (wipeE_some e1).1 (wipeE_some e2).1⟩
  obtain ⟨e1, h⟩ := wipeE_some e
  obtain ⟨v, h1, h2⟩ := S.at_ i w e1
  exact ⟨v, by rw [wipe_out h]; exact h1, h2⟩
theorem In.wipe (I : In K C σ ρ n G O H) (vs : List Nat) : In K C (L2.wipe σ vs) (wipeE ρ vs) n G O H := by
  obtain ⟨F, S⟩ := I.sep
  exact ⟨I.toIo, I.ht, by rw [wipe_length, wipeE_length]; exact I.len, F, S.wipe vs⟩
/-- it stands for a datum -/
def noFp : W → Bool
  | .own _ => false
  | .dct _ => false
  | .obj _ _ => false
  | _ => true
theorem noFp_nil {w : W} {v : V} {fp : List Addr} (h : noFp w = true) (r : RelF K C G O w v fp) : fp = [] := by
  cases w with
  | own ds => cases h
  | dct kvs => cases h
  | obj c fs => cases h
  | _ => exact r.2
def noOwn (ρ : Nv) : List Nat → Prop
  | [] => True
  | v :: vs => (match ρ[v]? with | some (some w) => noFp w = true | _ => True) ∧ noOwn ρ vs
theorem noOwn.at {i : Nat} {w : W} : ∀ {vs : List Nat}, noOwn ρ vs → i ∈ vs → ρ[i]? = some (some w) → noFp w = true
  | v :: vs, h, hi, e => by
    rcases List.mem_cons.mp hi with z | z
    · subst z
      have := h.1
      rw [e] at this
      exact this
    · exact noOwn.at h.2 z e
open Classical in
theorem Sl.unwipe {F F' : Nat → List Addr} (S : Sl K C σ ρ G O F) {vs : List Nat} (S' : Sl K C (L2.wipe σ vs) (wipeE ρ vs) G' O' F') (sg : Same G G') (no : noOwn ρ vs) : Sl K C σ ρ G' O' (fun i => if i ∈ vs then [] else F' i) := by
  refine ⟨fun i w e => ?_, fun i j w u ij e1 e2 b hb => ?_⟩
  · by_cases hi : i ∈ vs
    · obtain ⟨v, h1, h2⟩ := S.at_ i w e
      have z := noFp_nil (no.at hi e) h2
      refine ⟨v, h1, ?_⟩
      rw [if_pos hi]
      rw [z] at h2
      exact h2.see ⟨sg, fun b hb => by cases hb⟩ rfl
    · obtain ⟨v, h1, h2⟩ := S'.at_ i w (by rw [wipeE_out hi]; exact e)
      exact ⟨v, by rw [wipe_out hi] at h1; exact h1, by rw [if_neg hi]; exact h2⟩
  · by_cases hi : i ∈ vs
    · rw [if_pos hi] at hb; cases hb
    · by_cases hj : j ∈ vs
      · rw [if_pos hj]; intro z; cases z
      · rw [if_neg hi] at hb
        rw [if_neg hj]
        exact S'.ap i j w u ij (by rw [wipeE_out hi]; exact e1) (by rw [wipeE_out hj]; exact e2) b hb
theorem In.unwipe (I : In K C σ ρ n G O H) {vs : List Nat} (J : In K C (L2.wipe σ vs) (wipeE ρ vs) n' G' O' H') (sg : Same G G') (no : noOwn ρ vs) : In K C σ ρ n' G' O' H' := by
  obtain ⟨F, S⟩ := I.sep
  obtain ⟨F', S'⟩ := J.sep
  exact ⟨J.toIo, I.ht, I.len, _, S.unwipe S' sg no⟩
/-- no name has the thing at D -/
def Off (K : PySem.W.Frag) (C : Ct) (σ : L2.St) (ρ : Nv) (G O : Hp) (D : Addr) : Prop := ∃ F, Sl K C σ ρ G O F ∧ ∀ (j : Nat) (u : W), ρ[j]? = some (some u) → D ∉ F j
theorem Off.unwipe {D : Addr} (I : In K C σ ρ n G O H) {vs : List Nat} (f : Off K C (L2.wipe σ vs) (wipeE ρ vs) G' O' D) (sg : Same G G') (no : noOwn ρ vs) : Off K C σ ρ G' O' D := by
  obtain ⟨F, S⟩ := I.sep
  obtain ⟨F', S', h⟩ := f
  refine ⟨_, S.unwipe S' sg no, fun j u e => ?_⟩
  by_cases hj : j ∈ vs
  · rw [if_pos hj]; intro z; cases z
  · rw [if_neg hj]; exact h j u (by rw [wipeE_out hj]; exact e)
theorem Off.wipe {D : Addr} (f : Off K C σ ρ G O D) (vs : List Nat) : Off K C (L2.wipe σ vs) (wipeE ρ vs) G O D := by
  obtain ⟨F, S, h⟩ := f
  exact ⟨F, S.wipe vs, fun j u e => h j u (wipeE_some e).1⟩
theorem Off.pure {D : Addr} (f : Off K C σ ρ G O D) (I : Io C n G O H) (sg : Same G G') (nw : New G H G') : Off K C σ ρ G' (grow O H H') D := by
  obtain ⟨F, S, h⟩ := f
  exact ⟨F, S.pure I sg nw, h⟩
theorem Off.fresh {D : Addr} {xs : List V} {ds : List Dt} (f : Off K C σ ρ G O D) (w : Ow C G O D (.lst xs)) (r : DRs K G xs ds) : Fresh C σ ρ K G O D ds := by
  obtain ⟨F, S, h⟩ := f
  exact ⟨F, [D], S, ⟨D, xs, rfl, rfl, w, r⟩, fun j u e b hb => by rw [List.mem_singleton.mp hb]; exact h j u e⟩
theorem Fresh.off {D : Addr} {ds : List Dt} (f : Fresh C σ ρ K G O D ds) : Off K C σ ρ G O D ∧ ∃ xs, Ow C G O D (.lst xs) ∧ DRs K G xs ds := by
  obtain ⟨F, fp, S, ⟨a, xs, e, e2, w, r⟩, h⟩ := f
  cases e
  exact ⟨⟨F, S, fun j u e => h j u e D (by rw [e2]; exact List.mem_singleton.mpr rfl)⟩, xs, w, r⟩
/-- a list under way, out of sight -/
abbrev Ct.hide (C : Ct) (D : Addr) (xs : List V) : Ct := ⟨C.mo, C.T, C.L, C.G0, L2.upd C.O0 D (.lst xs), L2.upd C.H0 D (.lst xs)⟩
theorem In.hide {D : Addr} {xs : List V} (I : In K C σ ρ n G O H) (w : Ow C G O D (.lst xs)) (fr : Off K C σ ρ G O D) : In K (C.hide D xs) σ ρ n G O H := by
  obtain ⟨F, S, off⟩ := fr
  refine ⟨⟨I.good, I.go, I.g0, fun a u e => ?_, same_upd2 I.oh, fun a u e => ?_, fun a u e => ?_, fun a e => ?_, I.tb⟩, I.ht, I.len, F, S.see (Same.refl _) (fun i u e b hb => ?_) rfl⟩
  · by_cases h : a = D
    · subst h
      have e' : L2.upd C.O0 a (.lst xs) a = some u := e
      rw [upd_same] at e'; cases e'; exact w.o
    · have e' : L2.upd C.O0 D (.lst xs) a = some u := e
      rw [upd_ne h] at e'; exact I.o0 _ _ e'
  · by_cases h : a = D
    · subst h
      rw [w.o] at e; cases e
      exact .inl upd_same
    · rcases I.nO a u e with q | q
      · exact .inl (by show L2.upd C.O0 D _ a = _; rw [upd_ne h]; exact q)
      · exact .inr (by show L2.upd C.H0 D _ a = _; rw [upd_ne h]; exact q)
  · have h : a ≠ D := ne_of_none e w.g
    rcases I.nG a u e with q | q
    · exact .inl q
    · exact .inr (by show L2.upd C.H0 D _ a = _; rw [upd_ne h]; exact q)
  · have h : a ≠ D := fun z => by subst z; rw [I.oH _ _ w.o] at e; cases e
    show L2.upd C.H0 D _ a = _
    rw [upd_ne h]; exact I.h0 a e
  · obtain ⟨o, q, _⟩ := S.ow e b hb
    have h : b ≠ D := fun z => by subst z; exact off i u e hb
    exact ⟨rfl, q.g, by show L2.upd C.H0 D _ b = _; rw [upd_ne h]; exact q.h0⟩
theorem In.show {D : Addr} {xs : List V} (I : In K (C.hide D xs) σ ρ n G O H) (h0 : C.H0 D = none) (oh : Same C.O0 C.H0) (g0 : C.G0 D = none) :
    In K C σ ρ n G O H ∧ O D = some (.lst xs) ∧ G D = none ∧ Off K C σ ρ G O D := by
  have o0 : C.O0 D = none := by
    cases q : C.O0 D with | none => rfl | some u => rw [oh _ _ q] at h0; cases h0
  have oD : O D = some (.lst xs) := I.o0 _ _ upd_same
  have gD : G D = none := by
    cases q : G D with
    | none => rfl
    | some u =>
      rcases I.nG D u q with z | z
      · have z' : C.G0 D = some u := z
        rw [g0] at z'; cases z'
      · have z' : L2.upd C.H0 D (.lst xs) D = none := z
        rw [upd_same] at z'; cases z'
  obtain ⟨F, S⟩ := I.sep
  have nD : ∀ (i : Nat) (u : W), ρ[i]? = some (some u) → ∀ b ∈ F i, b ≠ D ∧ C.H0 b = none := fun i u e b hb => by
    obtain ⟨o, q, _⟩ := S.ow e b hb
    have q' : L2.upd C.H0 D (.lst xs) b = none := q.h0
    by_cases h : b = D
    · subst h; rw [upd_same] at q'; cases q'
    · rw [upd_ne h] at q'; exact ⟨h, q'⟩
  have S' : Sl K C σ ρ G O F := S.see (Same.refl _) (fun i u e b hb => by
    obtain ⟨o, q, _⟩ := S.ow e b hb
    exact ⟨rfl, q.g, (nD i u e b hb).2⟩) rfl
  refine ⟨⟨⟨I.good, I.go, I.g0, fun a u e => ?_, oh, fun a u e => ?_, fun a u e => ?_, fun a e => ?_, I.tb⟩, I.ht, I.len, F, S'⟩, oD, gD, F, S', fun j u e z => (nD j u e D z).1 rfl⟩
  · have h : a ≠ D := ne_of_none e o0
    exact I.o0 _ _ (by show L2.upd C.O0 D _ a = _; rw [upd_ne h]; exact e)
  · by_cases h : a = D
    · subst h; exact .inr h0
    · rcases I.nO a u e with q | q
      · have q' : L2.upd C.O0 D (.lst xs) a = some u := q
        rw [upd_ne h] at q'; exact .inl q'
      · have q' : L2.upd C.H0 D (.lst xs) a = none := q
        rw [upd_ne h] at q'; exact .inr q'
  · have h : a ≠ D := ne_of_none e gD
    rcases I.nG a u e with q | q
    · exact .inl q
    · have q' : L2.upd C.H0 D (.lst xs) a = none := q
      rw [upd_ne h] at q'; exact .inr q'
  · by_cases h : a = D
    · subst h; exact h0
    · have q' : L2.upd C.H0 D (.lst xs) a = none := I.h0 a e
      rw [upd_ne h] at q'; exact q'
end
/-- a target in both readings -/
def PairG (K : PySem.W.Frag) (vs : List Nat) (gh : TG) (gv : VGt) : Prop := ∀ v σ H Q C ρ n G O d Q0, In K C σ ρ n G O H → DR K G v d → gv d ρ Q0 → (∀ ρ', Q0 ρ' → wipeE ρ' vs = wipeE ρ vs → ∀ σ', In K C σ' ρ' n G O H → wipe σ' vs = wipe σ vs → Q σ' H) → gh v σ H Q
theorem pair_tup2 {K : PySem.W.Frag} {vs : List Nat} (i j : Nat) (hi : i ∈ vs := by decide) (hj : j ∈ vs := by decide) : PairG K vs (gTup K 2 (gCons (gName i) (gCons (gName j) gNil))) (gT 2 (gsC (gN i) (gsC (gN j) gsN))) := by
  intro v σ H Q C ρ n G O d Q0 I r q h
  cases d with
  | tuple ds =>
    cases r with
    | tup a r =>
      cases r with
      | nil => exact absurd q.1 (by simp)
      | cons r1 r =>
        cases r with
        | nil => exact absurd q.1 (by simp)
        | cons r2 r =>
          cases r with
          | nil => exact ⟨_, _, rfl, sameT I.gH a, rfl, _, _, rfl, _, _, rfl, rfl, h _ q.2 (by rw [wipeE_set hj, wipeE_set hi]) _ ((I.set i r1).set j r2) (by rw [wipe_set hj, wipe_set hi])⟩
          | cons r3 r => exact absurd q.1 (by simp)
  | _ => exact q.elim
theorem wipe_idem (σ : L2.St) (vs : List Nat) : ∀ us : List Nat, (∀ u ∈ us, u ∈ vs) → wipe (wipe σ vs) us = wipe σ vs
  | [], _ => rfl
  | u :: us, hu => by
    have ih := wipe_idem σ vs us fun z hz => hu z (List.mem_cons_of_mem _ hz)
    show (wipe (wipe σ vs) us).set u none = wipe σ vs
    rw [ih]
    generalize ht : wipe σ vs = τ
    apply List.ext_getElem?
    intro k
    by_cases hk : u = k
    · subst hk
      by_cases hl : u < τ.length
      · rw [List.getElem?_set_self hl]
        cases z : τ[u]? with
        | none => rw [List.getElem?_eq_none_iff] at z; omega
        | some o =>
          cases o with
          | none => rfl
          | some v => rw [← ht] at z; exact absurd (hu u (by simp)) (wipe_some z).2
      · rw [List.getElem?_eq_none (by simpa using hl), List.getElem?_eq_none (by simpa using hl)]
    · rw [List.getElem?_set_ne hk]
theorem wipeE_idem (ρ : Nv) (vs : List Nat) : ∀ us : List Nat, (∀ u ∈ us, u ∈ vs) → wipeE (wipeE ρ vs) us = wipeE ρ vs
  | [], _ => rfl
  | u :: us, hu => by
    have ih := wipeE_idem ρ vs us fun z hz => hu z (List.mem_cons_of_mem _ hz)
    show (wipeE (wipeE ρ vs) us).set u none = wipeE ρ vs
    rw [ih]
    generalize ht : wipeE ρ vs = τ
    apply List.ext_getElem?
    intro k
    by_cases hk : u = k
    · subst hk
      by_cases hl : u < τ.length
      · rw [List.getElem?_set_self hl]
        cases z : τ[u]? with
        | none => rw [List.getElem?_eq_none_iff] at z; omega
        | some o =>
          cases o with
          | none => rfl
          | some v => rw [← ht] at z; exact absurd (hu u (by simp)) (wipeE_some z).2
      · rw [List.getElem?_eq_none (by simpa using hl), List.getElem?_eq_none (by simpa using hl)]
    · rw [List.getElem?_set_ne hk]
theorem In.mutD {K : PySem.W.Frag} {C : Ct} {σ : L2.St} {ρ : Nv} {n : Nat} {G O H : Hp} {D : Addr} {xs ys : List V} (I : In K C σ ρ n G O H) (w : Ow C G O D (.lst xs)) (fr : Off K C σ ρ G O D) :
    In K C σ ρ n G (L2.upd O D (.lst ys)) (L2.upd H D (.lst ys)) ∧ Off K C σ ρ G (L2.upd O D (.lst ys)) D := by
  obtain ⟨F, S, off⟩ := fr
  have o0n : C.O0 D = none := by
    cases q : C.O0 D with | none => rfl | some u => have := I.oh _ _ q; rw [w.h0] at this; cases this
  have S' : Sl K C σ ρ G (L2.upd O D (.lst ys)) F := S.see (Same.refl _) (fun i u e b hb => by
    obtain ⟨o, q, _⟩ := S.ow e b hb
    have h : b ≠ D := fun z => by subst z; exact off i u e hb
    exact ⟨upd_ne h, q.g, q.h0⟩) rfl
  refine ⟨⟨⟨I.good.upd (.inl (by rw [w.o]; simp)), fun b u e => ?_, I.g0, fun b u e => ?_, I.oh, fun b u e => ?_, I.nG, fun b e => ?_, I.tb.upd w.o (I.oH _ _ w.o) plain_lst⟩, I.ht, I.len, F, S'⟩, F, S', off⟩
  · rw [upd_ne (ne_of_none e w.g)]; exact I.go _ _ e
  · rw [upd_ne (ne_of_none e o0n)]; exact I.o0 _ _ e
  · by_cases hb : b = D
    · subst hb; exact .inr w.h0
    · rw [upd_ne hb] at e; exact I.nO b u e
  · by_cases hb : b = D
    · subst hb; exact w.h0
    · rw [upd_ne hb] at e; exact I.h0 b e
def vLcL (g : VGt) (xt : VB) (te : VT) (ρ : Nv) (Q : List Dt → Nat → Prop) : List Dt → List Dt → Nat → Prop
  | [], acc, n => Q acc n
  | d :: ds, acc, n => g d ρ fun ρ1 => xt ρ1 n (fun b n1 => if b = true then te ρ1 n1 (fun y n2 => acc.length < sizeLine ∧ vLcL g xt te ρ Q ds (acc ++ [y]) n2) (fun _ _ => False) else vLcL g xt te ρ Q ds acc n1) fun _ _ => False
def vLc (ti : VA) (g : VGt) (xt : VB) (te : VT) (vs : List Nat) : VA := fun ρ n Q E => noOwn ρ vs ∧ ti ρ n (fun ds n' => vLcL g xt te (wipeE ρ vs) Q ds [] n') E
abbrev U0 : WX := fun _ _ _ _ => False
theorem lkx0 {K : PySem.W.Frag} {C : Ct} {σ : L2.St} {ρ : Nv} : LkX K U0 C σ ρ (fun _ _ => False) := fun _ _ h => h.elim
theorem up_lc {K : PySem.W.Frag} {U : WX} {ti : VA} {g : VGt} {gh : TG} {xt : VB} {te : VT} {vs : List Nat} (pg : PairG K vs gh g) :
    ∀ σ H Q, upO K U (vLc ti g xt te vs) σ H Q → tLc (upI K U ti) gh (upB K U0 xt) (up K U0 te) vs σ H Q := fun σ H Q ⟨C, ρ, n, G, O, Q0, E0, I, h, hq, he⟩ => by
  refine ⟨C, ρ, n, G, O, _, E0, I, h.2, fun ds n' q J G1 O1 H1 I1 s1 w D hD => ?_, he⟩
  have I2 := (fresh_new (K := K) (xs := []) (ds := []) I1 hD .nil)
  have gD0 : C.G0 D = none := by
    cases q : C.G0 D with | none => rfl | some u => rw [I1.gH _ _ (I1.g0 _ _ q)] at hD; cases hD
  have hD0 : C.H0 D = none := I1.h0 D hD
  refine ⟨fun i m H' => ∃ acc n2 G2 O2 xs, In K C σ ρ n2 G2 O2 H' ∧ Same G1 G2 ∧ i ≤ ds.length ∧ m = ds.length - i ∧ G2 D = none ∧ O2 D = some (.lst xs) ∧ DRs K G2 xs acc ∧ Off K C σ ρ G2 O2 D ∧ vLcL g xt te (wipeE ρ vs) Q0 (ds.drop i) acc n2,
    ⟨_, [], n', G1, _, [], I2.1, Same.refl _, Nat.zero_le _, rfl, ?_⟩, ?_⟩
  · obtain ⟨off, xs, w2, f4⟩ := I2.2.off
    have e : xs = [] := by cases f4; rfl
    subst e
    exact ⟨w2.g, w2.o, f4, off, q⟩
  rintro i m H2 ⟨acc, n2, G2, O2, xs, J2, s2, hi, rfl, gD, oD, r2, fr, q2⟩
  by_cases hlt : i < ds.length
  · refine .inr ⟨w.go i H2 (s2.trans J2.gH) hlt, fun H' => ∃ acc n2 G2 O2 xs, In K C σ ρ n2 G2 O2 H' ∧ Same G1 G2 ∧ G2 D = none ∧ O2 D = some (.lst xs) ∧ DRs K G2 xs acc ∧ Off K C σ ρ G2 O2 D ∧ vLcL g xt te (wipeE ρ vs) Q0 (ds.drop (i + 1)) acc n2, ?_, fun x H3 y => ?_⟩
    · rintro H' ⟨acc', n3, G3, O3, xs', J3, s3, g3, o3, r3, f3, q3⟩
      exact ⟨ds.length - (i + 1), by omega, acc', n3, G3, O3, xs', J3, s3, hlt, rfl, g3, o3, r3, f3, q3⟩
    · have ed : ds[i]? = some ds[i] := by simp [hlt]
      obtain ⟨G4, sh, sg, sgh, nw, rd⟩ := w.yld i H2 x H3 G2 ds[i] s2 J2.gH y ed
      have J4 := J2.pure sh sg sgh nw
      have g4 : G4 D = none := by
        cases q : G4 D with
        | none => rfl
        | some u =>
          rcases nw D u q with z | z
          · rw [gD] at z; cases z
          · rw [J2.oH _ _ oD] at z; cases z
      have o4 : grow O2 H2 H3 D = some (.lst xs) := grow_same J2.oH _ _ oD
      have fr4 := fr.pure (H' := H3) J2.toIo sg nw
      have J5 := ((J4.hide ⟨g4, hD0, o4⟩ fr4).to (G1 := G4) (Same.refl _) (J4.g0)).wipe vs
      rw [List.drop_eq_getElem_cons hlt] at q2
      refine pg x _ H3 _ _ _ _ _ _ ds[i] _ J5 rd q2 fun ρ6 q6 e6 σ6 J6 w6 => ?_
      have eS : wipe σ6 vs = wipe σ vs := w6.trans (wipe_idem σ vs vs fun _ h => h)
      have eW : wipeE ρ6 vs = wipeE ρ vs := e6.trans (wipeE_idem ρ vs vs fun _ h => h)
      refine ⟨eS, ?_⟩
      have fin : ∀ {n' : Nat} {G' O' H' : Hp}, In K ((C.hide D xs).at G4) σ6 ρ6 n' G' O' H' → In K C σ ρ n' G' O' H' ∧ O' D = some (.lst xs) ∧ G' D = none ∧ Same G4 G' ∧ Off K C σ ρ G' O' D := fun {n' G' O' H'} J7 => by
        have nb : New C.G0 (L2.upd C.H0 D (.lst xs)) G4 := by
          intro a o e
          have hD' : a ≠ D := ne_of_none e g4
          rcases J4.nG a o e with z | z
          · exact .inl z
          · exact .inr (by rw [upd_ne hD']; exact z)
        obtain ⟨b1, b2, b3, b4⟩ := (J7.back (C := C.hide D xs) J4.g0 nb).show hD0 I.oh gD0
        have v7 := b1.wipe vs
        have v8 := b4.wipe vs
        rw [eW, eS] at v7 v8
        exact ⟨J4.unwipe v7 J7.g0 h.1, b2, b3, J7.g0, v8.unwipe J4 J7.g0 h.1⟩
      refine ⟨_, ρ6, n2, G4, _, _, _, J6, q6, fun b n1 qb G7 O7 H7 J7 s7 => ?_, lkx0⟩
      cases b with
      | true =>
        rw [if_pos rfl] at qb ⊢
        refine ⟨_, ρ6, n1, G7, O7, _, _, J7, qb, fun y n8 qy v G8 O8 H8 J8 s8 ry => ?_, lkx0⟩
        obtain ⟨K8, o8, g8, s48, f8⟩ := fin J8
        obtain ⟨K9, f9⟩ := K8.mutD (ys := xs ++ [v]) ⟨g8, hD0, o8⟩ f8
        have r8 : DRs K G8 (xs ++ [v]) (acc ++ [y]) := (DRs.same (sg.trans s48) r2).append (.cons ry .nil)
        exact ⟨xs, K8.oH _ _ o8, by rw [r2.length]; exact qy.1, acc ++ [y], n8, G8, _, xs ++ [v], K9, (s2.trans sg).trans s48, g8, upd_same, r8, f9, qy.2⟩
      | false =>
        rw [if_neg Bool.false_ne_true] at qb ⊢
        obtain ⟨K7, o7, g7, s47, f7⟩ := fin J7
        exact ⟨acc, n1, G7, O7, xs, K7, (s2.trans sg).trans s47, g7, o7, DRs.same (sg.trans s47) r2, f7, qb⟩
  · have e : i = ds.length := by omega
    subst e
    rw [List.drop_length] at q2
    exact .inl ⟨w.stop H2 (s2.trans J2.gH), hq acc n2 q2 D G2 O2 H2 J2 (s1.trans s2) (fr.fresh ⟨gD, hD0, oD⟩ r2)⟩
end VL


set_option maxRecDepth 100000
set_option maxHeartbeats 400000
namespace VL
open PySem PySem.Spec PyProof.Rows L2
section
variable {X : Cx} {U : WX} {elt tg iter : Expr} {ifs : List Expr} {scope : Scope} {own : List (Str × Nat)} {pos spos : Pos} {ti : VA} {g : VGt} {gh : TG} {xt : VB} {te : VT}
theorem vpts_one {c : Expr} (h : VTt X U c xt) : PTs X [c] (upB X.K U xt) := pts_one h
theorem vo_lc (hc : X.calm = true) (hN : X.N.Nodup) (hi : VI X U tg iter ti) (ok : BlkOk X.N X.env.scope scope own)
    (hg : ∀ (s : Shared) (H : Hp) (C : Addr) (cl : List (Str × Addr)) (fp : List Addr), PG (X.blk s H scope (compEnvC scope cl C X.env) fp) tg gh) (pg : PairG X.K (own.map (·.2)) gh g)
    (ht : ∀ (s : Shared) (H : Hp) (C : Addr) (cl : List (Str × Addr)) (fp : List Addr), PTs (X.blk s H scope (compEnvC scope cl C X.env) fp) ifs (upB X.K U0 xt))
    (he : ∀ (s : Shared) (H : Hp) (C : Addr) (cl : List (Str × Addr)) (fp : List Addr), PE (X.blk s H scope (compEnvC scope cl C X.env) fp) elt (up X.K U0 te)) (hs : ∀ x, foldedSetIterable iter X.env x = pure x := by intro _; rfl) :
    VO X U (.ListComp elt [⟨tg, iter, ifs, 0⟩] scope pos) (vLc ti g xt te (own.map (·.2))) := pe_imp (pe_lc hc hN hi ok hg ht he hs) (up_lc pg)
/-! ### the machine is made -/
def spBegun (K : PySem.W.Frag) : Sp := fun vs H Q _ => ∃ (a : Addr) (ns : List Int), vs = [.ref a] ∧ SqL K H a (ns.map V.int) ∧ ns.length ≤ 63 ∧
  ∀ m H', Same H H' → Mach m 0 H H' → H m = none → Q (.ref m) H'
end
/-! ### the law's own def -/
def spLaw (K : PySem.W.Frag) : Sp := fun vs H Q _ => ∃ (a : Addr) (ns : List Int), vs = [.ref a] ∧ SqL K H a (ns.map V.int) ∧ ns.length ≤ 63 ∧ LamX.Tabs (tabT K) H ∧ ∀ H', Q (.bl true) H'
def lawEnd : VN := ⟨fun _ _ => False, fun w _ => w = .dat (.bool true), fun _ _ => False, fun _ _ => False, fun _ _ _ => False⟩
open Classical in
/-- without the tables -/
noncomputable def offT (T : List (Addr × Str)) (H : Hp) : Hp := fun a => if a ∈ T.map (·.1) then none else H a
theorem offT_same {T : List (Addr × Str)} {H : Hp} : Same (offT T H) H := fun a o e => by
  unfold offT at e
  split at e
  · cases e
  · exact e
theorem offT_none {T : List (Addr × Str)} {H : Hp} {a : Addr} (h : H a = none) : offT T H a = none := by
  unfold offT
  split
  · rfl
  · exact h
theorem lawG {P : Program} {w : World} {K : PySem.W.Frag} {mg : Str → Option Value} {base : Heap} {k i : Nat} {x qual : Str} {params : Arguments} {st : Stmt} {rest : List Stmt} {scope : Scope} {dvs : List V} {kws : List (Str × V)} {f : Addr} {fd : FuncData} {N : List Str} {t : VST}
    (F : FunD K x qual params (st :: rest) scope dvs kws f fd) (S : FnScope N ["script"] scope) (hi : i ≠ 0)
    (h1 : ∀ (cdv : Value) (A : Around) (outer : List PySem.Env) (s : Shared) (H : Hp) (E : XK), fd.code = cdv → A.guards = some [] → Room k (A.deeper (envOfC qual scope s.heap.objs.size f cdv)) →
      PS (cxOf (L2.CX P w) P w K mg base N qual scope f cdv A outer s H E) st (tAsg (fun σ H Q => tCons (tVar 0) tNil σ H fun vs H1 => spBegun K (vs ++ []) H1 Q fun cls d H' => E cls d H') (gName i)))
    (h2 : ∀ (cdv : Value) (A : Around) (outer : List PySem.Env) (s : Shared) (H : Hp) (E : XK), fd.code = cdv → A.guards = some [] → Room k (A.deeper (envOfC qual scope s.heap.objs.size f cdv)) →
      VSs (cxOf (L2.CX P w) P w K mg base N qual scope f cdv A outer s H E) (fun cls d _ H' => E cls d H') rest t)
    (ht : ∀ ns : List Int, ns.length ≤ 63 → t lawEnd ((startE N.length [.scr ns]).set i (some .tok)) 0) : FnG P w K mg base (k + 1) f fd ["script"] (spLaw K) := by
  refine fnG_of F S (fun vs H Q E h => ?_) (fun cdv A outer s H vs Q E hcv hg hr h => ⟨_, pss_cons (h1 cdv A outer s H E hcv hg hr) (h2 cdv A outer s H E hcv hg hr), ?_⟩)
  · obtain ⟨a, ns, rfl, _⟩ := h
    rfl
  · obtain ⟨a, ns, rfl, hs, hl, hT, hq⟩ := h
    obtain ⟨T, eT⟩ : ∃ T, T = tabT K := ⟨_, rfl⟩
    rw [← eT] at hT
    have ex : N.length ≠ 0 := fun z => by
      have := S.pre
      rw [List.length_eq_zero_iff.mp z] at this
      cases this
    have s0 : (L2.start N [V.ref a])[0]? = some (some (.ref a)) := rfl
    refine ⟨_, s0, a, ns, rfl, hs, hl, fun m H' sh mach hm => ?_⟩
    have hlen : (L2.start N [V.ref a]).length = (startE N.length [.scr ns]).length := by unfold L2.start startE; simp
    have hn : ∀ b, H' b = none → H b = none := fun b e => by
      cases q : H b with
      | none => rfl
      | some o => rw [sh _ _ q] at e; cases e
    have hs2 : SqL K (offT T H) a (ns.map V.int) := by
      have na : ∀ {u : HO}, H a = some u → (∀ ps, u ≠ .tbl ps) → offT T H a = some u := fun {u} e z => by
        unfold offT
        split
        · next h =>
          obtain ⟨p, hp, ep⟩ := List.mem_map.mp h
          obtain ⟨ps, h1, _⟩ := hT p hp
          rw [ep, e] at h1
          exact absurd (Option.some.inj h1) (z ps)
        · exact e
      rcases hs with (h | ⟨o, h⟩) | h
      · exact .inl (.inl (na h fun _ z => by cases z))
      · exact .inl (.inr ⟨o, na h fun _ z => by cases z⟩)
      · exact .inr h
    have mach2 : Mach m 0 (offT T H) H' := by
      obtain ⟨q1, q2, lc, ll, cs, ls, z, a1, a2, a3⟩ := mach
      exact ⟨offT_same.trans q1, offT_none q2, lc, ll, cs, ls, z, offT_none a1, offT_none a2, a3⟩
    refine ⟨⟨some m, T, [], offT T H, offT T H, H⟩, (startE N.length [.scr ns]).set i (some .tok), 0, offT T H, offT T H, lawEnd, ⟨⟨mach2, Same.refl _, Same.refl _, Same.refl _, offT_same, New.refl, New.refl, hn, ⟨hT.ext sh, fun p hp => ?_, fun p hp => by cases hp⟩⟩, eT, by simpa using hlen, fun _ => [], fun j w e => ?_, fun _ _ _ _ _ _ _ b hb => by cases hb⟩, ht ns hl,
      ⟨fun _ _ z => z.elim, fun w n' z v G' O' H' _ r => ?_, fun _ _ z => z.elim, fun _ _ z => z.elim, fun _ _ _ z => z.elim⟩⟩
    · show offT T H p.1 = none
      unfold offT
      rw [if_pos (List.mem_map.mpr ⟨p, hp, rfl⟩)]
    · by_cases hj : i = j
      · subst hj
        by_cases hlt : i < (startE N.length [.scr ns]).length
        · rw [List.getElem?_set_self hlt] at e
          cases e
          exact ⟨.ref m, by rw [List.getElem?_set_self (by rw [hlen]; exact hlt)], ⟨m, rfl, rfl⟩, rfl⟩
        · rw [List.getElem?_eq_none (by simpa using hlt)] at e; cases e
      · rw [List.getElem?_set_ne hj] at e
        cases j with
        | zero =>
          have e' : some (some (W.scr ns)) = some (some w) := e
          cases e'
          exact ⟨.ref a, by rw [List.getElem?_set_ne hj]; exact s0, ⟨a, rfl, hs2⟩, rfl⟩
        | succ j =>
          have e' : (List.replicate (N.length - 1) (none : Option W))[j]? = some (some w) := e
          rw [List.getElem?_replicate] at e'
          split at e' <;> cases e'
    · have z' : w = .dat (.bool true) := z
      subst z'
      cases r
      exact hq H'
/-! ### the end of a law -/
/-- what the head tells of the tables: a def's code object, its table, and the name of the lambdas made there -/
structure TabsAt (K : PySem.W.Frag) (h : Heap) (cs : List (Addr × Addr)) : Prop where
  emp : ∀ p ∈ cs, h.get? p.2 = some { cls := .none, data := .fields #[] }
  out : ∀ p ∈ cs, K.lookup p.2 = none
  hd : ∀ p ∈ cs, PySem.W.CodeHd h p.1 p.2
  sub : ∀ q ∈ tabT K, q.1 ∈ cs.map (·.2)
theorem callG {P : Program} {w : World} {K : PySem.W.Frag} {cs : List (Addr × Addr)} {mg mb : Str → Option Value} {k : Nat} {fa a : Addr} {fd : FuncData} {s1 : Shared} {vs : List Value} {ns : List Int}
    (KX : K.In s1.heap) (hns : s1.heap.Ns mainGlobals mg) (hb : s1.heap.Ns builtinsNs mb) (hbb : ∀ x : Str, x ≠ "__name__" → mb x = bootBuiltins x) (hlim : s1.heap.NoLimit) (hg : s1.gens = #[]) (TA : TabsAt K s1.heap cs)
    (hbm : ∃ (bm : Addr) (ob : Obj), mg "__builtins__" = some (.ref bm) ∧ bm ≠ builtinsNs ∧ s1.heap.get? bm = some ob ∧ ob.cls = .type "module" ∧ ob.dict = some builtinsNs ∧ ob.data = .plain)
    (ha : s1.heap.get? a = some { cls := .type "list", data := .seq vs.toArray }) (hi : IntsAre vs ns) (hl : ns.length ≤ 63) (hr : Room k callerA)
    (F : ∀ base : Heap, K.In base → base.Ns mainGlobals mg → (∀ p ∈ cs, LamX.TabB base mg p.1 p.2) → FnG P w K mg base k fa fd ["script"] (spLaw K)) (hbind : ∀ (s : Shared) (u : Value), BindsTo s fd ⟨[u], []⟩ [("script", u)]) :
    codeAny (model P w) callerA (.call (.ref fa) ⟨[.ref a], []⟩) (fun r s' => r = .ok (.ret (.bool true)) ∧ OldK s1.heap s'.heap ∧ s'.os = s1.os ∧ AllBare s'.gens) s1 := by
  have hl2 : ns.length ≤ sizeLine := Nat.le_trans hl (by decide)
  have rv := vals_ints hi
  have lenV := hi.length
  obtain ⟨L, eL⟩ : ∃ L, L = cs.map (·.2) := ⟨_, rfl⟩
  have tabL : ∀ {b : Addr}, b ∈ L → s1.heap.get? b = some { cls := .none, data := .fields #[] } := fun {b} h => by
    rw [eL] at h
    obtain ⟨p, hp, rfl⟩ := List.mem_map.mp h
    exact TA.emp p hp
  have inL : ∀ {p}, p ∈ cs → p.2 ∈ L := fun {p} hp => by rw [eL]; exact List.mem_map.mpr ⟨p, hp, rfl⟩
  have aL : a ∉ L := fun z => by
    have q := tabL z
    rw [ha] at q
    have z' : Data.seq vs.toArray _ = Data.fields #[] := congrArg Obj.data (Option.some.inj q)
    cases z'
  have core : ∀ H : Hp, (∀ b ∈ L, H b = some (.tbl #[])) → (∀ b, b ∉ L → H b = none ∨ ∃ o xs, H b = some (.frz o (.lst xs))) → SqL K H a (ns.map V.int) → HOk P w H s1.heap → (∀ b, b ∉ L → H b ≠ none → b = a) → (H a ≠ none → K.lookup a = none) →
      codeAny (model P w) callerA (.call (.ref fa) ⟨[.ref a], []⟩) (fun r s' => r = .ok (.ret (.bool true)) ∧ OldK s1.heap s'.heap ∧ s'.os = s1.os ∧ AllBare s'.gens) s1 := by
    intro H hH hO hS hok hA hK
    have other : ∀ {b : Addr} {o : Obj}, s1.heap.get? b = some o → (∀ us n, o.data ≠ .seq us n) → o.data ≠ .fields #[] → H b = none := by
      intro b o e d1 d2
      by_cases hb : b ∈ L
      · rw [tabL hb] at e
        cases e
        exact absurd rfl d2
      · cases q : H b with
        | none => rfl
        | some u =>
          have e' : b = a := hA b hb (by rw [q]; simp)
          rw [e', ha] at e
          cases e
          exact absurd rfl (d1 _ _)
    have free : ∀ {b : Addr} {o : Obj} {es : Array DictEntry} {ep : Nat}, s1.heap.get? b = some o → o.data = .dict es ep → H b = none := fun e d =>
      other e (fun us n z => by rw [d] at z; cases z) fun z => by rw [d] at z; cases z
    have ns0 : ∀ {b : Addr} {m : Str → Option Value}, s1.heap.Ns b m → (hidT s1.heap H).Ns b m := by
      rintro b m ⟨o, es, ep, e, d, r⟩
      exact ⟨o, es, ep, hidT_get e (free e d), d, r⟩
    have kin : K.In (hidT s1.heap H) := by
      intro b o e
      refine hidT_get (KX b o e) ?_
      by_cases hb : b ∈ L
      · rw [eL] at hb
        obtain ⟨p, hp, rfl⟩ := List.mem_map.mp hb
        rw [TA.out p hp] at e
        cases e
      · cases q : H b with
        | none => rfl
        | some u =>
          have e' : b = a := hA b hb (by rw [q]; simp)
          subst e'
          rw [hK (by rw [q]; simp)] at e
          cases e
    have mod : Mod K mg (hidT s1.heap H) := by
      refine ⟨kin, ns0 hns, ⟨mb, ns0 hb, hbb⟩, ?_⟩
      obtain ⟨mc, c1, c2⟩ := hlim
      exact ⟨mc, ns0 c1, c2⟩
    have tb : ∀ p ∈ cs, LamX.TabB (hidT s1.heap H) mg p.1 p.2 := fun p hp => by
      have ep := TA.emp p hp
      refine ⟨?_, ?_, fun z => ?_⟩
      · obtain ⟨o, us, fl, tf, fg, tg, iF, tx, tt, e1, r1, r2, r3, r⟩ := TA.hd p hp
        exact ⟨o, us, fl, tf, fg, tg, iF, tx, tt, hidT_get e1 (other e1 (fun vs n z => by rw [r2] at z; cases z) fun z => by rw [r2] at z; cases z; simp at r3), r1, r2, r3, r⟩
      · obtain ⟨bm, ob, b1, b2, b3, b4, b5, b6⟩ := hbm
        have n1 : bm ≠ mainGlobals := fun q => by
          obtain ⟨o, es, ep, e, hd, _⟩ := hns
          rw [← q, b3] at e
          cases e
          rw [b6] at hd
          cases hd
        have n2 : bm ≠ p.2 := fun q => by
          rw [← q, b3] at ep
          cases ep
          cases b6
        exact ⟨bm, ob, b1, b2, n1, n2, hidT_get b3 (other b3 (fun vs n z => by rw [b6] at z; cases z) fun z => by rw [b6] at z; cases z), b4, b5, b6⟩
      · obtain ⟨o, es, ep2, e, hd, _⟩ := hns
        rw [z, ep] at e
        cases e
        cases hd
    have hTs : LamX.Tabs (tabT K) H := fun q hq => LamX.TabS.nil (hH q.1 (by rw [eL]; exact TA.sub q hq))
    have e0 : Env0 P w K mg (hidT s1.heap H) callerA [] s1 H := ⟨rfl, mod, fun b o e => of_hidT e, Nat.le_of_eq (hidT_size _ _), trivial, (fun b z => absurd (show b ∈ ([] : List Addr) from z) (by simp)), hok, .of_eq hg⟩
    have run := (F _ kin (ns0 hns) tb).run callerA [] s1 H ⟨[.ref a], []⟩ [.ref a] [.ref a] (fun v _ => v = .bl true) (fun _ _ _ => False) rfl hr e0 (hbind s1 (.ref a)) (.cons rfl .nil) ⟨a, ns, rfl, hS, hl, hTs, fun _ => rfl⟩
    refine codeAny_mono run fun r s' h => ?_
    match r, h with
    | .error e, h =>
      obtain ⟨_, _, _, _, _, _, _, _, _, _, _, _, z⟩ := h
      exact z.elim
    | .ok (.ret u), h =>
      obtain ⟨v, H', os, bare, un, hok', r', q⟩ := h
      have q' : v = .bl true := q
      subst q'
      obtain rfl : u = Value.bool true := r'
      have keep : ∀ b o, b ∉ L → s1.heap.get? b = some o → s'.heap.get? b = some o := fun b o nb e => by
        rcases hO b nb with z | ⟨ob, xs, z⟩
        · exact un.keep b o e z (fun z => absurd (show b ∈ ([] : List Addr) from z) (by simp)) (by simp)
        · obtain ⟨e1, _⟩ := hok b _ z
          obtain ⟨e2, _⟩ := hok' b _ (un.frzs b ob _ z)
          rw [e] at e1
          cases e1
          exact e2
      have grown : ∀ b ∈ L, ∃ more : Array Value, s'.heap.get? b = some { cls := .none, data := .fields more } := fun b hb => by
        obtain ⟨more, z⟩ := un.tbls b #[] (hH b hb)
        exact ⟨_, hok' b _ z⟩
      refine ⟨rfl, ⟨fun b o e => ?_, fun b o e => ?_⟩, os, bare⟩
      · by_cases hb : b ∈ L
        · obtain ⟨more, hm⟩ := grown b hb
          have hb' := hb
          rw [eL] at hb'
          obtain ⟨p, hp, rfl⟩ := List.mem_map.mp hb'
          rw [TA.emp p hp] at e
          cases e
          refine .inr (.inl ⟨((TA.hd p hp).tab (TA.emp p hp)).isCodeTable, rfl, #[], more, rfl, ?_⟩)
          rw [Array.empty_append]
          exact hm
        · exact .inl (keep b o hb e)
      · by_cases hb : b ∈ L
        · obtain ⟨more, hm⟩ := grown b hb
          exact ⟨_, hm⟩
        · exact ⟨o, keep b o hb e⟩
  obtain ⟨H0, h0L, h0N⟩ : ∃ H0 : Hp, (∀ b ∈ L, H0 b = some (.tbl #[])) ∧ ∀ b, b ∉ L → H0 b = none := by
    classical
    exact ⟨fun b => if b ∈ L then some (.tbl #[]) else none, fun b h => if_pos h, fun b h => if_neg h⟩
  have hok0 : ∀ b u, H0 b = some u → b ∈ L ∧ u = .tbl #[] := fun b u z => by
    by_cases hb : b ∈ L
    · rw [h0L b hb] at z; exact ⟨hb, (Option.some.inj z).symm⟩
    · rw [h0N b hb] at z; cases z
  cases hk : K.lookup a with
  | some o =>
    have e := KX a o hk
    rw [ha] at e
    cases e
    refine core H0 h0L (fun b hb => .inl (h0N b hb)) (.inr ⟨_, vs.toArray, _, hk, rfl, rfl, rfl, by rw [List.size_toArray, lenV]; exact hl2, by simpa using rv⟩) (fun b u z => ?_) (fun b hb z => absurd (h0N b hb) z) fun z => absurd (h0N a aL) z
    obtain ⟨hb, rfl⟩ := hok0 b u z
    exact tabL hb
  | none =>
    have at_ : L2.upd H0 a (.frz { cls := .type "list", data := .seq vs.toArray } (.lst (ns.map V.int))) a = _ := upd_same
    refine core (L2.upd H0 a (.frz { cls := .type "list", data := .seq vs.toArray } (.lst (ns.map V.int)))) (fun b hb => ?_) (fun b hb => ?_) (.inl (.inr ⟨{ cls := .type "list", data := .seq vs.toArray }, upd_same⟩)) (fun b u z => ?_) (fun b hb z => ?_) fun _ => hk
    · rw [upd_ne fun z => aL (by rw [← z]; exact hb)]; exact h0L b hb
    · by_cases hb2 : b = a
      · subst hb2; exact .inr ⟨_, _, upd_same⟩
      · rw [upd_ne hb2]; exact .inl (h0N b hb)
    · by_cases hb2 : b = a
      · subst hb2
        rw [upd_same] at z
        cases z
        exact ⟨ha, by rw [List.length_map]; exact hl2, vs, _, rv, ha⟩
      · rw [upd_ne hb2] at z
        obtain ⟨hb, rfl⟩ := hok0 b u z
        exact tabL hb
    · by_cases hb2 : b = a
      · exact hb2
      · rw [upd_ne hb2] at z; exact absurd (h0N b hb) z
theorem walkG {l : PySem.W.OpenLaw} {k : Nat} {q : Program} {loose : List Str} {XP : (Str → Option Value) → Heap → Prop} {YP : World → Heap → Prop} {d : DefRec}
    (hn : l.most = some 63) (hdf : d.params.defaults = []) (hr : Room k callerA)
    (F : ∀ (w : World) (mg : Str → Option Value) (fa : Addr) (h : Heap), YP w h → h.Ns mainGlobals mg → mg d.name = some (.ref fa) →
      ∃ (K : PySem.W.Frag) (fd : FuncData) (cs : List (Addr × Addr)), K.In h ∧ TabsAt K h cs ∧ (∀ (s : Shared) (u : Value), BindsTo s fd ⟨[u], []⟩ [("script", u)]) ∧ ∀ base : Heap, K.In base → base.Ns mainGlobals mg → (∀ p ∈ cs, LamX.TabB base mg p.1 p.2) → FnG l.prog w K mg base k fa fd ["script"] (spLaw K)) :
    PySem.W.WalkO q loose XP YP l.row.toRowW d [] (fun f vs => PySem.call f vs) := by
  refine Att.attach_call hn hdf fun w s0 s1 mg mb fa o pm cd doc a vs ns G Y ho hd hcd hmg hobj hints hlen hg => ?_
  obtain ⟨K, fd, cs, KX, TA, hb, hF⟩ := F w mg fa _ Y G.T.g hmg
  exact callG KX G.T.g G.T.b G.T.builtins G.T.nolimit hg TA G.T.bmain hobj hints hlen hr hF hb
end VL


set_option maxRecDepth 100000
set_option maxHeartbeats 400000
namespace VL
open PySem PySem.Spec PyProof.Rows L2
/-! ### defs by names -/
def Ok (P : Program) (w : World) (K : PySem.W.Frag) (mg : Str → Option Value) (base : Heap) (k : Nat) (x : Str) (ps : List Str) (c : VFn) : Prop :=
  ∃ fd, FnG P w K mg base k (He.ga K x) fd ps (lift K c) ∧ Binds K fd ps [] ∧ PySem.W.keepIn K (.ref (He.ga K x)) = true ∧ mg x = some (.ref (He.ga K x))
theorem Ok.weak {P : Program} {w : World} {K : PySem.W.Frag} {mg : Str → Option Value} {base : Heap} {k : Nat} {x : Str} {ps : List Str} {c c' : VFn} (h : Ok P w K mg base k x ps c) (i : ∀ ws n Q E, c' ws n Q E → c ws n Q E) : Ok P w K mg base k x ps c' := by
  obtain ⟨fd, F, r⟩ := h
  exact ⟨fd, F.weak i, r⟩
theorem Ok.mono {P : Program} {w : World} {K : PySem.W.Frag} {mg : Str → Option Value} {base : Heap} {j k : Nat} {x : Str} {ps : List Str} {c : VFn} (h : Ok P w K mg base j x ps c) (i : j ≤ k) : Ok P w K mg base k x ps c := by
  obtain ⟨fd, F, r⟩ := h
  exact ⟨fd, F.mono i, r⟩
/-- with one keyword-only parameter, state=(0, 0) -/
abbrev stN : List Str := ["state"]
def start00 : Dt := .tuple [.int 0, .int 0]
def OkS (P : Program) (w : World) (K : PySem.W.Frag) (mg : Str → Option Value) (base : Heap) (k : Nat) (x : Str) (ps : List Str) (c : VFn) : Prop :=
  ∃ fd, FnG P w K mg base k (He.ga K x) fd (ps ++ stN) (lift K c) ∧ (∃ (dv : V) (ds : List Value), Vals [dv] ds ∧ Binds K fd (ps ++ stN) ds ∧ ∀ G, DR K G dv start00) ∧
    (∀ (s : Shared) (us ws : List Value), us.length = ps.length → ws.length = 1 → BindsTo s fd ⟨us, stN.zip ws⟩ ((ps ++ stN).zip (us ++ ws))) ∧ PySem.W.keepIn K (.ref (He.ga K x)) = true ∧ mg x = some (.ref (He.ga K x))
theorem RWs.snoc {K : PySem.W.Frag} {C : Ct} {G : Hp} {d : Dt} {v : V} (r : DR K G v d) : ∀ {ws : List W} {vs : List V}, RWs K C G ws vs → RWs K C G (ws ++ [.dat d]) (vs ++ [v])
  | [], [], _ => ⟨r, trivial⟩
  | _ :: _, _ :: _, h => ⟨h.1, RWs.snoc r h.2⟩
  | [], _ :: _, h => h.elim
  | _ :: _, [], h => h.elim
section
variable {X : Cx} {U : WX} {e e2 : Expr} {es : List Expr} {pos p kpos : Pos} {te : VT} {al : VAW} {x : Str} {k : Nat} {ps : List Str} {c : VFn}
theorem ve_ok (F : Ok X.prog X.w X.K X.mg X.base k x ps c) (hG : X.A.guards = some []) (hr : Room k X.A) (tk : Takes X U) (hg : Gl X x) (ha : VAg X U (e :: es) al) (hdb : (x == ("__debug__" : Str)) = false := by decide)
    (he : starEach (e :: es) X.env = (false, eval e X.env) :: starEach es X.env := by rfl) (hpl : (backTo pos (starEach es X.env)).any (·.1) = false := by rfl) : VE X U (.Call (.Name x p) (e :: es) [] pos) (vCall c [] al) := by
  obtain ⟨fd, F, hb, hk, hm⟩ := F
  exact ve_call F hG hr tk hg hm hk hb .nil (dw := []) (dvs := []) trivial ha hdb he hpl
end
/-! ### a head with one more look -/
def obX (n : Nat) (fa : List He.Fa) (fn : List He.DefD) (ts : List He.Tab) (tf : List He.Defn) (ex : PySem.W.Frag → Bool) (s : PySem.W.SharedT) : He.AlX := He.obsX n fa fn ts tf ex (HandSHeadRun.getT s)
theorem obX_eq {n : Nat} {fa : List He.Fa} {fn : List He.DefD} {ts : List He.Tab} {tf : List He.Defn} {ex : PySem.W.Frag → Bool} (s : PySem.W.SharedT) : obX n fa fn ts tf ex s = (He.hookX n fa fn ts tf ex).obs s.abs := He.obsX_eq (HandSHeadRun.getT_eq s)
theorem saysD_of {fa : List He.Fa} {fn : List He.DefD} {ts : List He.Tab} {tf : List He.Defn} {ex : PySem.W.Frag → Bool} {w : World} {h : Heap} {K : PySem.W.Frag} (c : He.SaysX fa fn ts tf ex w h K) : He.SaysD fa fn K := congrArg Prod.fst c.t
theorem tabsAt_of {fa : List He.Fa} {fn : List He.DefD} {ts : List He.Tab} {tf : List He.Defn} {ex : PySem.W.Frag → Bool} {w : World} {h : Heap} {K : PySem.W.Frag} (X : K.In h) (c : He.SaysX fa fn ts tf ex w h K) (e : tabT K = lamT K tf) : TabsAt K h (tf.map (He.cT K)) := by
  refine ⟨fun p hp => ?_, fun p hp => ?_, fun p hp => ?_, fun q hq => ?_⟩
  · obtain ⟨t, ht, rfl⟩ := List.mem_map.mp hp
    exact c.empty t ht
  · obtain ⟨t, ht, rfl⟩ := List.mem_map.mp hp
    exact c.out t ht
  · obtain ⟨t, ht, rfl⟩ := List.mem_map.mp hp
    exact PySem.W.codeHd_of_K X (c.hd t ht)
  · rw [e] at hq
    obtain ⟨t, ht, rfl⟩ := List.mem_map.mp hq
    rw [List.map_map]
    exact List.mem_map.mpr ⟨t, ht, rfl⟩
/-! ### lengths of what is no datum -/
section
variable {X : Cx} {U : WX} {pos p p2 : Pos} {x : Str}
def vLenS (k : Nat) : VT := fun ρ n Q _ => match ρ[k]? with
  | some (some (.scr ns)) => Q (.int (ns.length : Int)) n
  | _ => False
theorem ve_lenS {k : Nat} (hg : Gl X "len") (hm : X.mg "len" = none) (hv : bootBuiltins "len" = some (.builtin "len")) (hN : X.N[k]? = some x := by rfl) (hvs : Vis X.env.scope x := by first | exact Or.inl rfl | exact Or.inr (Or.inl rfl) | exact Or.inr (Or.inr rfl)) (hd : (x == ("__debug__" : Str)) = false := by decide)
    (hcd : (x == ("__classdict__" : Str)) = false := by decide) (he : starEach [.Name x p2] X.env = (false, eval (.Name x p2) X.env) :: starEach [] X.env := by rfl) (hpl : (backTo pos (starEach [] X.env)).any (·.1) = false := by rfl) :
    VE X U (.Call (.Name "len" p) [.Name x p2] [] pos) (vLenS k) :=
  pe_imp (pe_callB call_len_seq hg hm hv (pa_cons (pe_var hN hvs hd hcd) pa_nil he) (by decide) (by decide) he hpl) fun σ H Q ⟨C, ρ, n, G, O, Q0, E0, I, h, hq, hE⟩ => by
    unfold vLenS at h
    split at h
    · next ns e0 =>
      obtain ⟨v, e1, a, rfl, sq⟩ := I.slot k _ e0
      exact ⟨_, e1, a, _, rfl, .inl (I.gH.seq sq), by rw [List.length_map]; exact hq _ n h _ G O H I (Same.refl _) (.int _)⟩
    · exact h.elim
end
/-! ### the machine's dict -/
theorem key_cl : ¬ (Sum.inr ("cells" : Str) : L2.Key) = Sum.inr ("left" : Str) := fun e => absurd (Sum.inr.inj e) (by decide +kernel)
theorem key_ca : ¬ (Sum.inr ("cells" : Str) : L2.Key) = Sum.inr ("at" : Str) := fun e => absurd (Sum.inr.inj e) (by decide +kernel)
theorem key_la : ¬ (Sum.inr ("left" : Str) : L2.Key) = Sum.inr ("at" : Str) := fun e => absurd (Sum.inr.inj e) (by decide +kernel)
theorem m_cells (lc ll : Addr) (z : Int) : valV (mKvs lc ll z) (.inr "cells") = some (.ref lc) := valV_pos rfl
theorem m_left (lc ll : Addr) (z : Int) : valV (mKvs lc ll z) (.inr "left") = some (.ref ll) := (valV_neg key_cl).trans (valV_pos rfl)
theorem m_at (lc ll : Addr) (z : Int) : valV (mKvs lc ll z) (.inr "at") = some (.int z) := (valV_neg key_ca).trans ((valV_neg key_la).trans (valV_pos rfl))
theorem m_putLeft (lc ll l : Addr) (z : Int) : putK (mKvs lc ll z) (.inr "left") (.ref l) = mKvs lc l z := by
  unfold putK mKvs
  have h1 := key_cl
  have h2 : ¬ (Sum.inr ("at" : Str) : L2.Key) = Sum.inr ("left" : Str) := fun e => key_la e.symm
  simp [h1, h2]
theorem m_putAt (lc ll : Addr) (z y : Int) : putK (mKvs lc ll z) (.inr "at") (.int y) = mKvs lc ll y := by
  unfold putK mKvs
  have h1 := key_ca
  have h2 := key_la
  simp [h1, h2]
theorem m_merge (lc ll : Addr) (z : Int) : mergeK [] (mKvs lc ll z) = mKvs lc ll z := by
  have h1 := key_cl
  have h2 := key_ca
  have h3 := key_la
  simp [mergeK, mKvs, putK, h1, h2, h3]
theorem Mach.garb {m p : Addr} {n : Nat} {O H : Hp} {o : HO} (M : Mach m n O H) (hp : H p = none) : Mach m n O (L2.upd H p o) := by
  obtain ⟨s, om, lc, ll, cs, ls, z, h1, h2, h3, h4, h5, h6, r⟩ := M
  have ne : ∀ {q : Addr} {u : HO}, H q = some u → q ≠ p := fun {q u} e => ne_of_none e hp
  exact ⟨s.trans (same_upd hp), om, lc, ll, cs, ls, z, h1, h2, h3, by rw [upd_ne (ne h4)]; exact h4, by rw [upd_ne (ne h5)]; exact h5, by rw [upd_ne (ne h6)]; exact h6, r⟩
/-- what stood stands, and the tables -/
structure Dm (C : Ct) (H : Hp) : Prop where
  d : ∀ a, H a = none → C.H0 a = none
  t : LamX.Tabs C.T H
  l : ∀ p ∈ C.L, H p.1 = some (LamX.CodeO p.1 p.2)
theorem Dm.upd {C : Ct} {H : Hp} {p : Addr} {o u : HO} (D : Dm C H) (h : H p = some u ∧ Plain u ∨ H p = none) : Dm C (L2.upd H p o) := ⟨fun a e => by
  by_cases h : a = p
  · subst h; rw [upd_same] at e; cases e
  · rw [upd_ne h] at e; exact D.d a e, tabs_upd D.t h, lam_upd D.l h⟩
theorem Dm.new {C : Ct} {H : Hp} {p : Addr} {o : HO} (D : Dm C H) (h : H p = none) : Dm C (L2.upd H p o) := D.upd (u := o) (.inr h)
theorem Dm.old {C : Ct} {H : Hp} {p : Addr} {o u : HO} (D : Dm C H) (h : H p = some u) (pl : Plain u) : Dm C (L2.upd H p o) := D.upd (.inl ⟨h, pl⟩)
/-! ### a if c else b, as a test -/
end VL


set_option maxRecDepth 100000
set_option maxHeartbeats 400000
namespace VL
open PySem PySem.Spec PyProof.Rows L2
/-! ### shapes of ints -/
theorem lay_ints : ∀ ns : List Int, PyData.canLayAll0 (ns.map PyData.int) = true
  | [] => by simp [PyData.canLayAll0]
  | n :: ns => by simp only [List.map_cons, PyData.canLayAll0, PyData.canLay0, Bool.true_and, lay_ints ns]
theorem depth_ints : ∀ ns : List Int, PyData.depthAll (ns.map PyData.int) = 0
  | [] => by simp [PyData.depthAll]
  | n :: ns => by simp [PyData.depthAll, PyData.depth, depth_ints ns]
theorem shaped_ints (ns : List Int) : SeqAt.shaped (.list (ns.map .int)) = true := by
  unfold SeqAt.shaped
  rw [Bool.and_eq_true]
  refine ⟨by simp only [PyData.canLay0]; exact lay_ints ns, decide_eq_true ?_⟩
  simp only [PyData.depth, depth_ints]
  decide
theorem dp_ints {K : PySem.W.Frag} {H : Hp} : ∀ ns : List Int, DpAll K H (ns.map V.int) (ns.map PyData.int)
  | [] => .nil
  | n :: ns => .cons (.int n) (dp_ints ns)
theorem ne_nil {K : PySem.W.Frag} {H : Hp} {l p : Addr} {ls : List Int} {Q : VK} (h : H l = some (.lst (ls.map V.int))) (hp : H p = some (.lst [])) (h1 : ls ≠ [] → Q (.bl true) H) (h2 : ls = [] → Q (.bl false) H) : rNeD K (.ref l) (.ref p) H Q := by
  refine ⟨.list (ls.map .int), .list [], .lst (SqL.of h) (dp_ints ls), .lst (SqL.of hp) .nil, shaped_ints ls, shaped_ints [], ?_⟩
  cases ls with
  | nil =>
    have e : PyData.eqv (.list (([] : List Int).map PyData.int)) (.list []) = true := by simp [PyData.eqv, PyData.eqvAll]
    rw [e]
    exact h2 rfl
  | cons x xs =>
    have e : PyData.eqv (.list ((x :: xs).map PyData.int)) (.list []) = false := by simp [PyData.eqv, PyData.eqvAll]
    rw [e]
    exact h1 (by simp)
/-! ### the machine, opened -/
structure MK (m : Addr) (n : Nat) (O H : Hp) (lc ll : Addr) (cs ls : List Int) (z : Int) : Prop where
  same : Same O H
  om : O m = none
  oc : O lc = none
  ol : O ll = none
  ne : lc ≠ ll
  hm : H m = some (.dK (mKvs lc ll z))
  hc : H lc = some (.lst (cs.map V.int))
  hl : H ll = some (.lst (ls.map V.int))
  z0 : 0 ≤ z
  z1 : z ≤ n
  nc : cs.length ≤ 63
  nl : ls.length ≤ 63
theorem Mach.mk' {m : Addr} {n : Nat} {O H : Hp} (M : Mach m n O H) : ∃ lc ll cs ls z, MK m n O H lc ll cs ls z := by
  obtain ⟨s, om, lc, ll, cs, ls, z, h1, h2, h3, h4, h5, h6, a, b, c, d⟩ := M
  exact ⟨lc, ll, cs, ls, z, s, om, h1, h2, h3, h4, h5, h6, a, b, c, d⟩
section
variable {m : Addr} {n : Nat} {O H : Hp} {lc ll : Addr} {cs ls : List Int} {z : Int}
theorem MK.mach (M : MK m n O H lc ll cs ls z) : Mach m n O H := ⟨M.same, M.om, lc, ll, cs, ls, z, M.oc, M.ol, M.ne, M.hm, M.hc, M.hl, M.z0, M.z1, M.nc, M.nl⟩
theorem MK.garb {p : Addr} {o : HO} (M : MK m n O H lc ll cs ls z) (hp : H p = none) : MK m n O (L2.upd H p o) lc ll cs ls z :=
  ⟨M.same.trans (same_upd hp), M.om, M.oc, M.ol, M.ne, by rw [upd_ne (ne_of_none M.hm hp)]; exact M.hm, by rw [upd_ne (ne_of_none M.hc hp)]; exact M.hc, by rw [upd_ne (ne_of_none M.hl hp)]; exact M.hl, M.z0, M.z1, M.nc, M.nl⟩
theorem MK.gl (M : MK m n O H lc ll cs ls z) : DGet H m (.str "left") (some (.ref ll)) := by
  have := DGet.k (k := Sum.inr "left") M.hm
  rw [m_left] at this
  exact this
theorem MK.gc (M : MK m n O H lc ll cs ls z) : DGet H m (.str "cells") (some (.ref lc)) := by
  have := DGet.k (k := Sum.inr "cells") M.hm
  rw [m_cells] at this
  exact this
theorem MK.ga (M : MK m n O H lc ll cs ls z) : DGet H m (.str "at") (some (.int z)) := by
  have := DGet.k (k := Sum.inr "at") M.hm
  rw [m_at] at this
  exact this
theorem MK.nm (M : MK m n O H lc ll cs ls z) : lc ≠ m ∧ ll ≠ m := ⟨ne_of M.hc M.hm (by intro q; cases q), ne_of M.hl M.hm (by intro q; cases q)⟩
/-- m['left'] = a new list -/
theorem MK.pl {l : Addr} {ms : List Int} (M : MK m n O H lc ll cs ls z) (hl : H l = some (.lst (ms.map V.int))) (ol : O l = none) (hlc : lc ≠ l) (hs : ms.length ≤ 63) : DPut H m (.str "left") (.ref l) (L2.upd H m (.dK (mKvs lc l z))) ∧ MK m n O (L2.upd H m (.dK (mKvs lc l z))) lc l cs ms z := by
  refine ⟨?_, ?_⟩
  · have := DPut.k (k := Sum.inr "left") (v := .ref l) M.hm (by show 3 < sizeLine; decide)
    rw [m_putLeft] at this
    exact this
  · have nl : l ≠ m := ne_of hl M.hm (by intro q; cases q)
    exact ⟨fun b o e => by rw [upd_ne (ne_of_none e M.om)]; exact M.same _ _ e, M.om, M.oc, ol, hlc, upd_same, by rw [upd_ne M.nm.1]; exact M.hc, by rw [upd_ne nl]; exact hl, M.z0, M.z1, M.nc, hs⟩
theorem MK.pa {y : Int} {n' : Nat} (M : MK m n O H lc ll cs ls z) (y0 : 0 ≤ y) (y1 : y ≤ n') : DPut H m (.str "at") (.int y) (L2.upd H m (.dK (mKvs lc ll y))) ∧ MK m n' O (L2.upd H m (.dK (mKvs lc ll y))) lc ll cs ls y := by
  refine ⟨?_, ?_⟩
  · have := DPut.k (k := Sum.inr "at") (v := .int y) M.hm (by show 3 < sizeLine; decide)
    rw [m_putAt] at this
    exact this
  · exact ⟨fun b o e => by rw [upd_ne (ne_of_none e M.om)]; exact M.same _ _ e, M.om, M.oc, M.ol, M.ne, upd_same, by rw [upd_ne M.nm.1]; exact M.hc, by rw [upd_ne M.nm.2]; exact M.hl, y0, y1, M.nc, M.nl⟩
/-- m['left'][0] = x -/
theorem MK.ph {ms : List Int} (M : MK m n O H lc ll cs ls z) (hs : ms.length ≤ 63) : MK m n O (L2.upd H ll (.lst (ms.map V.int))) lc ll cs ms z :=
  ⟨fun b o e => by rw [upd_ne (ne_of_none e M.ol)]; exact M.same _ _ e, M.om, M.oc, M.ol, M.ne, by rw [upd_ne M.nm.2.symm]; exact M.hm, by rw [upd_ne M.ne]; exact M.hc, upd_same, M.z0, M.z1, M.nc, hs⟩
end
theorem atI_ints {ns : List Int} {j : Nat} {u : Int} (h : ns[j]? = some u) : atI (ns.map V.int) (j : Int) = some (V.int u) := atI_nat (by rw [List.getElem?_map, h]; rfl)
theorem cut1_ints (ns : List Int) : cutV (ns.map V.int) (some 1) none = (ns.drop 1).map V.int := by
  unfold cutV
  have e1 : HT.sIx (ns.map V.int).length 0 (some 1) = min 1 ns.length := by
    rw [show (1 : Int) = ((1 : Nat) : Int) from rfl, HT.sIx_nat, List.length_map]
  rw [e1, HT.sIx_none, List.length_map]
  cases ns with
  | nil => rfl
  | cons x xs =>
    have : min 1 (x :: xs).length = 1 := by simp
    rw [this, List.map_drop]
    exact List.take_of_length_le (by simp)
theorem sealed_ex {α : Type _} (a : α) : ∃ x, x = a := ⟨a, rfl⟩
/-- a, closed to the kernel -/
noncomputable def sealed {α : Type _} (a : α) : α := Classical.choose (sealed_ex a)
theorem sealed_eq {α : Type _} (a : α) : sealed a = a := Classical.choose_spec (sealed_ex a)
theorem ixN0 {n : Nat} (hj : 0 < n) : ixN n 0 = some 0 := by
  unfold ixN
  rw [if_pos (Int.le_refl _), if_pos (by omega)]
  rfl
theorem seq_by {t u : TS} {D : Ends} {σ : L2.St} {H : Hp} (J : L2.St → Hp → Prop) (hu : ∀ σ H, J σ H → u D σ H) (ht : ∀ N : L2.St → Hp → Prop, (∀ σ H, J σ H → N σ H) → t { D with nx := N } σ H) : tSeq t u D σ H := ht _ hu
end VL


set_option maxRecDepth 100000
set_option maxHeartbeats 400000
namespace VL
open PySem PySem.Spec PyProof.Rows L2
/-! ### kinds, places, loops: the plain side -/
section
variable {α β : Type}
theorem at0 {a : α} {l : List α} : atI (a :: l) 0 = some a := atI_nat (j := 0) rfl
theorem at1 {a b : α} {l : List α} : atI (a :: b :: l) 1 = some b := atI_nat (j := 1) rfl
theorem at2 {a b c : α} {l : List α} : atI (a :: b :: c :: l) 2 = some c := atI_nat (j := 2) rfl
theorem at3 {a b c d : α} {l : List α} : atI (a :: b :: c :: d :: l) 3 = some d := atI_nat (j := 3) rfl
theorem at4 {a b c d e : α} {l : List α} : atI (a :: b :: c :: d :: e :: l) 4 = some e := atI_nat (j := 4) rfl
end
/-! ### what repr takes -/
structure Sh (w dp : Nat) (d : Dt) : Prop where
  sh : d.showable = true
  lv : d.leavesShort 13 = true
  wt : d.weight ≤ w
  dp : d.depth ≤ dp
  nd : d.hasDict = false
structure ShA (w dp : Nat) (ds : List Dt) : Prop where
  sh : PyData.showableAll ds = true
  lv : PyData.leavesShortAll 13 ds = true
  wt : PyData.weightAll ds ≤ w
  dp : PyData.depthAll ds ≤ dp
  nd : PyData.hasDictAll ds = false
theorem Sh.int {i : Int} (h : i.natAbs < 10 ^ 12) : Sh 40 0 (.int i) := by
  have hl : i.natAbs.log2 ≤ 39 := by
    by_cases e : i.natAbs = 0
    · rw [e]; decide
    · have := (Nat.log2_lt e (k := 40)).mpr (by omega)
      omega
  refine ⟨?_, ?_, ?_, ?_, by simp only [PyData.hasDict]⟩
  · simp only [PyData.showable]; exact decide_eq_true (by omega)
  · simp only [PyData.leavesShort]; exact decide_eq_true (PyData.shown_int_le h)
  · simp only [PyData.weight]; split <;> omega
  · simp [PyData.depth]
theorem ShA.nil {dp : Nat} : ShA 0 dp [] := ⟨rfl, rfl, Nat.le_refl _, Nat.zero_le _, by simp only [PyData.hasDictAll]⟩
theorem ShA.cons {w1 w2 dp : Nat} {d : Dt} {ds : List Dt} (a : Sh w1 dp d) (b : ShA w2 dp ds) : ShA (w1 + 1 + w2) dp (d :: ds) := by
  refine ⟨?_, ?_, ?_, ?_, by simp only [PyData.hasDictAll, a.nd, b.nd, Bool.or_self]⟩
  · simp only [PyData.showableAll, a.sh, b.sh, Bool.and_self]
  · simp only [PyData.leavesShortAll, a.lv, b.lv, Bool.and_self]
  · simp only [PyData.weightAll]; have := a.wt; have := b.wt; omega
  · simp only [PyData.depthAll]; have := a.dp; have := b.dp; omega
theorem Sh.tup {w dp : Nat} {ds : List Dt} (a : ShA w dp ds) : Sh w (dp + 1) (.tuple ds) := by
  refine ⟨?_, ?_, ?_, ?_, by simp only [PyData.hasDict]; exact a.nd⟩
  · simp only [PyData.showable]; exact a.sh
  · simp only [PyData.leavesShort]; exact a.lv
  · simp only [PyData.weight]; exact a.wt
  · simp only [PyData.depth]; have := a.dp; omega
theorem Sh.lst {w dp : Nat} {ds : List Dt} (a : ShA w dp ds) : Sh w (dp + 1) (.list ds) := by
  refine ⟨?_, ?_, ?_, ?_, by simp only [PyData.hasDict]; exact a.nd⟩
  · simp only [PyData.showable]; exact a.sh
  · simp only [PyData.leavesShort]; exact a.lv
  · simp only [PyData.weight]; exact a.wt
  · simp only [PyData.depth]; have := a.dp; omega
theorem Sh.le {w w' dp dp' : Nat} {d : Dt} (a : Sh w dp d) (h : w ≤ w') (h2 : dp ≤ dp') : Sh w' dp' d := ⟨a.sh, a.lv, Nat.le_trans a.wt h, Nat.le_trans a.dp h2, a.nd⟩
theorem ShA.of {w dp : Nat} : ∀ {ds : List Dt}, (∀ d ∈ ds, Sh w dp d) → ShA ((w + 1) * ds.length) dp ds
  | [], _ => .nil
  | d :: ds, h => by
    have r := ShA.cons (h d (by simp)) (ShA.of (ds := ds) fun x hx => h x (List.mem_cons_of_mem _ hx))
    refine ⟨r.sh, r.lv, Nat.le_trans r.wt ?_, r.dp, r.nd⟩
    rw [List.length_cons, Nat.mul_add]
    omega
theorem ShA.ints {ns : List Int} (h : ∀ i ∈ ns, i.natAbs < 10 ^ 12) : ShA (41 * ns.length) 0 (ns.map PyData.int) := by
  have := ShA.of (w := 40) (dp := 0) (ds := ns.map PyData.int) (fun d hd => by
    obtain ⟨i, hi, rfl⟩ := List.mem_map.mp hd
    exact Sh.int (h i hi))
  rw [List.length_map] at this
  exact this
theorem Sh.repr {w dp : Nat} {d : Dt} (a : Sh w dp d) (h : w ≤ 2 ^ 20) (h2 : dp ≤ 60) {Q : Dt → Prop} (q : Q (.str d.shown)) : bRepr [d] Q :=
  ⟨a.nd, a.sh, PyData.shown_fits (by decide) (by decide) a.lv (Nat.le_trans a.wt h), Nat.le_trans a.dp h2, q⟩
theorem shaped_int {i : Int} : SeqAt.shaped (.int i) = true := by simp [SeqAt.shaped, PyData.canLay0, PyData.depth]
theorem rngD_len (lo : Int) (n : Nat) : (rngD lo n).length = n := by unfold rngD; simp
end VL


set_option maxRecDepth 100000
set_option maxHeartbeats 400000
namespace VL
open PySem PySem.Spec PyProof.Rows L2
section
variable {X : Cx} {U : WX} {a b c e : Expr} {pos : Pos} {te : VT} {al tl : VA}
theorem DRs.app {K : PySem.W.Frag} {G : Hp} {ds es : List Dt} : ∀ {xs ys : List V}, DRs K G xs ds → DRs K G ys es → DRs K G (xs ++ ys) (ds ++ es) := by
  intro xs ys r q
  induction ds generalizing xs with
  | nil => cases r; exact q
  | cons d ds ih => cases r with | cons a r => exact .cons a (ih r)
end
end VL


set_option maxRecDepth 100000
set_option maxHeartbeats 4000000
namespace L2
open PySem PySem.Spec PyProof.Rows
section
variable {X : Cx}
end
end L2
namespace VL
open PySem PySem.Spec PyProof.Rows L2
section
variable {X : Cx}
end
end VL


set_option maxRecDepth 100000
set_option maxHeartbeats 1000000
namespace VL
open PySem PySem.Spec PyProof.Rows L2
/-! ### raise C(x, ..): C a class whose __init__ puts its arguments into fields -/
/-- what such an __init__ does -/
def spInit (K : PySem.W.Frag) (flds : List Str) : Sp := fun vs H Q _ => ∃ (a C : Addr) (ws : List V), vs = .ref a :: ws ∧ ws.length = flds.length ∧ OexC K C ∧ (∀ f ∈ flds, PySem.W.findIn K (.ref C) f = some none) ∧ H a = some (exo a C none) ∧
  ∀ dx, H dx = none → dx ≠ a → Q .non (L2.upd (L2.upd H dx (exd dx (flds.zip ws).reverse)) a (exo a C (some dx)))
/-- what is known of such a class -/
structure RzC (P : Program) (w : World) (K : PySem.W.Frag) (mg : Str → Option Value) (base : Heap) (x : Str) (flds : List Str) : Prop where
  cls : OexC K (He.ga K x)
  g : mg x = some (.ref (He.ga K x))
  no : ∀ f ∈ flds, PySem.W.findIn K (.ref (He.ga K x)) f = some none
  nd : flds.Nodup
  ini : ∃ (fI : Addr) (fd : FuncData) (ps : List Str), PySem.W.findIn K (.ref (He.ga K x)) "__init__" = some (some (.ref fI)) ∧ PySem.W.typeIn K (.ref fI) = some (.type "function") ∧ FnOk P w K mg base (L2.CX P w) 1 fI fd ps (spInit K flds) ∧ Binds K fd ps []
section
variable {X : Cx} {U : WX} {e : Expr} {es : List Expr} {al : VA} {p p2 pos : Pos}
end
/-! ### try: .. except C: .. -/
/-- no known class is under another one -/
def KnX (K : PySem.W.Frag) (known : List Str) : Prop := ∀ x ∈ known, ∀ c ∈ known, PySem.W.exmOne K (.ref (He.ga K x)) (.ref (He.ga K c)) = some (decide (x = c))
def hts (K : PySem.W.Frag) (U : WX) (hs : List (Str × VST)) : List (Value × (Addr → Value → Option Addr → TS)) := hs.map fun h => (.ref (He.ga K h.1), fun _ _ _ => upS K U h.2)
inductive HdsV (X : Cx) (U : WX) : List ExceptHandler → List (Str × VST) → Prop
  | nil : HdsV X U [] []
  | cons {x : Str} {th : VST} {b₀ : Stmt} {suite : List Stmt} {np pos' : Pos} {hds : List ExceptHandler} {l : List (Str × VST)} (hc : Names X x (.ref (He.ga X.K x)))
      (hsu : ∀ (a : Addr) (oe : Obj) (pn : List (Addr × Obj)), VSs (X.suite a ((a, oe) :: pn)) U (b₀ :: suite) th) (r : HdsV X U hds l) : HdsV X U (.ExceptHandler (some (.Name x np)) none (b₀ :: suite) pos' :: hds) ((x, th) :: l)
theorem HdsV.ok {X : Cx} {U : WX} {hds : List ExceptHandler} {l : List (Str × VST)} (h : HdsV X U hds l) : HdsOk X hds (hts X.K U l) := by
  induction h with
  | nil => exact .nil
  | cons hc hsu r ih => exact .cons hc (fun a oe cls d pn _ _ => hsu a oe pn) ih
section
variable {X : Cx} {U : WX} {body : List Stmt} {h₀ : ExceptHandler} {hds : List ExceptHandler} {l : List (Str × VST)} {known : List Str} {tb : VST} {pos : Pos}
end
end VL


set_option maxRecDepth 100000
set_option maxHeartbeats 1000000
namespace VL
open PySem PySem.Spec PyProof.Rows L2
/-! ### what the written part says of an error's class -/
def oexO (K : PySem.W.Frag) (C : Addr) : Bool := match K.lookup C with
  | some ⟨.type "type", _, .cls cd, sl⟩ => (match cd.mro, sl.toList with
    | .ref C' :: bm, [_, _, _, _, some (.builtin n), _] => C' == C && n == "ValueError.__new__" && !cd.hasDel && cd.hasDict && PySem.HandSPX.refsVE bm
    | _, _ => false)
  | _ => false
def oexB (K : PySem.W.Frag) (C : Addr) : Bool := oexO K C && (decide (PySem.W.findIn K (.ref C) "__setattr__" = some (some (.builtin "object.__setattr__"))) && (decide (PySem.W.subIn K (.ref C) (.type "BaseException") = some true) && (decide (PySem.W.typeIn K (.ref C) = some (.type "type")) && PySem.W.keepIn K (.ref C))))
theorem oexB_ok {K : PySem.W.Frag} {C : Addr} (h : oexB K C = true) : OexC K C := by
  unfold oexB at h
  simp only [Bool.and_eq_true, decide_eq_true_eq] at h
  obtain ⟨h0, h1, h2, h3, h4⟩ := h
  refine ⟨?_, h1, h2, h3, h4⟩
  unfold oexO at h0
  split at h0
  · rename_i dd cd sl ho
    split at h0
    · rename_i C' bm k0 k1 k2 k3 n k5 hm hs
      simp only [Bool.and_eq_true, beq_iff_eq, Bool.not_eq_true'] at h0
      obtain ⟨⟨⟨⟨rfl, rfl⟩, hdel⟩, hdct⟩, ht⟩ := h0
      obtain ⟨nm, bs, mro, ns, qn, hd, sn, sub, ab, col, del⟩ := cd
      dsimp only at hm hdel hdct
      subst hm hdel hdct
      have hsl : sl = #[k0, k1, k2, k3, some (.builtin "ValueError.__new__"), k5] := by
        obtain ⟨l⟩ := sl
        simp only at hs
        rw [hs]
      subst hsl
      exact ⟨nm, qn, ns, bs, bm, sn, sub, ab, col, dd, k0, k1, k2, k3, k5, ho, ht⟩
    · cases h0
  · cases h0
abbrev iA (K : PySem.W.Frag) (x : Str) : Addr := He.fAd K (x, some "__init__")
def rzB (K : PySem.W.Frag) (x : Str) (flds : List Str) : Bool := oexB K (He.ga K x) && ((flds.all fun f => decide (PySem.W.findIn K (.ref (He.ga K x)) f = some none)) && (decide (PySem.W.findIn K (.ref (He.ga K x)) "__init__" = some (some (.ref (iA K x)))) && decide (PySem.W.typeIn K (.ref (iA K x)) = some (.type "function"))))
theorem rz_of {P : Program} {w : World} {K : PySem.W.Frag} {mg : Str → Option Value} {base : Heap} {x : Str} {flds : List Str} (h : rzB K x flds = true) (g : mg x = some (.ref (He.ga K x))) (nd : flds.Nodup) {fd : FuncData} {ps : List Str} (F : FnOk P w K mg base (L2.CX P w) 1 (iA K x) fd ps (spInit K flds)) (B : Binds K fd ps []) : RzC P w K mg base x flds := by
  unfold rzB at h
  simp only [Bool.and_eq_true, decide_eq_true_eq, List.all_eq_true] at h
  obtain ⟨h0, h1, h2, h3⟩ := h
  exact ⟨oexB_ok h0, g, h1, nd, _, _, _, h2, h3, F, B⟩
/-- two fields: the heap behind both stores -/
theorem two_eq {H : Hp} {a dx : Addr} {o1 o2 o3 : HO} (hne : dx ≠ a) : L2.upd (L2.upd (L2.upd H dx o1) a o3) dx o2 = L2.upd (L2.upd H dx o2) a o3 := by
  funext b
  by_cases b1 : b = dx
  · subst b1; rw [upd_same, upd_ne hne, upd_same]
  · rw [upd_ne b1]
    by_cases b2 : b = a
    · subst b2; rw [upd_same, upd_same]
    · rw [upd_ne b2, upd_ne b2, upd_ne b1, upd_ne b1]
section
variable {K : PySem.W.Frag} {f g : Str} {H : Hp} {D : Ends} {a C : Addr} {y z : V} {N : List Str}
theorem init1_read {vs : List V} {Q : VK} {E : XK} (h : spInit K [f] vs H Q E) : ∃ a y, vs = [.ref a, y] ∧ ∀ σ : L2.St, σ[0]? = some (some (.ref a)) → σ[1]? = some (some y) → ∀ D : Ends, (∀ σ' H', Q .non H' → D.nx σ' H') → tOst K f (tVar 0) (tVar 1) D σ H := by
  obtain ⟨a, C, ws, rfl, hl, T, no, ha, q⟩ := h
  match ws, hl with
  | [y], _ =>
    exact ⟨a, y, rfl, fun σ e0 e1 D hD => ⟨y, e1, .ref a, e0, a, C, rfl, T, no f (by simp), .inl ⟨ha, fun dx hdx hne => hD _ _ (q dx hdx hne)⟩⟩⟩
theorem init2_read {vs : List V} {Q : VK} {E : XK} (h : spInit K [f, g] vs H Q E) : ∃ a y z, vs = [.ref a, y, z] ∧ ∀ σ : L2.St, σ[0]? = some (some (.ref a)) → σ[1]? = some (some y) → σ[2]? = some (some z) → ∀ D : Ends, (∀ σ' H', Q .non H' → D.nx σ' H') → tSeq (tOst K f (tVar 0) (tVar 1)) (tOst K g (tVar 0) (tVar 2)) D σ H := by
  obtain ⟨a, C, ws, rfl, hl, T, no, ha, q⟩ := h
  match ws, hl with
  | [y, z], _ =>
    refine ⟨a, y, z, rfl, fun σ e0 e1 e2 D hD => ⟨y, e1, .ref a, e0, a, C, rfl, T, no f (by simp), .inl ⟨ha, fun dx hdx hne => ?_⟩⟩⟩
    refine ⟨z, e2, .ref a, e0, a, C, rfl, T, no g (by simp), .inr ⟨dx, [(f, y)], upd_same, by rw [upd_ne hne, upd_same], by show 1 ≤ 900; decide, hD _ _ ?_⟩⟩
    rw [two_eq hne]
    exact q dx hdx hne
end
theorem passes0 {X : Cx} {P : Program} {w : World} : Passes (L2.CX P w) X (fun _ _ _ => False) := fun pins σ H s e s' I ⟨a, B, H', cls, d, h1, h2, h3, h4, h5, h6, h7, f⟩ => f.elim
def knB (K : PySem.W.Frag) (known : List Str) : Bool := known.all fun x => known.all fun c => decide (PySem.W.exmOne K (.ref (He.ga K x)) (.ref (He.ga K c)) = some (decide (x = c)))
theorem knB_ok {K : PySem.W.Frag} {known : List Str} (h : knB K known = true) : KnX K known := by
  unfold knB at h
  simp only [List.all_eq_true, decide_eq_true_eq] at h
  exact h
end VL


set_option maxRecDepth 100000
set_option maxHeartbeats 2000000
namespace VL
open PySem PySem.Spec PyProof.Rows L2
/-! ### trees: what a piece of the text does to values, as a thing that is computed -/
inductive T (α : Type) where
  | ret (a : α)
  | exc (x : Exc)
  | fail
  | draw (many : Int) (k : Int → T α)
def sat {α : Type} : T α → Nat → (α → Nat → Prop) → XW → Prop
  | .ret a, n, Q, _ => Q a n
  | .exc x, n, _, E => E x n
  | .fail, _, _, _ => False
  | .draw many k, n, Q, E => 0 < many ∧ many < 10000000000000000000000000000000 ∧ n < 1000000000000 ∧ ∀ r, 0 ≤ r → r < many → sat (k r) (n + 1) Q E
def bx {α β : Type} : T α → (α → T β) → (Exc → T β) → T β
  | .ret a, f, _ => f a
  | .exc x, _, g => g x
  | .fail, _, _ => .fail
  | .draw m k, f, g => .draw m fun r => bx (k r) f g
def bd {α β : Type} (t : T α) (f : α → T β) : T β := bx t f .exc
theorem sat_bx {α β : Type} {f : α → T β} {g : Exc → T β} {Q : β → Nat → Prop} {E : XW} : ∀ {t : T α} {n : Nat}, sat (bx t f g) n Q E ↔ sat t n (fun a n' => sat (f a) n' Q E) (fun x n' => sat (g x) n' Q E)
  | .ret a, n => Iff.rfl
  | .exc x, n => Iff.rfl
  | .fail, n => Iff.rfl
  | .draw m k, n => and_congr_right fun _ => and_congr_right fun _ => and_congr_right fun _ => forall_congr' fun r => imp_congr_right fun _ => imp_congr_right fun _ => sat_bx (t := k r)
theorem sat_bd {α β : Type} {f : α → T β} {Q : β → Nat → Prop} {E : XW} {t : T α} {n : Nat} : sat (bd t f) n Q E ↔ sat t n (fun a n' => sat (f a) n' Q E) E := sat_bx
theorem sat_mono {α : Type} {Q Q' : α → Nat → Prop} {E E' : XW} (hq : ∀ a n, Q a n → Q' a n) (he : ∀ x n, E x n → E' x n) : ∀ {t : T α} {n : Nat}, sat t n Q E → sat t n Q' E'
  | .ret a, n, h => hq a n h
  | .exc x, n, h => he x n h
  | .fail, n, h => h.elim
  | .draw m k, n, ⟨h1, h2, h3, h⟩ => ⟨h1, h2, h3, fun r r0 r1 => sat_mono hq he (h r r0 r1)⟩
theorem bx_ret {α β : Type} {a : α} {f : α → T β} {g : Exc → T β} : bx (.ret a) f g = f a := rfl
theorem bx_exc {α β : Type} {x : Exc} {f : α → T β} {g : Exc → T β} : bx (.exc x) f g = g x := rfl
theorem bx_fail {α β : Type} {f : α → T β} {g : Exc → T β} : bx .fail f g = .fail := rfl
theorem bx_draw {α β : Type} {m : Int} {k : Int → T α} {f : α → T β} {g : Exc → T β} : bx (.draw m k) f g = .draw m fun r => bx (k r) f g := rfl
theorem bd_ret {α β : Type} {a : α} {f : α → T β} : bd (.ret a) f = f a := rfl
theorem bd_exc {α β : Type} {x : Exc} {f : α → T β} : bd (.exc x) f = .exc x := rfl
theorem bd_fail {α β : Type} {f : α → T β} : bd .fail f = .fail := rfl
theorem bd_draw {α β : Type} {m : Int} {k : Int → T α} {f : α → T β} : bd (.draw m k) f = .draw m fun r => bd (k r) f := rfl
def ofO {α : Type} : Option α → T α
  | some a => .ret a
  | none => .fail
theorem ofO_some {α : Type} {a : α} : ofO (some a) = .ret a := rfl
theorem ofO_none {α : Type} : ofO (none : Option α) = .fail := rfl
def S {α : Type} (f : Nv → T α) : Nv → Nat → (α → Nat → Prop) → XW → Prop := fun ρ n Q E => sat (f ρ) n Q E
abbrev XT := Nv → T Dt
abbrev XB := Nv → T Bool
abbrev XA := Nv → T (List Dt)
abbrev XAW := Nv → T (List W)
abbrev XP := Nv → T (Option Int)
/-- how a statement ends -/
inductive Fl where
  | nx (ρ : Nv)
  | rt (w : W)
  | bk (ρ : Nv)
  | ct (ρ : Nv)
  | xc (x : Exc) (ρ : Nv)
abbrev XS := Nv → T Fl
abbrev XFn := List W → T W
def flV (V : VN) (f : Fl) (n : Nat) : Prop := match f with
  | .nx ρ => V.nx ρ n
  | .rt w => V.rt w n
  | .bk ρ => V.bk ρ n
  | .ct ρ => V.ct ρ n
  | .xc x ρ => V.xc x ρ n
def SS (f : XS) : VST := fun V ρ n => sat (f ρ) n (flV V) (fun _ _ => False)
def SF (f : XFn) : VFn := fun ws n Q E => sat (f ws) n Q E
section
variable {X : Cx} {U : WX} {e : Expr} {es : List Expr} {st : Stmt} {ss : List Stmt} {tg iter : Expr} {o : Option Expr}
theorem wkE {t t' : VT} (h : VE X U e t) (w : ∀ ρ n Q E, t' ρ n Q E → t ρ n Q E) : VE X U e t' := pe_imp h fun σ H Q ⟨C, ρ, n, G, O, Q0, E0, I, q, r⟩ => ⟨C, ρ, n, G, O, Q0, E0, I, w _ _ _ _ q, r⟩
theorem wkT {t t' : VB} (h : VTt X U e t) (w : ∀ ρ n Q E, t' ρ n Q E → t ρ n Q E) : VTt X U e t' := pt_imp h fun σ H Q ⟨C, ρ, n, G, O, Q0, E0, I, q, r⟩ => ⟨C, ρ, n, G, O, Q0, E0, I, w _ _ _ _ q, r⟩
theorem wkA {t t' : VA} (h : VAa X U es t) (w : ∀ ρ n Q E, t' ρ n Q E → t ρ n Q E) : VAa X U es t' := pa_imp h fun σ H Q ⟨C, ρ, n, G, O, Q0, E0, I, q, r⟩ => ⟨C, ρ, n, G, O, Q0, E0, I, w _ _ _ _ q, r⟩
theorem wkO {t t' : VA} (h : VO X U e t) (w : ∀ ρ n Q E, t' ρ n Q E → t ρ n Q E) : VO X U e t' := pe_imp h fun σ H Q ⟨C, ρ, n, G, O, Q0, E0, I, q, r⟩ => ⟨C, ρ, n, G, O, Q0, E0, I, w _ _ _ _ q, r⟩
theorem wkG {t t' : VAW} (h : VAg X U es t) (w : ∀ ρ n Q E, t' ρ n Q E → t ρ n Q E) : VAg X U es t' := pa_imp h fun σ H Q ⟨C, ρ, n, G, O, Q0, E0, I, q, r⟩ => ⟨C, ρ, n, G, O, Q0, E0, I, w _ _ _ _ q, r⟩
theorem wkI {t t' : VA} (h : VI X U tg iter t) (w : ∀ ρ n Q E, t' ρ n Q E → t ρ n Q E) : VI X U tg iter t' := pi_imp h fun σ H Q ⟨C, ρ, n, G, O, Q0, E0, I, q, r⟩ => ⟨C, ρ, n, G, O, Q0, E0, I, w _ _ _ _ q, r⟩
theorem wkS {t t' : VST} (h : VS X U st t) (w : ∀ V ρ n, t' V ρ n → t V ρ n) : VS X U st t' := ps_imp h fun D σ H ⟨C, ρ, n, G, O, V, I, q, r⟩ => ⟨C, ρ, n, G, O, V, I, w _ _ _ q, r⟩
theorem wkSs {t t' : VST} (h : VSs X U ss t) (w : ∀ V ρ n, t' V ρ n → t V ρ n) : VSs X U ss t' := pss_imp h fun D σ H ⟨C, ρ, n, G, O, V, I, q, r⟩ => ⟨C, ρ, n, G, O, V, I, w _ _ _ q, r⟩
end
/-! ### operators -/
def RO (r : Dt → Dt → Option Dt) : R2D := fun a b Q => match r a b with
  | some d => Q d
  | none => False
theorem RO.at {r : Dt → Dt → Option Dt} {a b : Dt} {Q : Dt → Prop} (h : RO r a b Q) : ∃ d, r a b = some d ∧ Q d := by
  unfold RO at h
  split at h
  · next d e => exact ⟨d, e, h⟩
  · exact h.elim
theorem wkOp {X : Cx} {f : Value → Value → Sem Value} {r r' : R2D} (h : VOp X f r) (w : ∀ a b Q, r' a b Q → r a b Q) : VOp X f r' := fun pins s σ H x y v u Q I rx ry ⟨G, d1, d2, Q0, sg, r1, r2, q, hq⟩ => h pins s σ H x y v u Q I rx ry ⟨G, d1, d2, Q0, sg, r1, r2, w _ _ _ q, hq⟩
theorem opO {X : Cx} {f : Value → Value → Sem Value} {r : R2D} {p : Dt → Dt → Option Dt} (h : VOp X f r) (w : ∀ a b d, p a b = some d → ∀ Q : Dt → Prop, Q d → r a b Q) : VOp X f (RO p) := wkOp h fun a b Q q => by
  obtain ⟨d, e, q⟩ := q.at
  exact w a b d e Q q
section
open Classical
noncomputable def pAdd (a b : Dt) : Option Dt := match a, b with
  | .int i, .int j => some (.int (i + j))
  | .str x, .str y => if x.length + y.length ≤ sizeLine then some (.str (x ++ y)) else none
  | .tuple xs, .tuple ys => if xs.length + ys.length ≤ sizeLine then some (.tuple (xs ++ ys)) else none
  | .list xs, .list ys => if xs.length + ys.length ≤ sizeLine then some (.list (xs ++ ys)) else none
  | _, _ => none
def pSub (a b : Dt) : Option Dt := match a, b with
  | .int i, .int j => some (.int (i - j))
  | _, _ => none
noncomputable def pPow (a b : Dt) : Option Dt := match a, b with
  | .int i, .int j => if CPow i j then some (.int (i ^ j.toNat)) else none
  | _, _ => none
noncomputable def pEq (a b : Dt) : Option Dt := if shp a b then some (.bool (PyData.eqv a b)) else none
noncomputable def pNe (a b : Dt) : Option Dt := if shp a b then some (.bool (!PyData.eqv a b)) else none
def pLt (a b : Dt) : Option Dt := match a, b with
  | .int i, .int j => some (.bool (decide (i < j)))
  | _, _ => none
def pLe (a b : Dt) : Option Dt := match a, b with
  | .int i, .int j => some (.bool (decide (i ≤ j)))
  | _, _ => none
def pGt (a b : Dt) : Option Dt := match a, b with
  | .int i, .int j => some (.bool (decide (j < i)))
  | _, _ => none
def pGe (a b : Dt) : Option Dt := match a, b with
  | .int i, .int j => some (.bool (decide (j ≤ i)))
  | _, _ => none
def pIs (a b : Dt) : Option Dt := match b with
  | .none => some (.bool (isNoneD a))
  | _ => none
def pIsNot (a b : Dt) : Option Dt := match b with
  | .none => some (.bool (!isNoneD a))
  | _ => none
noncomputable def pIx (a b : Dt) : Option Dt := match a, b with
  | .tuple ds, .int i => atI ds i
  | .list ds, .int i => atI ds i
  | .str z, .int i => if z.length ≤ sizeLine then (atI z.cps.toList i).map fun c => .str ⟨#[c]⟩ else none
  | _, _ => none
variable {X : Cx}
theorem ite_at {α : Type} {c : Prop} {_ : Decidable c} {a d : α} (h : (if c then some a else none) = some d) : c ∧ a = d := by
  split at h
  · next q => cases h; exact ⟨q, rfl⟩
  · cases h
theorem p_add : VOp X (binaryOp .Add) (RO pAdd) := opO o_add fun a b d h Q q => by
  unfold pAdd at h
  split at h
  · cases h; exact q
  · obtain ⟨c, rfl⟩ := ite_at h; exact ⟨c, q⟩
  · obtain ⟨c, rfl⟩ := ite_at h; exact ⟨c, q⟩
  · obtain ⟨c, rfl⟩ := ite_at h; exact ⟨c, q⟩
  · cases h
theorem p_pow : VOp X (binaryOp .Pow) (RO pPow) := opO o_pow fun a b d h Q q => by
  unfold pPow at h
  split at h
  · obtain ⟨c, rfl⟩ := ite_at h; exact ⟨c, q⟩
  · cases h
theorem p_eq (hu : X.A.units + 64 < cLine) : VOp X (compareOp .Eq) (RO pEq) := opO (o_eq hu) fun a b d h Q q => by
  obtain ⟨c, rfl⟩ := ite_at h; exact ⟨c, q⟩
theorem p_ne (hu : X.A.units + 64 < cLine) : VOp X (compareOp .NotEq) (RO pNe) := opO (o_ne hu) fun a b d h Q q => by
  obtain ⟨c, rfl⟩ := ite_at h; exact ⟨c, q⟩
theorem p_lt : VOp X (compareOp .Lt) (RO pLt) := opO o_lt fun a b d h Q q => by
  unfold pLt at h
  split at h
  · cases h; exact q
  · cases h
def pIadd (a b : Dt) : Option Dt := match a, b with
  | .int i, .int j => some (.int (i + j))
  | _, _ => none
theorem ixO_imp {a b : Dt} {d : Dt} (h : pIx a b = some d) {Q : Dt → Prop} (q : Q d) : dIx a b Q := by
  unfold pIx at h
  unfold dIx
  split at h
  · simp only [h]; exact q
  · simp only [h]; exact q
  · split at h
    · next z i c =>
      refine ⟨c, ?_⟩
      cases hh : atI z.cps.toList i with
      | none => rw [hh] at h; cases h
      | some c => rw [hh] at h; cases h; exact q
    · cases h
  · cases h
end
end VL


set_option maxRecDepth 100000
set_option maxHeartbeats 2000000
namespace VL
open PySem PySem.Spec PyProof.Rows L2
theorem satO {α : Type} {o : Option α} {n : Nat} {Q : α → Nat → Prop} {E : XW} (h : sat (ofO o) n Q E) : ∃ a, o = some a ∧ Q a n := by
  cases o with
  | none => exact h.elim
  | some a => exact ⟨a, rfl, h⟩
theorem sat2 {α β : Type} {t : T α} {f : α → T β} {n : Nat} {Q : β → Nat → Prop} {E : XW} {Q' : α → Nat → Prop} (h : sat (bd t f) n Q E) (w : ∀ a n', sat (f a) n' Q E → Q' a n') : sat t n Q' E := sat_mono w (fun _ _ q => q) (sat_bd.mp h)
def asB : Dt → T Bool
  | .bool b => .ret b
  | _ => .fail
theorem satB {d : Dt} {n : Nat} {Q : Bool → Nat → Prop} {E : XW} (h : sat (asB d) n Q E) : isB (fun b => Q b n) d := by
  cases d <;> first | exact h | exact h.elim
section
variable {X : Cx} {U : WX} {a b c e : Expr} {es rest : List Expr} {pos p p2 : Pos} {ta tb tc te : XT} {xa xb xc : XB} {al : XA} {x : Str}
/-! ### names, constants -/
def xVar (i : Nat) (ρ : Nv) : T Dt := match ρ[i]? with
  | some (some (.dat d)) => .ret d
  | _ => .fail
theorem xe_var (i : Nat) {x : Str} (hN : X.N[i]? = some x := by rfl) (hv : Vis X.env.scope x := by first | exact Or.inl rfl | exact Or.inr (Or.inl rfl) | exact Or.inr (Or.inr rfl)) (hd : (x == ("__debug__" : Str)) = false := by decide)
    (hcd : (x == ("__classdict__" : Str)) = false := by decide) : VE X U (.Name x pos) (S (xVar i)) := wkE (ve_var i hN hv hd hcd) fun ρ n Q E h => by
  unfold S xVar at h
  unfold vVar
  split at h
  · next d e => (try simp only [e]); exact h
  · exact h.elim
def xC (d : Dt) (_ : Nv) : T Dt := .ret d
theorem xe_int {i j} : VE X U (.Constant (.int i) j pos) (S (xC (.int i))) := wkE ve_int fun _ _ _ _ q => q
theorem xe_bl {i j} : VE X U (.Constant (.bool i) j pos) (S (xC (.bool i))) := wkE ve_bl fun _ _ _ _ q => q
theorem xe_non {j} : VE X U (.Constant .none j pos) (S (xC .none)) := wkE ve_non fun _ _ _ _ q => q
theorem xe_str {x j} : VE X U (.Constant (.str x) j pos) (S (xC (.str x))) := wkE ve_str fun _ _ _ _ q => q
/-! ### operators -/
def opK2 (q : Dt → Dt → Option Dt) (x y : Dt) : T Dt := ofO (q x y)
def opK (q : Dt → Dt → Option Dt) (tb : XT) (ρ : Nv) (x : Dt) : T Dt := bd (tb ρ) (opK2 q x)
def xOp (q : Dt → Dt → Option Dt) (ta tb : XT) (ρ : Nv) : T Dt := bd (ta ρ) (opK q tb ρ)
theorem xOp_ok {q : Dt → Dt → Option Dt} : ∀ ρ n Q E, S (xOp q ta tb) ρ n Q E → vOp (RO q) (S ta) (S tb) ρ n Q E := fun ρ n Q E h =>
  sat2 h fun d1 n1 h1 => sat2 h1 fun d2 n2 h2 => by
    obtain ⟨d, e, q⟩ := satO h2
    unfold RO
    simp only [e]
    exact q
theorem xe_op {op : Operator} {r : Dt → Dt → Option Dt} (ho : VOp X (binaryOp op) (RO r)) (ha : VE X U a (S ta)) (hb : VE X U b (S tb)) : VE X U (.BinOp a op b pos) (S (xOp r ta tb)) := wkE (ve_op ho ha hb) xOp_ok
theorem xe_cmp {op : CmpOp} {r : Dt → Dt → Option Dt} (ho : VOp X (compareOp op) (RO r)) (ha : VE X U a (S ta)) (hb : VE X U b (S tb)) (hm : behindInMarks op b = false := by first | exact nomark _ | rfl) : VE X U (.Compare a [op] [b] pos) (S (xOp r ta tb)) := wkE (ve_cmp ho ha hb hm) xOp_ok
def xTest (t : XT) (ρ : Nv) : T Bool := bd (t ρ) asB
theorem xTest_ok {t : XT} {t' : VT} (w : ∀ ρ n Q E, S t ρ n Q E → t' ρ n Q E) : ∀ ρ n Q E, S (xTest t) ρ n Q E → vTest t' ρ n Q E := fun ρ n Q E h => w _ _ _ _ (sat2 h fun d n1 h1 => satB h1)
theorem xt_cmp {op : CmpOp} {r : Dt → Dt → Option Dt} (ho : VOp X (compareOp op) (RO r)) (ha : VE X U a (S ta)) (hb : VE X U b (S tb)) (hm : behindInMarks op b = false := by first | exact nomark _ | rfl) : VTt X U (.Compare a [op] [b] pos) (S (xTest (xOp r ta tb))) := wkT (vt_cmp ho ha hb hm) (xTest_ok xOp_ok)
theorem xt_val {t : XT} (h : VE X U e (S t)) (he : ∀ whole, isTrue e X.env whole = (do let v ← whole; standAt e.pos; holding [v] (truthy v)) := by intro _; rfl) : VTt X U e (S (xTest t)) := wkT (vt_val h he) (xTest_ok fun _ _ _ _ q => q)
def pNeg (d : Dt) : Option Dt := match d with
  | .int i => some (.int (-i))
  | _ => none
def unK (q : Dt → Option Dt) (x : Dt) : T Dt := ofO (q x)
def xUn (q : Dt → Option Dt) (ta : XT) (ρ : Nv) : T Dt := bd (ta ρ) (unK q)
theorem xe_neg (ha : VE X U a (S ta)) : VE X U (.UnaryOp .USub a pos) (S (xUn pNeg ta)) := wkE (ve_neg ha) fun ρ n Q E h => sat2 h fun d1 n1 h1 => by
  obtain ⟨d, e, q⟩ := satO h1
  unfold pNeg at e
  split at e
  · cases e; exact q
  · cases e
/-! ### and, or, not, if -/
def notK (c : Bool) : T Bool := .ret (!c)
def xNot (t : XB) (ρ : Nv) : T Bool := bd (t ρ) notK
theorem sat_ite {α : Type} {c : Prop} {_ : Decidable c} {t u : T α} {n : Nat} {Q : α → Nat → Prop} {E : XW} : sat (if c then t else u) n Q E ↔ if c then sat t n Q E else sat u n Q E := by split <;> exact Iff.rfl
theorem xt_not (ha : VTt X U a (S xa)) : VTt X U (.UnaryOp .Not a pos) (S (xNot xa)) := wkT (vt_not ha) fun ρ n Q E h => sat2 h fun c n1 h1 => h1
/-! ### argument lists, displays -/
def xNil (_ : Nv) : T (List Dt) := .ret []
def consK2 (d : Dt) (ds : List Dt) : T (List Dt) := .ret (d :: ds)
def consK (tr : XA) (ρ : Nv) (d : Dt) : T (List Dt) := bd (tr ρ) (consK2 d)
def xCons (ta : XT) (tr : XA) (ρ : Nv) : T (List Dt) := bd (ta ρ) (consK tr ρ)
theorem xa_nil : VAa X U [] (S xNil) := wkA va_nil fun _ _ _ _ q => q
theorem xa_cons (ha : VE X U e (S ta)) (hr : VAa X U es (S al)) (hs : starEach (e :: es) X.env = (false, eval e X.env) :: starEach es X.env := by rfl) : VAa X U (e :: es) (S (xCons ta al)) := wkA (va_cons ha hr hs) fun ρ n Q E h => sat2 h fun d n1 h1 => sat2 h1 fun ds n2 h2 => h2
def tupK (ds : List Dt) : T Dt := if ds.length ≤ sizeLine then .ret (.tuple ds) else .fail
def xTup (t : XA) (ρ : Nv) : T Dt := bd (t ρ) tupK
theorem sat_guard {α : Type} {c : Prop} {_ : Decidable c} {a : α} {n : Nat} {Q : α → Nat → Prop} {E : XW} (h : sat (if c then .ret a else .fail) n Q E) : c ∧ Q a n := by
  split at h
  · next hc => exact ⟨hc, h⟩
  · exact h.elim
theorem xe_tup {x1} (h : VAa X U es (S al)) : VE X U (.Tuple es x1 pos) (S (xTup al)) := wkE (ve_tup h) fun ρ n Q E h => sat2 h fun ds n1 h1 => sat_guard h1
def lstK (ds : List Dt) : T (List Dt) := if ds.length ≤ sizeLine then .ret ds else .fail
def xLst (t : XA) (ρ : Nv) : T (List Dt) := bd (t ρ) lstK
theorem xo_lst (h : VAa X U es (S al)) : VO X U (.List es pos) (S (xLst al)) := wkO (vo_lst h) fun ρ n Q E h => sat2 h fun ds n1 h1 => sat_guard h1
def fzK (ds : List Dt) : T Dt := .ret (.list ds)
def xFz (t : XA) (ρ : Nv) : T Dt := bd (t ρ) fzK
theorem xe_fz (h : VO X U e (S al)) : VE X U e (S (xFz al)) := wkE (ve_fz h) fun ρ n Q E h => sat2 h fun ds n1 h1 => h1
/-! ### places, slices -/
theorem xe_ix (ha : VE X U a (S ta)) (hb : VE X U b (S tb)) (hs : PlainIx b := by exact fun _ _ => rfl) : VE X U (.Subscript a b pos) (S (xOp pIx ta tb)) := wkE (ve_ix ha hb hs) fun ρ n Q E h => sat2 h fun d1 n1 h1 => sat2 h1 fun d2 n2 h2 => by
  obtain ⟨d, e, q⟩ := satO h2
  exact ixO_imp e q
def asI : Dt → T (Option Int)
  | .int i => .ret (some i)
  | _ => .fail
open Classical in
noncomputable def pSl (d : Dt) (lo hi : Option Int) : Option Dt := match d with
  | .tuple ds => some (.tuple (cutD ds lo hi))
  | .list ds => some (.list (cutD ds lo hi))
  | .str z => if z.length ≤ sizeLine then some (.str (cutS z lo hi)) else none
  | _ => none
/-! ### built-in functions -/
def RC (q : List Dt → Option Dt) : RCD := fun ds Q => match q ds with
  | some d => Q d
  | none => False
theorem callO {f : Value} {r : RCD} {q : List Dt → Option Dt} (h : VCal X f r) (w : ∀ ds d, q ds = some d → ∀ Q : Dt → Prop, Q d → r ds Q) : VCal X f (RC q) := call_imp h fun xs H Q ⟨G, ds, Q0, sg, r, z, hq⟩ => ⟨G, ds, Q0, sg, r, by
  unfold RC at z
  split at z
  · next d e => exact w ds d e Q0 z
  · exact z.elim, hq⟩
def cbK (q : List Dt → Option Dt) (ds : List Dt) : T Dt := ofO (q ds)
def xCB (q : List Dt → Option Dt) (al : XA) (ρ : Nv) : T Dt := bd (al ρ) (cbK q)
theorem xCB_ok {q : List Dt → Option Dt} : ∀ ρ n Q E, S (xCB q al) ρ n Q E → vCB (RC q) (S al) ρ n Q E := fun ρ n Q E h => sat2 h fun ds n1 h1 => by
  obtain ⟨d, e, q⟩ := satO h1
  unfold RC
  simp only [e]
  exact q
theorem xe_callB {id : String} {q : List Dt → Option Dt} (hc : VCal X (.builtin id) (RC q)) (hg : Gl X x) (hm : X.mg x = none) (hv : bootBuiltins x = some (.builtin id)) (ha : VAa X U (e :: es) (S al)) (hn : x ≠ "__name__" := by decide) (hdb : (x == ("__debug__" : Str)) = false := by decide)
    (he : starEach (e :: es) X.env = (false, eval e X.env) :: starEach es X.env := by rfl) (hpl : (backTo pos (starEach es X.env)).any (·.1) = false := by rfl) : VE X U (.Call (.Name x p) (e :: es) [] pos) (S (xCB q al)) := wkE (ve_callB hc hg hm hv ha hn hdb he hpl) xCB_ok
open Classical in
noncomputable def pLen (ds : List Dt) : Option Dt := match ds with
  | [.tuple xs] => some (.int (xs.length : Int))
  | [.list xs] => some (.int (xs.length : Int))
  | [.str z] => if z.length ≤ sizeLine then some (.int (z.length : Int)) else none
  | _ => none
def pMin2 (ds : List Dt) : Option Dt := match ds with
  | [.int i, .int j] => some (.int (if j < i then j else i))
  | _ => none
def pMax2 (ds : List Dt) : Option Dt := match ds with
  | [.int i, .int j] => some (.int (if j > i then j else i))
  | _ => none
theorem pc_min2 (hc : X.calm = true) : VCal X (.builtin "min") (RC pMin2) := callO (c_min2 hc) fun ds d h Q q => by
  unfold pMin2 at h
  split at h
  · cases h; exact q
  · cases h
def pAbs (ds : List Dt) : Option Dt := match ds with
  | [.int i] => some (.int (if i < 0 then -i else i))
  | _ => none
def pInt (ds : List Dt) : Option Dt := match ds with
  | [.int i] => some (.int i)
  | _ => none
def pTuple (ds : List Dt) : Option Dt := match ds with
  | [.tuple xs] => some (.tuple xs)
  | [.list xs] => some (.tuple xs)
  | _ => none
def pList (ds : List Dt) : Option (List Dt) := match ds with
  | [.tuple xs] => some xs
  | [.list xs] => some xs
  | _ => none
def xLenS (k : Nat) (ρ : Nv) : T Dt := match ρ[k]? with
  | some (some (.scr ns)) => .ret (.int (ns.length : Int))
  | _ => .fail
theorem xe_lenS {k : Nat} {p : Pos} {x : Str} {p' : Pos} (hg : Gl X "len") (hm : X.mg "len" = none) (hv : bootBuiltins "len" = some (.builtin "len")) (hN : X.N[k]? = some x := by rfl) (hvs : Vis X.env.scope x := by first | exact Or.inl rfl | exact Or.inr (Or.inl rfl) | exact Or.inr (Or.inr rfl)) (hd : (x == ("__debug__" : Str)) = false := by decide)
    (hcd : (x == ("__classdict__" : Str)) = false := by decide) (he : starEach [.Name x p'] X.env = (false, eval (.Name x p') X.env) :: starEach [] X.env := by rfl) (hpl : (backTo pos (starEach [] X.env)).any (·.1) = false := by rfl) : VE X U (.Call (.Name "len" p) [.Name x p'] [] pos) (S (xLenS k)) := wkE (ve_lenS hg hm hv hN hvs hd hcd he hpl) fun ρ n Q E h => by
  unfold S xLenS at h
  unfold vLenS
  split at h
  · next d e => (try simp only [e]); exact h
  · exact h.elim
end
end VL


set_option maxRecDepth 100000
set_option maxHeartbeats 2000000
namespace VL
open PySem PySem.Spec PyProof.Rows L2
abbrev noX : XW := fun _ _ => False
/-- an expression within a statement: what it raises leaves with the names as they are -/
def exS {α : Type} (t : T α) (ρ : Nv) (f : α → T Fl) : T Fl := bx t f fun x => .ret (.xc x ρ)
theorem exS_ret {α : Type} {a : α} {ρ : Nv} {f : α → T Fl} : exS (.ret a) ρ f = f a := rfl
theorem exS_exc {α : Type} {x : Exc} {ρ : Nv} {f : α → T Fl} : exS (.exc x) ρ f = .ret (.xc x ρ) := rfl
theorem exS_fail {α : Type} {ρ : Nv} {f : α → T Fl} : exS .fail ρ f = .fail := rfl
theorem exS_draw {α : Type} {m : Int} {k : Int → T α} {ρ : Nv} {f : α → T Fl} : exS (.draw m k) ρ f = .draw m fun r => exS (k r) ρ f := rfl
theorem satX {α : Type} {t : T α} {ρ : Nv} {f : α → T Fl} {V : VN} {n : Nat} {Q' : α → Nat → Prop} (h : sat (exS t ρ f) n (flV V) noX) (w : ∀ a n', sat (f a) n' (flV V) noX → Q' a n') : sat t n Q' (fun x n' => V.xc x ρ n') := sat_mono w (fun x n' q => q) (sat_bx.mp h)
section
variable {X : Cx} {U : WX} {e : Expr} {st : Stmt} {rest : List Stmt} {pos : Pos} {te : XT} {al : XA} {xb : XB} {t u : XS}
/-! ### statements -/
def sqF (u : XS) : Fl → T Fl
  | .nx ρ => u ρ
  | .rt w => .ret (.rt w)
  | .bk ρ => .ret (.bk ρ)
  | .ct ρ => .ret (.ct ρ)
  | .xc x ρ => .ret (.xc x ρ)
def xSeq (t u : XS) (ρ : Nv) : T Fl := bd (t ρ) (sqF u)
def xNext (ρ : Nv) : T Fl := .ret (.nx ρ)
theorem xs_nil : VSs X U [] (SS xNext) := wkSs vs_nil fun _ _ _ q => q
theorem xs_cons (h1 : VS X U st (SS t)) (h2 : VSs X U rest (SS u)) : VSs X U (st :: rest) (SS (xSeq t u)) := wkSs (vs_cons h1 h2) fun V ρ n h => sat2 h fun f n' h' => by
  cases f <;> exact h'
theorem xs_one (h1 : VS X U st (SS t)) : VSs X U [st] (SS t) := vs_one h1
def retK (d : Dt) : T Fl := .ret (.rt (.dat d))
def xRet (te : XT) (ρ : Nv) : T Fl := exS (te ρ) ρ retK
theorem xs_ret (he : VE X U e (S te)) : VS X U (.Return (some e) pos) (SS (xRet te)) := wkS (vs_ret he) fun V ρ n h => satX h fun _ _ q => q
def ifSK (t u : XS) (ρ : Nv) (b : Bool) : T Fl := if b = true then t ρ else u ρ
def xIfS (c : XB) (t u : XS) (ρ : Nv) : T Fl := exS (c ρ) ρ (ifSK t u ρ)
theorem xs_if {c : Expr} {a b : List Stmt} (hc : VTt X U c (S xb)) (ha : VSs X U a (SS t)) (hb : VSs X U b (SS u)) : VS X U (.If c a b pos) (SS (xIfS xb t u)) := wkS (vs_if hc ha hb) fun V ρ n h => satX h fun b n' q => sat_ite.mp q
def setK (i : Nat) (ρ : Nv) (d : Dt) : T Fl := .ret (.nx (ρ.set i (some (.dat d))))
def xSet (i : Nat) (te : XT) (ρ : Nv) : T Fl := exS (te ρ) ρ (setK i ρ)
theorem xs_set {i : Nat} {x : Str} {pos' : Pos} (hN : X.N.Nodup) (hi : X.N[i]? = some x) (hx : Loc X.env.scope x) (he : VE X U e (S te)) (hs : swapsWith e (some (.Name x pos')) pos.line X.env = pure false := by rfl) (hf : X.fn x = true ∨ X.env.scope.names.lookup x = some .local := by first | exact .inl rfl | exact .inr rfl | assumption) :
    VS X U (.Assign [.Name x pos'] e pos) (SS (xSet i te)) := wkS (vs_set hN hi hx he hs hf) fun V ρ n h => satX h fun _ _ q => q
/-! targets -/
abbrev XG := Dt → Nv → Option Nv
abbrev XGs := List Dt → Nv → Option Nv
def RG (g : XG) : VGt := fun d ρ Q => match g d ρ with
  | some ρ' => Q ρ'
  | none => False
def RGs (g : XGs) : VGs := fun d ρ Q => match g d ρ with
  | some ρ' => Q ρ'
  | none => False
theorem RG.at {g : XG} {d : Dt} {ρ : Nv} {Q : Nv → Prop} (h : RG g d ρ Q) : ∃ ρ', g d ρ = some ρ' ∧ Q ρ' := by
  unfold RG at h
  split at h
  · next d e => exact ⟨d, e, h⟩
  · exact h.elim
theorem RGs.at {g : XGs} {d : List Dt} {ρ : Nv} {Q : Nv → Prop} (h : RGs g d ρ Q) : ∃ ρ', g d ρ = some ρ' ∧ Q ρ' := by
  unfold RGs at h
  split at h
  · next d e => exact ⟨d, e, h⟩
  · exact h.elim
theorem RG.of {g : XG} {d : Dt} {ρ ρ' : Nv} {Q : Nv → Prop} (e : g d ρ = some ρ') (q : Q ρ') : RG g d ρ Q := by
  unfold RG
  simp only [e]
  exact q
theorem RGs.of {g : XGs} {d : List Dt} {ρ ρ' : Nv} {Q : Nv → Prop} (e : g d ρ = some ρ') (q : Q ρ') : RGs g d ρ Q := by
  unfold RGs
  simp only [e]
  exact q
def ygN (i : Nat) : XG := fun d ρ => some (ρ.set i (some (.dat d)))
def ygsN : XGs := fun ds ρ => match ds with
  | [] => some ρ
  | _ => none
def ygsC (g : XG) (r : XGs) : XGs := fun ds ρ => match ds with
  | d :: ds => (g d ρ).bind (r ds)
  | [] => none
def ygT (k : Nat) (r : XGs) : XG := fun d ρ => match d with
  | .tuple ds => if ds.length = k then r ds ρ else none
  | _ => none
theorem wkGt {tg : Expr} {g g' : VGt} (h : PG X tg (upG X.K g)) (w : ∀ d ρ Q, g' d ρ Q → g d ρ Q) : PG X tg (upG X.K g') := pg_imp h fun v σ H Q ⟨C, ρ, n, G, O, d, Q0, I, r, q, hq⟩ => ⟨C, ρ, n, G, O, d, Q0, I, r, w _ _ _ q, hq⟩
theorem wkGs {tg : List Expr} {g g' : VGs} (h : PGs X tg (upGs X.K g)) (w : ∀ d ρ Q, g' d ρ Q → g d ρ Q) : PGs X tg (upGs X.K g') := pgs_imp h fun v σ H Q ⟨C, ρ, n, G, O, d, Q0, I, r, q, hq⟩ => ⟨C, ρ, n, G, O, d, Q0, I, r, w _ _ _ q, hq⟩
theorem yg_name {i : Nat} {x : Str} (hN : X.N.Nodup) (hi : X.N[i]? = some x) (hx : Loc X.env.scope x) (hf : X.fn x = true ∨ X.env.scope.names.lookup x = some .local := by first | exact .inl rfl | exact .inr rfl | assumption) : PG X (.Name x pos) (upG X.K (RG (ygN i))) :=
  wkGt (vg_name hN hi hx hf) fun d ρ Q q => q
theorem ygs_nil : PGs X [] (upGs X.K (RGs ygsN)) := wkGs vgs_nil fun d ρ Q q => by
  cases d <;> first | exact q | exact q.elim
theorem ygs_cons {e : Expr} {es : List Expr} {g : XG} {r : XGs} (h1 : PG X e (upG X.K (RG g))) (h2 : PGs X es (upGs X.K (RGs r))) (hs : (assignEach (e :: es) X.env).map (·.2) = assign e X.env :: (assignEach es X.env).map (·.2) := by rfl) : PGs X (e :: es) (upGs X.K (RGs (ygsC g r))) :=
  wkGs (vgs_cons h1 h2 hs) fun ds ρ Q q => by
    obtain ⟨ρ', e, q'⟩ := q.at
    cases ds with
    | nil => cases e
    | cons d ds =>
      simp only [ygsC, Option.bind_eq_some_iff] at e
      obtain ⟨ρ1, e1, e2⟩ := e
      exact RG.of e1 (RGs.of e2 q')
theorem yg_tup {es : List Expr} {k : Nat} {r : XGs} {n : Nat} (hc : X.calm = true) (h : PGs X es (upGs X.K (RGs r))) (hn : (assignEach es X.env).length = n := by rfl) (hst : (assignEach es X.env).findIdx? (·.1) = none := by rfl) : PG X (.Tuple es k pos) (upG X.K (RG (ygT n r))) :=
  wkGt (vg_tup hc h hn hst) fun d ρ Q q => by
    obtain ⟨ρ', e, q'⟩ := q.at
    unfold ygT at e
    split at e
    · split at e
      · next hl => exact ⟨hl, RGs.of e q'⟩
      · cases e
    · cases e
theorem satG {g : XG} {d : Dt} {ρ : Nv} {f : Nv → T Fl} {n : Nat} {Q : Fl → Nat → Prop} {E : XW} {Q' : Nv → Prop} (h : sat (bd (ofO (g d ρ)) f) n Q E) (w : ∀ ρ', sat (f ρ') n Q E → Q' ρ') : RG g d ρ Q' := by
  obtain ⟨ρ', e, q⟩ := satO (sat2 h fun _ _ z => z)
  exact RG.of e (w _ q)
end
/-! ### calls -/
def fnE : Fl → T W
  | .nx _ => .ret (.dat .none)
  | .rt w => .ret w
  | .bk _ => .fail
  | .ct _ => .fail
  | .xc x _ => .exc x
def bodyX (m k : Nat) (t : XS) : XFn := fun ws => if ws.length = k then bx (t (startE m ws)) fnE fun _ => .fail else .fail
theorem bodyX_ok {m k : Nat} {t : XS} : ∀ ws n Q E, SF (bodyX m k t) ws n Q E → bodyV m k (SS t) ws n Q E := fun ws n Q E h => by
  unfold SF bodyX at h
  split at h
  · next hl =>
    refine ⟨hl, sat_mono (fun f n' q => ?_) (fun x n' q => q) (sat_bx.mp h)⟩
    cases f <;> first | exact q | exact q.elim
  · exact h.elim
theorem Ok.ofX {P : Program} {w : World} {K : PySem.W.Frag} {mg : Str → Option Value} {base : Heap} {k m j : Nat} {x : Str} {ps : List Str} {t : XS} (h : Ok P w K mg base k x ps (bodyV m j (SS t))) : Ok P w K mg base k x ps (SF (bodyX m j t)) := h.weak bodyX_ok
theorem OkS.ofX {P : Program} {w : World} {K : PySem.W.Frag} {mg : Str → Option Value} {base : Heap} {k m j : Nat} {x : Str} {ps : List Str} {t : XS} (h : OkS P w K mg base k x ps (bodyV m j (SS t))) : OkS P w K mg base k x ps (SF (bodyX m j t)) := by
  obtain ⟨fd, F, r⟩ := h
  exact ⟨fd, F.weak bodyX_ok, r⟩
def rOfT : W → T Dt
  | .dat d => .ret d
  | .own ds => .ret (.list ds)
  | .dct kvs => .ret (fzW (.dct kvs))
  | .obj c fs => .ret (fzW (.obj c fs))
  | _ => .fail
def rOwT : W → T (List Dt)
  | .own ds => .ret ds
  | _ => .fail
theorem satR {w : W} {n : Nat} {Q : Dt → Nat → Prop} {E : XW} (h : sat (rOfT w) n Q E) : rOf Q w n := by
  cases w <;> first | exact h | exact h.elim
section
variable {X : Cx} {U : WX} {e e2 : Expr} {es : List Expr} {pos p kpos : Pos} {te : XT} {al : XAW} {x : Str} {k : Nat} {ps : List Str} {c : XFn}
def ywNil (_ : Nv) : T (List W) := .ret []
def wcK (w : W) (ws : List W) : T (List W) := .ret (w :: ws)
def wdK (r : XAW) (ρ : Nv) (d : Dt) : T (List W) := bd (r ρ) (wcK (.dat d))
def ywDat (te : XT) (r : XAW) (ρ : Nv) : T (List W) := bd (te ρ) (wdK r ρ)
def ywVar (i : Nat) (r : XAW) (ρ : Nv) : T (List W) := match ρ[i]? with
  | some (some .tok) => bd (r ρ) (wcK .tok)
  | some (some (.scr ns)) => bd (r ρ) (wcK (.scr ns))
  | _ => .fail
theorem yw_nil : VAg X U [] (S ywNil) := wkG wa_nil fun _ _ _ _ q => q
theorem yw_dat (ha : VE X U e (S te)) (hr : VAg X U es (S al)) (hs : starEach (e :: es) X.env = (false, eval e X.env) :: starEach es X.env := by rfl) : VAg X U (e :: es) (S (ywDat te al)) := wkG (wa_dat ha hr hs) fun ρ n Q E h => sat2 h fun d n1 h1 => sat2 h1 fun _ _ z => z
theorem yw_var (i : Nat) (hr : VAg X U es (S al)) (hN : X.N[i]? = some x := by rfl) (hv : Vis X.env.scope x := by first | exact Or.inl rfl | exact Or.inr (Or.inl rfl) | exact Or.inr (Or.inr rfl)) (hd : (x == ("__debug__" : Str)) = false := by decide)
    (hcd : (x == ("__classdict__" : Str)) = false := by decide) (hs : starEach (.Name x pos :: es) X.env = (false, eval (.Name x pos) X.env) :: starEach es X.env := by rfl) : VAg X U (.Name x pos :: es) (S (ywVar i al)) := wkG (wa_var i hr hN hv hd hcd hs) fun ρ n Q E h => by
  unfold S ywVar at h
  unfold wVar
  split at h
  · next e0 => (try simp only [e0]); exact sat2 h fun _ _ z => z
  · next ns e0 => (try simp only [e0]); exact sat2 h fun _ _ z => z
  · exact h.elim
def callK (c : XFn) (dw ws : List W) : T Dt := bd (c (ws ++ dw)) rOfT
def xCall (c : XFn) (dw : List W) (al : XAW) (ρ : Nv) : T Dt := bd (al ρ) (callK c dw)
theorem xCall_ok {dw : List W} : ∀ ρ n Q E, S (xCall c dw al) ρ n Q E → vCall (SF c) dw (S al) ρ n Q E := fun ρ n Q E h => sat2 h fun ws n1 h1 => sat2 h1 fun w n2 h2 => satR h2
theorem xe_ok (F : Ok X.prog X.w X.K X.mg X.base k x ps (SF c)) (hG : X.A.guards = some []) (hr : Room k X.A) (tk : Takes X U) (hg : Gl X x) (ha : VAg X U (e :: es) (S al)) (hdb : (x == ("__debug__" : Str)) = false := by decide)
    (he : starEach (e :: es) X.env = (false, eval e X.env) :: starEach es X.env := by rfl) (hpl : (backTo pos (starEach es X.env)).any (·.1) = false := by rfl) : VE X U (.Call (.Name x p) (e :: es) [] pos) (S (xCall c [] al)) := wkE (ve_ok F hG hr tk hg ha hdb he hpl) xCall_ok
end
/-! ### what is walked, loops -/
def lpF (L : XS) : Fl → T Fl
  | .nx ρ => L ρ
  | .rt w => .ret (.rt w)
  | .bk ρ => .ret (.nx ρ)
  | .ct ρ => L ρ
  | .xc x ρ => .ret (.xc x ρ)
def forT (g : XG) (tb : XS) : List Dt → XS
  | [] => fun ρ => .ret (.nx ρ)
  | d :: ds => fun ρ => bd (ofO (g d ρ)) fun ρ1 => bd (tb ρ1) (lpF (forT g tb ds))
theorem forT_ok {g : XG} {tb : XS} {V : VN} : ∀ (ds : List Dt) (ρ : Nv) (n : Nat), SS (forT g tb ds) V ρ n → vLoop (RG g) (SS tb) V ds ρ n
  | [], ρ, n, h => h
  | d :: ds, ρ, n, h => satG h fun ρ1 z => sat2 z fun f n' q => by
    cases f <;> first | exact forT_ok ds _ _ q | exact q
def forK (g : XG) (tb : XS) (ρ : Nv) (ds : List Dt) : T Fl := forT g tb ds ρ
def xFor (ti : XA) (g : XG) (tb : XS) (ρ : Nv) : T Fl := exS (ti ρ) ρ (forK g tb ρ)
def whN (xb : XB) (tb : XS) : Nat → XS
  | 0 => fun _ => .fail
  | k + 1 => fun ρ => exS (xb ρ) ρ fun b => if b = true then bd (tb ρ) (lpF (whN xb tb k)) else .ret (.nx ρ)
section
variable {X : Cx} {U : WX} {e iter tg : Expr} {es : List Expr} {pos p : Pos} {te : XT} {al ti : XA}
theorem xs_for {body : List Stmt} {g : XG} {tb : XS} (hp : PassesOwn (model X.prog X.w) X.A X.env X.xe) (hc : X.calm = true) (hi : VI X U tg iter (S ti)) (hg : PG X tg (upG X.K (RG g))) (hb : VSs X U body (SS tb)) (hs : ∀ x, foldedSetIterable iter X.env x = pure x := by intro _; rfl) : VS X U (.For tg iter body [] pos) (SS (xFor ti g tb)) :=
  wkS (vs_for hp hc hi hg hb hs) fun V ρ n h => satX h fun ds n' q => forT_ok ds ρ n' q
def itT : Dt → T (List Dt)
  | .tuple ds => .ret ds
  | _ => .fail
def itL : Dt → T (List Dt)
  | .list ds => .ret ds
  | _ => .fail
noncomputable def rgT1 (ds : List Dt) : T (List Dt) := match ds with
  | [.int j] => @ite _ (-(2 ^ 62) ≤ j ∧ j < 2 ^ 62) (Classical.propDecidable _) (.ret (rngD 0 j.toNat)) .fail
  | _ => .fail
noncomputable def ziR1 (al : XA) (ρ : Nv) : T (List Dt) := bd (al ρ) rgT1
theorem zi_range1 {a : Expr} (hg : Gl X "range") (hm : X.mg "range" = none) (ha : VAa X U [a] (S al)) (hs : starEach [a] X.env = [(false, eval a X.env)] := by rfl) : VI X U tg (.Call (.Name "range" p) [a] [] pos) (S (ziR1 al)) :=
  wkI (vi_range1 hg hm ha hs) fun ρ n Q E h => sat2 h fun ds n1 h1 => by
    unfold rgT1 at h1
    split at h1
    · have := sat_guard h1; exact ⟨this.1.1, this.1.2, this.2⟩
    · exact h1.elim
def enT : List Dt → T (List Dt)
  | [.tuple xs] => .ret (enumD xs)
  | _ => .fail
def enL : List Dt → T (List Dt)
  | [.list xs] => .ret (enumD xs)
  | _ => .fail
def ziET (al : XA) (ρ : Nv) : T (List Dt) := bd (al ρ) enT
def ziEL (al : XA) (ρ : Nv) : T (List Dt) := bd (al ρ) enL
theorem zi_enumL {elts : List Expr} {kk : Nat} {tpos : Pos} (hg : Gl X "enumerate") (hm : X.mg "enumerate" = none) (ha : VAa X U [e] (S al)) (hs : starEach [e] X.env = [(false, eval e X.env)] := by rfl) : VI X U (.Tuple elts kk tpos) (.Call (.Name "enumerate" p) [e] [] pos) (S (ziEL al)) :=
  wkI (vi_enumL hg hm ha hs) fun ρ n Q E h => sat2 h fun ds n1 h1 => by
    unfold enL at h1
    split at h1
    · exact h1
    · exact h1.elim
/-! ### list displays by a for -/
def lcT (g : XG) (xt : XB) (te : XT) (ρ : Nv) : List Dt → List Dt → T (List Dt)
  | [], acc => .ret acc
  | d :: ds, acc => bd (ofO (g d ρ)) fun ρ1 => bx (xt ρ1) (fun b => if b = true then bx (te ρ1) (fun y => if acc.length < sizeLine then lcT g xt te ρ ds (acc ++ [y]) else .fail) fun _ => .fail else lcT g xt te ρ ds acc) fun _ => .fail
def noOwnB (ρ : Nv) : List Nat → Bool
  | [] => true
  | v :: vs => (match ρ[v]? with | some (some (.own _)) => false | some (some (.dct _)) => false | some (some (.obj _ _)) => false | _ => true) && noOwnB ρ vs
theorem noOwnB_ok {ρ : Nv} : ∀ {vs : List Nat}, noOwnB ρ vs = true → noOwn ρ vs
  | [], _ => trivial
  | v :: vs, h => by
    unfold noOwnB at h
    obtain ⟨h1, h2⟩ := Bool.and_eq_true_iff.mp h
    refine ⟨?_, noOwnB_ok h2⟩
    generalize ρ[v]? = o at h1
    match o, h1 with
    | none, _ => trivial
    | some none, _ => trivial
    | some (some (.dat _)), _ => rfl
    | some (some .tok), _ => rfl
    | some (some (.scr _)), _ => rfl
    | some (some (.err _ _)), _ => rfl
    | some (some (.lam _ _ _ _ _)), _ => rfl
    | some (some (.own _)), h1 => cases h1
    | some (some (.dct _)), h1 => cases h1
    | some (some (.obj _ _)), h1 => cases h1
def lcK (g : XG) (xt : XB) (te : XT) (ρ : Nv) (ds : List Dt) : T (List Dt) := lcT g xt te ρ ds []
def xLc (ti : XA) (g : XG) (xt : XB) (te : XT) (vs : List Nat) (ρ : Nv) : T (List Dt) := if noOwnB ρ vs = true then bd (ti ρ) (lcK g xt te (wipeE ρ vs)) else .fail
theorem lcT_ok {g : XG} {xt : XB} {te : XT} {ρ : Nv} {Q : List Dt → Nat → Prop} {E : XW} : ∀ (ds acc : List Dt) (n : Nat), sat (lcT g xt te ρ ds acc) n Q E → vLcL (RG g) (S xt) (S te) ρ Q ds acc n
  | [], acc, n, h => h
  | d :: ds, acc, n, h => by
    obtain ⟨ρ1, e, q⟩ := satO (sat2 h fun _ _ z => z)
    refine RG.of e (sat_mono (fun b n1 z => ?_) (fun _ _ z => z) (sat_bx.mp q))
    split at z
    · next hb =>
      rw [if_pos hb]
      refine sat_mono (fun y n2 z => ?_) (fun _ _ z => z) (sat_bx.mp z)
      split at z
      · next hl => exact ⟨hl, lcT_ok ds _ n2 z⟩
      · exact z.elim
    · next hb => rw [if_neg hb]; exact lcT_ok ds _ n1 z
theorem xLc_ok {g : XG} {xt : XB} {vs : List Nat} : ∀ ρ n Q E, S (xLc ti g xt te vs) ρ n Q E → vLc (S ti) (RG g) (S xt) (S te) vs ρ n Q E := fun ρ n Q E h => by
  unfold S xLc at h
  split at h
  · next hb => exact ⟨noOwnB_ok hb, sat2 h fun ds n1 h1 => lcT_ok ds [] n1 h1⟩
  · exact h.elim
def xYes (_ : Nv) : T Bool := .ret true
theorem PairG.wk {K : PySem.W.Frag} {vs : List Nat} {gh : TG} {gv gv' : VGt} (h : PairG K vs gh gv) (w : ∀ d ρ Q, gv' d ρ Q → gv d ρ Q) : PairG K vs gh gv' := fun v σ H Q C ρ n G O d Q0 I r q k => h v σ H Q C ρ n G O d Q0 I r (w _ _ _ q) k
theorem ypair_tup2 {K : PySem.W.Frag} {vs : List Nat} (i j : Nat) (hi : i ∈ vs := by decide) (hj : j ∈ vs := by decide) : PairG K vs (gTup K 2 (gCons (gName i) (gCons (gName j) gNil))) (RG (ygT 2 (ygsC (ygN i) (ygsC (ygN j) ygsN)))) := (pair_tup2 i j hi hj).wk fun d ρ Q q => by
  obtain ⟨ρ', e, q'⟩ := q.at
  unfold ygT at e
  split at e
  · split at e
    · next ds hl =>
      refine ⟨hl, ?_⟩
      match ds, hl, e with
      | [d1, d2], _, e => simp [ygsC, ygN, ygsN] at e; subst e; exact q'
    · cases e
  · cases e
end
section
variable {X : Cx} {U : WX} {elt tg iter : Expr} {ifs : List Expr} {scope : Scope} {own : List (Str × Nat)} {pos spos : Pos} {ti : XA} {g : XG} {gh : TG} {xt : XB} {te : XT}
theorem xpts_one {c : Expr} (h : VTt X U c (S xt)) : PTs X [c] (upB X.K U (S xt)) := vpts_one h
theorem xo_lc (hc : X.calm = true) (hN : X.N.Nodup) (hi : VI X U tg iter (S ti)) (ok : BlkOk X.N X.env.scope scope own)
    (hg : ∀ (s : Shared) (H : Hp) (C : Addr) (cl : List (Str × Addr)) (fp : List Addr), PG (X.blk s H scope (compEnvC scope cl C X.env) fp) tg gh) (pg : PairG X.K (own.map (·.2)) gh (RG g))
    (ht : ∀ (s : Shared) (H : Hp) (C : Addr) (cl : List (Str × Addr)) (fp : List Addr), PTs (X.blk s H scope (compEnvC scope cl C X.env) fp) ifs (upB X.K U0 (S xt)))
    (he : ∀ (s : Shared) (H : Hp) (C : Addr) (cl : List (Str × Addr)) (fp : List Addr), PE (X.blk s H scope (compEnvC scope cl C X.env) fp) elt (up X.K U0 (S te))) (hs : ∀ x, foldedSetIterable iter X.env x = pure x := by intro _; rfl) :
    VO X U (.ListComp elt [⟨tg, iter, ifs, 0⟩] scope pos) (S (xLc ti g xt te (own.map (·.2)))) := wkO (vo_lc hc hN hi ok hg pg ht he hs) xLc_ok
end
end VL


set_option maxRecDepth 100000
set_option maxHeartbeats 2000000
namespace VL
open PySem PySem.Spec PyProof.Rows L2
/-! ### a try with several clauses, each with a name or without -/
abbrev Tsu := Addr → Value → Option Addr → TS
/-- the ends of a suite whose name goes behind it -/
abbrev gone (i : Nat) (D : Ends) : Ends := ⟨fun z Z => D.nx (z.set i none) Z, D.rt, fun z Z => D.bk (z.set i none) Z, fun z Z => D.ct (z.set i none) Z⟩
def asT (i : Nat) (ts : Tsu) : Tsu := fun a cls d D σ H => ts a cls d (gone i D) (σ.set i (some (.ref a))) H
inductive HdsM (X : Cx) : List ExceptHandler → List (Value × Tsu) → Prop
  | nil : HdsM X [] []
  | cons {x : Str} {c : Value} {ts : Tsu} {b₀ : Stmt} {su : List Stmt} {np p' : Pos} {hr : List ExceptHandler} {l : List (Value × Tsu)} (hc : Names X x c)
      (hsu : ∀ (a : Addr) (oe : Obj) (cls : Value) (d : Option Addr) (pn : List (Addr × Obj)), Zc cls d oe → (∃ vs, oe.data = .fields vs) → PSs (X.suite a ((a, oe) :: pn)) (b₀ :: su) (ts a cls d)) (r : HdsM X hr l) :
      HdsM X (.ExceptHandler (some (.Name x np)) none (b₀ :: su) p' :: hr) ((c, ts) :: l)
  | as {x n : Str} {i : Nat} {c : Value} {ts : Tsu} {b₀ : Stmt} {su : List Stmt} {np p' : Pos} {hr : List ExceptHandler} {l : List (Value × Tsu)} (hc : Names X x c) (hi : X.N[i]? = some n) (hl : X.env.kindOf n = some .local)
      (hsu : ∀ (a : Addr) (oe : Obj) (cls : Value) (d : Option Addr) (pn : List (Addr × Obj)), Zc cls d oe → (∃ vs, oe.data = .fields vs) → PSs (X.suite a ((a, oe) :: pn)) (b₀ :: su) (ts a cls d)) (r : HdsM X hr l) :
      HdsM X (.ExceptHandler (some (.Name x np)) (some n) (b₀ :: su) p' :: hr) ((c, asT i ts) :: l)
section
variable {X : Cx} {body : List Stmt} {e0 : ExceptHandler} {er : List ExceptHandler} {l : List (Value × Tsu)} {pos : Pos} {tb : WX → TS} {Wo : WX}
end
end VL


set_option maxRecDepth 100000
set_option maxHeartbeats 2000000
namespace VL
open PySem PySem.Spec PyProof.Rows L2
/-! ### raise and try as trees -/
abbrev Pt := Addr × Value × Option Addr
inductive Hd where
  | pl (c : Str) (t : XS)
  | nm (c : Str) (i : Nat) (t : Pt → XS)
section
variable {K : PySem.W.Frag} {C : Ct} {σ : L2.St} {ρ : Nv} {n : Nat} {G O H : Hp}
def htX (K : PySem.W.Frag) (U : WX) : Hd → Value × Tsu
  | .pl c t => (.ref (He.ga K c), fun _ _ _ => upS K U (SS t))
  | .nm c i t => (.ref (He.ga K c), asT i fun a cls d => upS K U (SS (t (a, cls, d))))
def Hd.cls : Hd → Str
  | .pl c _ => c
  | .nm c _ _ => c
end
inductive HdsX (X : Cx) (U : WX) : List ExceptHandler → List Hd → Prop
  | nil : HdsX X U [] []
  | cons {x : Str} {t : XS} {b₀ : Stmt} {su : List Stmt} {np p' : Pos} {hr : List ExceptHandler} {l : List Hd} (hc : Names X x (.ref (He.ga X.K x)))
      (hsu : ∀ (a : Addr) (oe : Obj) (pn : List (Addr × Obj)), VSs (X.suite a ((a, oe) :: pn)) U (b₀ :: su) (SS t)) (r : HdsX X U hr l) : HdsX X U (.ExceptHandler (some (.Name x np)) none (b₀ :: su) p' :: hr) (.pl x t :: l)
  | as {x n : Str} {i : Nat} {t : Pt → XS} {b₀ : Stmt} {su : List Stmt} {np p' : Pos} {hr : List ExceptHandler} {l : List Hd} (hc : Names X x (.ref (He.ga X.K x))) (hi : X.N[i]? = some n) (hl : X.env.kindOf n = some .local)
      (hsu : ∀ (a : Addr) (oe : Obj) (cls : Value) (d : Option Addr) (pn : List (Addr × Obj)), Zc cls d oe → (∃ vs, oe.data = .fields vs) → VSs (X.suite a ((a, oe) :: pn)) U (b₀ :: su) (SS (t (a, cls, d)))) (r : HdsX X U hr l) :
      HdsX X U (.ExceptHandler (some (.Name x np)) (some n) (b₀ :: su) p' :: hr) (.nm x i t :: l)
theorem HdsX.ok {X : Cx} {U : WX} {hds : List ExceptHandler} {l : List Hd} (h : HdsX X U hds l) : HdsM X hds (l.map (htX X.K U)) := by
  induction h with
  | nil => exact .nil
  | cons hc hsu r ih => exact .cons hc (fun a oe cls d pn _ _ => hsu a oe pn) ih
  | as hc hi hl hsu r ih => exact .as hc hi hl (fun a oe cls d pn z f => hsu a oe cls d pn z f) ih
section
variable {X : Cx} {U : WX} {body : List Stmt} {e : Expr} {es : List Expr} {e0 : ExceptHandler} {er : List ExceptHandler} {l : List Hd} {known : List Str} {tb : XS} {pos p p2 : Pos} {al : XA}
end
end VL


set_option maxRecDepth 100000
set_option maxHeartbeats 2000000
namespace VL
open PySem PySem.Spec PyProof.Rows L2
section
variable {X : Cx} {U : WX} {pos : Pos}
end
/-! ### facts for the plain side -/
theorem isi_T (d : Dt) : isiD "tuple" d = match d with | .tuple _ => true | _ => false := by cases d <;> rfl
theorem isi_B (d : Dt) : isiD "bool" d = match d with | .bool _ => true | _ => false := by cases d <;> rfl
theorem isi_I (d : Dt) : isiD "int" d = match d with | .int _ => true | .bool _ => true | _ => false := by cases d <;> rfl
theorem isi_S (d : Dt) : isiD "str" d = match d with | .str _ => true | _ => false := by cases d <;> rfl
theorem isi_L (d : Dt) : isiD "list" d = match d with | .list _ => true | _ => false := by cases d <;> rfl
theorem sizeL : sizeLine = 16777216 := rfl
def mn (i j : Int) : Int := if j < i then j else i
def mx (i j : Int) : Int := if j > i then j else i
theorem pMin2_i {i j : Int} : pMin2 [.int i, .int j] = some (.int (mn i j)) := rfl
theorem pMax2_i {i j : Int} : pMax2 [.int i, .int j] = some (.int (mx i j)) := rfl
theorem pEqS {x y : Str} : pEq (.str x) (.str y) = some (.bool (x == y)) := by exact (if_pos (show shp (.str x) (.str y) from trivial)).trans (by simp [PyData.eqv])
theorem pNeS {x y : Str} : pNe (.str x) (.str y) = some (.bool (!(x == y))) := by exact (if_pos (show shp (.str x) (.str y) from trivial)).trans (by simp [PyData.eqv])
theorem pEqI {i j : Int} : pEq (.int i) (.int j) = some (.bool (decide (i = j))) := by
  unfold pEq
  rw [if_pos ⟨shaped_int, shaped_int⟩]
  simp only [PyData.eqv]
  by_cases h : i = j <;> simp [h]
theorem pNeI {i j : Int} : pNe (.int i) (.int j) = some (.bool (!decide (i = j))) := by
  unfold pNe
  rw [if_pos ⟨shaped_int, shaped_int⟩]
  simp only [PyData.eqv]
  by_cases h : i = j <;> simp [h]
/-! what is computed, by forms -/
theorem pIx_t {ds : List Dt} {i : Int} : pIx (.tuple ds) (.int i) = atI ds i := rfl
theorem pIx_l {ds : List Dt} {i : Int} : pIx (.list ds) (.int i) = atI ds i := rfl
theorem pLen_t {ds : List Dt} : pLen [.tuple ds] = some (.int (ds.length : Int)) := rfl
theorem pLen_l {ds : List Dt} : pLen [.list ds] = some (.int (ds.length : Int)) := rfl
theorem pAdd_i {i j : Int} : pAdd (.int i) (.int j) = some (.int (i + j)) := rfl
theorem pAdd_t {xs ys : List Dt} : pAdd (.tuple xs) (.tuple ys) = if xs.length + ys.length ≤ sizeLine then some (.tuple (xs ++ ys)) else none := by simp only [pAdd]
theorem pAdd_l {xs ys : List Dt} : pAdd (.list xs) (.list ys) = if xs.length + ys.length ≤ sizeLine then some (.list (xs ++ ys)) else none := by simp only [pAdd]
theorem pSub_i {i j : Int} : pSub (.int i) (.int j) = some (.int (i - j)) := rfl
theorem pNeg_i {i : Int} : pNeg (.int i) = some (.int (-i)) := rfl
theorem pLt_i {i j : Int} : pLt (.int i) (.int j) = some (.bool (decide (i < j))) := rfl
theorem pLe_i {i j : Int} : pLe (.int i) (.int j) = some (.bool (decide (i ≤ j))) := rfl
theorem pGt_i {i j : Int} : pGt (.int i) (.int j) = some (.bool (decide (j < i))) := rfl
theorem pGe_i {i j : Int} : pGe (.int i) (.int j) = some (.bool (decide (j ≤ i))) := rfl
theorem pIs_n {d : Dt} : pIs d .none = some (.bool (isNoneD d)) := rfl
theorem pIsNot_n {d : Dt} : pIsNot d .none = some (.bool (!isNoneD d)) := rfl
theorem pIadd_i {i j : Int} : pIadd (.int i) (.int j) = some (.int (i + j)) := rfl
theorem pAbs_i {i : Int} : pAbs [.int i] = some (.int (if i < 0 then -i else i)) := rfl
theorem pInt_i {i : Int} : pInt [.int i] = some (.int i) := rfl
theorem pTuple_t {ds : List Dt} : pTuple [.tuple ds] = some (.tuple ds) := rfl
theorem pTuple_l {ds : List Dt} : pTuple [.list ds] = some (.tuple ds) := rfl
theorem pList_t {ds : List Dt} : pList [.tuple ds] = some ds := rfl
theorem pList_l {ds : List Dt} : pList [.list ds] = some ds := rfl
theorem pSl_t {ds : List Dt} {lo hi : Option Int} : pSl (.tuple ds) lo hi = some (.tuple (cutD ds lo hi)) := rfl
theorem pSl_l {ds : List Dt} {lo hi : Option Int} : pSl (.list ds) lo hi = some (.list (cutD ds lo hi)) := rfl
theorem asB_b {b : Bool} : asB (.bool b) = .ret b := rfl
theorem asI_i {i : Int} : asI (.int i) = .ret (some i) := rfl
theorem itT_t {ds : List Dt} : itT (.tuple ds) = .ret ds := rfl
theorem itL_l {ds : List Dt} : itL (.list ds) = .ret ds := rfl
theorem enT_t {ds : List Dt} : enT [.tuple ds] = .ret (enumD ds) := rfl
theorem enL_l {ds : List Dt} : enL [.list ds] = .ret (enumD ds) := rfl
theorem rgT1_i {j : Int} (h0 : -(2 ^ 62) ≤ j) (h1 : j < 2 ^ 62) : rgT1 [.int j] = .ret (rngD 0 j.toNat) := if_pos ⟨h0, h1⟩
theorem ygT_t {k : Nat} {r : XGs} {ds : List Dt} {ρ : Nv} : ygT k r (.tuple ds) ρ = if ds.length = k then r ds ρ else none := rfl
theorem rOfT_d {d : Dt} : rOfT (.dat d) = .ret d := rfl
theorem rOfT_o {ds : List Dt} : rOfT (.own ds) = .ret (.list ds) := rfl
theorem rOwT_o {ds : List Dt} : rOwT (.own ds) = .ret ds := rfl
theorem isN_n : isNoneD .none = true := rfl
theorem isN_b {b : Bool} : isNoneD (.bool b) = false := rfl
theorem isN_i {b : Int} : isNoneD (.int b) = false := rfl
theorem isN_s {b : Str} : isNoneD (.str b) = false := rfl
theorem isN_t {b : List Dt} : isNoneD (.tuple b) = false := rfl
theorem isN_l {b : List Dt} : isNoneD (.list b) = false := rfl
/-! plain data: ints, texts, None, and tuples and lists of them; no truth values -/
mutual
def plainD : Dt → Bool
  | .none => true
  | .bool _ => false
  | .int _ => true
  | .str _ => true
  | .list ds => plainA ds
  | .tuple ds => plainA ds
  | .dict _ => false
def plainA : List Dt → Bool
  | [] => true
  | d :: ds => plainD d && plainA ds
end
mutual
theorem eqv_iff : ∀ {a b : Dt}, plainD a = true → plainD b = true → (PyData.eqv a b = true ↔ a = b)
  | .none, b, _, hb => by cases b <;> simp [PyData.eqv, plainD] at hb ⊢
  | .bool _, b, ha, _ => by simp [plainD] at ha
  | .int _, b, _, hb => by cases b <;> simp [PyData.eqv, plainD] at hb ⊢
  | .str x, b, _, hb => by cases b <;> simp [PyData.eqv]
  | .list xs, b, ha, hb => by
    cases b with
    | list ys => simp only [plainD] at ha hb; simp only [PyData.eqv, eqvA_iff ha hb, PyData.list.injEq]
    | _ => simp [PyData.eqv]
  | .tuple xs, b, ha, hb => by
    cases b with
    | tuple ys => simp only [plainD] at ha hb; simp only [PyData.eqv, eqvA_iff ha hb, PyData.tuple.injEq]
    | _ => simp [PyData.eqv]
  | .dict _, b, ha, _ => by simp [plainD] at ha
theorem eqvA_iff : ∀ {a b : List Dt}, plainA a = true → plainA b = true → (PyData.eqvAll a b = true ↔ a = b)
  | [], b, _, _ => by cases b <;> simp [PyData.eqvAll]
  | x :: xs, b, ha, hb => by
    cases b with
    | nil => simp [PyData.eqvAll]
    | cons y ys =>
      simp only [plainA, Bool.and_eq_true] at ha hb
      simp only [PyData.eqvAll, Bool.and_eq_true, eqv_iff ha.1 hb.1, eqvA_iff ha.2 hb.2, List.cons.injEq]
end
theorem eqv_self {a : Dt} (ha : plainD a = true) : PyData.eqv a a = true := (eqv_iff ha ha).mpr rfl
/-- shaped, by parts -/
structure Shp (dp : Nat) (d : Dt) : Prop where
  lay : d.canLay0 = true
  dep : d.depth ≤ dp
structure ShpA (dp : Nat) (ds : List Dt) : Prop where
  lay : PyData.canLayAll0 ds = true
  dep : PyData.depthAll ds ≤ dp
theorem Shp.shaped {dp : Nat} {d : Dt} (h : Shp dp d) (hd : dp ≤ 64) : SeqAt.shaped d = true := by
  unfold SeqAt.shaped
  rw [h.lay, decide_eq_true (Nat.le_trans h.dep hd)]
  rfl
theorem Shp.int {dp : Nat} (i : Int) : Shp dp (.int i) := ⟨by simp [PyData.canLay0], by simp [PyData.depth]⟩
theorem Shp.none {dp : Nat} : Shp dp .none := ⟨by simp [PyData.canLay0], by simp [PyData.depth]⟩
theorem Shp.bool {dp : Nat} (b : Bool) : Shp dp (.bool b) := ⟨by simp [PyData.canLay0], by simp [PyData.depth]⟩
theorem ShpA.nil {dp : Nat} : ShpA dp [] := ⟨by simp [PyData.canLayAll0], by simp [PyData.depthAll]⟩
theorem ShpA.cons {dp : Nat} {d : Dt} {ds : List Dt} (a : Shp dp d) (b : ShpA dp ds) : ShpA dp (d :: ds) := ⟨by simp [PyData.canLayAll0, a.lay, b.lay], by simp only [PyData.depthAll]; have := a.dep; have := b.dep; omega⟩
theorem ShpA.of {dp : Nat} : ∀ {ds : List Dt}, (∀ d ∈ ds, Shp dp d) → ShpA dp ds
  | [], _ => .nil
  | d :: ds, h => .cons (h d (by simp)) (ShpA.of fun x hx => h x (List.mem_cons_of_mem _ hx))
theorem Shp.tup {dp : Nat} {ds : List Dt} (a : ShpA dp ds) : Shp (dp + 1) (.tuple ds) := ⟨by simp only [PyData.canLay0, a.lay], by simp only [PyData.depth]; have := a.dep; omega⟩
theorem Shp.lst {dp : Nat} {ds : List Dt} (a : ShpA dp ds) : Shp (dp + 1) (.list ds) := ⟨by simp only [PyData.canLay0, a.lay], by simp only [PyData.depth]; have := a.dep; omega⟩
theorem Shp.le {dp dp' : Nat} {d : Dt} (a : Shp dp d) (h : dp ≤ dp') : Shp dp' d := ⟨a.lay, Nat.le_trans a.dep h⟩
theorem ShpA.ints {dp : Nat} (ns : List Int) : ShpA dp (ns.map PyData.int) := .of fun d hd => by
  obtain ⟨i, _, rfl⟩ := List.mem_map.mp hd
  exact .int i
theorem shp_of {a b : Dt} (ha : SeqAt.shaped a = true) (hb : SeqAt.shaped b = true) : shp a b := by
  cases a <;> cases b <;> first | exact trivial | exact ⟨ha, hb⟩
theorem pNe_of {dp : Nat} {a b : Dt} (ha : Shp dp a) (hb : Shp dp b) (h : dp ≤ 64) : pNe a b = some (.bool (!PyData.eqv a b)) := if_pos (shp_of (ha.shaped h) (hb.shaped h))
/-! loops -/
theorem forT_cons {g : XG} {tb : XS} {d : Dt} {ds : List Dt} {ρ : Nv} : forT g tb (d :: ds) ρ = bd (ofO (g d ρ)) fun ρ1 => bd (tb ρ1) (lpF (forT g tb ds)) := rfl
/-- one turn; ct: the loop goes on -/
def turnT (g : XG) (tb : XS) (d : Dt) (ρ : Nv) : T Fl := bd (ofO (g d ρ)) fun ρ1 => bd (tb ρ1) (lpF fun ρ => .ret (.ct ρ))
theorem for_turn {g : XG} {tb : XS} {d : Dt} {ds : List Dt} {ρ : Nv} : forT g tb (d :: ds) ρ = bd (turnT g tb d ρ) fun f => match f with | .ct ρ => forT g tb ds ρ | f => .ret f := by
  rw [forT_cons]
  unfold turnT
  generalize forT g tb ds = L
  cases g d ρ with
  | none => rfl
  | some ρ1 =>
    simp only [ofO_some, bd_ret]
    generalize tb ρ1 = t
    induction t with
    | ret f => cases f <;> rfl
    | exc x => rfl
    | fail => rfl
    | draw m k ih => simp only [bd_draw]; exact congrArg (T.draw m) (funext fun r => ih r)
/-- a loop that goes on: its state is folded -/
theorem for_fold {σ δ : Type} {g : XG} {tb : XS} (env : σ → Nv) (enc : δ → Dt) (step : σ → δ → σ) (I : σ → Prop) : ∀ (ds : List δ) (s : σ), I s → (∀ s d, d ∈ ds → I s → I (step s d) ∧ turnT g tb (enc d) (env s) = .ret (.ct (env (step s d)))) →
    forT g tb (ds.map enc) (env s) = .ret (.nx (env (ds.foldl step s)))
  | [], s, _, _ => rfl
  | d :: ds, s, hI, h => by
    obtain ⟨h1, h2⟩ := h s d (by simp) hI
    rw [List.map_cons, for_turn, h2, List.foldl_cons, bd_ret]
    exact for_fold env enc step I ds (step s d) h1 (fun s d hd => h s d (List.mem_cons_of_mem _ hd))
theorem lcT_nil {g : XG} {xt : XB} {te : XT} {ρ : Nv} {acc : List Dt} : lcT g xt te ρ [] acc = .ret acc := rfl
theorem lcT_cons {g : XG} {xt : XB} {te : XT} {ρ : Nv} {d : Dt} {ds acc : List Dt} : lcT g xt te ρ (d :: ds) acc = bd (ofO (g d ρ)) fun ρ1 => bx (xt ρ1) (fun b => if b = true then bx (te ρ1) (fun y => if acc.length < sizeLine then lcT g xt te ρ ds (acc ++ [y]) else .fail) fun _ => .fail else lcT g xt te ρ ds acc) fun _ => .fail := rfl
/-- with a test -/
theorem lc_filter {δ : Type} {g : XG} {xt : XB} {te : XT} {ρ : Nv} (enc : δ → Dt) (c : δ → Bool) (f : δ → Dt) : ∀ (ds : List δ) (acc : List Dt), acc.length + ds.length ≤ sizeLine → (∀ d ∈ ds, bd (ofO (g (enc d) ρ)) xt = .ret (c d)) → (∀ d ∈ ds, c d = true → bd (ofO (g (enc d) ρ)) te = .ret (f d)) → lcT g xt te ρ (ds.map enc) acc = .ret (acc ++ (ds.filter c).map f)
  | [], acc, _, _, _ => by simp [lcT_nil]
  | d :: ds, acc, hl, h, h' => by
    have h1 := h d (by simp)
    have h2 := h' d (by simp)
    rw [List.length_cons] at hl
    have ih := fun acc hl => lc_filter (te := te) enc c f ds acc hl (fun d hd => h d (List.mem_cons_of_mem _ hd)) (fun d hd => h' d (List.mem_cons_of_mem _ hd))
    rw [List.map_cons, lcT_cons]
    cases e : g (enc d) ρ with
    | none => rw [e] at h1; cases h1
    | some ρ1 =>
      rw [e] at h1 h2
      simp only [ofO_some, bd_ret] at h1 h2 ⊢
      simp only [h1, bx_ret]
      cases hc : c d with
      | true =>
        simp only [h2 hc, bx_ret, if_true]
        rw [if_pos (by omega), ih _ (by simp only [List.length_append, List.length_cons, List.length_nil]; omega)]
        simp [hc]
      | false =>
        simp only [Bool.false_eq_true, if_false]
        rw [ih _ (by omega)]
        simp [hc]
end VL


set_option maxRecDepth 100000
set_option maxHeartbeats 2000000
namespace VL
open PySem PySem.Spec PyProof.Rows L2
/-! ### drawn things: at most k draws, then P -/
def Dr {α : Type} (k : Nat) (t : T α) (P : α → Prop) : Prop := ∀ n Q E, n + k ≤ 1000000000000 → (∀ a n', P a → n' ≤ n + k → Q a n') → sat t n Q E
section
variable {α β : Type} {k j : Nat} {P : α → Prop} {R : β → Prop}
theorem Dr.ret {a : α} (h : P a) : Dr k (.ret a) P := fun n Q E _ hq => hq a n h (by omega)
theorem Dr.mono {t : T α} {P' : α → Prop} (h : Dr k t P) (hk : k ≤ j) (hp : ∀ a, P a → P' a) : Dr j t P' := fun n Q E hn hq => h n Q E (by omega) fun a n' ha hn' => hq a n' (hp a ha) (by omega)
theorem Dr.le {t : T α} (h : Dr k t P) (hk : k ≤ j) : Dr j t P := h.mono hk fun _ q => q
theorem Dr.draw {m : Int} {f : Int → T α} (h0 : 0 < m) (h1 : m < 10000000000000000000000000000000) (h : ∀ r, 0 ≤ r → r < m → Dr k (f r) P) : Dr (k + 1) (.draw m f) P := fun n Q E hn hq => ⟨h0, h1, by omega, fun r r0 r1 => h r r0 r1 (n + 1) Q E (by omega) fun a n' ha hn' => hq a n' ha (by omega)⟩
theorem Dr.bx {t : T α} {f : α → T β} {g : Exc → T β} (h : Dr k t P) (hf : ∀ a, P a → Dr j (f a) R) : Dr (k + j) (VL.bx t f g) R := fun n Q E hn hq => sat_bx.mpr (h n _ _ (by omega) fun a n' ha hn' => hf a ha n' Q E (by omega) fun b n2 hb hn2 => hq b n2 hb (by omega))
theorem Dr.bd {t : T α} {f : α → T β} (h : Dr k t P) (hf : ∀ a, P a → Dr j (f a) R) : Dr (k + j) (VL.bd t f) R := h.bx hf
theorem Dr.exS {t : T α} {ρ : Nv} {f : α → T Fl} {R : Fl → Prop} (h : Dr k t P) (hf : ∀ a, P a → Dr j (f a) R) : Dr (k + j) (VL.exS t ρ f) R := h.bx hf
/-- a statement, then the others -/
theorem Dr.seq {t u : XS} {ρ : Nv} {J : Nv → Prop} {R : Fl → Prop} (k j : Nat) (h : Dr k (t ρ) (fun f => ∃ ρ', f = .nx ρ' ∧ J ρ')) (hu : ∀ ρ', J ρ' → Dr j (u ρ') R) : Dr (k + j) (xSeq t u ρ) R := by
  unfold xSeq
  refine Dr.bd h fun f hf => ?_
  obtain ⟨ρ', rfl, hJ⟩ := hf
  exact hu ρ' hJ
/-- a statement whose end is known -/
theorem Dr.step {t u : XS} {ρ ρ' : Nv} {R : Fl → Prop} (e : t ρ = .ret (.nx ρ')) (hu : Dr k (u ρ') R) : Dr k (xSeq t u ρ) R := by
  unfold xSeq
  rw [e, bd_ret]
  exact hu
/-- a loop -/
theorem Dr.forT {g : XG} {tb : XS} {R : Fl → Prop} (J : List Dt → Nv → Prop) (h0 : ∀ ρ, J [] ρ → R (.nx ρ)) (h : ∀ d ds ρ, J (d :: ds) ρ → ∃ ρ1, g d ρ = some ρ1 ∧ Dr k (tb ρ1) (fun f => (∃ ρ', (f = .nx ρ' ∨ f = .ct ρ') ∧ J ds ρ') ∨ (∃ w, f = .rt w ∧ R (.rt w)) ∨ (∃ ρ', f = .bk ρ' ∧ R (.nx ρ')))) :
    ∀ (ds : List Dt) (ρ : Nv), J ds ρ → Dr (k * ds.length) (VL.forT g tb ds ρ) R
  | [], ρ, hJ => Dr.ret (h0 ρ hJ)
  | d :: ds, ρ, hJ => by
    obtain ⟨ρ1, e, q⟩ := h d ds ρ hJ
    rw [forT_cons, e, ofO_some, bd_ret, List.length_cons, Nat.mul_add, Nat.mul_one, Nat.add_comm]
    refine Dr.bd q fun f hf => ?_
    rcases hf with ⟨ρ', rfl | rfl, hJ'⟩ | ⟨w, rfl, hw⟩ | ⟨ρ', rfl, hw⟩
    · exact Dr.forT J h0 h ds ρ' hJ'
    · exact Dr.forT J h0 h ds ρ' hJ'
    · exact Dr.ret hw
    · exact Dr.ret hw
/-- a list that is drawn item by item -/
theorem Dr.lcT {g : XG} {te : XT} {ρ : Nv} {R : Dt → Prop} : ∀ (ds acc : List Dt), acc.length + ds.length ≤ sizeLine → (∀ d ∈ ds, ∃ ρ1, g d ρ = some ρ1 ∧ Dr k (te ρ1) R) → Dr (k * ds.length) (VL.lcT g xYes te ρ ds acc) (fun ys => ∃ zs, ys = acc ++ zs ∧ zs.length = ds.length ∧ ∀ z ∈ zs, R z)
  | [], acc, _, _ => Dr.ret ⟨[], by simp, rfl, by simp⟩
  | d :: ds, acc, hl, h => by
    obtain ⟨ρ1, e, q⟩ := h d (by simp)
    rw [List.length_cons] at hl
    rw [lcT_cons, e, ofO_some, bd_ret, List.length_cons, Nat.mul_add, Nat.mul_one, Nat.add_comm]
    simp only [xYes, bx_ret, if_true]
    refine Dr.bx q fun y hy => ?_
    rw [if_pos (by omega)]
    refine (Dr.lcT ds (acc ++ [y]) (by simp only [List.length_append, List.length_cons, List.length_nil]; omega) fun d hd => h d (List.mem_cons_of_mem _ hd)).mono (Nat.le_refl _) fun ys hys => ?_
    obtain ⟨zs, rfl, h1, h2⟩ := hys
    exact ⟨y :: zs, by simp, by simp [h1], fun z hz => by
      rcases List.mem_cons.mp hz with rfl | hz
      · exact hy
      · exact h2 z hz⟩
/-- a call of a def that draws -/
theorem Dr.call {c : XFn} {ws : List W} {R : Dt → Prop} (h : Dr k (c ws) (fun w => ∃ d, w = .dat d ∧ R d)) : Dr k (VL.bd (c ws) rOfT) R := by
  have := Dr.bd (j := 0) (R := R) h (f := rOfT) fun w hw => by
    obtain ⟨d, rfl, hd⟩ := hw
    exact Dr.ret hd
  exact this
/-- a def's body -/
theorem Dr.body {m a : Nat} {t : XS} {ws : List W} {R : W → Prop} (hl : ws.length = a) (h : Dr k (t (startE m ws)) (fun f => ∃ w, f = .rt w ∧ R w)) : Dr k (bodyX m a t ws) R := by
  unfold bodyX
  rw [if_pos hl]
  have := Dr.bx (j := 0) (R := R) h (f := fnE) (g := fun _ => .fail) fun f hf => by
    obtain ⟨w, rfl, hw⟩ := hf
    exact Dr.ret hw
  exact this
/-- the law -/
theorem Dr.law {t : XS} {ρ : Nv} (h : Dr k (t ρ) (fun f => f = .rt (.dat (.bool true)))) (hk : k ≤ 1000000000000) : SS t lawEnd ρ 0 := h 0 _ _ (by omega) fun f n' hf _ => by subst hf; rfl
end
/-! small facts -/
theorem pNe_self {dp : Nat} {d : Dt} (h : Shp dp d) (hd : dp ≤ 64) (hp : plainD d = true) : pNe d d = some (.bool false) := by rw [pNe_of h h hd, eqv_self hp]; rfl
theorem Shp.str {dp : Nat} {s : Str} (h : PyData.canLay0 (.str s) = true) : Shp dp (.str s) := ⟨h, by simp [PyData.depth]⟩
theorem at5 {α : Type} {a b c d e f : α} {l : List α} : atI (a :: b :: c :: d :: e :: f :: l) 5 = some f := atI_nat (j := 5) rfl
theorem at6 {α : Type} {a b c d e f g : α} {l : List α} : atI (a :: b :: c :: d :: e :: f :: g :: l) 6 = some g := atI_nat (j := 6) rfl
theorem at7 {α : Type} {a b c d e f g h : α} {l : List α} : atI (a :: b :: c :: d :: e :: f :: g :: h :: l) 7 = some h := atI_nat (j := 7) rfl
end VL


set_option maxRecDepth 100000
set_option maxHeartbeats 4000000
/-! ### errors straight under OverflowError or LookupError, with one field -/
namespace PySem.OEG
open PySem PySem.W PySem.Calls PyProof.Rows PySem.HandSPX
section
open Builtin Builtin.ObjectAttr
variable {prog : Program} {w : World} {A : Around} {R : Result → Shared → Prop} {hp : Heap} {g : Array GenState} {d : Drawn} {t : Nat} {os : OsState}
/-- the first field of an exception over B -/
theorem osa_first {K : W.Frag} {B : String} {bmB : List Value} {name : Str} {tk : Tok} {v : Value} {x C : Addr} {fv : Array Value} {cd : ClassData} (SF : StoreFacts B bmB "object.__setattr__" "object")
    (X : K.In hp) (hx : hp.get? x = some { cls := .ref C, data := .fields fv }) (ho : W.excOver K C bmB = true) (hcd : W.clsIn K C = some cd) (hh : cd.hasDict = true) (ht : W.takerIn K C name = some none)
    (hq : ∀ h' tk' dx, (∀ b o, b ≠ x → hp.get? b = some o → h'.get? b = some o) → hp.objs.size ≤ dx → dx ≠ x → h'.get? x = some { cls := .ref C, dict := some dx, data := .fields fv } → h'.Ns1 dx (fun y => if y = name then some v else none) → R (.ok (.ret .none)) ⟨h', g, d, tk', os⟩) :
    codeAny (model prog w) A (.call (.builtin "object.__setattr__") ⟨[.ref x, .str name tk, v], []⟩) R ⟨hp, g, d, t, os⟩ := by
  have apart : x ≠ hp.objs.size := Nat.ne_of_lt (Heap.lt_size hx)
  have Lc : W.Looks (model prog w) hp (classData C) cd := W.looks_clsIn X hcd
  refine W.osa_openX SF X (⟨hx, rfl, rfl, trivial⟩ : W.InstAt hp x { cls := .ref C, data := .fields fv } C none) ho ht fun b => ?_
  dsimp only
  obtain ⟨nm, bs, mro, ns, qn, hd, sn, sb, ab, col, del⟩ := cd
  cases (show hd = true from hh)
  unfold storeInOwnDict ownDictForStores
  repeat (first | with_reducible refine store_in_new ?_ ?_ | with_reducible refine wpAny_loadPart_at hx ?_ | with_reducible refine Lc.at ?_ | wp_step)
  · exact ⟨_, #[], _, (Heap.get?_update_ne _ _ _ _ apart.symm).trans (Heap.get?_push_at rfl rfl), rfl, fun e z => by simp at z, fun _ => rfl⟩
  · intro h' tk' hn' hs
    refine hq h' tk' hp.objs.size (fun b o hb z => ?_) (Nat.le_refl _) apart.symm ?_ hn'
    · exact (hs.2 b (Nat.ne_of_lt (Heap.lt_size z))).trans ((Heap.get?_update_ne _ _ _ _ hb).trans (Heap.get?_push_of_some _ z))
    · exact (hs.2 x apart).trans (Heap.get?_update_self _ (Heap.get?_push_of_some _ hx) rfl)
end
end PySem.OEG
namespace VL
open PySem PySem.Spec PyProof.Rows L2
/-- what the written part says of such a class -/
structure OexG (K : PySem.W.Frag) (C : Addr) (B newId initId : String) (bmB : List Value) : Prop where
  fb : ExcBaseFacts B newId initId bmB
  sf : StoreFacts B bmB "object.__setattr__" "object"
  ini : PySem.W.excInitIn K C bmB newId = true
  ovr : PySem.W.excOver K C bmB = true
  hd : PySem.W.hasDictIn K C = true
  sa : PySem.W.findIn K (.ref C) "__setattr__" = some (some (.builtin "object.__setattr__"))
  exC : PySem.W.subIn K (.ref C) (.type "BaseException") = some true
  tyC : PySem.W.typeIn K (.ref C) = some (.type "type")
  kC : PySem.W.keepIn K (.ref C) = true
section
variable {X : Cx} {pins : List (Addr × Obj)} {σ : L2.St} {H : Hp} {s : Shared} {a C : Addr} {f : Str} {y : V} {u : Value} {Q : Unit → Shared → Prop} {E : Value → Shared → Prop} {A : Around} {B newId initId : String} {bmB : List Value}
theorem taker_none {K : PySem.W.Frag} (h : PySem.W.findIn K (.ref C) f = some none) : PySem.W.takerIn K C f = some none := by
  unfold PySem.W.takerIn
  rw [h]
  rfl
theorem ost_first (Tg : OexG X.K C B newId initId bmB) (I : Inv X pins σ H s) (e : H a = some (exo a C none)) (hno : PySem.W.findIn X.K (.ref C) f = some none) (ry : RelV y u)
    (h : ∀ dx s', H dx = none → dx ≠ a → Inv X pins σ (L2.upd (L2.upd H dx (exd dx [(f, y)])) a (exo a C (some dx))) s' → Q () s') : wpAny (model X.prog X.w) A (setAttr (.ref a) f u) Q E s := by
  obtain ⟨cd, hcd, hh⟩ := PySem.W.any_some Tg.hd
  obtain ⟨t1, ho⟩ := exo_at I.hok e
  obtain ⟨hp, g, d, t, os⟩ := s
  refine PySem.W.set_plain I.kIn (ox := { cls := .ref C, dict := none, data := .fields #[.ref t1, .none, .none, .none, .bool false, .none] }) (od := none) ⟨ho, rfl, rfl, trivial⟩ Tg.sa ?_
  refine PySem.OEG.osa_first Tg.sf I.kIn ho Tg.ovr hcd hh (taker_none hno) fun h' tk' dx kp fresh dne hx hn => ?_
  have free : H dx = none := I.hok.fresh fresh
  have off : ∀ {b : Addr} {o : Obj}, hp.get? b = some o → b ≠ dx := fun z => Nat.ne_of_lt (Nat.lt_of_lt_of_le (Heap.lt_size z) fresh)
  have notA : ∀ {b : Addr}, H b = none → b ≠ a := fun n z => by subst z; rw [e] at n; cases n
  have grown : Un X.fs [] H (L2.upd (L2.upd H dx (exd dx [(f, y)])) a (exo a C (some dx))) hp h' :=
    { keep := fun b o z n _ _ => kp b o (notA n) z
      slot := fun b o z n _ _ => ⟨o.slots, kp b o (notA n) z⟩
      free := fun b o z n _ => (upd_ne (notA n)).trans ((upd_ne (off z)).trans n)
      there := fun b o z _ => if hb : b = a then ⟨_, hb ▸ hx⟩ else ⟨o, kp b o hb z⟩
      tups := fun b xs z => (upd_ne (at_ne e z exo_tup)).trans ((upd_ne (ne_of_none z free)).trans z)
      frzs := fun b o v z => (upd_ne (at_ne e z exo_frz)).trans ((upd_ne (ne_of_none z free)).trans z)
      tbls := fun b ps z => ⟨#[], by rw [upd_ne (at_ne e z exo_tbl), upd_ne (ne_of_none z free), z]; simp⟩ }
  refine h dx _ free dne (I.un (t' := tk') grown fun b o z => ?_)
  by_cases hb : b = a
  · cases hb
    cases upd_same.symm.trans z
    exact exo_ok hx
  · rw [upd_ne hb] at z
    by_cases hd : b = dx
    · cases hd
      cases upd_same.symm.trans z
      exact exd_ok hn (relO_put (fs := []) ry fun _ => trivial)
    · rw [upd_ne hd] at z
      refine (I.hok b o z).stay (fun c v hc q => kp c v ?_ q) (fun c hc => (upd_ne (at_ne e hc exo_own)).trans ((upd_ne (ne_of_none hc free)).trans hc)) (fun c xs hc => (upd_ne (at_ne e hc exo_tup)).trans ((upd_ne (ne_of_none hc free)).trans hc))
      rcases hc with hc | hc
      · exact hc ▸ hb
      · exact at_ne e hc exo_own
end
/-- self.f = e, in such a class's __init__ -/
def tOs1 (K : PySem.W.Frag) (B newId initId : String) (bmB : List Value) (f : Str) (to te : TE) : TS := fun D σ H => te σ H fun y H1 => to σ H1 fun x H2 => ∃ a C : Addr, x = .ref a ∧ OexG K C B newId initId bmB ∧ PySem.W.findIn K (.ref C) f = some none ∧ H2 a = some (exo a C none) ∧
  ∀ dx, H2 dx = none → dx ≠ a → D.nx σ (L2.upd (L2.upd H2 dx (exd dx [(f, y)])) a (exo a C (some dx)))
section
variable {X : Cx} {U : WX} {o e : Expr} {es : List Expr} {to te : TE} {ta : TA} {f : Str} {p p' p1 p2 pos : Pos} {B newId initId : String} {bmB : List Value}
theorem ps_os1 (ho : PE X o to) (he : PE X e te) (hs : swapsWith e (some (.Attribute o f p')) pos.line X.env = pure false := by rfl) : PS X (.Assign [.Attribute o f p'] e pos) (tOs1 X.K B newId initId bmB f to te) := by
  constructor
  intro pins s σ H D I h
  refine plainObj_wpAny_Assign_Attribute (thn (he.run pins s σ H _ I h) fun v s1 ⟨y, H1, I1, r1, q1⟩ => thn (ho.run pins s1 σ H1 _ I1 q1) fun w s2 ⟨x, H2, I2, r2, a, C, ex, Tg, hno, ea, q⟩ => ?_) hs
  cases ex
  cases r2
  exact ost_first Tg I2 ea hno r1 fun dx s' n ne J => ⟨σ, _, J, q dx n ne⟩
theorem pmk_one {CX : CXT} {x : Str} {C fI : Addr} {k : Nat} {fd : FuncData} {ps : List Str} {sp : Sp} {ds : List Value} {dvs : List V} (hd : Vals dvs ds) (Tg : OexG X.K C B newId initId bmB) (iC : PySem.W.findIn X.K (.ref C) "__init__" = some (some (.ref fI))) (tI : PySem.W.typeIn X.K (.ref fI) = some (.type "function"))
    (F1 : FnOk X.prog X.w X.K X.mg X.base CX k fI fd ps sp) (hr : Room (k + 1) X.A) (hb : Binds X.K fd ps ds) (hx : Passes CX X (fun _ _ _ => False)) (hg : Gl X x) (hm : X.mg x = some (.ref C)) (ha : PA X (e :: es) ta)
    (hdb : (x == ("__debug__" : Str)) = false := by decide) (he : starEach (e :: es) X.env = (false, eval e X.env) :: starEach es X.env := by rfl) (hpl : (backTo pos (starEach es X.env)).any (·.1) = false := by rfl) :
    PMk X (.Call (.Name x p) (e :: es) [] pos) (tMkO C sp dvs ta) := by
  intro pins s σ H Q I h
  refine wpAny_Call_Name_kw (ld_glob I hg hm (PySem.W.callWith_K (h₀ := X.base) I.ok.mod.kin Tg.kC (thn (ha.run pos pins s σ H _ I h) fun us s1 ⟨vs, H1, I1, r1, hz, q1⟩ => ⟨I1.kIn, ?_⟩) he hpl) hdb)
  show wpAny _ _ (call (.ref C) us) _ _ _
  obtain ⟨hp, g, dr, tk, os⟩ := s1
  obtain ⟨nm, N, qn, bs, bm, hdct, sn, sub, ab, col, dd, k0, k1, k2, k3, k5, hC, hT⟩ := PySem.W.excInit_of I1.kIn Tg.ini
  have big : hp.objs.size ≤ (hp.objs.size + 1) := Nat.le_succ _
  have hq := q1 (hp.objs.size + 1) (I1.hok.fresh big)
  have kept : ∀ b o, hp.get? b = some o → ((hp.push (PySem.W.kdv_tup us)).push (PySem.HandSPX.excO C hp.objs.size)).get? b = some o := fun b o z => Heap.get?_push_of_some _ (Heap.get?_push_of_some _ z)
  have there : ((hp.push (PySem.W.kdv_tup us)).push (PySem.HandSPX.excO C hp.objs.size)).get? (hp.objs.size + 1) = some (PySem.HandSPX.excO C hp.objs.size) := by heap_get
  have I2 : Inv X pins σ (L2.upd H1 (hp.objs.size + 1) (exo (hp.objs.size + 1) C none)) ⟨((hp.push (PySem.W.kdv_tup us)).push (PySem.HandSPX.excO C hp.objs.size)), g, dr, tk, os⟩ := I1.laid (t' := tk) (a := (hp.objs.size + 1)) (o := exo (hp.objs.size + 1) C none) (h' := ((hp.push (PySem.W.kdv_tup us)).push (PySem.HandSPX.excO C hp.objs.size))) kept big (exo_ok there)
  have r2 : Vals (V.ref (hp.objs.size + 1) :: (vs ++ dvs)) (Value.ref (hp.objs.size + 1) :: (us ++ ds)) := .cons rfl (r1.append hd)
  have hl : (Value.ref (hp.objs.size + 1) :: us ++ ds).length = ps.length := r2.length.symm.trans (F1.len _ _ _ _ hq)
  have hus : us.length ≤ sizeLine := by
    have := Paired.length r1
    rw [sizeLine_eq]
    omega
  refine wpAny_call (PySem.HandSPX.call_own Tg.fb hT hC (PySem.W.looks_findIn I1.kIn iC) (fun self => PySem.W.bind_fn I1.kIn self tI) hus (codeAny_mono (F1.run _ X.stack _ _ ⟨Value.ref (hp.objs.size + 1) :: us, []⟩ (Value.ref (hp.objs.size + 1) :: (us ++ ds)) _ _ (fun _ _ _ => False) (hr.make C us []) (I2.env0.make C us []) (hb _ (Value.ref (hp.objs.size + 1) :: us) I2.kIn hl) r2 hq) fun r s' z => ?_))
  rcases r with er | fl
  · exact hx pins σ _ _ er s' I2 z
  · cases fl with
    | ret v =>
      obtain ⟨v, H2, os2, bare2, un2, hok2, rv, ev, d, fs, ea, ed, hd1, q2⟩ := z
      cases ev
      obtain ⟨h2, g2, d2, t2, os'⟩ := s'
      exact ⟨rv, mk_end (raises_own Tg.exC Tg.tyC) I1 big kept un2 hok2 os2 bare2 ea ed hd1 q2⟩
    | next => exact z.elim
    | brk => exact z.elim
    | cont => exact z.elim
end
/-- what such an __init__ does -/
def spOne (K : PySem.W.Frag) (B newId initId : String) (bmB : List Value) (f : Str) : Sp := fun vs H Q _ => ∃ (a C : Addr) (y : V), vs = [.ref a, y] ∧ OexG K C B newId initId bmB ∧ PySem.W.findIn K (.ref C) f = some none ∧ H a = some (exo a C none) ∧
  ∀ dx, H dx = none → dx ≠ a → Q .non (L2.upd (L2.upd H dx (exd dx [(f, y)])) a (exo a C (some dx)))
structure RzG (P : Program) (w : World) (K : PySem.W.Frag) (mg : Str → Option Value) (base : Heap) (B newId initId : String) (bmB : List Value) (x f : Str) : Prop where
  cls : OexG K (He.ga K x) B newId initId bmB
  g : mg x = some (.ref (He.ga K x))
  no1 : PySem.W.findIn K (.ref (He.ga K x)) f = some none
  ini : ∃ (fI : Addr) (fd : FuncData) (ps : List Str), PySem.W.findIn K (.ref (He.ga K x)) "__init__" = some (some (.ref fI)) ∧ PySem.W.typeIn K (.ref fI) = some (.type "function") ∧ FnOk P w K mg base (L2.CX P w) 1 fI fd ps (spOne K B newId initId bmB f) ∧ Binds K fd ps []
theorem RzG.no {P : Program} {w : World} {K : PySem.W.Frag} {mg : Str → Option Value} {base : Heap} {B newId initId : String} {bmB : List Value} {x f : Str} (R : RzG P w K mg base B newId initId bmB x f) : ∀ g ∈ [f], PySem.W.findIn K (.ref (He.ga K x)) g = some none := fun g hg => by
  rw [List.mem_singleton] at hg
  subst hg
  exact R.no1
section
variable {X : Cx} {U : WX} {e : Expr} {es : List Expr} {al : XA} {p p2 pos : Pos} {B newId initId : String} {bmB : List Value}
end
abbrev oeT : List Value := [.type "OverflowError", .type "ArithmeticError", .type "Exception", .type "BaseException", .type "object"]
abbrev leT : List Value := [.type "LookupError", .type "Exception", .type "BaseException", .type "object"]
def oegB (K : PySem.W.Frag) (C : Addr) (newId : String) (bmB : List Value) : Bool := PySem.W.excInitIn K C bmB newId && (PySem.W.excOver K C bmB && (PySem.W.hasDictIn K C && (decide (PySem.W.findIn K (.ref C) "__setattr__" = some (some (.builtin "object.__setattr__"))) &&
  (decide (PySem.W.subIn K (.ref C) (.type "BaseException") = some true) && (decide (PySem.W.typeIn K (.ref C) = some (.type "type")) && PySem.W.keepIn K (.ref C))))))
theorem oegB_ok {K : PySem.W.Frag} {C : Addr} {B newId initId : String} {bmB : List Value} (fb : ExcBaseFacts B newId initId bmB) (sf : StoreFacts B bmB "object.__setattr__" "object") (h : oegB K C newId bmB = true) : OexG K C B newId initId bmB := by
  unfold oegB at h
  simp only [Bool.and_eq_true, decide_eq_true_eq] at h
  obtain ⟨h1, h2, h3, h4, h5, h6, h7⟩ := h
  exact ⟨fb, sf, h1, h2, h3, h4, h5, h6, h7⟩
def rgB (K : PySem.W.Frag) (x f : Str) (newId : String) (bmB : List Value) : Bool := oegB K (He.ga K x) newId bmB && (decide (PySem.W.findIn K (.ref (He.ga K x)) f = some none) && (decide (PySem.W.findIn K (.ref (He.ga K x)) "__init__" = some (some (.ref (iA K x)))) && decide (PySem.W.typeIn K (.ref (iA K x)) = some (.type "function"))))
theorem rg_of {P : Program} {w : World} {K : PySem.W.Frag} {mg : Str → Option Value} {base : Heap} {B newId initId : String} {bmB : List Value} {x f : Str} (fb : ExcBaseFacts B newId initId bmB) (sf : StoreFacts B bmB "object.__setattr__" "object") (h : rgB K x f newId bmB = true) (g : mg x = some (.ref (He.ga K x)))
    {fd : FuncData} {ps : List Str} (F : OexG K (He.ga K x) B newId initId bmB → FnOk P w K mg base (L2.CX P w) 1 (iA K x) fd ps (spOne K B newId initId bmB f)) (Bi : Binds K fd ps []) : RzG P w K mg base B newId initId bmB x f := by
  unfold rgB at h
  simp only [Bool.and_eq_true, decide_eq_true_eq] at h
  obtain ⟨h0, h1, h2, h3⟩ := h
  have c := oegB_ok fb sf h0
  exact ⟨c, g, h1, _, _, _, h2, h3, F c, Bi⟩
theorem one_read {K : PySem.W.Frag} {f : Str} {H : Hp} {B newId initId : String} {bmB : List Value} {vs : List V} {Q : VK} {E : XK} (h : spOne K B newId initId bmB f vs H Q E) : ∃ a y, vs = [.ref a, y] ∧ ∀ σ : L2.St, σ[0]? = some (some (.ref a)) → σ[1]? = some (some y) → ∀ D : Ends, (∀ σ' H', Q .non H' → D.nx σ' H') → tOs1 K B newId initId bmB f (tVar 0) (tVar 1) D σ H := by
  obtain ⟨a, C, y, rfl, Tg, no, ha, q⟩ := h
  exact ⟨a, y, rfl, fun σ e0 e1 D hD => ⟨y, e1, .ref a, e0, a, C, rfl, Tg, no, ha, fun dx hdx hne => hD _ _ (q dx hdx hne)⟩⟩
end VL


set_option maxRecDepth 100000
set_option maxHeartbeats 2000000
namespace VL
open PySem PySem.Spec PyProof.Rows L2
/-! ### list displays by two fors -/
/-! as a tree -/
section
variable {X : Cx} {U : WX} {elt tg iter tg1 iter1 : Expr} {ifs ifs1 : List Expr} {scope : Scope} {own : List (Str × Nat)} {pos spos : Pos} {ti ti1 : XA} {g g1 : XG} {gh gh1 : TG} {xt xt1 : XB} {te : XT} {vs1 : List Nat}
end
end VL


set_option maxRecDepth 100000
set_option maxHeartbeats 2000000
namespace VL
open PySem PySem.Spec PyProof.Rows L2
theorem Sh.str {s : Str} (h : PyData.leavesShort 13 (.str s) = true) (h2 : PyData.weight (.str s) ≤ 40) (h3 : PyData.showable (.str s) = true) : Sh 40 0 (.str s) := ⟨h3, h, h2, by simp [PyData.depth], by simp only [PyData.hasDict]⟩
end VL


set_option maxRecDepth 100000
set_option maxHeartbeats 2000000
namespace VL
open PySem PySem.Spec PyProof.Rows L2
/-! ### in, not in -/
theorem units5 {k : Nat} {A : Around} (r : Room k A) : A.units + 65 < cLine := by have := r.un; omega
section
variable {X : Cx}
end
/-! ### zip -/
section
variable {X : Cx} {U : WX} {a b e e2 : Expr} {pos p p2 pos2 : Pos} {al : XA} {ta tb : XT} {elts : List Expr} {kk : Nat} {tpos : Pos}
/-! ### list(range(..)) -/
end
end VL


set_option maxRecDepth 100000
set_option maxHeartbeats 2000000
namespace VL
open PySem PySem.Spec PyProof.Rows L2
/-! ### t[::-1] -/
section
variable {prog : Program} {w : World} {A : Around} {E : Value → Shared → Prop} {s : Shared}
end
section
variable {X : Cx} {U : WX} {e : Expr} {te : XT}
theorem DRs.reverse {K : PySem.W.Frag} {G : Hp} : ∀ {ds : List Dt} {xs : List V}, DRs K G xs ds → DRs K G xs.reverse ds.reverse
  | [], _, .nil => .nil
  | d :: ds, x :: xs, .cons a r => by
    rw [List.reverse_cons, List.reverse_cons]
    exact (DRs.reverse r).append (.cons a .nil)
/-! ### is, is not of bools -/
def pIsB (a b : Dt) : Option Dt := match a, b with
  | .bool a, .bool b => some (.bool (decide (a = b)))
  | _, _ => none
def pNotB (a b : Dt) : Option Dt := match a, b with
  | .bool a, .bool b => some (.bool (!decide (a = b)))
  | _, _ => none
theorem pIsB_b {a b : Bool} : pIsB (.bool a) (.bool b) = some (.bool (decide (a = b))) := rfl
theorem pNotB_b {a b : Bool} : pNotB (.bool a) (.bool b) = some (.bool (!decide (a = b))) := rfl
end
end VL


set_option maxRecDepth 100000
set_option maxHeartbeats 2000000
namespace VL
open PySem PySem.Spec PyProof.Rows L2
/-! ### x in xs, xs a list of one's own -/
section
variable {X : Cx} {U : WX} {a : Expr} {ta : XT} {pos : Pos}
end
end VL


set_option maxRecDepth 100000
set_option maxHeartbeats 2000000
namespace VL
open PySem PySem.Spec PyProof.Rows L2
/-! ### except (A, B, ..) as e: kept = e -/
theorem Flying.push {B : Heap} {l : List Env} {e : Addr} {Z : Obj → Prop} {h : Heap} {o : Obj} (f : HandSPX.FlyingZ B l e Z h) : HandSPX.FlyingZ B l e Z (h.push o) := by
  obtain ⟨h1, h2, h3, oe, vs, T, oT, ts, a1, a2, a3, a4, a5, a6, a7, a8⟩ := f
  exact ⟨fun b u q => Heap.get?_push_of_some _ (h1 b u q), h2, h3.of_keeps fun b u q _ => ⟨u, Heap.get?_push_of_some _ q, rfl⟩, oe, vs, T, oT, ts, Heap.get?_push_of_some _ a1, a2, a3, a4, a5, a6, Heap.get?_push_of_some _ a7, a8⟩
section
variable {X : Cx} {pins : List (Addr × Obj)} {σ : L2.St} {H : Hp} {s : Shared}
/-- an error's object is known from now on -/
theorem Inv.keepE {a : Addr} {oe : Obj} {vs : Array Value} {cls : Value} {d : Option Addr} (I : Inv X pins σ H s) (he : s.heap.get? a = some oe) (hz : Zc cls d oe) (hd : oe.data = .fields vs) (na : H a = none) (f0 : X.s_0.heap.get? a = none) (nL : a ≠ X.env.locals) (np : ∀ p ∈ X.pn ++ pins, p.1 ≠ a) :
    Inv X pins σ (L2.upd H a (ErrO cls d a)) s := by
  have ne : ∀ {b : Addr} {u : HO}, H b = some u → b ≠ a := fun {b u} e => ne_of_none e na
  refine ⟨I.ok, I.os, I.bare, ⟨I.base.keep, I.base.slot, fun b o e n x => ?_, I.base.there, fun b xs e => ?_, fun b o u e => ?_, fun b ps e => ?_⟩, I.loc, I.cell, ?_, fun x c e => ?_, fun p hp => ?_, fun b u e => ?_, I.len⟩
  · rw [upd_ne fun z => by rw [z, f0] at e; cases e]
    exact I.base.free b o e n x
  · have z := I.base.tups b xs e
    rw [upd_ne (ne z)]
    exact z
  · have z := I.base.frzs b o u e
    rw [upd_ne (ne z)]
    exact z
  · obtain ⟨more, z⟩ := I.base.tbls b ps e
    exact ⟨more, by rw [upd_ne (ne z)]; exact z⟩
  · rw [upd_ne fun z => nL z.symm]
    exact I.free
  · have nc : c ≠ a := fun z => by
      obtain ⟨v, o, ho, hc⟩ := I.cell x c e
      rw [z, he] at ho
      cases ho
      rw [hd] at hc
      cases hc
    rw [upd_ne nc]
    exact I.freeC x c e
  · obtain ⟨h1, h2, h3⟩ := I.pin p hp
    exact ⟨h1, by rw [upd_ne (np p hp)]; exact h2, h3⟩
  · by_cases hb : b = a
    · subst hb
      rw [upd_same] at e
      cases e
      exact ⟨⟨oe, vs, he, hz, hd⟩, ⟨oe, he⟩, fun h1 h2 ⟨o, v, q, r⟩ k => ⟨o, v, k o q, r⟩⟩
    · rw [upd_ne hb] at e
      exact (I.hok b u e).stay (fun d v _ q => q) (fun d q => by
        rw [upd_ne (ne q)]; exact q) fun d xs q => by rw [upd_ne (ne q)]; exact q
end
/-- the classes of a clause -/
inductive NamesL (X : Cx) : List Expr → List Value → Prop
  | nil : NamesL X [] []
  | cons {x : Str} {c : Value} {np : Pos} {r : List Expr} {cs : List Value} (h : Names X x c) (hs : starEach (.Name x np :: r) X.env = (false, eval (.Name x np) X.env) :: starEach r X.env) (t : NamesL X r cs) : NamesL X (.Name x np :: r) (c :: cs)
section
variable {X : Cx} {body : List Stmt} {pos : Pos} {tb : WX → TS} {Wo : WX}
end
end VL


set_option maxRecDepth 100000
set_option maxHeartbeats 2000000
namespace VL
open PySem PySem.Spec PyProof.Rows L2
/-! ### a lambda without parameters, handed to a def that calls it -/
section
variable {X : Cx} {pins : List (Addr × Obj)} {σ : L2.St} {H : Hp} {s : Shared}
end
end VL


set_option maxRecDepth 100000
set_option maxHeartbeats 2000000
namespace VL
open PySem PySem.Spec PyProof.Rows L2
/-! ### errors as data -/
def errD (c : Str) (kvs : List (Dt × Dt)) : Dt := .dict ((.list [.none], .str c) :: kvs)
theorem DFs.get {K : PySem.W.Frag} {G : Hp} {f : Str} {d : Dt} : ∀ {gs : List (Str × V)} {kvs : List (Dt × Dt)}, DFs K G gs kvs → (∃ i : Nat, kvs[i]? = some (PyData.str f, d)) → ∃ v, (f, v) ∈ gs ∧ DR K G v d
  | _, _, .nil, ⟨i, e⟩ => by simp at e
  | _, _, .cons a r, ⟨i, e⟩ => by
    cases i with
    | zero =>
      simp only [List.getElem?_cons_zero, Option.some.injEq, Prod.mk.injEq, PyData.str.injEq] at e
      obtain ⟨rfl, rfl⟩ := e
      exact ⟨_, List.mem_cons_self, a⟩
    | succ i =>
      obtain ⟨v, h1, h2⟩ := DFs.get r ⟨i, by simpa using e⟩
      exact ⟨v, List.mem_cons_of_mem _ h1, h2⟩
structure KfOk (K : PySem.W.Frag) (kf : List (Str × List Str)) : Prop where
  kx : KnX K (kf.map (·.1))
  xc : ∀ c ∈ kf.map (·.1), XCls K c
  ki : ∀ x ∈ kf.map (·.1), ∀ c ∈ kf.map (·.1), PySem.W.kitOne K (.ref (He.ga K x)) (.ref (He.ga K c)) = some (decide (x = c))
  at_ : ∀ c ∈ kf.map (·.1), XfC K (He.ga K c)
  nf : ∀ p ∈ kf, ∀ f ∈ p.2, PySem.W.findIn K (.ref (He.ga K p.1)) f = some none
theorem lookup_mem1 {α : Type} {k : Str} {v : α} : ∀ {l : List (Str × α)}, l.lookup k = some v → (k, v) ∈ l
  | [], h => by cases h
  | (a, b) :: r, h => by
    rw [List.lookup_cons] at h
    split at h
    · next e => cases h; rw [beq_iff_eq.mp e]; exact List.mem_cons_self
    · exact List.mem_cons_of_mem _ (lookup_mem1 h)
/-! ### try: .. except (A, B, ..) as e: kept = e -/
section
variable {X : Cx} {U : WX} {body : List Stmt} {pos : Pos} {tb : XS}
end
/-! ### isinstance(e, C), C an own class of errors; e.f -/
def isEK (kn : List Str) (c : Str) (d : Dt) : T Dt := match d with
  | .dict ((.list [.none], .str x) :: _) => if x ∈ kn then .ret (.bool (decide (x = c))) else .fail
  | _ => .fail
def xIsE (kn : List Str) (c : Str) (te : XT) (ρ : Nv) : T Dt := bd (te ρ) (isEK kn c)
theorem errD_inv {K : PySem.W.Frag} {G : Hp} {v : V} {x : Str} {kvs : List (Dt × Dt)} (r : DR K G v (.dict ((.list [.none], .str x) :: kvs))) : ∃ a dd fs gs, v = .ref a ∧ XCls K x ∧ G a = some (ErrO (.ref (He.ga K x)) (some dd) a) ∧ G dd = some (.xd fs) ∧ (∀ p ∈ gs, fs.lookup p.1 = some p.2) ∧ DFs K G gs kvs := by
  cases r with
  | err k a b l r => exact ⟨_, _, _, _, rfl, k, a, b, l, r⟩
section
variable {X : Cx} {U : WX} {e : Expr} {te : XT} {pos : Pos}
def rIsC (C : Addr) (K : PySem.W.Frag) : List V → Hp → VK → Prop := fun xs H Q => ∃ (a dd : Addr) (x : Str) (fs : List (Str × V)) (b : Bool), xs = [.ref a, .ref C] ∧ XCls K x ∧ H a = some (ErrO (.ref (He.ga K x)) (some dd) a) ∧ H dd = some (.xd fs) ∧ PySem.W.kitOne K (.ref (He.ga K x)) (.ref C) = some b ∧ Q (.bl b) H
theorem call_isC {C : Addr} : CallR X (.builtin "isinstance") (rIsC C X.K) := by
  intro pins s σ H xs us Q I r h
  obtain ⟨a, dd, x, fs, b, rfl, k, ea, eb, e, q⟩ := h
  obtain ⟨u1, u2, rfl, r1, r2⟩ := vals2 r
  cases (show u2 = Value.ref C from r2)
  cases (show u1 = Value.ref a from r1)
  obtain ⟨od, oe, J⟩ := DR.errAt k ea eb I
  exact PySem.W.kia_one (PySem.W.kitx_exc (by obtain ⟨cd, hc, _⟩ := PySem.W.any_some k.hd; rw [hc]; rfl) k.hg k.hk k.hs k.ha k.hn k.ht k.hm) I.kIn J e (fun z => by cases z) fun tk => ⟨.bl _, H, I.tok tk, rfl, q⟩
theorem xe_isC {kf : List (Str × List Str)} {y : Str} {p2 p3 : Pos} (ok : KfOk X.K kf) (hy : y ∈ kf.map (·.1)) (hg : Gl X "isinstance") (hm : X.mg "isinstance" = none) (hg2 : Gl X y) (hm2 : X.mg y = some (.ref (He.ga X.K y))) (ha : VE X U e (S te))
    (hv : bootBuiltins "isinstance" = some (.builtin "isinstance") := by decide +kernel) (hdb : (y == ("__debug__" : Str)) = false := by decide)
    (he : starEach [e, .Name y p2] X.env = (false, eval e X.env) :: starEach [.Name y p2] X.env := by rfl) (he2 : starEach [.Name y p2] X.env = (false, eval (.Name y p2) X.env) :: starEach [] X.env := by rfl) (hpl : (backTo pos (starEach [.Name y p2] X.env)).any (·.1) = false := by rfl) :
    VE X U (.Call (.Name "isinstance" p3) [e, .Name y p2] [] pos) (S (xIsE (kf.map (·.1)) y te)) :=
  pe_imp (pe_callB (call_isC (C := He.ga X.K y)) hg hm hv (pa_cons ha (pa_cons (pe_glob (v := .ref (He.ga X.K y)) hg2 hm2 rfl hdb) pa_nil he2) he) (by decide) (by decide) he hpl) fun σ H Q ⟨C, ρ, n, G, O, Q0, E0, I, h, hq, hE⟩ => ⟨C, ρ, n, G, O, _, E0, I, sat2 h fun _ _ z => z, fun d n' q v G' O' H' I' s' r => by
    replace q : sat (isEK (kf.map (·.1)) y d) n' Q0 E0 := q
    unfold isEK at q
    split at q
    · next x kvs =>
      split at q
      · next hx =>
        obtain ⟨a, dd, fs, gs, rfl, k, ea, eb, _, _⟩ := errD_inv r
        exact ⟨a, dd, x, fs, _, rfl, k, I'.gH _ _ ea, I'.gH _ _ eb, ok.ki x hx y hy, hq _ n' q _ G' O' H' I' s' (.bl _)⟩
      · exact q.elim
    · exact q.elim, hE⟩
/-- e.f, e an error as a datum -/
def xaK (kf : List (Str × List Str)) (c f : Str) (d : Dt) : T Dt := match d with
  | .dict ((.list [.none], .str x) :: kvs) => if x = c then ofO ((kvs.find? fun p => match p.1 with | .str g => decide (g = f) | _ => false).map (·.2)) else .fail
  | _ => .fail
def xXa (kf : List (Str × List Str)) (c f : Str) (te : XT) (ρ : Nv) : T Dt := bd (te ρ) (xaK kf c f)
def tXa (K : PySem.W.Frag) (C : Addr) (f : Str) (te : TE) : TE := fun σ H Q => te σ H fun x H1 => ∃ (a dd : Addr) (fs : List (Str × V)) (v : V), x = .ref a ∧ H1 a = some (ErrO (.ref C) (some dd) a) ∧ H1 dd = some (.xd fs) ∧ fs.lookup f = some v ∧ Q v H1
theorem pe_xa {C : Addr} {te : TE} {n : Str} (T : XfC X.K C) (hno : PySem.W.findIn X.K (.ref C) n = some none) (he : PE X e te) (hb : attributeBase e n X.env (eval e X.env) = eval e X.env := by rfl) : PE X (.Attribute e n pos) (tXa X.K C n te) := by
  refine ⟨fun pins s σ H Q I h => ?_⟩
  refine attr_of hb (thn (he.run pins s σ H _ I h) fun u s1 hh => ?_)
  obtain ⟨x, H1, I1, rx, a, dd, fs, v, rfl, ea, eb, l, q⟩ := hh
  obtain rfl : u = Value.ref a := rx
  obtain ⟨⟨oe, vs, h1, hz, hd⟩, _⟩ := I1.hok a _ ea
  obtain ⟨mA, hns, hr⟩ := (show ObjOk X.prog X.w H1 s1.heap dd (.xd fs) from I1.hok dd _ eb)
  obtain ⟨od, ho, hl⟩ := lookIn_ns hns
  obtain ⟨u, hu, ru⟩ := RelO.some_of (v := v) (o := mA n) (by rw [← l]; exact hr n)
  have J : PySem.W.InstAt s1.heap a oe C (some od) := ⟨h1, hz.1, by unfold PySem.W.notCls; rw [hd] <;> rfl, by rw [hz.2]; exact ho⟩
  exact HandSPX.exc_get I1.kIn J T.ga T.gg T.exC (PySem.W.findObj_own T.hdC hno rfl (by rw [hl, hu])) (handed_of ru) ⟨v, H1, I1.tok _, ru, q⟩
theorem xe_xa {kf : List (Str × List Str)} {c f : Str} {fl : List Str} (ok : KfOk X.K kf) (hc : (c, fl) ∈ kf) (hf : f ∈ fl) (he : VE X U e (S te)) (hb : attributeBase e f X.env (eval e X.env) = eval e X.env := by rfl) : VE X U (.Attribute e f pos) (S (xXa kf c f te)) :=
  pe_imp (pe_xa (C := He.ga X.K c) (ok.at_ c (List.mem_map.mpr ⟨_, hc, rfl⟩)) (ok.nf _ hc f hf) he hb) fun σ H Q ⟨C, ρ, n, G, O, Q0, E0, I, h, hq, hE⟩ => ⟨C, ρ, n, G, O, _, E0, I, sat2 h fun _ _ z => z, fun d n' q v G' O' H' I' s' r => by
    replace q : sat (xaK kf c f d) n' Q0 E0 := q
    unfold xaK at q
    split at q
    · next x kvs =>
      split at q
      · next hx =>
        subst hx
        obtain ⟨a, dd, fs, gs, rfl, k, ea, eb, hl, hr⟩ := errD_inv r
        obtain ⟨dv, e1, q⟩ := satO q
        simp only [Option.map_eq_some_iff] at e1
        obtain ⟨⟨kd, vd⟩, e1, rfl⟩ := e1
        have e3 := List.find?_some e1
        obtain ⟨i, hi⟩ := List.mem_iff_getElem?.mp (List.mem_of_find?_eq_some e1)
        have : kd = .str f := by
          dsimp only at e3
          split at e3
          · rw [of_decide_eq_true e3]
          · cases e3
        subst this
        obtain ⟨vv, m1, m2⟩ := hr.get ⟨i, hi⟩
        exact ⟨a, dd, fs, vv, rfl, I'.gH _ _ ea, I'.gH _ _ eb, hl _ m1, hq _ n' q _ G' O' H' I' s' m2⟩
      · exact q.elim
    · exact q.elim, hE⟩
end
end VL


set_option maxRecDepth 100000
set_option maxHeartbeats 2000000
namespace VL
open PySem PySem.Spec PyProof.Rows L2
/-! ### x(lambda: e): x calls it -/
def capW : W → Bool
  | .dat _ => true
  | .tok => true
  | .scr _ => true
  | .err _ _ => true
  | _ => false
/-- what a lambda sees -/
def capR : Nv → Nv
  | [] => []
  | none :: r => none :: capR r
  | some w :: r => (if capW w = true then some w else none) :: capR r
section
variable {K : PySem.W.Frag} {C C' : Ct} {σ : L2.St} {ρ : Nv} {n : Nat} {G O H G' O' H' : Hp}
/-- a table has grown -/
theorem In.table {P : Addr} {ps : Array Value} (I : In K C σ ρ n G O H) (hP : H P = some (.tbl ps)) (oP : O P = none) (old : ∀ b o, b ≠ P → H b = some o → H' b = some o) (dom : ∀ b, H' b = none → H b = none) (T : LamX.Tabs C.T H') : In K C σ ρ n G O H' := by
  have ne : ∀ {b : Addr} {u : HO}, H b = some u → (∀ qs, u ≠ .tbl qs) → H' b = some u := fun {b u} e h => old b u (fun z => by rw [z, hP] at e; exact h _ (Option.some.inj e).symm) e
  have so : Same O H' := fun b u e => old b u (fun z => by rw [z, oP] at e; cases e) (I.oH _ _ e)
  have good : Good C.mo n O H' := by
    have g := I.good
    cases hm : C.mo with
    | none => exact so
    | some m =>
      rw [hm] at g
      obtain ⟨_, om, lc, ll, cs, ls, z, h1, h2, h3, h4, h5, h6, r⟩ := g
      exact ⟨so, om, lc, ll, cs, ls, z, h1, h2, h3, ne h4 fun _ q => (by cases q), ne h5 fun _ q => (by cases q), ne h6 fun _ q => (by cases q), r⟩
  exact ⟨⟨good, I.go, I.g0, I.o0, I.oh, I.nO, I.nG, fun a e => I.h0 a (dom a e), ⟨T, I.tb.out, fun p hp => ne (I.tb.lam p hp) fun qs z => by unfold LamX.CodeO at z; cases z⟩⟩, I.ht, I.len, I.sep⟩
end
open Classical in
/-- the lambda's name, called -/
noncomputable def actX (i : Nat) (f c : Addr) (q : Str) (mo : Option Addr) (G : Hp) (t : T Dt) : XT := fun ρ => if ρ[i]? = some (some (.lam f c q mo G)) then t else .fail
/-- a def that calls what it gets; tg: what it makes of the call -/
structure LamFn (P : Program) (w : World) (K : PySem.W.Frag) (mg : Str → Option Value) (base : Heap) (k m : Nat) (x a : Str) (tg : XT → XS) : Prop where
  ex : ∃ (fd : FuncData) (pg : Arguments) (bg : List Stmt) (sg : Scope) (Ng : List Str), FunD K x x pg bg sg [] [] (He.ga K x) fd ∧ FnScope Ng [a] sg ∧ Ng.length = m ∧ Binds K fd [a] [] ∧ PySem.W.keepIn K (.ref (He.ga K x)) = true ∧ mg x = some (.ref (He.ga K x)) ∧ Vis sg a ∧ Ng[0]? = some a ∧
    ∀ (cdv : Value) (A : Around) (outer : List PySem.Env) (s : Shared) (H : Hp) (E : XK) (f c : Addr) (q : Str) (mo : Option Addr) (G : Hp) (t : T Dt), A.guards = some [] → Room k (A.deeper (envOfC x sg s.heap.objs.size (He.ga K x) cdv)) →
      (∀ (W : WX) (pn : List (Addr × Obj)) (xe : Value → Shared → Prop) (p1 p2 : Pos), Takes ((cxOf (L2.CX P w) P w K mg base Ng x sg (He.ga K x) cdv A outer s H E).tr pn xe) W →
        VE ((cxOf (L2.CX P w) P w K mg base Ng x sg (He.ga K x) cdv A outer s H E).tr pn xe) W (.Call (.Name a p1) [] [] p2) (S (actX 0 f c q mo G t))) →
      VSs (cxOf (L2.CX P w) P w K mg base Ng x sg (He.ga K x) cdv A outer s H E) (fun cls d _ H' => E cls d H') bg (SS (tg (actX 0 f c q mo G t)))
section
variable {X : Cx} {U : WX}
end
end VL


set_option maxRecDepth 100000
set_option maxHeartbeats 2000000
namespace VL
open PySem PySem.Spec PyProof.Rows L2
/-! ### what the head tells of errors and of tables -/
def xclsB (K : PySem.W.Frag) (c : Str) : Bool := decide (PySem.W.findIn K (.ref (He.ga K c)) "__getattribute__" = some (some (.builtin "BaseException.__getattribute__"))) && decide (PySem.W.findIn K (.ref (He.ga K c)) "__getattr__" = some none) && decide (PySem.W.subIn K (.ref (He.ga K c)) (.type "BaseException") = some true) && PySem.W.hasDictIn K (He.ga K c)
  && decide (PySem.W.findIn K (.ref (He.ga K c)) "__class__" = some (some (.builtin "object.__class__"))) && decide (PySem.W.specialIn K (.builtin "object.__class__") "__get__" = some (some (.builtin "getset_descriptor.__get__"))) && decide (PySem.W.takesIn K (.builtin "object.__class__") = some true) && decide (PySem.W.mroIn K (He.ga K c) (.type "object") = some true)
  && ["bool", "int", "str", "list", "tuple"].all fun T => decide (PySem.W.kitOne K (.ref (He.ga K c)) (.type T) = some false)
theorem xclsB_ok {K : PySem.W.Frag} {c : Str} (h : xclsB K c = true) : XCls K c := by
  unfold xclsB at h
  simp only [Bool.and_eq_true, decide_eq_true_eq, List.all_eq_true] at h
  obtain ⟨⟨⟨⟨⟨⟨⟨⟨h1, h2⟩, h3⟩, h4⟩, h5⟩, h6⟩, h7⟩, h8⟩, h9⟩ := h
  exact ⟨h1, h2, h3, h4, h5, h6, h7, h8, h9⟩
def kfB (K : PySem.W.Frag) (kf : List (Str × List Str)) : Bool := knB K (kf.map (·.1)) && (kf.map (·.1)).all (xclsB K) && ((kf.map (·.1)).all fun x => (kf.map (·.1)).all fun c => decide (PySem.W.kitOne K (.ref (He.ga K x)) (.ref (He.ga K c)) = some (decide (x = c))))
  && ((kf.map (·.1)).all fun c => xfB K (He.ga K c)) && kf.all fun p => p.2.all fun f => decide (PySem.W.findIn K (.ref (He.ga K p.1)) f = some none)
theorem kfB_ok {K : PySem.W.Frag} {kf : List (Str × List Str)} (h : kfB K kf = true) : KfOk K kf := by
  unfold kfB at h
  simp only [Bool.and_eq_true] at h
  obtain ⟨⟨⟨⟨h1, h2⟩, h3⟩, h4⟩, h5⟩ := h
  simp only [List.all_eq_true, decide_eq_true_eq] at h2 h3 h4 h5
  exact ⟨knB_ok h1, fun c hc => xclsB_ok (h2 c hc), h3, fun c hc => xfB_ok (h4 c hc), h5⟩
/-- the tables are those of tf, and stand apart -/
def ttB (tf : List He.Defn) (K : PySem.W.Frag) : Bool := decide (tabT K = lamT K tf) && decide ((tabT K).map (·.1)).Nodup
/-- a def whose lambdas are told -/
structure TabF (K : PySem.W.Frag) (x : Str) : Prop where
  mem : ((He.cT K (x, none)).2, lamNm (x, none)) ∈ tabT K
  only : ∀ p ∈ tabT K, p.1 = (He.cT K (x, none)).2 → p.2 = lamNm (x, none)
theorem ttB_eq {K : PySem.W.Frag} {tf : List He.Defn} (h : ttB tf K = true) : tabT K = lamT K tf := by
  unfold ttB at h
  simp only [Bool.and_eq_true, decide_eq_true_eq] at h
  exact h.1
end VL


set_option maxRecDepth 100000
set_option maxHeartbeats 2000000
namespace VL
open PySem PySem.Spec PyProof.Rows L2
/-! ### bits, sums, the least of a list, places -/
section
variable {X : Cx}
/-- sum of a tuple or a list of ints -/
def pSumA (ds : List Dt) : Option Dt := match ds with
  | [.list xs] => (intsD xs).map fun ns => .int ns.sum
  | [.tuple xs] => (intsD xs).map fun ns => .int ns.sum
  | _ => none
end
section
variable {X : Cx} {U : WX} {e : Expr} {ta tb : XT}
end
/-! ### range with a step -/
section
variable {X : Cx} {U : WX} {a b c tg : Expr} {al : XA} {p pos : Pos}
end
/-! ### a global name of a tuple of ints -/
section
variable {X : Cx} {U : WX} {pos : Pos}
end
/-! ### things of one's own as what an expression gives -/
abbrev XW' := Nv → T W
section
variable {X : Cx} {U : WX} {e a b c : Expr} {te : XT} {tl : XA} {t ta tb tc : XW'} {pos : Pos}
end
/-! two things of one's own at a time: the first one is out of sight while the second one is made -/
section
variable {K : PySem.W.Frag} {C : Ct} {σ : L2.St} {ρ : Nv} {n n' : Nat} {G O H G' O' H' : Hp} {F : Nat → List Addr} {fp : List Addr} {w : W} {v : V}
end
section
variable {X : Cx} {U : WX} {a b : Expr} {ta tb : XW'} {pos : Pos}
end
end VL


set_option maxRecDepth 100000
set_option maxHeartbeats 2000000
namespace VL
open PySem PySem.Spec PyProof.Rows L2
/-! ### small facts for the plain side -/
theorem pSumT {ns : List Int} : pSumA [.tuple (ns.map .int)] = some (.int ns.sum) := by simp only [pSumA, intsD_map, Option.map_some]
theorem pSumL {ns : List Int} : pSumA [.list (ns.map .int)] = some (.int ns.sum) := by simp only [pSumA, intsD_map, Option.map_some]
theorem isEK_at {kn : List Str} {c x : Str} {kvs : List (Dt × Dt)} (h : x ∈ kn) : isEK kn c (errD x kvs) = .ret (.bool (decide (x = c))) := if_pos h
theorem xaK_1 {kf : List (Str × List Str)} {c f : Str} {d : Dt} {r : List (Dt × Dt)} : xaK kf c f (errD c ((.str f, d) :: r)) = .ret d := by
  simp [xaK, errD]
  rfl
theorem xaK_2 {kf : List (Str × List Str)} {c f g : Str} {d d' : Dt} {r : List (Dt × Dt)} (h : g ≠ f) : xaK kf c f (errD c ((.str g, d') :: (.str f, d) :: r)) = .ret d := by
  simp [xaK, errD, h]
  rfl
theorem ygT3c {r : XGs} {a b c : Dt} {ρ : Nv} : ygT 3 r (.tuple [a, b, c]) ρ = r [a, b, c] ρ := rfl
theorem sq_at {t u : XS} {ρ ρ' : Nv} (e : t ρ = .ret (.nx ρ')) : xSeq t u ρ = u ρ' := by unfold xSeq; rw [e]; rfl
theorem body_rt {m a : Nat} {t : XS} {ws : List W} {w : W} (hl : ws.length = a) (h : t (startE m ws) = .ret (.rt w)) : bodyX m a t ws = .ret w := by
  unfold bodyX
  rw [if_pos hl, h]
  rfl
end VL


set_option maxRecDepth 100000
set_option maxHeartbeats 2000000
namespace VL
open PySem PySem.Spec PyProof.Rows L2
/-! ### zip of a tuple with a list -/
section
variable {X : Cx} {U : WX} {e e2 : Expr} {pos p : Pos} {al : XA} {elts : List Expr} {kk : Nat} {tpos : Pos}
end
end VL


set_option maxRecDepth 100000
set_option maxHeartbeats 2000000
namespace VL
open PySem PySem.Spec PyProof.Rows L2
/-! ### dicts: the facts below the rules -/
section
variable {X : Cx} {pins : List (Addr × Obj)} {σ : L2.St} {H G : Hp} {s : Shared}
mutual
theorem key_is (I : Inv X pins σ H s) (sg : Same G H) : ∀ {d : Dt} {v : V} {u : Value} {k : NestedKey}, DR X.K G v d → keyOf d = some k → RelV v u → NestedIs s.heap k u
  | .none, v, u, k, r, e, rv => by
    cases r
    simp only [keyOf, Option.some.injEq] at e
    subst e
    cases rv
    exact .none
  | .bool b, v, u, k, r, e, rv => by
    cases r
    simp only [keyOf, Option.some.injEq] at e
    subst e
    cases rv
    exact .bool rfl
  | .int i, v, u, k, r, e, rv => by
    cases r
    simp only [keyOf, Option.some.injEq] at e
    subst e
    obtain ⟨t, rfl⟩ := rv
    exact .int i t
  | .tuple ds, v, u, k, r, e, rv => by
    cases r with
    | tup a q =>
      simp only [keyOf, Option.map_eq_some_iff] at e
      obtain ⟨ks, e1, rfl⟩ := e
      cases rv
      obtain ⟨its, rv, ⟨o, ho, hc, n, hd⟩, _⟩ := I.tuple (sameT sg a)
      exact .tup ho hc hd (by simpa using keys_are I sg q e1 rv)
  | .str _, _, _, _, _, e, _ => by simp [keyOf] at e
  | .list _, _, _, _, _, e, _ => by simp [keyOf] at e
  | .dict _, _, _, _, _, e, _ => by simp [keyOf] at e
theorem keys_are (I : Inv X pins σ H s) (sg : Same G H) : ∀ {ds : List Dt} {vs : List V} {us : List Value} {ks : List NestedKey}, DRs X.K G vs ds → keysOf ds = some ks → Vals vs us → NestedAll s.heap ks us
  | [], vs, us, ks, r, e, rv => by
    cases r
    simp only [keysOf, Option.some.injEq] at e
    subst e
    cases rv
    exact .nil
  | d :: ds, vs, us, ks, r, e, rv => by
    cases r with
    | cons r1 r2 =>
      simp only [keysOf, Option.bind_eq_some_iff, Option.map_eq_some_iff] at e
      obtain ⟨k, e1, ks', e2, rfl⟩ := e
      cases rv with
      | cons q1 q2 => exact .cons (key_is I sg r1 e1 q1) (keys_are I sg r2 e2 q2)
end
/-- entries: the abstract ones and the heap's -/
abbrev Ents (es : List (NestedKey × Addr × V)) (xs : List (NestedKey × Addr × Value)) : Prop := Paired (fun p q => p.1 = q.1 ∧ p.2.1 = q.2.1 ∧ RelV p.2.2 q.2.2) es xs
theorem Ents.mem {es : List (NestedKey × Addr × V)} {xs : List (NestedKey × Addr × Value)} (r : Ents es xs) : ∀ x ∈ xs, ∃ e ∈ es, e.1 = x.1 ∧ e.2.1 = x.2.1 ∧ RelV e.2.2 x.2.2 := by
  induction r with
  | nil => intro x hx; cases hx
  | cons h t ih =>
    intro x hx
    rcases List.mem_cons.mp hx with rfl | hx
    · exact ⟨_, List.mem_cons_self, h⟩
    · obtain ⟨e, he, q⟩ := ih x hx
      exact ⟨e, List.mem_cons_of_mem _ he, q⟩
/-- the keys stand -/
def KeysIn (K : PySem.W.Frag) (G : Hp) (es : List (NestedKey × Addr × V)) : Prop := ∀ e ∈ es, ∃ kd, DR K G (.ref e.2.1) kd ∧ keyOf kd = some e.1
/-- the entry of a key -/
def atE (es : List (NestedKey × Addr × V)) (k : NestedKey) : Option (Addr × V) := (es.find? fun x => decide (x.1 = k)).map (·.2)
def putE (es : List (NestedKey × Addr × V)) (k : NestedKey) (b : Addr) (v : V) : List (NestedKey × Addr × V) := if (atE es k).isSome then es.map (fun x => if x.1 = k then (x.1, x.2.1, v) else x) else es ++ [(k, b, v)]
theorem Ents.at {es : List (NestedKey × Addr × V)} {xs : List (NestedKey × Addr × Value)} (r : Ents es xs) (k : NestedKey) : (atE es k = none ∧ atKey xs k = none) ∨ ∃ b v u, atE es k = some (b, v) ∧ atKey xs k = some (b, u) ∧ RelV v u := by
  induction r with
  | nil => exact .inl ⟨rfl, rfl⟩
  | @cons p q ps qs h t ih =>
    obtain ⟨h1, h2, h3⟩ := h
    unfold atE atKey
    rw [List.find?_cons, List.find?_cons, ← h1]
    by_cases hk : p.1 = k
    · simp only [hk, decide_true, Option.map_some]
      exact .inr ⟨p.2.1, p.2.2, q.2.2, rfl, by rw [h2], h3⟩
    · simp only [hk, decide_false]
      exact ih
theorem Ents.len {es : List (NestedKey × Addr × V)} {xs : List (NestedKey × Addr × Value)} (r : Ents es xs) : es.length = xs.length := by
  induction r with
  | nil => rfl
  | cons h t ih => simp [ih]
theorem Ents.put {es : List (NestedKey × Addr × V)} {xs : List (NestedKey × Addr × Value)} (r : Ents es xs) (k : NestedKey) (b : Addr) {v : V} {u : Value} (rv : RelV v u) : Ents (putE es k b v) (storedH xs k b u) := by
  have hmap : Ents (es.map fun x => if x.1 = k then (x.1, x.2.1, v) else x) (xs.map (putAt k u)) := by
    induction r with
    | nil => exact .nil
    | @cons p q ps qs h t ih =>
      refine .cons ?_ ih
      obtain ⟨h1, h2, h3⟩ := h
      show (if p.1 = k then (p.1, p.2.1, v) else p).1 = (if q.1 = k then (q.1, q.2.1, u) else q).1 ∧ (if p.1 = k then (p.1, p.2.1, v) else p).2.1 = (if q.1 = k then (q.1, q.2.1, u) else q).2.1 ∧ RelV (if p.1 = k then (p.1, p.2.1, v) else p).2.2 (if q.1 = k then (q.1, q.2.1, u) else q).2.2
      rw [← h1]
      by_cases hk : p.1 = k
      · rw [if_pos hk, if_pos hk]; exact ⟨rfl, h2, rv⟩
      · rw [if_neg hk, if_neg hk]; exact ⟨h1, h2, h3⟩
  have happ : Ents (es ++ [(k, b, v)]) (xs ++ [(k, b, u)]) := by
    clear hmap
    induction r with
    | nil => exact .cons ⟨rfl, rfl, rv⟩ .nil
    | cons h t ih => exact .cons h ih
  unfold putE storedH
  rcases r.at k with ⟨e1, e2⟩ | ⟨_, _, _, e1, e2, _⟩
  · rw [e1, e2]; exact happ
  · rw [e1, e2]; exact hmap
end
/-! ### a dict, one's own or a datum -/
def dictW : W → Option (List (Dt × Cl))
  | .dct kvs => some kvs
  | .dat (.dict ((.none, .none) :: kvs)) => some (kvs.map fun p => (p.1, .d p.2))
  | _ => none
inductive EK (K : PySem.W.Frag) (G : Hp) : List (NestedKey × Addr × V) → List (Dt × Cl) → Prop
  | nil : EK K G [] []
  | cons {k : NestedKey} {b : Addr} {v : V} {kd : Dt} {c : Cl} {es : List (NestedKey × Addr × V)} {kvs : List (Dt × Cl)} : DR K G (.ref b) kd → keyOf kd = some k → (∀ x, c = .d x → DR K G v x) → EK K G es kvs → EK K G ((k, b, v) :: es) ((kd, c) :: kvs)
section
variable {K : PySem.W.Frag} {C : Ct} {G O H : Hp}
theorem EK.of_own {es : List (NestedKey × Addr × V)} {kvs : List (Dt × Cl)} {fp : List Addr} (r : DCs K C G O es kvs fp) : EK K G es kvs := by
  induction r with
  | nil => exact .nil
  | cons a b c _ _ ih => exact .cons a b (fun x e => by subst e; exact c.1) ih
theorem EK.keys {es : List (NestedKey × Addr × V)} {kvs : List (Dt × Cl)} (r : EK K G es kvs) : KeysIn K G es := by
  induction r with
  | nil => intro e he; cases he
  | cons a b c _ ih =>
    intro e he
    rcases List.mem_cons.mp he with rfl | he
    · exact ⟨_, a, b⟩
    · exact ih e he
/-- what stands at a key -/
def lkC (kvs : List (Dt × Cl)) (k : NestedKey) : Option Cl := (kvs.find? fun p => decide (keyOf p.1 = some k)).map (·.2)
theorem EK.at {es : List (NestedKey × Addr × V)} {kvs : List (Dt × Cl)} (r : EK K G es kvs) (k : NestedKey) : (lkC kvs k = none ∧ atE es k = none) ∨ ∃ c b v, lkC kvs k = some c ∧ atE es k = some (b, v) ∧ ∀ x, c = .d x → DR K G v x := by
  induction r with
  | nil => exact .inl ⟨rfl, rfl⟩
  | @cons k' b v kd c es kvs a h1 h2 _ ih =>
    unfold lkC atE
    rw [List.find?_cons, List.find?_cons, h1]
    by_cases hk : k' = k
    · simp only [hk, decide_true, Option.map_some]
      exact .inr ⟨c, b, v, rfl, rfl, h2⟩
    · have : ¬ (some k' = some k) := fun e => hk (Option.some.inj e)
      simp only [hk, this, decide_false]
      exact ih
theorem EK.len {es : List (NestedKey × Addr × V)} {kvs : List (Dt × Cl)} (r : EK K G es kvs) : es.length = kvs.length := by
  induction r with
  | nil => rfl
  | cons _ _ _ _ ih => simp [ih]
end
/-- a key that may stand in a dict -/
def kOk (d : Dt) : Option NestedKey := match d with
  | .tuple ds => (keyOf (.tuple ds)).bind fun k => if k.depth ≤ 8 then some k else none
  | _ => none
theorem kOk_ok {d : Dt} {k : NestedKey} (h : kOk d = some k) : (∃ ds, d = .tuple ds) ∧ keyOf d = some k ∧ k.depth ≤ 8 := by
  unfold kOk at h
  split at h
  · next ds =>
    simp only [Option.bind_eq_some_iff] at h
    obtain ⟨k', h1, h2⟩ := h
    split at h2
    · next hd => cases h2; exact ⟨⟨ds, rfl⟩, h1, hd⟩
    · cases h2
  · cases h
end VL


set_option maxRecDepth 100000
set_option maxHeartbeats 2000000
namespace VL
open PySem PySem.Spec PyProof.Rows L2
/-! ### k in d, d[k], d[k] = v -/
/-- a dict at a, a key's tuple at b -/
structure DkAt (K : PySem.W.Frag) (H : Hp) (a b : Addr) (es : List (NestedKey × Addr × V)) (k : NestedKey) : Prop where
  at_ : ∃ o, H a = some (DictO a es o)
  dr : ∃ G, Same G H ∧ KeysIn K G es ∧ ∃ kd, DR K G (.ref b) kd ∧ keyOf kd = some k ∧ k.depth ≤ 8
section
variable {X : Cx}
end
end VL


set_option maxRecDepth 100000
set_option maxHeartbeats 2000000
namespace VL
open PySem PySem.Spec PyProof.Rows L2
/-! ### k in d, d[k]: d a name -/
section
variable {X : Cx} {U : WX} {a b : Expr} {ta tb : XT} {pos : Pos}
end
/-! ### d[k] = v: d one's own -/
def putC (kvs : List (Dt × Cl)) (q : NestedKey) (kd x : Dt) : List (Dt × Cl) := if (lkC kvs q).isSome then kvs.map (fun p => if keyOf p.1 = some q then (p.1, .d x) else p) else kvs ++ [(kd, .d x)]
/-- all that stands in it are data -/
def allD (kvs : List (Dt × Cl)) : Bool := kvs.all fun p => match p.2 with | .d _ => true | .l _ => false
section
variable {K : PySem.W.Frag} {C : Ct} {G O : Hp}
theorem DCs.put {es : List (NestedKey × Addr × V)} {kvs : List (Dt × Cl)} (r : DCs K C G O es kvs []) {q : NestedKey} {b : Addr} {v : V} {kd x : Dt} (rk : DR K G (.ref b) kd) (hk : keyOf kd = some q) (rv : DR K G v x) : DCs K C G O (putE es q b v) (putC kvs q kd x) [] := by
  have ek : EK K G es kvs := .of_own r
  have hmap : ∀ {es : List (NestedKey × Addr × V)} {kvs : List (Dt × Cl)} {fp : List Addr}, DCs K C G O es kvs fp → fp = [] → DCs K C G O (es.map fun x => if x.1 = q then (x.1, x.2.1, v) else x) (kvs.map fun p => if keyOf p.1 = some q then (p.1, .d x) else p) [] := by
    intro es kvs fp r
    induction r with
    | nil => intro _; exact .nil
    | @cons k b' v' kd' c fp fps es kvs a h1 h2 h3 r ih =>
      intro e
      obtain ⟨rfl, rfl⟩ := List.append_eq_nil_iff.mp e
      rw [List.map_cons, List.map_cons]
      by_cases hq : k = q
      · have e1 : keyOf kd' = some q := by rw [h1, hq]
        rw [if_pos (show (k, b', v').1 = q from hq), if_pos (show keyOf (kd', c).1 = some q from e1)]
        exact DCs.cons (fp := []) (fps := []) a h1 ⟨rv, rfl⟩ (fun x hx => by cases hx) (ih rfl)
      · have e1 : ¬ keyOf kd' = some q := fun z => hq (by rw [h1] at z; exact Option.some.inj z)
        rw [if_neg (show ¬ (k, b', v').1 = q from hq), if_neg (show ¬ keyOf (kd', c).1 = some q from e1)]
        exact DCs.cons (fp := []) (fps := []) a h1 h2 (fun x hx => by cases hx) (ih rfl)
  have happ : ∀ {es : List (NestedKey × Addr × V)} {kvs : List (Dt × Cl)} {fp : List Addr}, DCs K C G O es kvs fp → DCs K C G O (es ++ [(q, b, v)]) (kvs ++ [(kd, .d x)]) fp := by
    intro es kvs fp r
    induction r with
    | nil => exact DCs.cons (fp := []) (fps := []) rk hk ⟨rv, rfl⟩ (fun x hx => by cases hx) .nil
    | cons a h1 h2 h3 r ih => exact DCs.cons a h1 h2 h3 ih
  unfold putE putC
  rcases ek.at q with ⟨e1, e2⟩ | ⟨_, _, _, e1, e2, _⟩
  · rw [e1, e2]; exact happ r
  · rw [e1, e2]; exact hmap r rfl
theorem DCs.same {O' : Hp} {es : List (NestedKey × Addr × V)} {kvs : List (Dt × Cl)} (r : DCs K C G O es kvs []) : DCs K C G O' es kvs [] := by
  have key : ∀ {es : List (NestedKey × Addr × V)} {kvs : List (Dt × Cl)} {fp : List Addr}, DCs K C G O es kvs fp → fp = [] → DCs K C G O' es kvs [] := by
    intro es kvs fp r
    induction r with
    | nil => intro _; exact .nil
    | @cons k b' v' kd' c fp fps es kvs a h1 h2 h3 r ih =>
      intro e
      obtain ⟨rfl, rfl⟩ := List.append_eq_nil_iff.mp e
      refine DCs.cons (fp := []) (fps := []) a h1 ?_ (fun x hx => by cases hx) (ih rfl)
      cases c with
      | d x => exact h2
      | l ds => obtain ⟨_, _, _, e, _⟩ := h2; cases e
  exact key r rfl
end
end VL


set_option maxRecDepth 100000
set_option maxHeartbeats 2000000
namespace VL
open PySem PySem.Spec PyProof.Rows L2
/-! ### d[k] = v -/
def setKK2 (k : Nat) (kvs : List (Dt × Cl)) (ρ : Nv) (x d : Dt) : T Fl := match kOk d with
  | some q => if allD kvs = true ∧ kvs.length < sizeLine then .ret (.nx (ρ.set k (some (.dct (putC kvs q d x))))) else .fail
  | none => .fail
section
variable {X : Cx} {U : WX} {o i value : Expr} {tk tv : XT} {pos pos' : Pos}
end
end VL


set_option maxRecDepth 100000
set_option maxHeartbeats 2000000
namespace VL
open PySem PySem.Spec PyProof.Rows L2
/-! ### {k: v} -/
section
variable {K : PySem.W.Frag} {C : Ct} {σ : L2.St} {ρ : Nv} {n : Nat} {G O H : Hp} {F : Nat → List Addr}
end
section
variable {X : Cx} {U : WX} {k v : Expr} {tk tv : XT} {pos : Pos}
end
end VL


set_option maxRecDepth 100000
set_option maxHeartbeats 2000000
namespace VL
open PySem PySem.Spec PyProof.Rows L2
/-! ### for k, v in d.items(); for k in d -/
section
variable {X : Cx} {pins : List (Addr × Obj)} {σ : L2.St} {H : Hp} {s : Shared}
end
end VL


set_option maxRecDepth 100000
set_option maxHeartbeats 2000000
namespace VL
open PySem PySem.Spec PyProof.Rows L2
/-! ### a dict of the module: texts to ints -/
def SdAt (o : Option Int) (r : Option Value) : Prop := match o with
  | some i => ∃ t, r = some (.int i t)
  | none => r = none
structure SD (K : PySem.W.Frag) (w : World) (a : Addr) (kvs : List (Str × Int)) : Prop where
  kd : ∃ es n, KDict K w a es n ∧ ∀ z, SdAt (kvs.lookup z) (findBy Value.isStrOf es z)
section
variable {X : Cx} {U : WX} {e f : Expr} {apos cpos gpos : Pos} {te tf : XT} {a : Addr} {kvs : List (Str × Int)}
end
/-! ### k in G, G[k] -/
section
variable {X : Cx} {U : WX} {e : Expr} {gpos pos : Pos} {te : XT} {a : Addr} {kvs : List (Str × Int)}
end
/-! ### {'a': e1, 'b': e2}.get(k, f) -/
section
variable {X : Cx} {U : WX} {e1 e2 k f : Expr} {apos cpos dpos p1 p2 : Pos} {a b : Str} {j1 j2 : Nat} {t1 t2 tk tf : XT}
end
end VL


set_option maxRecDepth 100000
set_option maxHeartbeats 2000000
namespace VL
open PySem PySem.Spec PyProof.Rows L2
/-! ### what a lambda sees, name by name -/
def capX : Option W → Option W
  | none => none
  | some w => if capW w = true then some w else none
theorem capN : capR [] = [] := rfl
theorem capC {x : Option W} {r : Nv} : capR (x :: r) = capX x :: capR r := by cases x <;> rfl
end VL


set_option maxRecDepth 100000
set_option maxHeartbeats 2000000
namespace VL
open PySem PySem.Spec PyProof.Rows L2
section
variable {X : Cx} {U : WX} {e b : Expr} {pos : Pos} {tb : XT} {al : XA}
/-! ### y = x.pop() -/
theorem DRs.dropLast {K : PySem.W.Frag} {G : Hp} {ds : List Dt} {vs : List V} (r : DRs K G vs ds) : DRs K G vs.dropLast ds.dropLast := by
  rw [List.dropLast_eq_take, List.dropLast_eq_take, r.length]
  exact r.take _
/-! ### x.extend(l) -/
/-! ### one's own list compared -/
end
end VL


set_option maxRecDepth 100000
set_option maxHeartbeats 2000000
namespace VL
open PySem PySem.Spec PyProof.Rows L2
/-! ### d.get(k), d.get(k, x) -/
section
variable {X : Cx} {U : WX} {o e f : Expr} {to te tf : XT} {apos cpos : Pos}
end
end VL


set_option maxRecDepth 100000
set_option maxHeartbeats 2000000
namespace VL
open PySem PySem.Spec PyProof.Rows L2
/-! ### for k, v in d.items(); for k in d -/
section
variable {X : Cx} {U : WX} {tg e : Expr} {apos cpos : Pos} {td : TE} {te : XT}
end
theorem DKs.get {K : PySem.W.Frag} {G : Hp} : ∀ {es : List (NestedKey × Addr × V)} {kvs : List (Dt × Dt)} {i : Nat} {p : Dt × Dt}, DKs K G es kvs → kvs[i]? = some p → ∃ k b v, es[i]? = some (k, b, v) ∧ DR K G (.ref b) p.1 ∧ DR K G v p.2
  | _, _, i, p, .nil, e => by simp at e
  | _, _, i, p, .cons a _ b r, e => by
    cases i with
    | zero => simp at e; subst e; exact ⟨_, _, _, rfl, a, b⟩
    | succ i => exact DKs.get r (i := i) (by simpa using e)
theorem DKs.length {K : PySem.W.Frag} {G : Hp} : ∀ {es : List (NestedKey × Addr × V)} {kvs : List (Dt × Dt)}, DKs K G es kvs → es.length = kvs.length
  | _, _, .nil => rfl
  | _, _, .cons _ _ _ r => by simp [DKs.length r]
section
variable {X : Cx} {U : WX} {tg e : Expr} {apos cpos : Pos} {te : XT}
end
end VL


set_option maxRecDepth 100000
set_option maxHeartbeats 2000000
namespace VL
open PySem PySem.Spec PyProof.Rows L2
/-! ### a < b of data -/
section
open Classical
noncomputable def pLtA (a b : Dt) : Option Dt := match a, b with
  | .int i, .int j => some (.bool (decide (i < j)))
  | .tuple xs, .tuple ys => if PySem.W.alike (.tuple xs) (.tuple ys) = true ∧ (PyData.tuple xs).hasDict = false ∧ (PyData.tuple ys).hasDict = false ∧ (PyData.tuple xs).depth ≤ 60 then some (.bool (PySem.W.dataLt (.tuple xs) (.tuple ys))) else none
  | _, _ => none
variable {X : Cx}
theorem pLtA_i {i j : Int} : pLtA (.int i) (.int j) = some (.bool (decide (i < j))) := rfl
theorem op_ltD (hu : X.A.units + 65 < cLine) : VOp X (compareOp .Lt) (RO fun a b => match a, b with | .tuple xs, .tuple ys => if PySem.W.alike (.tuple xs) (.tuple ys) = true ∧ (PyData.tuple xs).hasDict = false ∧ (PyData.tuple ys).hasDict = false ∧ (PyData.tuple xs).depth ≤ 60 then some (.bool (PySem.W.dataLt (.tuple xs) (.tuple ys))) else none | _, _ => none) := by
  intro pins s σ H x y v u Q I rx ry ⟨G, d1, d2, Q0, sg, r1, r2, q, hq⟩
  obtain ⟨d, e, q⟩ := q.at
  split at e
  · next xs ys =>
    obtain ⟨⟨h1, h2, h3, h4⟩, rfl⟩ := ite_at e
    obtain ⟨as, ra⟩ := Dp.reads I _ _ _ (DR.dp h2 (DR.same sg r1)) rx
    obtain ⟨bs, rb⟩ := Dp.reads I _ _ _ (DR.dp h3 (DR.same sg r2)) ry
    exact PySem.W.rcLt_alike (.tuple xs) (.tuple ys) X.A s v u as bs ra rb h1 (by simp) (by omega) X.prog X.w X.xe _ ⟨.bl _, H, I, rfl, hq _ q _ G H (Same.refl _) (Same.refl _) sg New.refl (.bl _)⟩
  · cases e
theorem p_ltA (hu : X.A.units + 65 < cLine) : VOp X (compareOp .Lt) (RO pLtA) := by
  intro pins s σ H x y v u Q I rx ry ⟨G, d1, d2, Q0, sg, r1, r2, q, hq⟩
  obtain ⟨d, e, q2⟩ := q.at
  unfold pLtA at e
  split at e
  · next i j => exact p_lt pins s σ H x y v u Q I rx ry ⟨G, .int i, .int j, Q0, sg, r1, r2, by unfold RO pLt; cases e; exact q2, hq⟩
  · next xs ys => exact op_ltD hu pins s σ H x y v u Q I rx ry ⟨G, .tuple xs, .tuple ys, Q0, sg, r1, r2, by unfold RO; simp only [e]; exact q2, hq⟩
  · cases e
/-! ### sorted -/
end
end VL


set_option maxRecDepth 100000
set_option maxHeartbeats 2000000
namespace VL
open PySem PySem.Spec PyProof.Rows L2
section
open Classical
variable {X : Cx}
end
end VL


set_option maxRecDepth 100000
set_option maxHeartbeats 2000000
namespace VL
open PySem PySem.Spec PyProof.Rows L2
/-! ### sorted(d.items()) -/
section
open Classical
variable {X : Cx} {U : WX} {e : Expr} {apos cpos p pos : Pos} {td : TE} {te : XT}
end
end VL


set_option maxRecDepth 100000
set_option maxHeartbeats 2000000
namespace VL
open PySem PySem.Spec PyProof.Rows L2
/-! ### dicts on the plain side: keys of a type α, as data by en -/
theorem dictW_c {kvs : List (Dt × Cl)} : dictW (.dct kvs) = some kvs := rfl
theorem dictW_d {kvs : List (Dt × Dt)} : dictW (.dat (.dict ((.none, .none) :: kvs))) = some (kvs.map fun p => (p.1, .d p.2)) := rfl
structure Enc (α : Type) where
  en : α → Dt
  ke : α → NestedKey
  ok : ∀ a, kOk (en a) = some (ke a)
  inj : ∀ a b, ke a = ke b → a = b
section
variable {α : Type} [DecidableEq α] (E : Enc α)
def Enc.dc (m : List (α × Dt)) : List (Dt × Cl) := m.map fun p => (E.en p.1, .d p.2)
def Enc.dd (m : List (α × Dt)) : Dt := .dict ((.none, .none) :: m.map fun p => (E.en p.1, p.2))
def lkA (m : List (α × Dt)) (a : α) : Option Dt := (m.find? fun p => decide (p.1 = a)).map (·.2)
def putA (m : List (α × Dt)) (a : α) (x : Dt) : List (α × Dt) := if (lkA m a).isSome then m.map (fun p => if p.1 = a then (p.1, x) else p) else m ++ [(a, x)]
theorem Enc.keyE (a b : α) : decide (keyOf (E.en a) = some (E.ke b)) = decide (a = b) := by
  obtain ⟨_, h, _⟩ := kOk_ok (E.ok a)
  rw [h]
  by_cases e : a = b
  · subst e; simp
  · rw [decide_eq_false e, decide_eq_false]
    intro q
    exact e (E.inj _ _ (Option.some.inj q))
theorem Enc.lk (m : List (α × Dt)) (a : α) : lkC (E.dc m) (E.ke a) = (lkA m a).map .d := by
  unfold lkC lkA Enc.dc
  rw [List.find?_map, Option.map_map, Option.map_map]
  have : ((fun p : Dt × Cl => decide (keyOf p.1 = some (E.ke a))) ∘ fun p : α × Dt => (E.en p.1, Cl.d p.2)) = fun p : α × Dt => decide (p.1 = a) := by
    funext p
    exact E.keyE p.1 a
  rw [this]
  rfl
theorem Enc.put (m : List (α × Dt)) (a : α) (x : Dt) : putC (E.dc m) (E.ke a) (E.en a) x = E.dc (putA m a x) := by
  unfold putC putA
  rw [E.lk, Option.isSome_map]
  split
  · unfold Enc.dc
    rw [List.map_map, List.map_map]
    refine List.map_congr_left fun p _ => ?_
    have := E.keyE p.1 a
    simp only [Function.comp]
    by_cases e : p.1 = a
    · rw [decide_eq_true e, decide_eq_true_eq] at this
      rw [if_pos this, if_pos e]
    · rw [decide_eq_false e, decide_eq_false_iff_not] at this
      rw [if_neg this, if_neg e]
  · unfold Enc.dc
    rw [List.map_append]
    rfl
theorem Enc.all (m : List (α × Dt)) : allD (E.dc m) = true := by
  unfold allD Enc.dc
  rw [List.all_map, List.all_eq_true]
  intro p _
  rfl
theorem Enc.len (m : List (α × Dt)) : (E.dc m).length = m.length := by unfold Enc.dc; rw [List.length_map]
theorem Enc.dw (m : List (α × Dt)) : dictW (.dat (E.dd m)) = some (E.dc m) := by
  unfold Enc.dd Enc.dc
  rw [dictW_d, List.map_map]
  rfl
theorem Enc.nil : E.dc [] = [] := rfl
theorem Enc.one (a : α) (x : Dt) : [(E.en a, Cl.d x)] = E.dc [(a, x)] := rfl
end
/-! ### the rules of the mirrors on such dicts -/
section
variable {α : Type} [DecidableEq α] (E : Enc α)
theorem Enc.setK {k : Nat} {ρ : Nv} {m : List (α × Dt)} {a : α} {x : Dt} (h : m.length < 16777216) : setKK2 k (E.dc m) ρ x (E.en a) = .ret (.nx (ρ.set k (some (.dct (E.dc (putA m a x)))))) := by
  unfold setKK2
  simp only [E.ok, E.all, E.len, E.put, sizeL, h, and_self, if_true]
end
/-- two numbers as a key -/
def en2 (s : Int × Int) : Dt := .tuple [.int s.1, .int s.2]
def ke2 (s : Int × Int) : NestedKey := .tup [.num s.1, .num s.2]
def E2 : Enc (Int × Int) := ⟨en2, ke2, fun s => by
  unfold kOk en2
  simp only [keyOf, keysOf, Option.bind_some, Option.map_some]
  rw [if_pos (by simp [NestedKey.depth, NestedKey.depthAll])]
  rfl, fun a b h => by
  simp only [ke2, NestedKey.tup.injEq, List.cons.injEq, NestedKey.num.injEq, and_true] at h
  exact Prod.ext h.1 h.2⟩
/-- two such keys as one -/
def EP {α : Type} (E : Enc α) (hd : ∀ a, (E.ke a).depth ≤ 7) : Enc (α × α) := ⟨fun p => .tuple [E.en p.1, E.en p.2], fun p => .tup [E.ke p.1, E.ke p.2], fun p => by
  obtain ⟨_, h1, _⟩ := kOk_ok (E.ok p.1)
  obtain ⟨_, h2, _⟩ := kOk_ok (E.ok p.2)
  unfold kOk
  simp only [keyOf, keysOf, h1, h2, Option.bind_some, Option.map_some]
  rw [if_pos]
  have a1 := hd p.1
  have a2 := hd p.2
  simp only [NestedKey.depth, NestedKey.depthAll]
  omega, fun a b h => by
  simp only [NestedKey.tup.injEq, List.cons.injEq, and_true] at h
  exact Prod.ext (E.inj _ _ h.1) (E.inj _ _ h.2)⟩
end VL


set_option maxRecDepth 100000
set_option maxHeartbeats 2000000
namespace VL
/-! ### plain: what rows lead to -/
section
variable {S : Type} [DecidableEq S] (nx : S → Int → S) (cs : List Int)
/-- a row of codes leads from a to b -/
def Led (a b : S) : Prop := ∃ r : List Int, (∀ k ∈ r, k ∈ cs) ∧ r.foldl nx a = b
/-- closed under the codes -/
def Clo (ks : List S) : Prop := ∀ s ∈ ks, ∀ k ∈ cs, nx s k ∈ ks
theorem Led.snoc {nx : S → Int → S} {cs : List Int} {a b : S} {k : Int} (h : Led nx cs a b) (hk : k ∈ cs) : Led nx cs a (nx b k) := by
  obtain ⟨r, hr, rfl⟩ := h
  refine ⟨r ++ [k], fun j hj => ?_, by rw [List.foldl_append]; rfl⟩
  rcases List.mem_append.mp hj with q | q
  · exact hr j q
  · rw [List.mem_singleton.mp q]; exact hk
/-! ### the queue -/
/-- the row of a state -/
def rowA (F : List (S × List Int)) (s : S) : Option (List Int) := (F.find? fun p => decide (p.1 = s)).map (·.2)
/-- the shorter row, or the lesser one -/
def slt (a b : List Int) : Prop := a.length < b.length ∨ a.length = b.length ∧ a < b
def sle (a b : List Int) : Prop := slt a b ∨ a = b
theorem lex_snoc {a b : List Int} {x y : Int} (hl : a.length = b.length) (h : a < b) : a ++ [x] < b ++ [y] := by
  induction a generalizing b with
  | nil =>
    cases b with
    | nil => exact absurd h (List.lt_irrefl _)
    | cons => simp at hl
  | cons c a ih =>
    cases b with
    | nil => simp at hl
    | cons d b =>
      rw [List.cons_append, List.cons_append]
      rw [List.cons_lt_cons_iff] at h ⊢
      rcases h with h | ⟨rfl, h⟩
      · exact .inl h
      · exact .inr ⟨rfl, ih (by simpa using hl) h⟩
theorem lex_last {a : List Int} {x y : Int} (h : x < y) : a ++ [x] < a ++ [y] := by
  induction a with
  | nil => rw [List.nil_append, List.nil_append, List.cons_lt_cons_iff]; exact .inl h
  | cons c a ih => rw [List.cons_append, List.cons_append, List.cons_lt_cons_iff]; exact .inr ⟨rfl, ih⟩
theorem slt_snoc {a b : List Int} {x y : Int} (h : slt a b) : slt (a ++ [x]) (b ++ [y]) := by
  rcases h with h | ⟨hl, h⟩
  · exact .inl (by simpa using h)
  · exact .inr ⟨by simpa using hl, lex_snoc hl h⟩
theorem slt_last {a : List Int} {x y : Int} (h : x < y) : slt (a ++ [x]) (a ++ [y]) := .inr ⟨by simp, lex_last h⟩
theorem slt_trans {a b c : List Int} (h : slt a b) (h' : slt b c) : slt a c := by
  rcases h with h | ⟨hl, h⟩ <;> rcases h' with h' | ⟨hl', h'⟩
  · exact .inl (by omega)
  · exact .inl (by omega)
  · exact .inl (by omega)
  · exact .inr ⟨by omega, List.lt_trans h h'⟩
theorem sle_trans {a b c : List Int} (h : sle a b) (h' : sle b c) : sle a c := by
  rcases h with h | rfl
  · rcases h' with h' | rfl
    · exact .inl (slt_trans h h')
    · exact .inl h
  · exact h'
theorem slt_sle {a b c : List Int} (h : slt a b) (h' : sle b c) : slt a c := by
  rcases h' with h' | rfl
  · exact slt_trans h h'
  · exact h
theorem sle_slt {a b c : List Int} (h : sle a b) (h' : slt b c) : slt a c := by
  rcases h with h | rfl
  · exact slt_trans h h'
  · exact h'
theorem slt_irrefl {a : List Int} : ¬ slt a a := fun h => by
  rcases h with h | ⟨_, h⟩
  · omega
  · exact List.lt_irrefl _ h
theorem sle_anti {a b : List Int} (h : sle a b) (h' : sle b a) : a = b := by
  rcases h with h | h
  · exact absurd (slt_sle h h') slt_irrefl
  · exact h
theorem sle_snoc {a b : List Int} {x : Int} (h : sle a b) : sle (a ++ [x]) (b ++ [x]) := by
  rcases h with h | rfl
  · exact .inl (slt_snoc h)
  · exact .inr rfl
/-- what stands while the queue is worked on: p is worked on, with some codes done -/
structure Prt (one : S) (F : List (S × List Int)) (at_ : Nat) (p : S × List Int) (dn : List Int) : Prop where
  nd : (F.map (·.1)).Nodup
  hd : F[0]? = some (one, [])
  ok : ∀ q ∈ F, (∀ k ∈ q.2, k ∈ cs) ∧ q.2.foldl nx one = q.1
  ln : ∀ q ∈ F, q.2.length < F.length
  up : F.Pairwise fun p q => slt p.2 q.2
  hp : F[at_]? = some p
  od : ∀ i q, i < at_ → F[i]? = some q → ∀ k ∈ cs, ∃ u ∈ F, u.1 = nx q.1 k ∧ sle u.2 (q.2 ++ [k])
  nw : ∀ k ∈ dn, ∃ u ∈ F, u.1 = nx p.1 k ∧ sle u.2 (p.2 ++ [k])
  lo : ∀ q ∈ F, q.2 = [] ∨ ∃ r k, q.2 = r ++ [k] ∧ (slt r p.2 ∨ r = p.2 ∧ k ∈ dn)
structure Que (one : S) (F : List (S × List Int)) (at_ : Nat) : Prop where
  nd : (F.map (·.1)).Nodup
  hd : F[0]? = some (one, [])
  ok : ∀ q ∈ F, (∀ k ∈ q.2, k ∈ cs) ∧ q.2.foldl nx one = q.1
  ln : ∀ q ∈ F, q.2.length < F.length
  up : F.Pairwise fun p q => slt p.2 q.2
  od : ∀ i q, i < at_ → F[i]? = some q → ∀ k ∈ cs, ∃ u ∈ F, u.1 = nx q.1 k ∧ sle u.2 (q.2 ++ [k])
  lo : ∀ p, F[at_]? = some p → ∀ q ∈ F, q.2 = [] ∨ ∃ r k, q.2 = r ++ [k] ∧ slt r p.2
variable {nx cs}
theorem Que.one (a : S) : Que nx cs a [(a, [])] 0 := ⟨by simp, rfl, fun q hq => by rw [List.mem_singleton.mp hq]; exact ⟨(fun k hk => by cases hk), rfl⟩, fun q hq => by rw [List.mem_singleton.mp hq]; exact Nat.one_pos, List.pairwise_singleton _ _, fun i q hi => absurd hi (Nat.not_lt_zero _), fun p _ q hq => by rw [List.mem_singleton.mp hq]; exact .inl rfl⟩
theorem Que.prt {one : S} {F : List (S × List Int)} {at_ : Nat} {p : S × List Int} (h : Que nx cs one F at_) (hp : F[at_]? = some p) : Prt nx cs one F at_ p [] := ⟨h.nd, h.hd, h.ok, h.ln, h.up, hp, h.od, (fun k hk => by cases hk), fun q hq => by
  rcases h.lo p hp q hq with z | ⟨r, k, e, z⟩
  · exact .inl z
  · exact .inr ⟨r, k, e, .inl z⟩⟩
theorem Prt.old {one : S} {F : List (S × List Int)} {at_ : Nat} {p : S × List Int} {dn : List Int} (h : Prt nx cs one F at_ p dn) {k : Int} (hk : nx p.1 k ∈ F.map (·.1)) (hs : ∀ j ∈ dn, j < k) : Prt nx cs one F at_ p (dn ++ [k]) := by
  refine ⟨h.nd, h.hd, h.ok, h.ln, h.up, h.hp, h.od, fun j hj => ?_, fun q hq => ?_⟩
  · rcases List.mem_append.mp hj with z | z
    · exact h.nw j z
    · rw [List.mem_singleton.mp z]
      obtain ⟨u, hu, e⟩ := List.mem_map.mp hk
      refine ⟨u, hu, e, .inl ?_⟩
      rcases h.lo u hu with z | ⟨r, j, e', z | ⟨rfl, z⟩⟩
      · rw [z]; exact .inl (by simp)
      · rw [e']; exact slt_snoc z
      · rw [e']; exact slt_last (hs j z)
  · rcases h.lo q hq with z | ⟨r, j, e, z | ⟨rfl, z⟩⟩
    · exact .inl z
    · exact .inr ⟨r, j, e, .inl z⟩
    · exact .inr ⟨_, j, e, .inr ⟨rfl, List.mem_append_left _ z⟩⟩
theorem Prt.new {one : S} {F : List (S × List Int)} {at_ : Nat} {p : S × List Int} {dn : List Int} (h : Prt nx cs one F at_ p dn) {k : Int} (hc : k ∈ cs) (hk : nx p.1 k ∉ F.map (·.1)) (hs : ∀ j ∈ dn, j < k) : Prt nx cs one (F ++ [(nx p.1 k, p.2 ++ [k])]) at_ p (dn ++ [k]) := by
  have hpm : p ∈ F := List.mem_of_getElem? h.hp
  have lf : ∀ (i : Nat) (q : S × List Int), F[i]? = some q → (F ++ [(nx p.1 k, p.2 ++ [k])])[i]? = some q := fun i q e => by
    rw [List.getElem?_append_left (List.getElem?_eq_some_iff.mp e).1]; exact e
  have lt : ∀ q ∈ F, slt q.2 (p.2 ++ [k]) := fun u hu => by
    rcases h.lo u hu with z | ⟨r, j, e', z | ⟨rfl, z⟩⟩
    · rw [z]; exact .inl (by simp)
    · rw [e']; exact slt_snoc z
    · rw [e']; exact slt_last (hs j z)
  refine ⟨?_, lf _ _ h.hd, fun q hq => ?_, fun q hq => ?_, ?_, lf _ _ h.hp, fun i q hi hq j hj => ?_, fun j hj => ?_, fun q hq => ?_⟩
  · rw [List.map_append, List.nodup_append]
    exact ⟨h.nd, by simp, fun a ha b hb => by rw [List.map_singleton, List.mem_singleton] at hb; rw [hb]; exact fun e => hk (by have e' : a = nx p.1 k := e; rw [← e']; exact ha)⟩
  · rcases List.mem_append.mp hq with z | z
    · exact h.ok q z
    · rw [List.mem_singleton.mp z]
      refine ⟨fun j hj => ?_, by rw [List.foldl_append, (h.ok p hpm).2]; rfl⟩
      rcases List.mem_append.mp hj with y | y
      · exact (h.ok p hpm).1 j y
      · rw [List.mem_singleton.mp y]; exact hc
  · rw [List.length_append, List.length_singleton]
    rcases List.mem_append.mp hq with z | z
    · have := h.ln q z; omega
    · rw [List.mem_singleton.mp z, List.length_append, List.length_singleton]; have := h.ln p hpm; omega
  · rw [List.pairwise_append]
    exact ⟨h.up, List.pairwise_singleton _ _, fun q hq u hu => by rw [List.mem_singleton.mp hu]; exact lt q hq⟩
  · have hi' : i < F.length := Nat.lt_trans hi (List.getElem?_eq_some_iff.mp h.hp).1
    rw [List.getElem?_append_left hi'] at hq
    obtain ⟨u, hu, e⟩ := h.od i q hi hq j hj
    exact ⟨u, List.mem_append_left _ hu, e⟩
  · rcases List.mem_append.mp hj with z | z
    · obtain ⟨u, hu, e⟩ := h.nw j z
      exact ⟨u, List.mem_append_left _ hu, e⟩
    · rw [List.mem_singleton.mp z]
      exact ⟨_, List.mem_append_right _ (List.mem_singleton.mpr rfl), rfl, .inr rfl⟩
  · rcases List.mem_append.mp hq with z | z
    · rcases h.lo q z with y | ⟨r, j, e, y | ⟨rfl, y⟩⟩
      · exact .inl y
      · exact .inr ⟨r, j, e, .inl y⟩
      · exact .inr ⟨_, j, e, .inr ⟨rfl, List.mem_append_left _ y⟩⟩
    · rw [List.mem_singleton.mp z]
      exact .inr ⟨p.2, k, rfl, .inr ⟨rfl, by simp⟩⟩
theorem Prt.done {one : S} {F : List (S × List Int)} {at_ : Nat} {p : S × List Int} (h : Prt nx cs one F at_ p cs) : Que nx cs one F (at_ + 1) := by
  refine ⟨h.nd, h.hd, h.ok, h.ln, h.up, fun i q hi hq k hk => ?_, fun p' hp' q hq => ?_⟩
  · by_cases e : i = at_
    · subst e
      rw [h.hp] at hq
      cases hq
      exact h.nw k hk
    · exact h.od i q (by omega) hq k hk
  · have a1 := List.getElem?_eq_some_iff.mp h.hp
    have a2 := List.getElem?_eq_some_iff.mp hp'
    have lt : slt p.2 p'.2 := by
      have := List.pairwise_iff_getElem.mp h.up at_ (at_ + 1) a1.1 a2.1 (Nat.lt_succ_self _)
      rw [a1.2, a2.2] at this
      exact this
    rcases h.lo q hq with y | ⟨r, j, e, y | ⟨rfl, y⟩⟩
    · exact .inl y
    · exact .inr ⟨r, j, e, slt_trans y lt⟩
    · exact .inr ⟨_, j, e, lt⟩
/-- all that rows lead to stands there, each with the first of its shortest rows -/
theorem Que.min {one : S} {F : List (S × List Int)} (h : Que nx cs one F F.length) : ∀ (n : Nat) (r : List Int), r.length = n → (∀ k ∈ r, k ∈ cs) → ∃ q ∈ F, q.1 = r.foldl nx one ∧ sle q.2 r
  | 0, r, hl, _ => by
    have : r = [] := List.length_eq_zero_iff.mp hl
    subst this
    exact ⟨_, List.mem_of_getElem? h.hd, rfl, .inr rfl⟩
  | n + 1, r, hl, hr => by
    have hne : r ≠ [] := fun e => by rw [e] at hl; cases hl
    obtain ⟨r', k, rfl⟩ : ∃ r' k, r = r' ++ [k] := ⟨r.dropLast, r.getLast hne, (List.dropLast_concat_getLast hne).symm⟩
    obtain ⟨q, hq, e1, e2⟩ := Que.min h n r' (by simpa using hl) fun j hj => hr j (List.mem_append_left _ hj)
    obtain ⟨i, hi⟩ := List.mem_iff_getElem?.mp hq
    obtain ⟨u, hu, e3, e4⟩ := h.od i q (List.getElem?_eq_some_iff.mp hi).1 hi k (hr k (by simp))
    exact ⟨u, hu, by rw [e3, e1, List.foldl_append]; rfl, sle_trans e4 (sle_snoc e2)⟩
theorem Que.clo {one : S} {F : List (S × List Int)} (h : Que nx cs one F F.length) : Clo nx cs (F.map (·.1)) := fun s hs k hk => by
  obtain ⟨q, hq, rfl⟩ := List.mem_map.mp hs
  obtain ⟨i, hi⟩ := List.mem_iff_getElem?.mp hq
  obtain ⟨u, hu, e, _⟩ := h.od i q (List.getElem?_eq_some_iff.mp hi).1 hi k hk
  rw [← e]
  exact List.mem_map.mpr ⟨u, hu, rfl⟩
theorem Que.at0 {one : S} {F : List (S × List Int)} {at_ : Nat} (h : Que nx cs one F at_) : one ∈ F.map (·.1) := List.mem_map.mpr ⟨_, List.mem_of_getElem? h.hd, rfl⟩
theorem rowA_some {F : List (S × List Int)} {s : S} {r : List Int} (nd : (F.map (·.1)).Nodup) : rowA F s = some r ↔ (s, r) ∈ F := by
  induction F with
  | nil => simp [rowA]
  | cons p m ih =>
    rw [List.map_cons, List.nodup_cons] at nd
    unfold rowA at ih ⊢
    rw [List.find?_cons]
    by_cases e : p.1 = s
    · simp only [e, decide_true, Option.map_some, Option.some.injEq, List.mem_cons]
      constructor
      · rintro rfl; exact .inl (by rw [← e])
      · rintro (q | q)
        · rw [← q]
        · exact absurd (List.mem_map.mpr ⟨_, q, rfl⟩) (by rw [e] at nd; exact nd.1)
    · simp only [e, decide_false, List.mem_cons]
      rw [ih nd.2]
      constructor
      · exact .inr
      · rintro (q | q)
        · exact absurd (by rw [← q]) e
        · exact q
/-- the rows are told: the least of all that lead there -/
theorem Que.row {one : S} {F : List (S × List Int)} (h : Que nx cs one F F.length) {s : S} {r : List Int} : rowA F s = some r ↔ ((∀ k ∈ r, k ∈ cs) ∧ r.foldl nx one = s ∧ ∀ r', (∀ k ∈ r', k ∈ cs) → r'.foldl nx one = s → sle r r') := by
  rw [rowA_some h.nd]
  constructor
  · intro hm
    refine ⟨(h.ok _ hm).1, (h.ok _ hm).2, fun r' hr' e => ?_⟩
    obtain ⟨q, hq, e1, e2⟩ := h.min r'.length r' rfl hr'
    have : rowA F s = some q.2 := (rowA_some h.nd).mpr (by rw [← e, ← e1]; exact hq)
    rw [(rowA_some h.nd).mpr hm] at this
    cases this
    exact e2
  · rintro ⟨h1, h2, h3⟩
    obtain ⟨q, hq, e1, e2⟩ := h.min r.length r rfl h1
    have := h3 q.2 (h.ok q hq).1 (by rw [(h.ok q hq).2, e1, h2])
    have e := sle_anti this e2
    rw [e, ← h2, ← e1]
    exact hq
theorem Que.same {one : S} {F F' : List (S × List Int)} (h : Que nx cs one F F.length) (h' : Que nx cs one F' F'.length) (s : S) : rowA F s = rowA F' s := by
  cases e : rowA F s with
  | some r => exact (h'.row.mpr (h.row.mp e)).symm
  | none =>
    cases e' : rowA F' s with
    | none => rfl
    | some r => rw [h.row.mpr (h'.row.mp e')] at e; cases e
end
end VL


set_option maxRecDepth 100000
set_option maxHeartbeats 2000000
namespace VL
open PySem PySem.Spec PyProof.Rows L2
theorem rOfT_c {kvs : List (Dt × Cl)} : rOfT (.dct kvs) = .ret (fzW (.dct kvs)) := rfl
/-! ### sorted on the plain side -/
/-! ### a stack of states -/
section
variable {S : Type} [DecidableEq S] (nx : S → Int → S) (cs : List Int)
/-- what stands while a stack is worked on -/
structure Stk (one : S) (F todo : List S) : Prop where
  nd : F.Nodup
  hd : one ∈ F
  ok : ∀ s ∈ F, Led nx cs one s
  sub : ∀ s ∈ todo, s ∈ F
  dn : ∀ s ∈ F, s ∉ todo → ∀ k ∈ cs, nx s k ∈ F
/-- p is worked on, with some codes done -/
structure StP (one : S) (F todo : List S) (p : S) (dn : List Int) : Prop where
  nd : F.Nodup
  hd : one ∈ F
  ok : ∀ s ∈ F, Led nx cs one s
  sub : ∀ s ∈ todo, s ∈ F
  hp : p ∈ F
  od : ∀ s ∈ F, s ∉ todo → s ≠ p → ∀ k ∈ cs, nx s k ∈ F
  nw : ∀ k ∈ dn, nx p k ∈ F
variable {nx cs}
theorem Stk.one (a : S) : Stk nx cs a [a] [a] := ⟨by simp, by simp, fun s hs => by rw [List.mem_singleton.mp hs]; exact ⟨[], (fun k hk => by cases hk), rfl⟩, fun s hs => hs, fun s hs hn => absurd hs hn⟩
theorem Stk.prt {one : S} {F : List S} {q : List S} {p : S} (h : Stk nx cs one F (q ++ [p])) : StP nx cs one F q p [] := ⟨h.nd, h.hd, h.ok, fun s hs => h.sub s (List.mem_append_left _ hs), h.sub p (by simp), fun s hs hn hne k hk => h.dn s hs (fun hm => by
  rcases List.mem_append.mp hm with z | z
  · exact hn z
  · exact hne (List.mem_singleton.mp z)) k hk, (fun k hk => by cases hk)⟩
theorem StP.old {one : S} {F todo : List S} {p : S} {dn : List Int} (h : StP nx cs one F todo p dn) {k : Int} (hk : nx p k ∈ F) : StP nx cs one F todo p (dn ++ [k]) := ⟨h.nd, h.hd, h.ok, h.sub, h.hp, h.od, fun j hj => by
  rcases List.mem_append.mp hj with z | z
  · exact h.nw j z
  · rw [List.mem_singleton.mp z]; exact hk⟩
theorem StP.new {one : S} {F todo : List S} {p : S} {dn : List Int} (h : StP nx cs one F todo p dn) {k : Int} (hc : k ∈ cs) (hk : nx p k ∉ F) : StP nx cs one (F ++ [nx p k]) (todo ++ [nx p k]) p (dn ++ [k]) := by
  refine ⟨?_, List.mem_append_left _ h.hd, fun s hs => ?_, fun s hs => ?_, List.mem_append_left _ h.hp, fun s hs hn hne j hj => ?_, fun j hj => ?_⟩
  · rw [List.nodup_append]
    exact ⟨h.nd, by simp, fun a ha b hb => by rw [List.mem_singleton.mp hb]; exact fun e => hk (e ▸ ha)⟩
  · rcases List.mem_append.mp hs with z | z
    · exact h.ok s z
    · rw [List.mem_singleton.mp z]; exact (h.ok p h.hp).snoc hc
  · rcases List.mem_append.mp hs with z | z
    · exact List.mem_append_left _ (h.sub s z)
    · exact List.mem_append_right _ z
  · rcases List.mem_append.mp hs with z | z
    · exact List.mem_append_left _ (h.od s z (fun q => hn (List.mem_append_left _ q)) hne j hj)
    · exact absurd (List.mem_append_right _ z) hn
  · rcases List.mem_append.mp hj with z | z
    · exact List.mem_append_left _ (h.nw j z)
    · rw [List.mem_singleton.mp z]; simp
theorem StP.done {one : S} {F todo : List S} {p : S} (h : StP nx cs one F todo p cs) : Stk nx cs one F todo := ⟨h.nd, h.hd, h.ok, h.sub, fun s hs hn k hk => by
  by_cases e : s = p
  · rw [e]; exact h.nw k hk
  · exact h.od s hs hn e k hk⟩
theorem Stk.clo {one : S} {F : List S} (h : Stk nx cs one F []) : Clo nx cs F := fun s hs k hk => h.dn s hs (by simp) k hk
end
end VL


set_option maxRecDepth 100000
set_option maxHeartbeats 2000000
namespace VL
open PySem PySem.Spec PyProof.Rows L2
/-! ### rows sorted -/
end VL


set_option maxRecDepth 100000
set_option maxHeartbeats 2000000
namespace VL
section
variable {S : Type} [DecidableEq S] {nx : S → Int → S} {cs : List Int}
theorem slt_more {a : List Int} {k : Int} : slt a (a ++ [k]) := .inl (by simp)
theorem Que.idx {one : S} {F : List (S × List Int)} {at_ : Nat} (h : Que nx cs one F at_) {i j : Nat} {p q : S × List Int} (hi : F[i]? = some p) (hj : F[j]? = some q) (hij : i ≤ j) : sle p.2 q.2 := by
  by_cases e : i = j
  · subst e
    rw [hi] at hj
    cases hj
    exact .inr rfl
  · have a1 := List.getElem?_eq_some_iff.mp hi
    have a2 := List.getElem?_eq_some_iff.mp hj
    have := List.pairwise_iff_getElem.mp h.up i j a1.1 a2.1 (by omega)
    rw [a1.2, a2.2] at this
    exact .inl this
/-- what is told while the queue is worked on -/
theorem Que.part {one : S} {F : List (S × List Int)} {at_ : Nat} (h : Que nx cs one F at_) : ∀ (n : Nat) (r : List Int), r.length = n → (∀ k ∈ r, k ∈ cs) → (∃ q ∈ F, q.1 = r.foldl nx one ∧ sle q.2 r) ∨ ∃ p, F[at_]? = some p ∧ slt p.2 r
  | 0, r, hl, _ => by
    have : r = [] := List.length_eq_zero_iff.mp hl
    subst this
    exact .inl ⟨_, List.mem_of_getElem? h.hd, rfl, .inr rfl⟩
  | n + 1, r, hl, hr => by
    have hne : r ≠ [] := fun e => by rw [e] at hl; cases hl
    obtain ⟨r', k, rfl⟩ : ∃ r' k, r = r' ++ [k] := ⟨r.dropLast, r.getLast hne, (List.dropLast_concat_getLast hne).symm⟩
    rcases Que.part h n r' (by simpa using hl) fun j hj => hr j (List.mem_append_left _ hj) with ⟨q, hq, e1, e2⟩ | ⟨p, hp, e⟩
    · obtain ⟨i, hi⟩ := List.mem_iff_getElem?.mp hq
      by_cases hlt : i < at_
      · obtain ⟨u, hu, e3, e4⟩ := h.od i q hlt hi k (hr k (by simp))
        exact .inl ⟨u, hu, by rw [e3, e1, List.foldl_append]; rfl, sle_trans e4 (sle_snoc e2)⟩
      · have hl2 : at_ < F.length := by have := (List.getElem?_eq_some_iff.mp hi).1; omega
        have hp := List.getElem?_eq_getElem hl2
        exact .inr ⟨_, hp, sle_slt (h.idx hp hi (by omega)) (slt_sle slt_more (sle_snoc e2))⟩
    · exact .inr ⟨p, hp, slt_trans e slt_more⟩
/-- the first of the shortest rows to a state as wanted -/
def Fst (nx : S → Int → S) (cs : List Int) (one : S) (T : S → Bool) (o : Option (List Int)) : Prop := match o with
  | some r => (∀ k ∈ r, k ∈ cs) ∧ T (r.foldl nx one) = true ∧ ∀ r' : List Int, (∀ k ∈ r', k ∈ cs) → T (r'.foldl nx one) = true → sle r r'
  | none => ∀ r' : List Int, (∀ k ∈ r', k ∈ cs) → T (r'.foldl nx one) = false
theorem Fst.same {one : S} {T : S → Bool} {o o' : Option (List Int)} (h : Fst nx cs one T o) (h' : Fst nx cs one T o') : o = o' := by
  cases o with
  | none =>
    cases o' with
    | none => rfl
    | some r => have := h r h'.1; rw [h'.2.1] at this; cases this
  | some r =>
    cases o' with
    | none => have := h' r h.1; rw [h.2.1] at this; cases this
    | some r' => rw [sle_anti (h.2.2 r' h'.1 h'.2.1) (h'.2.2 r h.1 h.2.1)]
/-- all ahead of p fail, p does not -/
theorem Que.fst {one : S} {F : List (S × List Int)} {at_ : Nat} {p : S × List Int} (h : Que nx cs one F at_) {T : S → Bool} (hp : F[at_]? = some p) (ht : T p.1 = true) (hf : ∀ i q, i < at_ → F[i]? = some q → T q.1 = false) : Fst nx cs one T (some p.2) := by
  have hpm := List.mem_of_getElem? hp
  refine ⟨(h.ok p hpm).1, by rw [(h.ok p hpm).2]; exact ht, fun r' hr' ht' => ?_⟩
  rcases h.part r'.length r' rfl hr' with ⟨q, hq, e1, e2⟩ | ⟨p', hp', e⟩
  · obtain ⟨i, hi⟩ := List.mem_iff_getElem?.mp hq
    by_cases hlt : i < at_
    · have := hf i q hlt hi
      rw [e1, ht'] at this
      cases this
    · exact sle_trans (h.idx hp hi (by omega)) e2
  · rw [hp] at hp'
    cases hp'
    exact .inl e
theorem Que.non {one : S} {F : List (S × List Int)} (h : Que nx cs one F F.length) {T : S → Bool} (hf : ∀ q ∈ F, T q.1 = false) : Fst nx cs one T none := fun r' hr' => by
  obtain ⟨q, hq, e1, _⟩ := h.min r'.length r' rfl hr'
  rw [← e1]
  exact hf q hq
end
end VL


set_option maxRecDepth 100000
set_option maxHeartbeats 2000000
namespace VL
section
variable {S : Type} [DecidableEq S] {nx : S → Int → S} {cs : List Int}
theorem part_of {one : S} {F : List (S × List Int)} {at_ : Nat} (hd : F[0]? = some (one, [])) (up : F.Pairwise fun p q => slt p.2 q.2) (od : ∀ i q, i < at_ → F[i]? = some q → ∀ k ∈ cs, ∃ u ∈ F, u.1 = nx q.1 k ∧ sle u.2 (q.2 ++ [k])) : ∀ (n : Nat) (r : List Int), r.length = n → (∀ k ∈ r, k ∈ cs) → (∃ q ∈ F, q.1 = r.foldl nx one ∧ sle q.2 r) ∨ ∃ p, F[at_]? = some p ∧ slt p.2 r
  | 0, r, hl, _ => by
    have : r = [] := List.length_eq_zero_iff.mp hl
    subst this
    exact .inl ⟨_, List.mem_of_getElem? hd, rfl, .inr rfl⟩
  | n + 1, r, hl, hr => by
    have hne : r ≠ [] := fun e => by rw [e] at hl; cases hl
    obtain ⟨r', k, rfl⟩ : ∃ r' k, r = r' ++ [k] := ⟨r.dropLast, r.getLast hne, (List.dropLast_concat_getLast hne).symm⟩
    rcases part_of hd up od n r' (by simpa using hl) fun j hj => hr j (List.mem_append_left _ hj) with ⟨q, hq, e1, e2⟩ | ⟨p, hp, e⟩
    · obtain ⟨i, hi⟩ := List.mem_iff_getElem?.mp hq
      by_cases hlt : i < at_
      · obtain ⟨u, hu, e3, e4⟩ := od i q hlt hi k (hr k (by simp))
        exact .inl ⟨u, hu, by rw [e3, e1, List.foldl_append]; rfl, sle_trans e4 (sle_snoc e2)⟩
      · have hl2 : at_ < F.length := by have := (List.getElem?_eq_some_iff.mp hi).1; omega
        have hp := List.getElem?_eq_getElem hl2
        refine .inr ⟨_, hp, sle_slt ?_ (slt_sle slt_more (sle_snoc e2))⟩
        by_cases e : at_ = i
        · subst e
          rw [hp] at hi
          cases hi
          exact .inr rfl
        · have a2 := List.getElem?_eq_some_iff.mp hi
          have := List.pairwise_iff_getElem.mp up at_ i hl2 a2.1 (by omega)
          rw [a2.2] at this
          exact .inl this
    · exact .inr ⟨p, hp, slt_trans e slt_more⟩
/-- the first of the shortest rows of a code or more, to a state as wanted -/
def Fst1 (nx : S → Int → S) (cs : List Int) (one : S) (T : S → Bool) (o : Option (List Int)) : Prop := match o with
  | some r => r ≠ [] ∧ (∀ k ∈ r, k ∈ cs) ∧ T (r.foldl nx one) = true ∧ ∀ r' : List Int, r' ≠ [] → (∀ k ∈ r', k ∈ cs) → T (r'.foldl nx one) = true → sle r r'
  | none => ∀ r' : List Int, r' ≠ [] → (∀ k ∈ r', k ∈ cs) → T (r'.foldl nx one) = false
theorem Fst1.same {one : S} {T : S → Bool} {o o' : Option (List Int)} (h : Fst1 nx cs one T o) (h' : Fst1 nx cs one T o') : o = o' := by
  cases o with
  | none =>
    cases o' with
    | none => rfl
    | some r => have := h r h'.1 h'.2.1; rw [h'.2.2.1] at this; cases this
  | some r =>
    cases o' with
    | none => have := h' r h.1 h.2.1; rw [h.2.2.1] at this; cases this
    | some r' => rw [sle_anti (h.2.2.2 r' h'.1 h'.2.1 h'.2.2.1) (h'.2.2.2 r h.1 h.2.1 h.2.2.1)]
theorem Prt.fst1 {one : S} {F : List (S × List Int)} {at_ : Nat} {p : S × List Int} {dn ks : List Int} {k : Int} (h : Prt nx cs one F at_ p dn) (hc : cs = dn ++ k :: ks) (hu : cs.Pairwise (· < ·)) {T : S → Bool} (n1 : ∀ i q, i < at_ → F[i]? = some q → ∀ j ∈ cs, T (nx q.1 j) = false) (n2 : ∀ j ∈ dn, T (nx p.1 j) = false) (ht : T (nx p.1 k) = true) : Fst1 nx cs one T (some (p.2 ++ [k])) := by
  have hpm := List.mem_of_getElem? h.hp
  have hkc : k ∈ cs := by rw [hc]; simp
  refine ⟨by simp, fun j hj => ?_, by rw [List.foldl_append, (h.ok p hpm).2]; exact ht, fun r' hne hr' ht' => ?_⟩
  · rcases List.mem_append.mp hj with z | z
    · exact (h.ok p hpm).1 j z
    · rw [List.mem_singleton.mp z]; exact hkc
  · obtain ⟨r'', k', rfl⟩ : ∃ r'' k', r' = r'' ++ [k'] := ⟨r'.dropLast, r'.getLast hne, (List.dropLast_concat_getLast hne).symm⟩
    have hk' : k' ∈ cs := hr' k' (by simp)
    have et : T (nx (r''.foldl nx one) k') = true := by rw [List.foldl_append] at ht'; exact ht'
    rcases part_of h.hd h.up h.od r''.length r'' rfl fun j hj => hr' j (List.mem_append_left _ hj) with ⟨u, hu', e1, e2⟩ | ⟨q, hq, e⟩
    · obtain ⟨i, hi⟩ := List.mem_iff_getElem?.mp hu'
      rcases Nat.lt_trichotomy i at_ with z | z | z
      · have := n1 i u z hi k' hk'
        rw [e1, et] at this
        cases this
      · subst z
        rw [h.hp] at hi
        cases hi
        have hk2 : k' ∈ dn ++ k :: ks := hc ▸ hk'
        rcases List.mem_append.mp hk2 with y | y
        · have := n2 k' y
          rw [e1, et] at this
          cases this
        · rcases List.mem_cons.mp y with rfl | y
          · exact sle_snoc e2
          · rw [hc, List.pairwise_append] at hu
            exact sle_trans (.inl (slt_last ((List.pairwise_cons.mp hu.2.1).1 k' y))) (sle_snoc e2)
      · have a1 := List.getElem?_eq_some_iff.mp h.hp
        have a2 := List.getElem?_eq_some_iff.mp hi
        have := List.pairwise_iff_getElem.mp h.up at_ i a1.1 a2.1 z
        rw [a1.2, a2.2] at this
        exact sle_trans (.inl (slt_snoc this)) (sle_snoc e2)
    · rw [h.hp] at hq
      cases hq
      exact .inl (slt_snoc e)
end
section
open PySem PySem.Spec PyProof.Rows L2
/-! ### sorted is the same for the same members -/
end
end VL


set_option maxRecDepth 100000
set_option maxHeartbeats 2000000
namespace VL
open PySem PySem.Spec PyProof.Rows L2
section
variable {X : Cx} {U : WX} {pos p : Pos} {x : Str} {k : Nat} {ps : List Str}
end
end VL


set_option maxRecDepth 100000
set_option maxHeartbeats 2000000
namespace VL
open PySem PySem.Spec PyProof.Rows L2
/-! ### a search layer by layer, in general -/
section
variable {S : Type} [DecidableEq S]
/-- what is known while p is worked on -/
structure Bg (nx : S → Int → S) (cs : List Int) (one : S) (St : S → Prop) (N : Nat) (F more : List (S × List Int)) (p : S × List Int) : Prop where
  pm : p ∈ F
  nd : (F.map (·.1)).Nodup
  row : rowA F p.1 = some p.2
  st : ∀ q ∈ F, St q.1
  len : F.length ≤ N
  ln : p.2.length < F.length
  ml : more.length ≤ F.length
  ok : (∀ k ∈ p.2, k ∈ cs) ∧ p.2.foldl nx one = p.1
structure Bfs (nx : S → Int → S) (cs : List Int) (one : S) (St : S → Prop) (N : Nat) (tc tp : S → Bool) {J1 J2 J3 : Type} (gi go : XG) (tbi tbo : XS) (cb : XB) (tb : XS) (it : S × List Int → Int → Dt) (itp : S × List Int → Dt)
    (E1 : List (S × List Int) → List (S × List Int) → S × List Int → J1 → Nv) (E2 : List (S × List Int) → List (S × List Int) → J2 → Nv) (E3 : List (S × List Int) → List (S × List Int) → J3 → Nv) (rc rp : List Int → VL.W) : Prop where
  up : cs.Pairwise (· < ·)
  st0 : St one
  st : ∀ s k, St s → tp s = false → k ∈ cs → tc (nx s k) = false → St (nx s k)
  fin : ∀ ks : List S, ks.Nodup → (∀ s ∈ ks, St s) → ks.length ≤ N
  hit : ∀ F more p k j, Bg nx cs one St N F more p → k ∈ cs → tc (nx p.1 k) = true → turnT gi tbi (it p k) (E1 F more p j) = .ret (.rt (rc (p.2 ++ [k])))
  old : ∀ F more p k j, Bg nx cs one St N F more p → k ∈ cs → tc (nx p.1 k) = false → nx p.1 k ∈ F.map (·.1) → ∃ j', turnT gi tbi (it p k) (E1 F more p j) = .ret (.ct (E1 F more p j'))
  new : ∀ F more p k j, Bg nx cs one St N F more p → k ∈ cs → tc (nx p.1 k) = false → nx p.1 k ∉ F.map (·.1) → ∃ j', turnT gi tbi (it p k) (E1 F more p j) = .ret (.ct (E1 (F ++ [(nx p.1 k, p.2 ++ [k])]) (more ++ [(nx p.1 k, p.2 ++ [k])]) p j'))
  pop : ∀ F more p j, Bg nx cs one St N F more p → tp p.1 = true → turnT go tbo (itp p) (E2 F more j) = .ret (.rt (rp p.2))
  lay : ∀ F more p j, Bg nx cs one St N F more p → tp p.1 = false → ∃ j1, (∀ w, forT gi tbi (cs.map (it p)) (E1 F more p j1) = .ret (.rt w) → turnT go tbo (itp p) (E2 F more j) = .ret (.rt w)) ∧ (∀ F' more' j2, forT gi tbi (cs.map (it p)) (E1 F more p j1) = .ret (.nx (E1 F' more' p j2)) → ∃ j', turnT go tbo (itp p) (E2 F more j) = .ret (.ct (E2 F' more' j')))
  out0 : ∀ F j f, whN cb tb (f + 1) (E3 F [] j) = .ret (.nx (E3 F [] j))
  out1 : ∀ F ps j f, ps ≠ [] → ps.length ≤ N → ∃ j1, (∀ w, forT go tbo (ps.map itp) (E2 F [] j1) = .ret (.rt w) → whN cb tb (f + 1) (E3 F ps j) = .ret (.rt w)) ∧ (∀ F' more' j2, more'.length ≤ N → forT go tbo (ps.map itp) (E2 F [] j1) = .ret (.nx (E2 F' more' j2)) → ∃ j', whN cb tb (f + 1) (E3 F ps j) = whN cb tb f (E3 F' more' j'))
variable {nx : S → Int → S} {cs : List Int} {one : S} {St : S → Prop} {N : Nat} {tc tp : S → Bool} {J1 J2 J3 : Type} {gi go : XG} {tbi tbo : XS} {cb : XB} {tb : XS} {it : S × List Int → Int → Dt} {itp : S × List Int → Dt} {E1 : List (S × List Int) → List (S × List Int) → S × List Int → J1 → Nv} {E2 : List (S × List Int) → List (S × List Int) → J2 → Nv} {E3 : List (S × List Int) → List (S × List Int) → J3 → Nv} {rc rp : List Int → VL.W}
theorem up_split {cs dn ks : List Int} {k : Int} (hu : cs.Pairwise (· < ·)) (h : cs = dn ++ k :: ks) : (∀ j ∈ dn, j < k) ∧ k ∈ cs := by
  subst h
  rw [List.pairwise_append] at hu
  exact ⟨fun j hj => hu.2.2 j hj k (by simp), by simp⟩
theorem Bfs.small (B : Bfs nx cs one St N tc tp gi go tbi tbo cb tb it itp E1 E2 E3 rc rp) {F : List (S × List Int)} (nd : (F.map (·.1)).Nodup) (st : ∀ q ∈ F, St q.1) : F.length ≤ N := by
  have := B.fin _ nd fun s hs => by obtain ⟨q, hq, rfl⟩ := List.mem_map.mp hs; exact st q hq
  rwa [List.length_map] at this
theorem Prt.bg (B : Bfs nx cs one St N tc tp gi go tbi tbo cb tb it itp E1 E2 E3 rc rp) {F more : List (S × List Int)} {at_ : Nat} {p : S × List Int} {dn : List Int} (h : Prt nx cs one F at_ p dn) (st : ∀ q ∈ F, St q.1) (ml : more.length ≤ F.length) : Bg nx cs one St N F more p :=
  have hpm : p ∈ F := List.mem_of_getElem? h.hp
  ⟨hpm, h.nd, (rowA_some h.nd).mpr hpm, st, B.small h.nd st, h.ln p hpm, ml, h.ok p hpm⟩
theorem Bfs.inner (B : Bfs nx cs one St N tc tp gi go tbi tbo cb tb it itp E1 E2 E3 rc rp) : ∀ (ks dn : List Int) (F more : List (S × List Int)) (at_ : Nat) (p : S × List Int) (j : J1), Prt nx cs one F at_ p dn → (∀ q ∈ F, St q.1) → more.length ≤ F.length → cs = dn ++ ks → tp p.1 = false → (∀ i q, i < at_ → F[i]? = some q → ∀ j ∈ cs, tc (nx q.1 j) = false) → (∀ j ∈ dn, tc (nx p.1 j) = false) →
    (∃ r, Fst1 nx cs one tc (some r) ∧ r.length ≤ N ∧ forT gi tbi (ks.map (it p)) (E1 F more p j) = .ret (.rt (rc r))) ∨
    ∃ new j', Prt nx cs one (F ++ new) at_ p cs ∧ (∀ q ∈ F ++ new, St q.1) ∧ (more ++ new).length ≤ (F ++ new).length ∧ (∀ j ∈ cs, tc (nx p.1 j) = false) ∧ forT gi tbi (ks.map (it p)) (E1 F more p j) = .ret (.nx (E1 (F ++ new) (more ++ new) p j')) := by
  intro ks
  induction ks with
  | nil => intro dn F more at_ p j hp hq hml hc htp n1 n2; rw [List.append_nil] at hc; exact .inr ⟨[], j, by rw [List.append_nil]; exact hc ▸ hp, by rw [List.append_nil]; exact hq, by rw [List.append_nil, List.append_nil]; exact hml, hc ▸ n2, by rw [List.append_nil, List.append_nil]; rfl⟩
  | cons k ks ih =>
    intro dn F more at_ p j hp hq hml hc htp n1 n2
    obtain ⟨hlt, hkc⟩ := up_split B.up hc
    have hb := hp.bg B hq hml
    rw [List.map_cons, for_turn]
    cases hap : tc (nx p.1 k) with
    | true =>
      rw [B.hit F more p k j hb hkc hap, bd_ret]
      exact .inl ⟨p.2 ++ [k], hp.fst1 hc B.up n1 n2 hap, by have := hb.ln; have := hb.len; rw [List.length_append, List.length_singleton]; omega, rfl⟩
    | false =>
      have n2' : ∀ j ∈ dn ++ [k], tc (nx p.1 j) = false := fun j hj => by
        rcases List.mem_append.mp hj with z | z
        · exact n2 j z
        · rw [List.mem_singleton.mp z]; exact hap
      by_cases hin : nx p.1 k ∈ F.map (·.1)
      · obtain ⟨j', e⟩ := B.old F more p k j hb hkc hap hin
        rw [e, bd_ret]
        exact ih (dn ++ [k]) F more at_ p j' (hp.old hin hlt) hq hml (by rw [hc, List.append_assoc]; rfl) htp n1 n2'
      · obtain ⟨j', e⟩ := B.new F more p k j hb hkc hap hin
        rw [e, bd_ret]
        have lst : ∀ (i : Nat) (q : S × List Int), i < at_ → (F ++ [(nx p.1 k, p.2 ++ [k])])[i]? = some q → F[i]? = some q := fun i q hi e => by
          rw [List.getElem?_append_left (Nat.lt_trans hi (List.getElem?_eq_some_iff.mp hp.hp).1)] at e; exact e
        rcases ih (dn ++ [k]) (F ++ [(nx p.1 k, p.2 ++ [k])]) (more ++ [(nx p.1 k, p.2 ++ [k])]) at_ p j' (hp.new hkc hin hlt) (fun q hq' => by
          rcases List.mem_append.mp hq' with z | z
          · exact hq q z
          · rw [List.mem_singleton.mp z]; exact B.st _ _ (hq p hb.pm) htp hkc hap) (by simp only [List.length_append, List.length_singleton]; omega) (by rw [hc, List.append_assoc]; rfl) htp (fun i q hi e => n1 i q hi (lst i q hi e)) n2' with ⟨r, a1, a2, a3⟩ | ⟨new, j2, a1, a2, a3, a4, a5⟩
        · exact .inl ⟨r, a1, a2, a3⟩
        · have e1 : F ++ [(nx p.1 k, p.2 ++ [k])] ++ new = F ++ ((nx p.1 k, p.2 ++ [k]) :: new) := by rw [List.append_assoc]; rfl
          have e2 : more ++ [(nx p.1 k, p.2 ++ [k])] ++ new = more ++ ((nx p.1 k, p.2 ++ [k]) :: new) := by rw [List.append_assoc]; rfl
          rw [e1] at a1 a2 a3 a5
          rw [e2] at a3 a5
          exact .inr ⟨_, j2, a1, a2, a3, a4, a5⟩
theorem Bfs.layer (B : Bfs nx cs one St N tc tp gi go tbi tbo cb tb it itp E1 E2 E3 rc rp) : ∀ (ps pre more : List (S × List Int)) (j : J2), Que nx cs one (pre ++ ps ++ more) pre.length → (∀ q ∈ pre ++ ps ++ more, St q.1) → (∀ q ∈ pre, ∀ j ∈ cs, tc (nx q.1 j) = false) → (∀ q ∈ pre, tp q.1 = false) →
    (∃ r, Fst1 nx cs one tc (some r) ∧ r.length ≤ N ∧ forT go tbo (ps.map itp) (E2 (pre ++ ps ++ more) more j) = .ret (.rt (rc r))) ∨
    (∃ r, Fst nx cs one tp (some r) ∧ r.length ≤ N ∧ forT go tbo (ps.map itp) (E2 (pre ++ ps ++ more) more j) = .ret (.rt (rp r))) ∨
    ∃ new j', Que nx cs one (pre ++ ps ++ new) (pre ++ ps).length ∧ (∀ q ∈ pre ++ ps ++ new, St q.1) ∧ (∀ q ∈ pre ++ ps, ∀ j ∈ cs, tc (nx q.1 j) = false) ∧ (∀ q ∈ pre ++ ps, tp q.1 = false) ∧ forT go tbo (ps.map itp) (E2 (pre ++ ps ++ more) more j) = .ret (.nx (E2 (pre ++ ps ++ new) new j')) := by
  intro ps
  induction ps with
  | nil => intro pre more j hQ hq hf hg; exact .inr (.inr ⟨more, j, by rw [List.append_nil] at hQ ⊢; exact hQ, hq, by rw [List.append_nil]; exact hf, by rw [List.append_nil]; exact hg, rfl⟩)
  | cons p ps ih =>
    intro pre more j hQ hq hf hg
    have hp : (pre ++ p :: ps ++ more)[pre.length]? = some p := by simp
    have hml : more.length ≤ (pre ++ p :: ps ++ more).length := by simp only [List.length_append]; omega
    have n0 : ∀ (i : Nat) (q : S × List Int), i < pre.length → (pre ++ p :: ps ++ more)[i]? = some q → q ∈ pre := fun i q hi e => by
      rw [List.append_assoc, List.getElem?_append_left hi] at e
      exact List.mem_of_getElem? e
    have hP := hQ.prt hp
    have hb := hP.bg B hq hml
    rw [List.map_cons, for_turn]
    cases htp : tp p.1 with
    | true =>
      rw [B.pop _ _ _ j hb htp, bd_ret]
      exact .inr (.inl ⟨p.2, hQ.fst hp htp fun i q hi e => hg q (n0 i q hi e), by have := hb.ln; have := hb.len; omega, rfl⟩)
    | false =>
      obtain ⟨j1, l1, l2⟩ := B.lay _ _ _ j hb htp
      rcases B.inner cs [] _ more pre.length p j1 hP hq hml rfl htp (fun i q hi e => hf q (n0 i q hi e)) (fun j hj => by cases hj) with ⟨r, a1, a2, a3⟩ | ⟨new, j2, a1, a2, a3, a4, a5⟩
      · rw [l1 _ a3, bd_ret]
        exact .inl ⟨r, a1, a2, rfl⟩
      · obtain ⟨j3, e⟩ := l2 _ _ _ a5
        rw [e, bd_ret]
        have eF : pre ++ p :: ps ++ more ++ new = (pre ++ [p]) ++ ps ++ (more ++ new) := by simp
        have eG : (pre ++ [p]) ++ ps = pre ++ p :: ps := by simp
        have hQ' := a1.done
        rw [eF] at hQ' a2
        have ihh := ih (pre ++ [p]) (more ++ new) j3 (by rw [List.length_append, List.length_singleton]; exact hQ') a2 (fun q hq' => by
          rcases List.mem_append.mp hq' with z | z
          · exact hf q z
          · rw [List.mem_singleton.mp z]; exact a4) (fun q hq' => by
          rcases List.mem_append.mp hq' with z | z
          · exact hg q z
          · rw [List.mem_singleton.mp z]; exact htp)
        rw [eG] at ihh
        rw [eF, eG]
        exact ihh
theorem Bfs.outer (B : Bfs nx cs one St N tc tp gi go tbi tbo cb tb it itp E1 E2 E3 rc rp) : ∀ (m f : Nat) (pre ps : List (S × List Int)) (j : J3), Que nx cs one (pre ++ ps) pre.length → (∀ q ∈ pre ++ ps, St q.1) → (∀ q ∈ pre, ∀ j ∈ cs, tc (nx q.1 j) = false) → (∀ q ∈ pre, tp q.1 = false) → N - pre.length ≤ m → m < f →
    (∃ r, Fst1 nx cs one tc (some r) ∧ r.length ≤ N ∧ whN cb tb f (E3 (pre ++ ps) ps j) = .ret (.rt (rc r))) ∨
    (∃ r, Fst nx cs one tp (some r) ∧ r.length ≤ N ∧ whN cb tb f (E3 (pre ++ ps) ps j) = .ret (.rt (rp r))) ∨
    ∃ F j', Que nx cs one F F.length ∧ (∀ q ∈ F, St q.1) ∧ (∀ q ∈ F, ∀ j ∈ cs, tc (nx q.1 j) = false) ∧ (∀ q ∈ F, tp q.1 = false) ∧ F.length ≤ N ∧ whN cb tb f (E3 (pre ++ ps) ps j) = .ret (.nx (E3 F [] j')) := by
  intro m
  induction m with
  | zero =>
    intro f pre ps j hQ hq hf hg hm0 hff
    obtain ⟨f, rfl⟩ : ∃ g, f = g + 1 := ⟨f - 1, by omega⟩
    have hl2 := B.small hQ.nd hq
    have e : ps = [] := List.length_eq_zero_iff.mp (by rw [List.length_append] at hl2; omega)
    subst e
    rw [List.append_nil] at hQ hq hl2 ⊢
    exact .inr (.inr ⟨pre, j, hQ, hq, hf, hg, hl2, B.out0 pre j f⟩)
  | succ m ih =>
    intro f pre ps j hQ hq hf hg hm0 hff
    obtain ⟨f, rfl⟩ : ∃ g, f = g + 1 := ⟨f - 1, by omega⟩
    have hl2 := B.small hQ.nd hq
    by_cases e : ps = []
    · subst e
      rw [List.append_nil] at hQ hq hl2 ⊢
      exact .inr (.inr ⟨pre, j, hQ, hq, hf, hg, hl2, B.out0 pre j f⟩)
    · have pp : 1 ≤ ps.length := by
        cases ps with
        | nil => exact absurd rfl e
        | cons a b => simp
      obtain ⟨j1, o1, o2⟩ := B.out1 (pre ++ ps) ps j f e (by rw [List.length_append] at hl2; omega)
      have ly := B.layer ps pre [] j1 (by rw [List.append_nil]; exact hQ) (by rw [List.append_nil]; exact hq) hf hg
      rw [List.append_nil] at ly
      rcases ly with ⟨r, a1, a2, a3⟩ | ⟨r, a1, a2, a3⟩ | ⟨new, j2, a1, a2, a3, a4, a5⟩
      · exact .inl ⟨r, a1, a2, o1 _ a3⟩
      · exact .inr (.inl ⟨r, a1, a2, o1 _ a3⟩)
      · have hn := B.small a1.nd a2
        obtain ⟨j3, e3⟩ := o2 _ _ _ (by rw [List.length_append] at hn; omega) a5
        rw [e3]
        exact ih f (pre ++ ps) new j3 a1 a2 a3 a4 (by rw [List.length_append]; omega) (by omega)
theorem Bfs.run (B : Bfs nx cs one St N tc tp gi go tbi tbo cb tb it itp E1 E2 E3 rc rp) {f : Nat} (hf : N < f) (j : J3) :
    (∃ r, Fst1 nx cs one tc (some r) ∧ r.length ≤ N ∧ whN cb tb f (E3 [(one, [])] [(one, [])] j) = .ret (.rt (rc r))) ∨
    (∃ r, Fst nx cs one tp (some r) ∧ r.length ≤ N ∧ whN cb tb f (E3 [(one, [])] [(one, [])] j) = .ret (.rt (rp r))) ∨
    ∃ F j', Que nx cs one F F.length ∧ (∀ q ∈ F, St q.1) ∧ (∀ q ∈ F, ∀ j ∈ cs, tc (nx q.1 j) = false) ∧ (∀ q ∈ F, tp q.1 = false) ∧ F.length ≤ N ∧ whN cb tb f (E3 [(one, [])] [(one, [])] j) = .ret (.nx (E3 F [] j')) :=
  B.outer N f [] [(one, [])] j (Que.one one) (fun q hq => by rw [List.nil_append, List.mem_singleton] at hq; rw [hq]; exact B.st0) (fun q hq => by cases hq) (fun q hq => by cases hq) (by simp) hf
end
/-! ### the first of the shortest rows, seen otherwise -/
section
variable {S S' : Type} [DecidableEq S] [DecidableEq S'] {nx : S → Int → S} {nx' : S' → Int → S'} {cs : List Int} {one : S} {one' : S'} {T : S → Bool} {T' : S' → Bool}
theorem Fst.conv {o : Option (List Int)} (h : Fst nx cs one T o) (e : ∀ r : List Int, (∀ k ∈ r, k ∈ cs) → T (r.foldl nx one) = T' (r.foldl nx' one')) : Fst nx' cs one' T' o := by
  cases o with
  | none => exact fun r hr => by rw [← e r hr]; exact h r hr
  | some r => exact ⟨h.1, by rw [← e r h.1]; exact h.2.1, fun r' hr' ht => h.2.2 r' hr' (by rw [e r' hr']; exact ht)⟩
theorem Fst1.fst {o : Option (List Int)} (h : Fst1 nx cs one T o) (h0 : T one = false) : Fst nx cs one T o := by
  have ne : ∀ r : List Int, T (r.foldl nx one) = true → r ≠ [] := fun r hr e => by
    subst e
    rw [List.foldl_nil, h0] at hr
    cases hr
  cases o with
  | none =>
    intro r hr
    by_cases e : r = []
    · subst e; exact h0
    · exact h r e hr
  | some r => exact ⟨h.2.1, h.2.2.1, fun r' hr' ht => h.2.2.2 r' (ne r' ht) hr' ht⟩
end
end VL


set_option maxRecDepth 100000
set_option maxHeartbeats 2000000
namespace VL
open PySem PySem.Spec PyProof.Rows L2
/-! ### two targets of which a name is shared: the tuple is made -/
section
variable {K : PySem.W.Frag} {C : Ct} {σ : L2.St} {ρ : Nv} {n : Nat} {G O H G' H' : Hp}
theorem FrW.pure {w : W} {v : V} (f : FrW K C σ ρ G O w v) (I : Io C n G O H) (sg : Same G G') (nw : New G H G') : FrW K C σ ρ G' (grow O H H') w v := by
  obtain ⟨F, fp, S, r, ap⟩ := f
  refine ⟨F, fp, S.pure I sg nw, r.see ⟨sg, fun b hb => ?_⟩ rfl, ap⟩
  obtain ⟨o, w, _⟩ := r.ow b hb
  have hh := I.oH _ _ w.o
  refine ⟨grow_old hh, ?_, w.h0⟩
  cases z : G' b with
  | none => rfl
  | some u =>
    rcases nw b u z with y | y
    · rw [w.g] at y; cases y
    · rw [hh] at y; cases y
end
section
variable {X : Cx} {U : WX} {a b : Expr} {ta tb : XW'} {pos : Pos}
end
end VL


set_option maxRecDepth 100000
set_option maxHeartbeats 2000000
namespace VL
open PySem PySem.Spec PyProof.Rows L2
/-! ### {k: v for ..} with keys of any kind -/
section
variable {X : Cx}
end
end VL


set_option maxRecDepth 100000
set_option maxHeartbeats 2000000
namespace VL
open PySem PySem.Spec PyProof.Rows L2
/-! ### a new entry in a dict of one's own that no name has -/
section
variable {K : PySem.W.Frag} {C : Ct} {σ : L2.St} {ρ : Nv} {n n' : Nat} {G O H G' O' H' : Hp} {F : Nat → List Addr} {fp : List Addr} {w : W} {v : V}
theorem DCs.snoc {es : List (NestedKey × Addr × V)} {kvs : List (Dt × Cl)} {fps : List Addr} {k : NestedKey} {b : Addr} {kd : Dt} {c : Cl} {f2 : List Addr} (rk : DR K G (.ref b) kd) (hk : keyOf kd = some k) (rc : RelC K C G O c v f2) : DCs K C G O es kvs fps → (∀ x ∈ fps, x ∉ f2) → DCs K C G O (es ++ [(k, b, v)]) (kvs ++ [(kd, c)]) (fps ++ f2) := by
  intro r
  induction r with
  | nil =>
    intro _
    have := DCs.cons (fps := []) rk hk rc (fun x _ q => by cases q) .nil
    rw [List.append_nil] at this
    exact this
  | @cons k' b' v' kd' c' fp fps es kvs a h1 h2 h3 r ih =>
    intro ap
    rw [List.append_assoc]
    exact DCs.cons a h1 h2 (fun x hx q => by
      rcases List.mem_append.mp q with q | q
      · exact h3 x hx q
      · exact ap x (List.mem_append_left _ hx) q) (ih fun x hx => ap x (List.mem_append_right _ hx))
end
section
variable {K : PySem.W.Frag} {C : Ct} {σ : L2.St} {ρ : Nv} {n : Nat} {G O H : Hp}
end
section
variable {K : PySem.W.Frag} {U : WX} {ti : XA} {g : XG} {gh : TG} {xt : XB} {tk : XT} {tv : XW'} {vs : List Nat}
end
section
variable {X : Cx} {U : WX} {ek ev tg src : Expr} {conds : List Expr} {sc : Scope} {mine : List (Str × Nat)} {p1 p3 : Pos} {ti : XA} {g : XG} {gh : TG} {xt : XB} {tk : XT} {tv : XW'}
end
end VL


set_option maxRecDepth 100000
set_option maxHeartbeats 2000000
namespace VL
open PySem PySem.Spec PyProof.Rows L2
/-! ### lists that a dict of one's own holds -/
section
variable {K : PySem.W.Frag} {C : Ct} {σ : L2.St} {ρ : Nv} {n : Nat} {G O H : Hp}
end
/-- the list of a key -/
def putL (q : NestedKey) (ds : List Dt) : List (Dt × Cl) → List (Dt × Cl)
  | [] => []
  | p :: r => if keyOf p.1 = some q then (p.1, .l ds) :: r else p :: putL q ds r
section
variable {K : PySem.W.Frag} {C : Ct} {G O : Hp}
theorem DCs.cell {es : List (NestedKey × Addr × V)} {kvs : List (Dt × Cl)} {fps : List Addr} (r : DCs K C G O es kvs fps) {q : NestedKey} {ds : List Dt} : lkC kvs q = some (.l ds) →
    ∃ b a xs, atE es q = some (b, .ref a) ∧ a ∈ fps ∧ Ow C G O a (.lst xs) ∧ DRs K G xs ds ∧ ∀ (ys : List V) (ds' : List Dt), DRs K G ys ds' → DCs K C G (upd O a (.lst ys)) es (putL q ds' kvs) fps := by
  induction r with
  | nil => intro h; cases h
  | @cons k b v kd c f fs es kvs a h1 h2 h3 r ih =>
    intro h
    by_cases hq : k = q
    · subst hq
      have e1 : lkC ((kd, c) :: kvs) k = some c := by unfold lkC; rw [List.find?_cons]; simp [h1]
      rw [e1] at h
      cases h
      obtain ⟨a2, xs, rfl, rfl, ow, rs⟩ := h2
      refine ⟨b, a2, xs, by unfold atE; rw [List.find?_cons]; simp, by simp, ow, rs, fun ys ds' ry => ?_⟩
      have e2 : putL k ds' ((kd, .l ds) :: kvs) = (kd, .l ds') :: kvs := by unfold putL; rw [if_pos h1]
      rw [e2]
      refine DCs.cons (fp := [a2]) a h1 ⟨a2, ys, rfl, rfl, ⟨ow.g, ow.h0, upd_same⟩, ry⟩ h3 (r.see ⟨Same.refl _, fun x hx => ?_⟩)
      obtain ⟨o, w, _⟩ := r.ow x hx
      exact ⟨upd_ne fun z => h3 a2 (by simp) (z ▸ hx), w.g, w.h0⟩
    · have n1 : ¬ keyOf kd = some q := fun z => hq (by rw [h1] at z; exact Option.some.inj z)
      have e1 : lkC ((kd, c) :: kvs) q = lkC kvs q := by unfold lkC; rw [List.find?_cons]; simp [n1]
      rw [e1] at h
      obtain ⟨b2, a2, xs, i1, i2, i3, i4, i5⟩ := ih h
      refine ⟨b2, a2, xs, by unfold atE at i1 ⊢; rw [List.find?_cons]; simp [hq, i1], List.mem_append_right _ i2, i3, i4, fun ys ds' ry => ?_⟩
      have e2 : putL q ds' ((kd, c) :: kvs) = (kd, c) :: putL q ds' kvs := by
        conv => lhs; unfold putL
        rw [if_neg n1]
      rw [e2]
      refine DCs.cons a h1 (h2.see ⟨Same.refl _, fun x hx => ?_⟩) h3 (i5 ys ds' ry)
      obtain ⟨o, w, _⟩ := h2.ow x hx
      exact ⟨upd_ne fun z => h3 x hx (z ▸ i2), w.g, w.h0⟩
end
section
variable {X : Cx} {U : WX} {pos : Pos} {e : Expr}
end
end VL


set_option maxRecDepth 100000
set_option maxHeartbeats 2000000
namespace VL
open PySem PySem.Spec PyProof.Rows L2
section
variable {X : Cx} {U : WX} {a b c : Expr} {ta tb tc : XW'} {pos : Pos}
/-! ### three targets, the tuple made -/
end
/-! ### a list and a list, as a list of one's own -/
section
variable {X : Cx} {U : WX} {a b : Expr} {ta tb : XT} {pos : Pos}
end
/-! ### d[k] -= e -/
section
variable {X : Cx} {U : WX} {k e : Expr} {tk te : XT} {pos : Pos}
end
/-! ### a call that looks into a dict of one's own; what it tells is an integer -/
section
variable {X : Cx} {U : WX} {pos p : Pos} {x : Str} {k : Nat} {ps : List Str} {e : Expr} {te : XT}
end
end VL


set_option maxRecDepth 100000
set_option maxHeartbeats 2000000
namespace VL
open PySem PySem.Spec PyProof.Rows L2
/-! ### len(d) of a dict -/
section
variable {prog : Program} {w : World} {A : Around} {E : Value → Shared → Prop} {s : Shared}
end
section
variable {X : Cx} {U : WX} {pos p p2 : Pos} {x : Str}
end
/-! ### `k in d` as a value -/
section
variable {X : Cx} {U : WX} {a : Expr} {ta : XT} {pos : Pos}
end
end VL


set_option maxRecDepth 100000
set_option maxHeartbeats 2000000
namespace VL
/-! ### ranks: the least length of which all rows lead to `e` -/
section
variable {σ : Type} [DecidableEq σ] (nx : σ → Int → σ) (cs : List Int) (e : σ → Bool)
def topB : Nat → σ → Bool
  | 0, _ => false
  | n + 1, p => cs.all fun k => e (nx p k) || topB n (nx p k)
structure Rank (p : σ) (n : Nat) : Prop where
  top : topB nx cs e n p = true
  un : ∀ m, m < n → topB nx cs e m p = false
variable {nx cs e}
theorem topB_succ {n : Nat} {p : σ} (h : topB nx cs e n p = true) : topB nx cs e (n + 1) p = true := by
  induction n generalizing p with
  | zero => cases h
  | succ n ih =>
    refine List.all_eq_true.mpr fun k hk => ?_
    have := List.all_eq_true.mp h k hk
    cases z : e (nx p k) with
    | true => rfl
    | false =>
      rw [z, Bool.false_or] at this
      rw [Bool.false_or]
      exact ih this
theorem topB_le {n m : Nat} {p : σ} (h : topB nx cs e n p = true) (l : n ≤ m) : topB nx cs e m p = true := by
  induction l with
  | refl => exact h
  | step _ ih => exact topB_succ ih
theorem Rank.same {p : σ} {n m : Nat} (h : Rank nx cs e p n) (h' : Rank nx cs e p m) : n = m := by
  rcases Nat.lt_trichotomy n m with z | z | z
  · have := h'.un n z; rw [h.top] at this; cases this
  · exact z
  · have := h.un m z; rw [h'.top] at this; cases this
theorem Rank.of {n : Nat} {p : σ} (h : topB nx cs e n p = true) : ∃ m, m ≤ n ∧ Rank nx cs e p m := by
  induction n with
  | zero => cases h
  | succ n ih =>
    cases z : topB nx cs e n p with
    | true =>
      obtain ⟨m, l, r⟩ := ih z
      exact ⟨m, by omega, r⟩
    | false =>
      refine ⟨n + 1, Nat.le_refl _, h, fun m hm => ?_⟩
      cases y : topB nx cs e m p with
      | false => rfl
      | true =>
        rw [topB_le y (by omega)] at z
        cases z
theorem Rank.pos {p : σ} {n : Nat} (h : Rank nx cs e p n) : 1 ≤ n := by
  cases n with
  | zero => exact absurd h.top (by simp [topB])
  | succ n => omega
theorem Rank.le {p : σ} {n m : Nat} (h : Rank nx cs e p n) (t : topB nx cs e m p = true) : n ≤ m := by
  rcases Nat.lt_or_ge m n with z | z
  · rw [h.un m z] at t; cases t
  · exact z
/-- the rank of one of which the next are known -/
theorem Rank.next {p : σ} {f : σ → Nat} {M : Nat} (hf : ∀ k ∈ cs, e (nx p k) = false → Rank nx cs e (nx p k) (f (nx p k))) (hM : ∀ k ∈ cs, (if e (nx p k) = true then 0 else f (nx p k)) ≤ M)
    (hm : ∃ k ∈ cs, (if e (nx p k) = true then 0 else f (nx p k)) = M) : Rank nx cs e p (M + 1) := by
  refine ⟨List.all_eq_true.mpr fun k hk => ?_, fun m hm1 => ?_⟩
  · cases z : e (nx p k) with
    | true => rfl
    | false =>
      have l := hM k hk
      rw [z, if_neg (by simp)] at l
      rw [Bool.false_or]
      exact topB_le (hf k hk z).top l
  · cases m with
    | zero => rfl
    | succ m =>
      obtain ⟨k, hk, ek⟩ := hm
      cases z : e (nx p k) with
      | true =>
        rw [z, if_pos rfl] at ek
        omega
      | false =>
        rw [z, if_neg (by simp)] at ek
        have u := (hf k hk z).un m (by omega)
        cases y : topB nx cs e (m + 1) p with
        | false => rfl
        | true =>
          have := List.all_eq_true.mp y k hk
          rw [z, u] at this
          cases this
/-- what has always one of its own kind next has no rank -/
theorem no_rank {U : σ → Prop} (h : ∀ p, U p → ∃ k ∈ cs, e (nx p k) = false ∧ U (nx p k)) : ∀ (n : Nat) (p : σ), U p → topB nx cs e n p = false
  | 0, _, _ => rfl
  | n + 1, p, hp => by
    obtain ⟨k, hk, z, u⟩ := h p hp
    have := no_rank h n _ u
    cases y : topB nx cs e (n + 1) p with
    | false => rfl
    | true =>
      have w := List.all_eq_true.mp y k hk
      rw [z, this] at w
      cases w
end
/-! ### the search for ranks: from those all of whose next are ranked -/
section
variable {σ : Type} [DecidableEq σ] (nx : σ → Int → σ) (cs : List Int) (e : σ → Bool)
/-- the next that are not `e`, as often as they come -/
def nxt (p : σ) : List σ := (cs.filter fun k => !e (nx p k)).map (nx p)
/-- those behind which one stands, as often -/
def bhd : List σ → σ → List σ
  | [], _ => []
  | q :: ks, p => List.replicate ((nxt nx cs e q).count p) q ++ bhd ks p
/-- the next that have no rank yet -/
def wtg (R : List σ) (q : σ) : Nat := ((nxt nx cs e q).filter fun s => !decide (s ∈ R)).length
variable {nx cs e}
theorem mem_nxt {p q : σ} : q ∈ nxt nx cs e p ↔ ∃ k ∈ cs, nx p k = q ∧ e q = false := by
  unfold nxt
  rw [List.mem_map]
  constructor
  · rintro ⟨k, hk, rfl⟩
    obtain ⟨a, b⟩ := List.mem_filter.mp hk
    exact ⟨k, a, rfl, by simpa using b⟩
  · rintro ⟨k, hk, rfl, h⟩
    exact ⟨k, List.mem_filter.mpr ⟨hk, by simp [h]⟩, rfl⟩
theorem bhd_mem {ks : List σ} {p q : σ} (h : q ∈ bhd nx cs e ks p) : q ∈ ks ∧ p ∈ nxt nx cs e q := by
  induction ks with
  | nil => cases h
  | cons a ks ih =>
    rcases List.mem_append.mp h with z | z
    · obtain ⟨y, rfl⟩ := List.mem_replicate.mp z
      exact ⟨by simp, List.count_pos_iff.mp (by omega)⟩
    · obtain ⟨x, y⟩ := ih z
      exact ⟨List.mem_cons_of_mem _ x, y⟩
theorem bhd_count {ks : List σ} (nd : ks.Nodup) {p q : σ} (hq : q ∈ ks) : (bhd nx cs e ks p).count q = (nxt nx cs e q).count p := by
  induction ks with
  | nil => cases hq
  | cons a ks ih =>
    rw [List.nodup_cons] at nd
    rw [bhd, List.count_append, List.count_replicate]
    by_cases z : a = q
    · subst z
      have : (bhd nx cs e ks p).count a = 0 := List.count_eq_zero.mpr fun h => nd.1 (bhd_mem h).1
      simp [this]
    · have hq' : q ∈ ks := by
        rcases List.mem_cons.mp hq with y | y
        · exact absurd y.symm z
        · exact y
      rw [ih nd.2 hq']
      simp [z]
theorem filt_one {L R : List σ} {p : σ} (hp : p ∉ R) : (L.filter fun s => !decide (s ∈ R)).length = (L.filter fun s => !decide (s ∈ R ++ [p])).length + L.count p := by
  induction L with
  | nil => rfl
  | cons a L ih =>
    by_cases z : a = p
    · subst z
      have h1 : (!decide (a ∈ R)) = true := by simp [hp]
      have h2 : (!decide (a ∈ R ++ [a])) = false := by simp
      simp only [List.filter_cons, h1, h2, if_true, Bool.false_eq_true, if_false, List.length_cons, ih, List.count_cons_self]
      omega
    · rw [List.count_cons_of_ne z]
      by_cases y : a ∈ R
      · have h1 : (!decide (a ∈ R)) = false := by simp [y]
        have h2 : (!decide (a ∈ R ++ [p])) = false := by simp [y]
        simp only [List.filter_cons, h1, h2, Bool.false_eq_true, if_false, ih]
      · have h1 : (!decide (a ∈ R)) = true := by simp [y]
        have h2 : (!decide (a ∈ R ++ [p])) = true := by simp [y, z]
        simp only [List.filter_cons, h1, h2, if_true, List.length_cons, ih]
        omega
theorem wtg_one {R : List σ} {p : σ} (hp : p ∉ R) (q : σ) : wtg nx cs e R q = wtg nx cs e (R ++ [p]) q + (nxt nx cs e q).count p := filt_one hp
theorem wtg_zero {R : List σ} {q : σ} : wtg nx cs e R q = 0 ↔ ∀ s ∈ nxt nx cs e q, s ∈ R := by
  unfold wtg
  rw [List.length_eq_zero_iff, List.filter_eq_nil_iff]
  constructor
  · intro h s hs
    simpa using h s hs
  · intro h s hs
    simpa using h s hs
variable (nx cs e)
/-- ahead of a turn: all that can be ranked is in the list -/
structure RkI (ks R td : List σ) : Prop where
  nd : R.Nodup
  sub : ∀ p ∈ R, p ∈ ks
  cl : ∀ p ∈ R, ∀ s ∈ nxt nx cs e p, s ∈ R
  td1 : td.Nodup
  td2 : ∀ q, q ∈ td ↔ q ∈ ks ∧ q ∉ R ∧ wtg nx cs e R q = 0
/-- within a turn: `done` of those behind p are counted off -/
structure RkJ (ks R td0 td dn : List σ) : Prop where
  nd : td.Nodup
  mem : ∀ q, q ∈ td ↔ q ∈ td0 ∨ (0 < wtg nx cs e R q ∧ wtg nx cs e R q = dn.count q)
variable {nx cs e}
/-- the rest after one more is counted off -/
theorem RkJ.step {ks R td0 td dn : List σ} {q : σ} (J : RkJ nx cs e ks R td0 td dn) (h0 : ∀ s ∈ td0, wtg nx cs e R s = 0) (hc : dn.count q < wtg nx cs e R q) :
    RkJ nx cs e ks R td0 (if wtg nx cs e R q - (dn ++ [q]).count q = 0 then td ++ [q] else td) (dn ++ [q]) := by
  have cq : (dn ++ [q]).count q = dn.count q + 1 := by rw [List.count_append]; simp
  have co : ∀ s, s ≠ q → (dn ++ [q]).count s = dn.count s := fun s hs => by
    rw [List.count_append, List.count_singleton]
    have : (q == s) = false := by simpa using fun z => hs z.symm
    rw [this]; simp
  have nq : q ∉ td := fun h => by
    rcases (J.mem q).mp h with z | ⟨_, z⟩
    · have := h0 q z; omega
    · omega
  rw [cq]
  by_cases z : wtg nx cs e R q - (dn.count q + 1) = 0
  · rw [if_pos z]
    refine ⟨?_, fun s => ?_⟩
    · rw [List.nodup_append]
      exact ⟨J.nd, by simp, fun a ha b hb => by rw [List.mem_singleton.mp hb]; exact fun y => nq (y ▸ ha)⟩
    · rw [List.mem_append, List.mem_singleton, J.mem s]
      by_cases y : s = q
      · subst y
        rw [cq]
        exact ⟨fun _ => .inr ⟨by omega, by omega⟩, fun _ => .inr rfl⟩
      · rw [co s y]
        exact ⟨fun h => h.elim id fun u => absurd u y, .inl⟩
  · rw [if_neg z]
    refine ⟨J.nd, fun s => ?_⟩
    rw [J.mem s]
    by_cases y : s = q
    · subst y
      rw [cq]
      constructor
      · rintro (u | u)
        · exact .inl u
        · omega
      · rintro (u | u)
        · exact .inl u
        · omega
    · rw [co s y]
/-- the end of a turn -/
theorem RkJ.done {ks R td0 td : List σ} {p : σ} (nk : ks.Nodup) (I : RkI nx cs e ks R (td0 ++ [p])) (J : RkJ nx cs e ks R td0 td (bhd nx cs e ks p)) : RkI nx cs e ks (R ++ [p]) td := by
  have hp := (I.td2 p).mp (by simp)
  have n := I.td1
  rw [List.nodup_append] at n
  have pn : p ∉ td0 := fun h => n.2.2 p h p (by simp) rfl
  refine ⟨?_, fun q hq => ?_, fun q hq s hs => ?_, J.nd, fun q => ?_⟩
  · rw [List.nodup_append]
    exact ⟨I.nd, by simp, fun a ha b hb => by rw [List.mem_singleton.mp hb]; exact fun y => hp.2.1 (y ▸ ha)⟩
  · rcases List.mem_append.mp hq with z | z
    · exact I.sub q z
    · rw [List.mem_singleton.mp z]; exact hp.1
  · rcases List.mem_append.mp hq with z | z
    · exact List.mem_append_left _ (I.cl q z s hs)
    · rw [List.mem_singleton.mp z] at hs
      exact List.mem_append_left _ (wtg_zero.mp hp.2.2 s hs)
  · have w := wtg_one (nx := nx) (cs := cs) (e := e) hp.2.1 q
    rw [J.mem q]
    constructor
    · rintro (h | ⟨h1, h2⟩)
      · have a := (I.td2 q).mp (List.mem_append_left _ h)
        refine ⟨a.1, fun y => ?_, by omega⟩
        rcases List.mem_append.mp y with y | y
        · exact a.2.1 y
        · rw [List.mem_singleton.mp y] at h
          exact pn h
      · have hb : q ∈ bhd nx cs e ks p := List.count_pos_iff.mp (by omega)
        have a := bhd_mem hb
        rw [bhd_count nk a.1] at h2
        refine ⟨a.1, fun y => ?_, by omega⟩
        rcases List.mem_append.mp y with y | y
        · have := wtg_zero.mpr (I.cl q y); omega
        · rw [List.mem_singleton.mp y] at h1; omega
    · rintro ⟨a, b, c⟩
      have b1 : q ∉ R := fun z => b (List.mem_append_left _ z)
      have b2 : q ≠ p := fun z => b (by rw [z]; simp)
      rcases Nat.eq_zero_or_pos (wtg nx cs e R q) with z | z
      · have := (I.td2 q).mpr ⟨a, b1, z⟩
        rcases List.mem_append.mp this with y | y
        · exact .inl y
        · exact absurd (List.mem_singleton.mp y) b2
      · exact .inr ⟨z, by rw [bhd_count nk a]; omega⟩
/-- at the end: what is not ranked has no rank -/
theorem RkI.rest {ks R : List σ} (I : RkI nx cs e ks R []) (clo : ∀ p ∈ ks, ∀ k ∈ cs, e (nx p k) = false → nx p k ∈ ks) : ∀ (n : Nat) (p : σ), p ∈ ks ∧ p ∉ R → topB nx cs e n p = false :=
  no_rank fun p ⟨h1, h2⟩ => by
    have : wtg nx cs e R p ≠ 0 := fun z => by
      have := (I.td2 p).mpr ⟨h1, h2, z⟩
      cases this
    have : ¬ ∀ s ∈ nxt nx cs e p, s ∈ R := fun z => this (wtg_zero.mpr z)
    obtain ⟨s, hs, ns⟩ : ∃ s, s ∈ nxt nx cs e p ∧ s ∉ R := Classical.byContradiction fun no => this fun s hs => Classical.byContradiction fun y => no ⟨s, hs, y⟩
    obtain ⟨k, hk, rfl, z⟩ := mem_nxt.mp hs
    exact ⟨k, hk, z, clo p h1 k hk z, ns⟩
end
end VL


set_option maxRecDepth 100000
set_option maxHeartbeats 2000000
namespace VL
open PySem PySem.Spec PyProof.Rows L2
/-! ### x + e: x a list of one's own, and so is what comes -/
section
variable {X : Cx} {U : WX} {b : Expr} {tb : XT} {pos : Pos}
end
end VL


set_option maxRecDepth 100000
set_option maxHeartbeats 2000000
namespace VL
open PySem PySem.Spec PyProof.Rows L2
/-! ### a comprehension's target of three names -/
end VL


set_option maxRecDepth 100000
set_option maxHeartbeats 2000000
namespace VL
open PySem PySem.Spec PyProof.Rows L2
/-! ### in, not in of a tuple of data of any depth -/
section
variable {X : Cx}
end
/-! ### int of a bool -/
def pIntB (ds : List Dt) : Option Dt := match ds with
  | [.bool b] => some (.int (if b then 1 else 0))
  | _ => none
theorem pIntB_b {b : Bool} : pIntB [.bool b] = some (.int (if b then 1 else 0)) := rfl
end VL


set_option maxRecDepth 100000
set_option maxHeartbeats 2000000
namespace VL
open PySem PySem.Spec PyProof.Rows L2
/-! ### repr of data in which empty dicts stand -/
mutual
def emD : Dt → Bool
  | .list ds => emDs ds
  | .tuple ds => emDs ds
  | .dict kvs => kvs.isEmpty
  | _ => true
def emDs : List Dt → Bool
  | [] => true
  | d :: ds => emD d && emDs ds
end
section
variable {X : Cx} {pins : List (Addr × Obj)} {σ : L2.St} {H : Hp} {s : Shared}
theorem dic_at (I : Inv X pins σ H s) {a : Addr} (h : H a = some (.dK [])) : ∃ o ep, s.heap.get? a = some o ∧ o.cls = .type "dict" ∧ o.data = .dict #[] ep ∧ (a == sysModules) = false := by
  obtain ⟨_, e, vs, kv, o, es, ep, h1, h2, h3, _, h4, _⟩ := (show ObjOk X.prog X.w H s.heap a (.dK []) from I.hok a _ h)
  cases kv
  have e0 : es.toList = [] := by
    cases z : es.toList with
    | nil => rfl
    | cons x l => rw [z] at h4; cases h4
  have e1 : es = #[] := by simpa using e0
  subst e1
  exact ⟨o, ep, h1, h2.1, h3, e⟩
mutual
theorem rk_of (I : Inv X pins σ H s) : ∀ (d : Dt) (v : V) (u : Value), DR X.K H v d → RelV v u → emD d = true → d.showable = true → d.shown.length ≤ sizeLine → ∃ as bs, Reads s.heap u d as ∧ ReadAtMost s.heap d.depth bs ∧ ReprK X.prog X.w bs s.heap d.depth u d.shown
  | .none, _, _, r, rv, _, _, _ => by
    cases r; cases rv
    exact ⟨[], [], .none, (fun _ h => nomatch h), by simp only [PyData.shown]; exact .of_is ReprIs.none _ _ _⟩
  | .bool b, _, _, r, rv, _, _, _ => by
    cases r; cases rv
    exact ⟨[], [], .bool b, (fun _ h => nomatch h), by simp only [PyData.shown]; exact .of_is (ReprIs.bool b) _ _ _⟩
  | .int i, _, _, r, rv, _, hs, _ => by
    cases r; obtain ⟨t, rfl⟩ := rv
    exact ⟨[], [], .int i t, (fun _ h => nomatch h), by simp only [PyData.shown]; exact .of_is (ReprIs.int t (by simpa [PyData.showable] using hs)) _ _ _⟩
  | .str x, _, _, r, rv, _, _, hz => by
    cases r; obtain ⟨t, rfl⟩ := rv
    exact ⟨[], [], .str x t, (fun _ h => nomatch h), by simp only [PyData.shown]; exact .of_is (ReprIs.str x t (by simpa only [PyData.shown] using hz)) _ _ _⟩
  | .list ds, _, _, r, rv, hem, hs, hz => by
    cases r with
    | lst ga rs =>
      cases rv
      obtain ⟨its, rv, ⟨o, n, h1, h2, _, h3⟩, _⟩ := I.list (SqL.of ga)
      have hz' : (listText (PyData.shownAll ds)).length ≤ sizeLine := by simpa only [PyData.shown] using hz
      obtain ⟨as, bs, ra, hb, hk⟩ := rka_of I ds _ its rs rv (by simpa [emD] using hem) (by simpa [PyData.showable] using hs) (fun t ht => Nat.le_trans (listText_mem_le ht) hz')
      have r : Reads s.heap (.ref _) (.list ds) _ := .list h1 h2 h3 (show ReadsAll s.heap its.toArray.toList ds as from ra)
      have hna : _ ∉ bs := not_mem_of_deeper r (by simp only [PyData.depth]; omega) hb
      refine ⟨_, _ :: bs, r, ReadAtMost.cons r (by simp only [PyData.depth]; omega) hb, ?_⟩
      simp only [PyData.depth, PyData.shown]
      cases its with
      | nil =>
        cases ra
        simp only [PyData.shownAll, listText_nil]
        exact ReprK.listEmpty h1 h2 h3
      | cons x l => exact ReprK.list h1 h2 h3 hna (by simpa using hk.length_eq) (fun i y e => hk.item i y (by simpa using e))
  | .tuple ds, _, _, r, rv, hem, hs, hz => by
    cases r with
    | tup ga rs =>
      cases rv
      obtain ⟨its, rv, ⟨o, h1, h2, n, h3⟩, _⟩ := I.tuple ga
      have hz' : (tupleText (PyData.shownAll ds)).length ≤ sizeLine := by simpa only [PyData.shown] using hz
      obtain ⟨as, bs, ra, hb, hk⟩ := rka_of I ds _ its rs rv (by simpa [emD] using hem) (by simpa [PyData.showable] using hs) (fun t ht => Nat.le_trans (tupleText_mem_le ht) hz')
      have r : Reads s.heap (.ref _) (.tuple ds) _ := .tuple h1 h2 h3 (show ReadsAll s.heap its.toArray.toList ds as from ra)
      have hna : _ ∉ bs := not_mem_of_deeper r (by simp only [PyData.depth]; omega) hb
      refine ⟨_, _ :: bs, r, ReadAtMost.cons r (by simp only [PyData.depth]; omega) hb, ?_⟩
      simp only [PyData.depth, PyData.shown]
      exact ReprK.tuple h1 h2 h3 hna (show ReprAllK X.prog X.w bs s.heap (PyData.depthAll ds) its.toArray.toList _ from hk)
  | .dict [], _, _, r, rv, _, hs, hz => by
    cases r with
    | dic ga =>
      cases rv
      obtain ⟨o, ep, h1, h2, h3, hsys⟩ := dic_at I ga
      have r : Reads s.heap (.ref _) (.dict []) _ := .dict h1 h2 h3 (show ReadsAll s.heap ((#[] : Array DictEntry).toList.map (·.key)) (([] : List (PyData × PyData)).map (·.1)) [] from .nil) (show ReadsAll s.heap ((#[] : Array DictEntry).toList.map (·.val)) (([] : List (PyData × PyData)).map (·.2)) [] from .nil)
      refine ⟨_, [_], r, ReadAtMost.cons r (Nat.le_refl _) (fun _ h => nomatch h), ?_⟩
      simp only [PyData.depth, PyData.shown, PyData.shownKv_eq]
      exact ReprK.dict h1 h2 h3 hsys (by simp) (ReprEntriesK.of_two [] _ _ .nil .nil)
  | .dict (_ :: _), _, _, _, _, hem, _, _ => by simp [emD] at hem
theorem rka_of (I : Inv X pins σ H s) : ∀ (ds : List Dt) (vs : List V) (us : List Value), DRs X.K H vs ds → Vals vs us → emDs ds = true → PyData.showableAll ds = true → (∀ t ∈ PyData.shownAll ds, t.length ≤ sizeLine) → ∃ as bs, ReadsAll s.heap us ds as ∧ ReadAtMost s.heap (PyData.depthAll ds) bs ∧ ReprAllK X.prog X.w bs s.heap (PyData.depthAll ds) us (PyData.shownAll ds)
  | [], _, _, r, rv, _, _, _ => by
    cases r; cases rv
    exact ⟨[], [], .nil, (fun _ h => nomatch h), by simp only [PyData.shownAll]; exact .nil⟩
  | d :: ds, _, _, r, rv, hem, hs, hz => by
    cases r with
    | cons r1 r2 =>
      cases rv with
      | cons v1 v2 =>
        have hem' : emD d = true ∧ emDs ds = true := by simpa [emDs] using hem
        have hs' : d.showable = true ∧ PyData.showableAll ds = true := by simpa [PyData.showableAll] using hs
        obtain ⟨a1, b1, ra1, hb1, k1⟩ := rk_of I d _ _ r1 v1 hem'.1 hs'.1 (hz _ (by simp only [PyData.shownAll]; exact List.mem_cons_self ..))
        obtain ⟨a2, b2, ra2, hb2, k2⟩ := rka_of I ds _ _ r2 v2 hem'.2 hs'.2 (fun t ht => hz t (by simp only [PyData.shownAll]; exact List.mem_cons_of_mem _ ht))
        refine ⟨a1 ++ a2, b1 ++ b2, .cons ra1 ra2, ?_, ?_⟩
        · intro b hm
          simp only [PyData.depthAll]
          rcases List.mem_append.mp hm with hm | hm
          · obtain ⟨d', as', r', hd'⟩ := hb1 b hm
            exact ⟨d', as', r', Nat.le_trans hd' (Nat.le_max_left _ _)⟩
          · obtain ⟨d', as', r', hd'⟩ := hb2 b hm
            exact ⟨d', as', r', Nat.le_trans hd' (Nat.le_max_right _ _)⟩
        · simp only [PyData.depthAll, PyData.shownAll]
          exact .cons ((k1.more fun b hb => List.mem_append_left _ hb).level_le (Nat.le_max_left _ _)) (k2.more_le (fun b hb => List.mem_append_right _ hb) (Nat.le_max_right _ _))
end
end
end VL


set_option maxRecDepth 100000
set_option maxHeartbeats 2000000
namespace VL
open PySem PySem.Spec PyProof.Rows L2
/-! ### repr of a list of one's own, which stays one's own -/
section
variable {X : Cx} {U : WX}
end
end VL


set_option maxRecDepth 100000
set_option maxHeartbeats 2000000
namespace VL
open PySem PySem.Spec PyProof.Rows L2
/-! ### a bool or a whole number, and a whole number -/
section
variable {X : Cx}
end
end VL


set_option maxRecDepth 100000
set_option maxHeartbeats 2000000
namespace VL
open PySem PySem.Spec PyProof.Rows L2
/-! ### texts: split, join, signs, numbers -/
section
variable {X : Cx} {U : WX} {o e : Expr} {to te : XT} {apos pos : Pos}
end
section
variable {X : Cx} {U : WX} {e tg : Expr} {te : XT}
end
/-! ### a text in a list of texts, a sign in a text -/
section
variable {X : Cx}
/-! ### int of a text, a text again and again -/
end
end VL


set_option maxRecDepth 100000
set_option maxHeartbeats 2000000
namespace VL
open PySem PySem.Spec PyProof.Rows L2
/-! ### f-strings -/
section
variable {X : Cx} {U : WX} {e : Expr} {te : XT} {pos : Pos}
inductive VJ (X : Cx) (U : WX) : List Expr → List XT → Prop where
  | nil : VJ X U [] []
  | cons {e : Expr} {t : XT} {es : List Expr} {ts : List XT} (h : VE X U e (S t)) (r : VJ X U es ts) : VJ X U (e :: es) (t :: ts)
end
/-! ### the last name takes what is left of a list -/
section
variable {prog : Program} {w : World} {A : Around} {E : Value → Shared → Prop} {s : Shared}
end
section
variable {X : Cx} {pos : Pos}
variable {U : WX} {e : Expr} {te : XT}
end
/-! ### a sign not in a text -/
end VL


set_option maxRecDepth 100000
set_option maxHeartbeats 2000000
namespace VL
open PySem PySem.Spec PyProof.Rows L2
/-! ### len of data, dicts too -/
section
variable {X : Cx}
end
end VL


set_option maxRecDepth 100000
set_option maxHeartbeats 2000000
namespace VL
open PySem PySem.Spec PyProof.Rows L2
/-! ### list of a dict that is data: its keys -/
section
variable {X : Cx}
end
end VL


set_option maxRecDepth 100000
set_option maxHeartbeats 2000000
namespace VL
open PySem PySem.Spec PyProof.Rows L2 PpSet
/-! ### {e for ..} of tuples of whole numbers -/
section
variable {X : Cx}
end
end VL


set_option maxRecDepth 100000
set_option maxHeartbeats 2000000
namespace VL
open PySem PySem.Spec PyProof.Rows L2 PpSet
/-! ### sorted of a set of pairs -/
def pl2 (s : Int × Int) : List Int := [s.1, s.2]
theorem pl2_inj {a b : Int × Int} (h : pl2 a = pl2 b) : a = b := by
  unfold pl2 at h
  injection h with h1 h2
  injection h2 with h2 _
  exact Prod.ext h1 h2
section
variable {X : Cx}
end
/-! ### a thing in the dark, of any kind -/
structure OwA (K : PySem.W.Frag) (C : Ct) (σ : L2.St) (ρ : Nv) (G O : Hp) (D : Addr) (o : HO) : Prop where
  ow : Ow C G O D o
  ap : ∃ F, Sl K C σ ρ G O F ∧ ∀ (j : Nat) (u : W), ρ[j]? = some (some u) → D ∉ F j
section
variable {K : PySem.W.Frag} {C : Ct} {σ : L2.St} {ρ : Nv} {n n' : Nat} {G O H G' O' H' : Hp} {D : Addr} {o : HO}
theorem OwA.new (I : In K C σ ρ n G O H) (hp : H D = none) : In K C σ ρ n G (grow O H (L2.upd H D o)) (L2.upd H D o) ∧ OwA K C σ ρ G (grow O H (L2.upd H D o)) D o := by
  obtain ⟨F, S⟩ := I.sep
  refine ⟨I.pure (same_upd hp) (Same.refl _) (I.gH.trans (same_upd hp)) New.refl, ⟨In.gfree I.toIo hp, I.h0 D hp, by rw [grow_new hp, upd_same]⟩, F, S.pure I.toIo (Same.refl _) New.refl, fun j u e z => ?_⟩
  obtain ⟨o, q, _⟩ := S.ow e D z
  rw [I.oH _ _ q.o] at hp
  cases hp
theorem OwA.pure (f : OwA K C σ ρ G O D o) (I : Io C n G O H) (sg : Same G G') (nw : New G H G') : OwA K C σ ρ G' (grow O H H') D o := by
  obtain ⟨w, F, S, ap⟩ := f
  have hh := I.oH _ _ w.o
  refine ⟨⟨?_, w.h0, by rw [grow_old hh]; exact w.o⟩, F, S.pure I sg nw, ap⟩
  cases z : G' D with
  | none => rfl
  | some u =>
    rcases nw D u z with y | y
    · rw [w.g] at y; cases y
    · rw [hh] at y; cases y
theorem OwA.g0 (f : OwA K C σ ρ G O D o) (I : Io C n G O H) : C.G0 D = none := by
  cases q : C.G0 D with
  | none => rfl
  | some u => have := I.g0 _ _ q; rw [f.ow.g] at this; cases this
end
end VL


set_option maxRecDepth 100000
set_option maxHeartbeats 2000000
namespace VL
open PySem PySem.Spec PyProof.Rows L2 PpSet
/-! ### sorted({e for ..}), e a pair of whole numbers -/
structure SetRel (K : PySem.W.Frag) (G : Hp) (L : List (Addr × List Int)) (acc : List (Int × Int)) : Prop where
  tup : ∀ p ∈ L, SqT K G p.1 (p.2.map V.int)
  pm : (L.map (·.2)).Perm (acc.map pl2)
  nd : acc.Nodup
theorem SetRel.nil {K : PySem.W.Frag} {G : Hp} : SetRel K G [] [] := ⟨fun p h => (by cases h), .nil, List.nodup_nil⟩
theorem SetRel.same {K : PySem.W.Frag} {G G' : Hp} {L : List (Addr × List Int)} {acc : List (Int × Int)} (r : SetRel K G L acc) (s : Same G G') : SetRel K G' L acc := ⟨fun p h => sameT s (r.tup p h), r.pm, r.nd⟩
theorem SetRel.len {K : PySem.W.Frag} {G : Hp} {L : List (Addr × List Int)} {acc : List (Int × Int)} (r : SetRel K G L acc) : L.length = acc.length := by
  have := r.pm.length_eq
  rwa [List.length_map, List.length_map] at this
theorem SetRel.put {K : PySem.W.Frag} {G : Hp} {L L' : List (Addr × List Int)} {acc : List (Int × Int)} {a b : Int} {q : Addr} (r : SetRel K G L acc) (hq : SqT K G q ([a, b].map V.int)) (c1 : [a, b] ∈ L.map (·.2) → L' = L) (c2 : [a, b] ∉ L.map (·.2) → L'.Perm ((q, [a, b]) :: L)) :
    SetRel K G L' (if (a, b) ∈ acc then acc else acc ++ [(a, b)]) := by
  have m : [a, b] ∈ L.map (·.2) ↔ (a, b) ∈ acc := by
    rw [r.pm.mem_iff, List.mem_map]
    constructor
    · rintro ⟨s, hs, e⟩
      rw [← pl2_inj (a := s) (b := (a, b)) e]; exact hs
    · exact fun h => ⟨_, h, rfl⟩
  by_cases h : (a, b) ∈ acc
  · rw [if_pos h, c1 (m.mpr h)]
    exact r
  · rw [if_neg h]
    have p := c2 fun z => h (m.mp z)
    refine ⟨fun x hx => ?_, ?_, ?_⟩
    · rcases List.mem_cons.mp (p.mem_iff.mp hx) with e | e
      · rw [e]; exact hq
      · exact r.tup x e
    · refine (p.map (·.2)).trans ?_
      rw [List.map_cons, List.map_append]
      exact (List.Perm.cons _ r.pm).trans (List.perm_append_singleton _ _).symm
    · rw [List.nodup_append]
      exact ⟨r.nd, by simp, fun x hx y hy e => by rw [List.mem_singleton.mp hy] at e; rw [e] at hx; exact h hx⟩
section
variable {K : PySem.W.Frag} {P : Program} {w : World} {U : WX} {ti : XA} {g : XG} {gh : TG} {xt : XB} {te : XT} {vs : List Nat}
end
end VL


set_option maxRecDepth 100000
set_option maxHeartbeats 2000000
namespace VL
open PySem PySem.Spec PyProof.Rows L2 PpSet
section
variable {X : Cx} {U : WX} {ek tg src : Expr} {conds : List Expr} {sc : Scope} {mine : List (Str × Nat)} {p p1 pos : Pos} {ti : XA} {g : XG} {gh : TG} {xt : XB} {te : XT}
end
/-! ### xs[::-1] of a list -/
section
variable {X : Cx} {U : WX} {e : Expr} {te : XT}
end
/-! ### reversed(range(n)) -/
section
variable {X : Cx} {U : WX} {a tg : Expr} {ta : XT} {p p2 pos pos2 : Pos}
end
end VL


set_option maxRecDepth 100000
set_option maxHeartbeats 2000000
namespace VL
open PySem PySem.Spec PyProof.Rows L2
/-! ### for x in what is a list or a tuple -/
section
variable {X : Cx} {tg l : Expr} {tl : TE}
end
section
variable {X : Cx} {U : WX} {tg e : Expr} {te : XT}
end
end VL


set_option maxRecDepth 100000
set_option maxHeartbeats 2000000
namespace VL
open PySem PySem.Spec PyProof.Rows L2
/-! ### an error that is made and not raised -/
section
variable {X : Cx}
theorem pe_mk {e : Expr} {t : L2.St → Hp → XK → Prop} (hex : X.ex = []) (he : PMk X e t) : PE X e (fun σ H Q => t σ H fun cls d H' => ∀ a, H' a = none → Q (.ref a) (L2.upd H' a (ErrO cls d a))) := by
  refine ⟨fun pins s σ H Q I h => ?_⟩
  refine wpAny_mono (he pins s σ H _ I h) (fun u s1 hu => ?_) (fun _ _ x => x)
  obtain ⟨a, oe, vs, sI, H', cls, d, rfl, J, kG, ge, hoe, hz, hd, hv1, na, os, ag, hr, q⟩ := hu
  have J1 : Inv X pins σ H' s1 := J.landed (B := sI.heap) (fun b o e _ => e) kG (fun b o e _ => ⟨o.slots, kG b o e⟩) os ag
  have out : ∀ {b : Addr} {o : Obj}, sI.heap.get? b = some o → b ≠ a := fun {b o} e z => by
    rw [z, ge] at e
    cases e
  have f0 : X.s_0.heap.get? a = none := by
    cases q : X.s_0.heap.get? a with
    | none => rfl
    | some o =>
      obtain ⟨o', e'⟩ := J.base.there a o q (by rw [hex]; simp)
      exact absurd rfl (out e')
  have nL : a ≠ X.env.locals := fun z => by
    obtain ⟨m, ⟨o, _, _, ho, _⟩, _⟩ := J.loc
    exact out ho z.symm
  have np : ∀ p ∈ X.pn ++ pins, p.1 ≠ a := fun p hp => out (J.pin p hp).1
  exact ⟨.ref a, _, VL.Inv.keepE J1 hoe hz hd na f0 nL np, rfl, q a na⟩
end
def errKv (flds : List Str) (ds : List Dt) : List (Dt × Dt) := (flds.zip ds).map fun p => (.str p.1, p.2)
/-- C(x, ..) as a datum -/
def vNew (x : Str) (flds : List Str) (al : VA) : VT := fun ρ n Q E => al ρ n (fun ds n' => ds.length = flds.length ∧ ds.length ≤ 1000 ∧ Q (errD x (errKv flds ds)) n') E
theorem zip_nd : ∀ {flds : List Str} {vs : List V}, flds.Nodup → ((flds.zip vs).map (·.1)).Nodup ∧ ∀ x ∈ (flds.zip vs).map (·.1), x ∈ flds
  | [], _, _ => ⟨List.nodup_nil, fun x hx => by cases hx⟩
  | _ :: _, [], _ => ⟨List.nodup_nil, fun x hx => by cases hx⟩
  | f :: flds, v :: vs, nd => by
    rw [List.nodup_cons] at nd
    obtain ⟨h1, h2⟩ := zip_nd (vs := vs) nd.2
    rw [List.zip_cons_cons, List.map_cons]
    refine ⟨List.nodup_cons.mpr ⟨fun q => nd.1 (h2 f q), h1⟩, fun x hx => ?_⟩
    rcases List.mem_cons.mp hx with z | z
    · rw [z]; exact List.mem_cons_self
    · exact List.mem_cons_of_mem _ (h2 x z)
theorem lk_zip {flds : List Str} (nd : flds.Nodup) : ∀ {vs : List V}, ∀ p ∈ flds.zip vs, ((flds.zip vs).reverse).lookup p.1 = some p.2 := by
  have key : ∀ (l : List (Str × V)), (l.map (·.1)).Nodup → ∀ p ∈ l, l.reverse.lookup p.1 = some p.2 := by
    intro l
    induction l with
    | nil => intro _ p hp; cases hp
    | cons a l ih =>
      intro nd p hp
      rw [List.map_cons, List.nodup_cons] at nd
      rw [List.reverse_cons]
      have app : ∀ (l1 l2 : List (Str × V)) (k : Str), (l1 ++ l2).lookup k = (l1.lookup k).or (l2.lookup k) := by
        intro l1 l2 k
        induction l1 with
        | nil => rfl
        | cons b l1 ih =>
          rw [List.cons_append, List.lookup_cons, List.lookup_cons]
          cases (k == b.1) <;> simp [ih]
      rw [app]
      rcases List.mem_cons.mp hp with z | z
      · subst z
        have n : l.reverse.lookup p.1 = none := by
          cases q : l.reverse.lookup p.1 with
          | none => rfl
          | some v =>
            have := lookup_mem1 q
            exact absurd (List.mem_map.mpr ⟨_, List.mem_reverse.mp this, rfl⟩) nd.1
        rw [n]
        obtain ⟨f, v⟩ := p
        simp [List.lookup]
      · rw [ih nd.2 p z]
        rfl
  intro vs p hp
  exact key _ (zip_nd nd).1 p hp
theorem dfs_zip {K : PySem.W.Frag} {G : Hp} : ∀ (flds : List Str) {vs : List V} {ds : List Dt}, DRs K G vs ds → DFs K G (flds.zip vs) (errKv flds ds)
  | [], _, _, _ => .nil
  | f :: flds, _, _, .nil => .nil
  | f :: flds, _, _, .cons a r => .cons a (dfs_zip flds r)
section
variable {X : Cx} {U : WX} {e : Expr} {es : List Expr} {al : VA} {p p2 pos : Pos}
theorem ve_new {x : Str} {flds : List Str} (hex : X.ex = []) (k : XCls X.K x) (R : RzC X.prog X.w X.K X.mg X.base x flds) (hr : Room 2 X.A) (hx : Passes (L2.CX X.prog X.w) X (fun _ _ _ => False)) (hg : Gl X x) (ha : VAa X U (e :: es) al)
    (hdb : (x == ("__debug__" : Str)) = false := by decide) (he : starEach (e :: es) X.env = (false, eval e X.env) :: starEach es X.env := by rfl) (hpl : (backTo p2 (starEach es X.env)).any (·.1) = false := by rfl) :
    VE X U (.Call (.Name x p) (e :: es) [] p2) (vNew x flds al) := by
  obtain ⟨fI, fd, ps, h1, h2, F, B⟩ := R.ini
  refine pe_imp (pe_mk hex (pmk_oex R.cls h1 h2 F hr B .nil hx hg R.g ha hdb he hpl)) fun σ H Q ⟨C, ρ, n, G, O, Q0, E0, I, h, hq, he⟩ => ?_
  refine ⟨C, ρ, n, G, O, _, E0, I, h, fun ds n' ⟨q1, q2, q⟩ vs G' O' H' I' s' r => ⟨by rw [DRs.length r]; exact q2, fun a ha => ?_⟩, he⟩
  refine ⟨a, He.ga X.K x, vs, by rw [List.append_nil], by rw [DRs.length r]; exact q1, R.cls, R.no, upd_same, fun dx hdx hne => ⟨rfl, dx, (flds.zip vs).reverse, upd_same, ?_, ?_, ?_⟩⟩
  · rw [upd_ne hne, upd_same]
  · rw [upd_ne hne] at hdx; exact hdx
  · rw [upd_ne hne] at hdx
    have eH : L2.upd (L2.del (L2.upd (L2.upd (L2.upd H' a (exo a (He.ga X.K x) none)) dx (exd dx (flds.zip vs).reverse)) a (exo a (He.ga X.K x) (some dx))) a) dx (.xd (flds.zip vs).reverse) = L2.upd H' dx (.xd (flds.zip vs).reverse) := by
      funext b
      by_cases b1 : b = dx
      · subst b1; rw [upd_same, upd_same]
      · rw [upd_ne b1, upd_ne b1]
        by_cases b2 : b = a
        · subst b2; rw [L2.del_same]; exact ha.symm
        · rw [L2.del_ne b2, upd_ne b2, upd_ne b1, upd_ne b2]
    rw [eH]
    intro a2 ha2
    have J := I'.new (o := .xd (flds.zip vs).reverse) hdx
    have sg1 := In.newSame (o := .xd (flds.zip vs).reverse) I'.toIo hdx
    have J2 := J.new (o := ErrO (.ref (He.ga X.K x)) (some dx) a2) ha2
    have sg2 := In.newSame (o := ErrO (.ref (He.ga X.K x)) (some dx) a2) J.toIo ha2
    exact hq _ n' q _ _ _ _ J2 (s'.trans (sg1.trans sg2)) (.err k upd_same (sg2 _ _ upd_same) (lk_zip R.nd) (dfs_zip flds (DRs.same sg2 (DRs.same sg1 r))))
end
/-- the tree -/
def newK (x : Str) (flds : List Str) (ds : List Dt) : T Dt := if ds.length = flds.length ∧ ds.length ≤ 1000 then .ret (errD x (errKv flds ds)) else .fail
def xNew (x : Str) (flds : List Str) (al : XA) (ρ : Nv) : T Dt := bd (al ρ) (newK x flds)
section
variable {X : Cx} {U : WX} {e : Expr} {es : List Expr} {al : XA} {p p2 pos : Pos}
theorem xe_new {x : Str} {flds : List Str} (hex : X.ex = []) (k : XCls X.K x) (R : RzC X.prog X.w X.K X.mg X.base x flds) (hr : Room 2 X.A) (hx : Passes (L2.CX X.prog X.w) X (fun _ _ _ => False)) (hg : Gl X x) (ha : VAa X U (e :: es) (S al))
    (hdb : (x == ("__debug__" : Str)) = false := by decide) (he : starEach (e :: es) X.env = (false, eval e X.env) :: starEach es X.env := by rfl) (hpl : (backTo p2 (starEach es X.env)).any (·.1) = false := by rfl) :
    VE X U (.Call (.Name x p) (e :: es) [] p2) (S (xNew x flds al)) := wkE (ve_new hex k R hr hx hg ha hdb he hpl) fun ρ n Q E h => sat2 h fun ds n1 h1 => by
  unfold newK at h1
  split at h1
  · next c => exact ⟨c.1, c.2, h1⟩
  · exact h1.elim
end
end VL


set_option maxRecDepth 100000
set_option maxHeartbeats 4000000
/-! C(f=x, ..): an own error's class called with names -/
namespace PySem.HandSPX
open PySem PySem.W PySem.Calls PySem.Spec PyProof.Rows
open Builtin Builtin.ObjectAttr
section
variable {M : Model} {A : Around} {E : Value → Shared → Prop} {h : Heap} {g : Array GenState} {d : Drawn} {t : Nat} {os : OsState} {kw : List (Str × Value)}
variable {nm q : Str} {C N : Addr} {bs bm bmB : List Value} {hdct : Bool} {sn : List Str} {sub : List Value} {ab : Bool} {col : Option Bool} {dd : Option Addr} {k0 k1 k2 k3 k5 : Option Value} {B newId initId : String}
theorem check_newK (F : ExcBaseFacts B newId initId bmB) (hT : ∀ X : String, bm.contains (.type X) = bmB.contains (.type X)) {rest : List Value} {Q : Unit → Shared → Prop}
    (hC : h.get? C = some (excClassObj nm q C N bs bm hdct sn sub ab col dd k0 k1 k2 k3 k5 newId)) (hq : Q () ⟨h, g, d, t, os⟩) : wpAny M A (checkBuiltinCall newId ⟨.ref C :: rest, kw⟩) Q E ⟨h, g, d, t, os⟩ := by
  have hcont : (Value.ref C :: bm).contains (.type B) = true := by rw [List.contains_cons, hT, F.hasB, Bool.or_true]
  have hstar := F.noStar
  simp only [checkBuiltinCall, F.newKind, F.newSplit, F.newRow]
  repeat (first | refine wpAny_loadPart_at hC ?_ | (refine wpAny_isSubtype_exc hC ?_; rw [hcont]) | refine wpAny_staticBase_exc hC ?_ | refine wpAny_madeBy_exc hC ?_ | simp only [bne_self_eq_false, Bool.false_eq_true, if_false] | wp_step)
  exact hq
end
section
variable {prog : Program} {w : World} {A : Around} {E : Value → Shared → Prop} {R : Result → Shared → Prop} {h : Heap} {g : Array GenState} {d : Drawn} {t : Nat} {os : OsState} {kw : List (Str × Value)}
variable {nm q : Str} {C N : Addr} {bs bm bmB : List Value} {hdct : Bool} {sn : List Str} {sub : List Value} {ab : Bool} {col : Option Bool} {dd : Option Addr} {k0 k1 k2 k3 k5 : Option Value} {B newId initId : String}
theorem newK_own (F : ExcBaseFacts B newId initId bmB) (hT : ∀ X : String, bm.contains (.type X) = bmB.contains (.type X)) {rest : List Value}
    (hC : h.get? C = some (excClassObj nm q C N bs bm hdct sn sub ab col dd k0 k1 k2 k3 k5 newId))
    (hq : R (.ok (.ret (.ref (h.objs.size + 1)))) ⟨(h.push { cls := .type "tuple", data := .seq rest.toArray }).push
      { cls := .ref C, data := .fields #[.ref h.objs.size, .none, .none, .none, .bool false, .none] }, g, d, t, os⟩) (hrest : rest.length ≤ sizeLine) :
    codeAny (model prog w) A (.builtin newId ⟨.ref C :: rest, kw⟩) R ⟨h, g, d, t, os⟩ := by
  have hends := F.ends
  have hcB : (Value.ref C :: bm).contains (.type B) = true := by rw [List.contains_cons, hT, F.hasB, Bool.or_true]
  have hcA : (Value.ref C :: bm).contains (.type "AttributeError") = false := by rw [List.contains_cons, hT, F.noAttr]; rfl
  have hcN : (Value.ref C :: bm).contains (.type "NameError") = false := by rw [List.contains_cons, hT, F.noName]; rfl
  refine codeAny_builtinAt F.entry ?_
  unfold Builtin.«BaseException.__new__»
  refine wpAt_bind ?_
  show wpAt _ _ _ (stack >>= _) _ _ _
  refine wpAt_bind (wpAt_stack fun p below => wpAt_of_wpAny ?_)
  wp_walk
  refine wpAt_of_wpAny ?_
  rw [F.owner]
  repeat (first | with_reducible refine wpAny_madeHere_exc F.canon hC ?_ | with_reducible refine wpAny_loadPart_at hC ?_ | (with_reducible refine wpAny_isSubtype_exc hC ?_; first | rw [hcB] | rw [hcA] | rw [hcN]) | wp_step)
  show R _ _
  rw [Heap.size_push]
  exact hq
theorem type_callK (F : ExcBaseFacts B newId initId bmB) (hT : ∀ X : String, bm.contains (.type X) = bmB.contains (.type X)) {rest : List Value} {fI : Addr} {Q : Fin → Shared → Prop}
    (hC : h.get? C = some (excClassObj nm q C N bs bm hdct sn sub ab col dd k0 k1 k2 k3 k5 newId))
    (hi : W.Looks (model prog w) h (typeLookup (.ref C) "__init__") (some (.ref fI))) (hb : ∀ self, W.Looks (model prog w) h (bindSpecial (.ref fI) self) (.ref fI, [self])) (hrest : rest.length ≤ sizeLine)
    (hq : codeAny (model prog w) A (.call (.ref fI) ⟨.ref (h.objs.size + 1) :: rest, kw⟩)
      (fun r s' => match r with | .ok (.ret v) => v = .none ∧ Q (.done (.ret (.ref (h.objs.size + 1)))) s' | .ok _ => False | .error e => E e s')
      ⟨(h.push (W.kdv_tup rest)).push (excO C h.objs.size), g, d, t, os⟩) :
    wpAny (model prog w) A (Builtin.«type.__call__» ⟨.ref C :: rest, kw⟩) Q E ⟨h, g, d, t, os⟩ := by
  repeat (first | with_reducible refine wpAny_loadPart_at hC ?_ | with_reducible refine wpAny_madeBy_exc hC ?_ | wp_step)
  refine codeAny_call_builtin_code (Code.quiet_builtin _ F.quiet) (check_newK F hT hC ?_)
  refine newK_own F hT hC ?_ hrest
  show wpAny _ _ _ _ _ _
  have k : ∀ b o, h.get? b = some o → ((h.push (W.kdv_tup rest)).push (excO C h.objs.size)).get? b = some o := fun b o e => Heap.get?_push_of_some _ (Heap.get?_push_of_some _ e)
  have hC₁ := k _ _ hC
  have hget : ((h.push (W.kdv_tup rest)).push (excO C h.objs.size)).get? (h.objs.size + 1) = some (excO C h.objs.size) := by heap_get
  have hcC : (Value.ref C :: bm).contains (.ref C) = true := by simp
  have i1 := hi.keeps k
  have b1 := (hb (.ref (h.objs.size + 1))).keeps k
  unfold isInstance
  repeat (first | with_reducible refine wpAny_loadPart_at hget ?_ | (with_reducible refine wpAny_isSubtype_exc hC₁ ?_; rw [hcC]) | wp_step)
  show wpAny _ _ (typeLookup (.ref C) _) _ _ _
  refine i1.at ?_
  refine wpAny_holding (wpAny_bind (b1.at ?_))
  refine wpAny_bind (wpAny_call (codeAny_mono hq fun r s' z => ?_))
  rcases r with e | (v | _ | _ | _) <;> first | exact z | exact z.elim | skip
  obtain ⟨rfl, z⟩ := z
  first
    | exact wpAny_pure (wpAny_pure z)
    | (wp_walk; exact z)
theorem callK_own (F : ExcBaseFacts B newId initId bmB) (hT : ∀ X : String, bm.contains (.type X) = bmB.contains (.type X)) {rest : List Value} {fI : Addr}
    (hC : h.get? C = some (excClassObj nm q C N bs bm hdct sn sub ab col dd k0 k1 k2 k3 k5 newId))
    (hi : W.Looks (model prog w) h (typeLookup (.ref C) "__init__") (some (.ref fI))) (hb : ∀ self, W.Looks (model prog w) h (bindSpecial (.ref fI) self) (.ref fI, [self])) (hrest : rest.length ≤ sizeLine)
    (hq : codeAny (model prog w) (A.under (.builtin "type.__call__" ⟨.ref C :: rest, kw⟩)) (.call (.ref fI) ⟨.ref (h.objs.size + 1) :: rest, kw⟩) (W.InitBack (h.objs.size + 1) R)
      ⟨(h.push (W.kdv_tup rest)).push (excO C h.objs.size), g, d, t, os⟩) :
    codeAny (model prog w) A (.call (.ref C) ⟨rest, kw⟩) R ⟨h, g, d, t, os⟩ := by
  have f1 := tc_lookup
  have f2 := tc_bind (.ref C)
  have hTy : (⟨h, g, d, t, os⟩ : Shared).TypeIs (.ref C) "type" := ⟨_, hC, rfl⟩
  refine codeAny_of_tree ?_
  show wpAny _ _ (callAny (.ref C) _) _ _ _
  repeat (any_goals (first | assumption | with_reducible refine wpAny_loadPart_at hC ?_ | wp_step))
  refine ⟨rfl, ?_⟩
  refine codeAny_call_builtin_at (Code.quiet_builtin _ (by decide +kernel)) entry_typeCall (wpAny_check_type_call_sub hC (type_callK F hT hC hi hb hrest ?_))
  refine codeAny_mono hq fun r s' z => ?_
  rcases r with e | (v | _ | _ | _) <;> exact z
end
end PySem.HandSPX


set_option maxRecDepth 100000
set_option maxHeartbeats 4000000
namespace L2
open PySem PySem.Spec PyProof.Rows
/-! ### C(f = x, ..), C an own class of errors -/
def tMkOK (C : Addr) (sp : Sp) (tk : TA) : St → Hp → XK → Prop := fun σ H Q => tk σ H fun zs H1 => zs.length ≤ 1000 ∧ ∀ a, H1 a = none → sp (.ref a :: zs.reverse) (upd H1 a (exo a C none))
  (fun v H2 => v = .non ∧ ∃ (d : Addr) (fs : List (Str × V)), H2 a = some (exo a C (some d)) ∧ H2 d = some (exd d fs) ∧ H1 d = none ∧ Q (.ref C) (some d) (upd (del H2 a) d (.xd fs))) (fun _ _ _ => False)
theorem Vals.rev {vs : List V} {us : List Value} (r : Vals vs us) : Vals vs.reverse us.reverse := by
  induction r with
  | nil => exact .nil
  | cons a r ih => rw [List.reverse_cons, List.reverse_cons]; exact ih.append (.cons a .nil)
section
variable {X : Cx} {x : Str} {p pos : Pos} {kws : List Keyword} {tk : TA}
theorem pmk_oexK {CX : CXT} {C fI : Addr} {k : Nat} {fd : FuncData} {ps ks : List Str} {sp : Sp} (T : OexC X.K C) (iC : PySem.W.findIn X.K (.ref C) "__init__" = some (some (.ref fI))) (tI : PySem.W.typeIn X.K (.ref fI) = some (.type "function"))
    (F1 : FnOk X.prog X.w X.K X.mg X.base CX k fI fd ps sp) (hr : Room (k + 1) X.A) (hkl : ps.length = ks.length + 1) (hb : ∀ (s : Shared) (self : Value) (ws : List Value), ws.length = ks.length → BindsTo s fd ⟨[self], ks.zip ws⟩ (ps.zip (self :: ws.reverse)))
    (hx : Passes CX X (fun _ _ _ => False)) (hg : Gl X x) (hm : X.mg x = some (.ref C)) (hkw : PK X kws tk)
    (hall : (backToKw pos (keywordEach kws X.env)).all (·.1.isSome) = true := by rfl) (hks : (backToKw pos (keywordEach kws X.env)).filterMap (·.1) = ks := by rfl)
    (hdb : (x == ("__debug__" : Str)) = false := by decide)
    (hpl : ((backTo pos (starEach [] X.env)).any (·.1) || (backToKw pos (keywordEach kws X.env)).any (·.1.isNone)) = false := by rfl) :
    PMk X (.Call (.Name x p) [] kws pos) (tMkOK C sp tk) := by
  intro pins s σ H Q I h
  obtain ⟨nm, q, N, bs, bm, sn, sub, ab, col, dd, k0, k1, k2, k3, k5, hC, hbm⟩ := T.cls
  refine wpAny_Call_Name_kw (ld_glob I hg hm ?_ hdb)
  refine PySem.W.callWith_KW0 (h₀ := X.base) I.ok.mod.kin T.kC hall (thn (hkw.run pos pins s σ H _ I h) fun ws s1 ⟨zs, H1, I1, r1, hz, q1⟩ => ⟨I1.kIn, ?_⟩) hpl
  rw [hks]
  show wpAny _ _ (call (.ref C) [] (ks.zip ws)) _ _ _
  obtain ⟨hp, g, dr, tk, os⟩ := s1
  have hsz : hp.objs.size ≤ hp.objs.size + 1 := Nat.le_succ _
  have hn : H1 (hp.objs.size + 1) = none := I1.hok.fresh hsz
  have hq := q1 (hp.objs.size + 1) hn
  have kk : ∀ b o, hp.get? b = some o → ((hp.push (PySem.W.kdv_tup [])).push (PySem.HandSPX.excO C hp.objs.size)).get? b = some o := fun b o e => Heap.get?_push_of_some _ (Heap.get?_push_of_some _ e)
  have hget : ((hp.push (PySem.W.kdv_tup [])).push (PySem.HandSPX.excO C hp.objs.size)).get? (hp.objs.size + 1) = some (PySem.HandSPX.excO C hp.objs.size) := by heap_get
  have I2 : Inv X pins σ (upd H1 (hp.objs.size + 1) (exo (hp.objs.size + 1) C none)) ⟨(hp.push (PySem.W.kdv_tup [])).push (PySem.HandSPX.excO C hp.objs.size), g, dr, tk, os⟩ :=
    I1.laid (t' := tk) (a := hp.objs.size + 1) (o := exo (hp.objs.size + 1) C none) (h' := (hp.push (PySem.W.kdv_tup [])).push (PySem.HandSPX.excO C hp.objs.size)) kk hsz (exo_ok hget)
  have r2 : Vals (V.ref (hp.objs.size + 1) :: zs.reverse) (Value.ref (hp.objs.size + 1) :: ws.reverse) := .cons rfl (Vals.rev r1)
  have hl : ws.length = ks.length := by
    have e := r2.length
    rw [F1.len _ _ _ _ hq, List.length_cons, List.length_reverse] at e
    omega
  refine wpAny_call (PySem.HandSPX.callK_own F.excBase_ValueError (fun Y => PySem.HandSPX.refsVE_contains Y bm hbm) (I1.kIn _ _ hC) (PySem.W.looks_findIn I1.kIn iC) (fun self => PySem.W.bind_fn I1.kIn self tI) (rest := []) (by decide)
    (codeAny_mono (F1.run _ X.stack _ _ ⟨[Value.ref (hp.objs.size + 1)], ks.zip ws⟩ (Value.ref (hp.objs.size + 1) :: ws.reverse) _ _ (fun _ _ _ => False) (hr.make C [] (ks.zip ws)) (I2.env0.make C [] (ks.zip ws)) (hb _ (Value.ref (hp.objs.size + 1)) ws hl) r2 hq) fun r s' hq' => ?_))
  cases r with
  | error er => exact hx pins σ _ _ er s' I2 hq'
  | ok fl =>
    cases fl with
    | ret u =>
      obtain ⟨v, H2, os2, bare2, un2, hok2, rv, ev, d, fs, ea, ed, hd1, q2⟩ := hq'
      subst ev
      obtain ⟨h2, g2, d2, t2, os'⟩ := s'
      exact ⟨rv, mk_end (raises_own T.exC T.tyC) I1 hsz kk un2 hok2 os2 bare2 ea ed hd1 q2⟩
    | next => exact False.elim hq'
    | brk => exact False.elim hq'
    | cont => exact False.elim hq'
end
section
variable {K : PySem.W.Frag} {x qual : Str} {params : Arguments} {body : List Stmt} {scope : Scope} {kws : List (Str × V)} {f : Addr} {fd : FuncData} {ps ks : List Str}
theorem FunD.kbR (F : FunD K x qual params body scope [] kws f fd)
    (h : ∀ (kV doc pm : Value) (an : Option Addr) (cdv ct self : Value) (ws : List Value), ws.length = ks.length → bindArgs (PySem.W.fnOf x qual params body scope .none kV doc pm an cdv ct) ⟨[self], ks.zip ws⟩ = pure (ps.zip (self :: ws.reverse))) (s : Shared) (self : Value) (ws : List Value) (hl : ws.length = ks.length) : BindsTo s fd ⟨[self], ks.zip ws⟩ (ps.zip (self :: ws.reverse)) := by
  obtain ⟨oc, od, dV, kV, doc, pm, an, cdv, ct, osl, rfl, lk, hcd, hD, hK⟩ := F.ex
  rcases hD with ⟨_, rfl⟩ | ⟨e, _⟩
  · exact .of_eq (h kV doc pm an cdv ct self ws hl)
  · exact absurd rfl e
end
end L2


set_option maxRecDepth 100000
set_option maxHeartbeats 4000000
namespace VL
open PySem PySem.Spec PyProof.Rows L2
/-! ### keywords' values -/
abbrev VKa (X : Cx) (U : WX) (kws : List Keyword) (t : VA) : Prop := PK X kws (upA X.K U t)
theorem pk_imp {X : Cx} {e : List Keyword} {t t' : TA} (h : PK X e t) (w : ∀ σ H Q, t' σ H Q → t σ H Q) : PK X e t' := ⟨fun pos pins s σ H Q I q => h.run pos pins s σ H Q I (w _ _ _ q)⟩
section
variable {X : Cx} {U : WX} {e : Expr} {kws : List Keyword} {nm : Option Str} {kpos : Pos} {ta : VT} {al : VA}
theorem vk_nil : VKa X U [] vNil := pk_imp pk_nil fun σ H Q ⟨C, ρ, n, G, O, Q0, E0, I, h, hq, he⟩ => hq [] n h [] G O H I (Same.refl _) .nil
theorem vk_cons (ha : VE X U e ta) (hr : VKa X U kws al) : VKa X U (⟨nm, e, kpos⟩ :: kws) (vCons ta al) :=
  pk_imp (pk_cons ha hr) fun σ H Q ⟨C, ρ, n, G, O, Q0, E0, I, h, hq, he⟩ => ⟨C, ρ, n, G, O, _, E0, I, h, fun d n1 h1 v G1 O1 H1 I1 s1 r1 => ⟨C, ρ, n1, G1, O1, _, E0, I1, h1, fun ds n2 h2 vs G2 O2 H2 I2 s2 r2 =>
    hq _ n2 h2 _ G2 O2 H2 I2 (s1.trans s2) (.cons (DR.same s2 r1) r2), he⟩, he⟩
theorem wkK {t t' : VA} (h : VKa X U kws t) (w : ∀ ρ n Q E, t' ρ n Q E → t ρ n Q E) : VKa X U kws t' := pk_imp h fun σ H Q ⟨C, ρ, n, G, O, Q0, E0, I, q, r⟩ => ⟨C, ρ, n, G, O, Q0, E0, I, w _ _ _ _ q, r⟩
theorem xk_nil : VKa X U [] (S xNil) := wkK vk_nil fun _ _ _ _ q => q
theorem xk_cons {ta : XT} {al : XA} (ha : VE X U e (S ta)) (hr : VKa X U kws (S al)) : VKa X U (⟨nm, e, kpos⟩ :: kws) (S (xCons ta al)) := wkK (vk_cons ha hr) fun ρ n Q E h => sat2 h fun d n1 h1 => sat2 h1 fun ds n2 h2 => h2
end
theorem DRs.rev {K : PySem.W.Frag} {G : Hp} : ∀ {vs : List V} {ds : List Dt}, DRs K G vs ds → DRs K G vs.reverse ds.reverse
  | _, _, .nil => .nil
  | _, _, .cons a r => by
    rw [List.reverse_cons, List.reverse_cons]
    have app : ∀ {vs : List V} {ds : List Dt} {v : V} {d : Dt}, DRs K G vs ds → DR K G v d → DRs K G (vs ++ [v]) (ds ++ [d]) := by
      intro vs ds v d h b
      induction vs generalizing ds with
      | nil => cases h; exact .cons b .nil
      | cons w ws ih => cases h with | cons a r => exact .cons a (ih r)
    exact app (DRs.rev r) a
/-- what is known of such a class, called with the names ks (its fields' names from the last to the first) -/
structure RzK (P : Program) (w : World) (K : PySem.W.Frag) (mg : Str → Option Value) (base : Heap) (x : Str) (flds ks : List Str) : Prop where
  cls : OexC K (He.ga K x)
  g : mg x = some (.ref (He.ga K x))
  no : ∀ f ∈ flds, PySem.W.findIn K (.ref (He.ga K x)) f = some none
  nd : flds.Nodup
  ini : ∃ (fI : Addr) (fd : FuncData) (ps : List Str), PySem.W.findIn K (.ref (He.ga K x)) "__init__" = some (some (.ref fI)) ∧ PySem.W.typeIn K (.ref fI) = some (.type "function") ∧ FnOk P w K mg base (L2.CX P w) 1 fI fd ps (spInit K flds) ∧ ps.length = ks.length + 1 ∧
    ∀ (s : Shared) (self : Value) (ws : List Value), ws.length = ks.length → BindsTo s fd ⟨[self], ks.zip ws⟩ (ps.zip (self :: ws.reverse))
structure RzGK (P : Program) (w : World) (K : PySem.W.Frag) (mg : Str → Option Value) (base : Heap) (B newId initId : String) (bmB : List Value) (x f : Str) : Prop where
  cls : OexG K (He.ga K x) B newId initId bmB
  g : mg x = some (.ref (He.ga K x))
  no1 : PySem.W.findIn K (.ref (He.ga K x)) f = some none
  ini : ∃ (fI : Addr) (fd : FuncData) (ps : List Str), PySem.W.findIn K (.ref (He.ga K x)) "__init__" = some (some (.ref fI)) ∧ PySem.W.typeIn K (.ref fI) = some (.type "function") ∧ FnOk P w K mg base (L2.CX P w) 1 fI fd ps (spOne K B newId initId bmB f) ∧ ps.length = 2 ∧
    ∀ (s : Shared) (self : Value) (ws : List Value), ws.length = 1 → BindsTo s fd ⟨[self], [f].zip ws⟩ (ps.zip (self :: ws.reverse))
section
variable {X : Cx} {x : Str} {p pos : Pos} {kws : List Keyword} {tk : TA} {B newId initId : String} {bmB : List Value}
theorem pmk_oneK {CX : CXT} {C fI : Addr} {k : Nat} {fd : FuncData} {ps ks : List Str} {sp : Sp} (Tg : OexG X.K C B newId initId bmB) (iC : PySem.W.findIn X.K (.ref C) "__init__" = some (some (.ref fI))) (tI : PySem.W.typeIn X.K (.ref fI) = some (.type "function"))
    (F1 : FnOk X.prog X.w X.K X.mg X.base CX k fI fd ps sp) (hr : Room (k + 1) X.A) (hkl : ps.length = ks.length + 1) (hb : ∀ (s : Shared) (self : Value) (ws : List Value), ws.length = ks.length → BindsTo s fd ⟨[self], ks.zip ws⟩ (ps.zip (self :: ws.reverse)))
    (hx : Passes CX X (fun _ _ _ => False)) (hg : Gl X x) (hm : X.mg x = some (.ref C)) (hkw : PK X kws tk)
    (hall : (backToKw pos (keywordEach kws X.env)).all (·.1.isSome) = true := by rfl) (hks : (backToKw pos (keywordEach kws X.env)).filterMap (·.1) = ks := by rfl)
    (hdb : (x == ("__debug__" : Str)) = false := by decide)
    (hpl : ((backTo pos (starEach [] X.env)).any (·.1) || (backToKw pos (keywordEach kws X.env)).any (·.1.isNone)) = false := by rfl) :
    PMk X (.Call (.Name x p) [] kws pos) (tMkOK C sp tk) := by
  intro pins s σ H Q I h
  refine wpAny_Call_Name_kw (ld_glob I hg hm ?_ hdb)
  refine PySem.W.callWith_KW0 (h₀ := X.base) I.ok.mod.kin Tg.kC hall (thn (hkw.run pos pins s σ H _ I h) fun ws s1 ⟨zs, H1, I1, r1, hz, q1⟩ => ⟨I1.kIn, ?_⟩) hpl
  rw [hks]
  show wpAny _ _ (call (.ref C) [] (ks.zip ws)) _ _ _
  obtain ⟨hp, g, dr, tk, os⟩ := s1
  obtain ⟨nm, N, qn, bs, bm, hdct, sn, sub, ab, col, dd, k0, k1, k2, k3, k5, hC, hT⟩ := PySem.W.excInit_of I1.kIn Tg.ini
  have big : hp.objs.size ≤ (hp.objs.size + 1) := Nat.le_succ _
  have hq := q1 (hp.objs.size + 1) (I1.hok.fresh big)
  have kept : ∀ b o, hp.get? b = some o → ((hp.push (PySem.W.kdv_tup [])).push (PySem.HandSPX.excO C hp.objs.size)).get? b = some o := fun b o z => Heap.get?_push_of_some _ (Heap.get?_push_of_some _ z)
  have there : ((hp.push (PySem.W.kdv_tup [])).push (PySem.HandSPX.excO C hp.objs.size)).get? (hp.objs.size + 1) = some (PySem.HandSPX.excO C hp.objs.size) := by heap_get
  have I2 : Inv X pins σ (L2.upd H1 (hp.objs.size + 1) (exo (hp.objs.size + 1) C none)) ⟨((hp.push (PySem.W.kdv_tup [])).push (PySem.HandSPX.excO C hp.objs.size)), g, dr, tk, os⟩ := I1.laid (t' := tk) (a := (hp.objs.size + 1)) (o := exo (hp.objs.size + 1) C none) (h' := ((hp.push (PySem.W.kdv_tup [])).push (PySem.HandSPX.excO C hp.objs.size))) kept big (exo_ok there)
  have r2 : Vals (V.ref (hp.objs.size + 1) :: zs.reverse) (Value.ref (hp.objs.size + 1) :: ws.reverse) := .cons rfl (Vals.rev r1)
  have hl : ws.length = ks.length := by
    have e := r2.length
    rw [F1.len _ _ _ _ hq, List.length_cons, List.length_reverse] at e
    omega
  refine wpAny_call (PySem.HandSPX.callK_own Tg.fb hT hC (PySem.W.looks_findIn I1.kIn iC) (fun self => PySem.W.bind_fn I1.kIn self tI) (rest := []) (by decide) (codeAny_mono (F1.run _ X.stack _ _ ⟨[Value.ref (hp.objs.size + 1)], ks.zip ws⟩ (Value.ref (hp.objs.size + 1) :: ws.reverse) _ _ (fun _ _ _ => False) (hr.make C [] (ks.zip ws)) (I2.env0.make C [] (ks.zip ws)) (hb _ (Value.ref (hp.objs.size + 1)) ws hl) r2 hq) fun r s' z => ?_))
  rcases r with er | fl
  · exact hx pins σ _ _ er s' I2 z
  · cases fl with
    | ret v =>
      obtain ⟨v, H2, os2, bare2, un2, hok2, rv, ev, d, fs, ea, ed, hd1, q2⟩ := z
      cases ev
      obtain ⟨h2, g2, d2, t2, os'⟩ := s'
      exact ⟨rv, mk_end (raises_own Tg.exC Tg.tyC) I1 big kept un2 hok2 os2 bare2 ea ed hd1 q2⟩
    | next => exact z.elim
    | brk => exact z.elim
    | cont => exact z.elim
end
theorem new_eq {H' : Hp} {a dx : Addr} {o1 o2 o3 o4 : HO} (ha : H' a = none) : L2.upd (L2.del (L2.upd (L2.upd (L2.upd H' a o1) dx o2) a o3) a) dx o4 = L2.upd H' dx o4 := by
  funext b
  by_cases b1 : b = dx
  · subst b1; rw [upd_same, upd_same]
  · rw [upd_ne b1, upd_ne b1]
    by_cases b2 : b = a
    · subst b2; rw [L2.del_same]; exact ha.symm
    · rw [L2.del_ne b2, upd_ne b2, upd_ne b1, upd_ne b2]
/-- the tree, names -/
def xNewK (x : Str) (flds : List Str) (al : XA) (ρ : Nv) : T Dt := bd (al ρ) fun ds => newK x flds ds.reverse
section
variable {X : Cx} {U : WX} {e : Expr} {es : List Expr} {al : XA} {p p2 pos : Pos} {kws : List Keyword} {B newId initId : String} {bmB : List Value}
theorem xe_newK {x : Str} {flds ks : List Str} (hex : X.ex = []) (k : XCls X.K x) (R : RzK X.prog X.w X.K X.mg X.base x flds ks) (hr : Room 2 X.A) (hx : Passes (L2.CX X.prog X.w) X (fun _ _ _ => False)) (hg : Gl X x) (ha : VKa X U kws (S al))
    (hall : (backToKw pos (keywordEach kws X.env)).all (·.1.isSome) = true := by rfl) (hks : (backToKw pos (keywordEach kws X.env)).filterMap (·.1) = ks := by rfl)
    (hdb : (x == ("__debug__" : Str)) = false := by decide)
    (hpl : ((backTo pos (starEach [] X.env)).any (·.1) || (backToKw pos (keywordEach kws X.env)).any (·.1.isNone)) = false := by rfl) :
    VE X U (.Call (.Name x p) [] kws pos) (S (xNewK x flds al)) := by
  obtain ⟨fI, fd, ps, h1, h2, F, hl, Bi⟩ := R.ini
  refine pe_imp (pe_mk hex (pmk_oexK R.cls h1 h2 F hr hl Bi hx hg R.g ha hall hks hdb hpl)) fun σ H Q ⟨C, ρ, n, G, O, Q0, E0, I, h, hq, he⟩ => ?_
  refine ⟨C, ρ, n, G, O, fun ds n' => sat (newK x flds ds.reverse) n' Q0 E0, E0, I, sat2 h fun _ _ z => z, fun ds n' q vs G' O' H' I' s' r => ?_, he⟩
  unfold newK at q
  obtain ⟨⟨q1, q2⟩, q⟩ := sat_guard q
  have rr := DRs.rev r
  rw [List.length_reverse] at q2
  refine ⟨by rw [DRs.length r]; exact q2, fun a ha => ?_⟩
  refine ⟨a, He.ga X.K x, vs.reverse, rfl, by rw [DRs.length rr]; exact q1, R.cls, R.no, upd_same, fun dx hdx hne => ⟨rfl, dx, (flds.zip vs.reverse).reverse, upd_same, ?_, ?_, ?_⟩⟩
  · rw [upd_ne hne, upd_same]
  · rw [upd_ne hne] at hdx; exact hdx
  · rw [upd_ne hne] at hdx
    rw [new_eq ha]
    intro a2 ha2
    have J := I'.new (o := .xd (flds.zip vs.reverse).reverse) hdx
    have sg1 := In.newSame (o := .xd (flds.zip vs.reverse).reverse) I'.toIo hdx
    have J2 := J.new (o := ErrO (.ref (He.ga X.K x)) (some dx) a2) ha2
    have sg2 := In.newSame (o := ErrO (.ref (He.ga X.K x)) (some dx) a2) J.toIo ha2
    exact hq _ n' q _ _ _ _ J2 (s'.trans (sg1.trans sg2)) (.err k upd_same (sg2 _ _ upd_same) (lk_zip R.nd) (dfs_zip flds (DRs.same sg2 (DRs.same sg1 rr))))
/-- of another base, one field -/
theorem xe_newG {x f : Str} (hex : X.ex = []) (k : XCls X.K x) (R : RzG X.prog X.w X.K X.mg X.base B newId initId bmB x f) (hr : Room 2 X.A) (hx : Passes (L2.CX X.prog X.w) X (fun _ _ _ => False)) (hg : Gl X x) (ha : VAa X U (e :: es) (S al))
    (hdb : (x == ("__debug__" : Str)) = false := by decide) (he : starEach (e :: es) X.env = (false, eval e X.env) :: starEach es X.env := by rfl) (hpl : (backTo p2 (starEach es X.env)).any (·.1) = false := by rfl) :
    VE X U (.Call (.Name x p) (e :: es) [] p2) (S (xNew x [f] al)) := by
  obtain ⟨fI, fd, ps, h1, h2, F, Bi⟩ := R.ini
  refine pe_imp (pe_mk hex (pmk_one .nil R.cls h1 h2 F hr Bi hx hg R.g ha hdb he hpl)) fun σ H Q ⟨C, ρ, n, G, O, Q0, E0, I, h, hq, he⟩ => ?_
  refine ⟨C, ρ, n, G, O, fun ds n' => sat (newK x [f] ds) n' Q0 E0, E0, I, sat2 h fun _ _ z => z, fun ds n' q vs G' O' H' I' s' r => ?_, he⟩
  unfold newK at q
  obtain ⟨⟨q1, q2⟩, q⟩ := sat_guard q
  refine ⟨by rw [DRs.length r]; exact q2, fun a ha => ?_⟩
  match ds, vs, r, q1, q with
  | [d1], [y], .cons rd .nil, _, q =>
    refine ⟨a, He.ga X.K x, y, rfl, R.cls, R.no1, upd_same, fun dx hdx hne => ⟨rfl, dx, [(f, y)], upd_same, by rw [upd_ne hne, upd_same], by rw [upd_ne hne] at hdx; exact hdx, ?_⟩⟩
    rw [upd_ne hne] at hdx
    rw [new_eq ha]
    intro a2 ha2
    have J := I'.new (o := .xd [(f, y)]) hdx
    have sg1 := In.newSame (o := .xd [(f, y)]) I'.toIo hdx
    have J2 := J.new (o := ErrO (.ref (He.ga X.K x)) (some dx) a2) ha2
    have sg2 := In.newSame (o := ErrO (.ref (He.ga X.K x)) (some dx) a2) J.toIo ha2
    exact hq _ n' q _ _ _ _ J2 (s'.trans (sg1.trans sg2)) (.err (gs := [(f, y)]) k upd_same (sg2 _ _ upd_same) (fun p hp => by rw [List.mem_singleton.mp hp]; simp [List.lookup]) (.cons (DR.same sg2 (DR.same sg1 rd)) .nil))
theorem xe_newGK {x f : Str} (hex : X.ex = []) (k : XCls X.K x) (R : RzGK X.prog X.w X.K X.mg X.base B newId initId bmB x f) (hr : Room 2 X.A) (hx : Passes (L2.CX X.prog X.w) X (fun _ _ _ => False)) (hg : Gl X x) (ha : VKa X U kws (S al))
    (hall : (backToKw pos (keywordEach kws X.env)).all (·.1.isSome) = true := by rfl) (hks : (backToKw pos (keywordEach kws X.env)).filterMap (·.1) = [f] := by rfl)
    (hdb : (x == ("__debug__" : Str)) = false := by decide)
    (hpl : ((backTo pos (starEach [] X.env)).any (·.1) || (backToKw pos (keywordEach kws X.env)).any (·.1.isNone)) = false := by rfl) :
    VE X U (.Call (.Name x p) [] kws pos) (S (xNewK x [f] al)) := by
  obtain ⟨fI, fd, ps, h1, h2, F, hl, Bi⟩ := R.ini
  refine pe_imp (pe_mk hex (pmk_oneK (ks := [f]) R.cls h1 h2 F hr hl Bi hx hg R.g ha hall hks hdb hpl)) fun σ H Q ⟨C, ρ, n, G, O, Q0, E0, I, h, hq, he⟩ => ?_
  refine ⟨C, ρ, n, G, O, fun ds n' => sat (newK x [f] ds.reverse) n' Q0 E0, E0, I, sat2 h fun _ _ z => z, fun ds n' q vs G' O' H' I' s' r => ?_, he⟩
  unfold newK at q
  obtain ⟨⟨q1, q2⟩, q⟩ := sat_guard q
  rw [List.length_reverse] at q1 q2
  refine ⟨by rw [DRs.length r]; exact q2, fun a ha => ?_⟩
  match ds, vs, r, q1, q with
  | [d1], [y], .cons rd .nil, _, q =>
    refine ⟨a, He.ga X.K x, y, rfl, R.cls, R.no1, upd_same, fun dx hdx hne => ⟨rfl, dx, [(f, y)], upd_same, by rw [upd_ne hne, upd_same], by rw [upd_ne hne] at hdx; exact hdx, ?_⟩⟩
    rw [upd_ne hne] at hdx
    rw [new_eq ha]
    intro a2 ha2
    have J := I'.new (o := .xd [(f, y)]) hdx
    have sg1 := In.newSame (o := .xd [(f, y)]) I'.toIo hdx
    have J2 := J.new (o := ErrO (.ref (He.ga X.K x)) (some dx) a2) ha2
    have sg2 := In.newSame (o := ErrO (.ref (He.ga X.K x)) (some dx) a2) J.toIo ha2
    exact hq _ n' q _ _ _ _ J2 (s'.trans (sg1.trans sg2)) (.err (gs := [(f, y)]) k upd_same (sg2 _ _ upd_same) (fun p hp => by rw [List.mem_singleton.mp hp]; simp [List.lookup]) (.cons (DR.same sg2 (DR.same sg1 rd)) .nil))
end
end VL


set_option maxRecDepth 100000
set_option maxHeartbeats 4000000
namespace VL
open PySem PySem.Spec PyProof.Rows L2
/-! ### isinstance(e, T), e an own error as a datum, T a built-in class of errors -/
def isBK (tb : List (Str × Bool)) (d : Dt) : T Dt := match d with
  | .dict ((.list [.none], .str x) :: _) => ofO ((tb.lookup x).map .bool)
  | _ => .fail
def xIsB (tb : List (Str × Bool)) (te : XT) (ρ : Nv) : T Dt := bd (te ρ) (isBK tb)
def rIsB (T : String) (K : PySem.W.Frag) : List V → Hp → VK → Prop := fun xs H Q => ∃ (a dd : Addr) (x : Str) (fs : List (Str × V)) (b : Bool), xs = [.ref a, .ty T] ∧ XCls K x ∧ H a = some (ErrO (.ref (He.ga K x)) (some dd) a) ∧ H dd = some (.xd fs) ∧ PySem.W.kitOne K (.ref (He.ga K x)) (.type T) = some b ∧ Q (.bl b) H
section
variable {X : Cx} {U : WX} {e : Expr} {te : XT} {pos : Pos}
theorem call_isB {T : String} : CallR X (.builtin "isinstance") (rIsB T X.K) := by
  intro pins s σ H xs us Q I r h
  obtain ⟨a, dd, x, fs, b, rfl, k, ea, eb, e, q⟩ := h
  obtain ⟨u1, u2, rfl, r1, r2⟩ := vals2 r
  cases (show u2 = Value.type T from r2)
  cases (show u1 = Value.ref a from r1)
  obtain ⟨od, oe, J⟩ := DR.errAt k ea eb I
  exact PySem.W.kia_one (PySem.W.kitx_exc (by obtain ⟨cd, hc, _⟩ := PySem.W.any_some k.hd; rw [hc]; rfl) k.hg k.hk k.hs k.ha k.hn k.ht k.hm) I.kIn J e (fun z => by cases z) fun tk => ⟨.bl _, H, I.tok tk, rfl, q⟩
theorem xe_isB {tb : List (Str × Bool)} {T : String} {y : Str} {p2 p3 : Pos} (hk : ∀ p ∈ tb, PySem.W.kitOne X.K (.ref (He.ga X.K p.1)) (.type T) = some p.2) (hg : Gl X "isinstance") (hm : X.mg "isinstance" = none) (hg2 : Gl X y) (hm2 : X.mg y = none) (hv2 : bootBuiltins y = some (.type T)) (ha : VE X U e (S te))
    (hv : bootBuiltins "isinstance" = some (.builtin "isinstance") := by decide +kernel) (hn : y ≠ "__name__" := by decide) (hdb : (y == ("__debug__" : Str)) = false := by decide)
    (he : starEach [e, .Name y p2] X.env = (false, eval e X.env) :: starEach [.Name y p2] X.env := by rfl) (he2 : starEach [.Name y p2] X.env = (false, eval (.Name y p2) X.env) :: starEach [] X.env := by rfl) (hpl : (backTo pos (starEach [.Name y p2] X.env)).any (·.1) = false := by rfl) :
    VE X U (.Call (.Name "isinstance" p3) [e, .Name y p2] [] pos) (S (xIsB tb te)) :=
  pe_imp (pe_callB (call_isB (T := T)) hg hm hv (pa_cons ha (pa_cons (pe_bltn (v := .ty T) hg2 hm2 hv2 rfl hn hdb) pa_nil he2) he) (by decide) (by decide) he hpl) fun σ H Q ⟨C, ρ, n, G, O, Q0, E0, I, h, hq, hE⟩ => ⟨C, ρ, n, G, O, _, E0, I, sat2 h fun _ _ z => z, fun d n' q v G' O' H' I' s' r => by
    replace q : sat (isBK tb d) n' Q0 E0 := q
    unfold isBK at q
    split at q
    · next x kvs =>
      obtain ⟨dd, e, q⟩ := satO q
      obtain ⟨b, eb, rfl⟩ := Option.map_eq_some_iff.mp e
      obtain ⟨a, dd, fs, gs, rfl, k, ea, eb2, _, _⟩ := errD_inv r
      exact ⟨a, dd, x, fs, b, rfl, k, I'.gH _ _ ea, I'.gH _ _ eb2, hk _ (lookup_mem1 eb), hq _ n' q _ G' O' H' I' s' (.bl _)⟩
    · exact q.elim, hE⟩
end
end VL


set_option maxRecDepth 100000
set_option maxHeartbeats 2000000
namespace VL
open PySem PySem.Spec PyProof.Rows L2
/-! ### {"a": 1} as a datum -/
def dstD (kvs : List (Dt × Dt)) : Dt := .dict ((.none, .str "") :: kvs)
section
variable {X : Cx} {U : WX} {x : Str} {i : Int} {j1 j2 : Nat} {p1 p2 pos : Pos}
theorem xe_dstC {c1 c2} : VE X U (.Dict [some (.Constant (.str x) c1 p1)] [.Constant (.int i) c2 p2] pos) (S (xC (dstD [(.str x, .int i)]))) :=
  pe_imp (pe_disp (pps_cons pe_str pe_int pps_nil) (by rfl) (by rfl) (by simp) (show 1 ≤ 15 by decide)) fun σ H Q ⟨C, ρ, n, G, O, Q0, E0, I, h, hq, he⟩ => fun p hp => by
    refine ⟨upd_same, [(.inr x, .int i)], rfl, show 1 ≤ 15 by decide, ?_⟩
    have e : L2.upd (L2.upd H p (.dK [])) p (.dK (mergeK [] [((.inr x : Key), V.int i)])) = L2.upd H p (.dK ([(x, V.int i)].map fun q => (.inr q.1, q.2))) := by
      funext b
      by_cases hb : b = p
      · subst hb; rw [upd_same, upd_same]; rfl
      · rw [upd_ne hb, upd_ne hb, upd_ne hb]
    rw [e]
    have q : Q0 (dstD [(.str x, .int i)]) n := h
    exact hq _ n q _ _ _ _ (I.new hp) (In.newSame I.toIo hp) (.dst upd_same (.cons (.int i) .nil))
end
end VL


set_option maxRecDepth 100000
set_option maxHeartbeats 2000000
namespace VL
open PySem PySem.Spec PyProof.Rows L2
/-! ### repr of a list in which dicts {text: int} stand -/
mutual
/-- what such a datum is, without my header -/
def tru : Dt → Dt
  | .list ds => .list (truA ds)
  | .tuple ds => .tuple (truA ds)
  | .dict kvs => .dict kvs.tail
  | .none => .none
  | .bool b => .bool b
  | .int i => .int i
  | .str x => .str x
def truA : List Dt → List Dt
  | [] => []
  | d :: ds => tru d :: truA ds
end
def emK : List (Dt × Dt) → Bool
  | [] => true
  | [(.none, .str z), (.str x, .int _)] => z == "" && decide ((PyData.str x).shown.length ≤ sizeLine)
  | _ => false
mutual
def emT : Dt → Bool
  | .list ds => emTs ds
  | .tuple ds => emTs ds
  | .dict kvs => emK kvs
  | _ => true
def emTs : List Dt → Bool
  | [] => true
  | d :: ds => emT d && emTs ds
end
section
variable {X : Cx} {pins : List (Addr × Obj)} {σ : L2.St} {H : Hp} {s : Shared}
theorem dst_at (I : Inv X pins σ H s) {a : Addr} {x : Str} {i : Int} (h : H a = some (.dK [((.inr x : Key), V.int i)])) : ∃ o es ep e t1 t2, s.heap.get? a = some o ∧ o.cls = .type "dict" ∧ o.data = .dict es ep ∧ es.toList = [e] ∧ e.key = .str x t1 ∧ e.val = .int i t2 ∧ (a == sysModules) = false := by
  obtain ⟨_, e, vs, kv, o, es, ep, h1, h2, h3, _, h4, _⟩ := (show ObjOk X.prog X.w H s.heap a (.dK [((.inr x : Key), V.int i)]) from I.hok a _ h)
  cases kv with
  | @cons p q _ qs hp t =>
    cases t
    obtain ⟨k, v⟩ := q
    obtain ⟨e1, e2⟩ := hp
    cases e1
    obtain ⟨t2, e2⟩ := e2
    cases z : es.toList with
    | nil => rw [z] at h4; cases h4
    | cons en l =>
      rw [z] at h4
      cases h4 with
      | cons a1 a2 a3 =>
        cases a3
        obtain ⟨t1, e3⟩ := Value.isStrOf_shape (x := x) (v := en.key) a1
        exact ⟨o, es, ep, en, t1, t2, h1, h2.1, h3, z, e3, by rw [a2]; exact e2, e⟩
mutual
theorem rkT_of (I : Inv X pins σ H s) : ∀ (d : Dt) (v : V) (u : Value), DR X.K H v d → RelV v u → emT d = true → (tru d).showable = true → (tru d).shown.length ≤ sizeLine → ∃ as bs, Reads s.heap u (tru d) as ∧ ReadAtMost s.heap (tru d).depth bs ∧ ReprK X.prog X.w bs s.heap (tru d).depth u (tru d).shown
  | .none, _, _, r, rv, _, _, _ => by
    cases r; cases rv
    exact ⟨[], [], .none, (fun _ h => nomatch h), by simp only [tru, PyData.shown]; exact .of_is ReprIs.none _ _ _⟩
  | .bool b, _, _, r, rv, _, _, _ => by
    cases r; cases rv
    exact ⟨[], [], .bool b, (fun _ h => nomatch h), by simp only [tru, PyData.shown]; exact .of_is (ReprIs.bool b) _ _ _⟩
  | .int i, _, _, r, rv, _, hs, _ => by
    cases r; obtain ⟨t, rfl⟩ := rv
    exact ⟨[], [], .int i t, (fun _ h => nomatch h), by simp only [tru, PyData.shown]; exact .of_is (ReprIs.int t (by simpa [tru, PyData.showable] using hs)) _ _ _⟩
  | .str x, _, _, r, rv, _, _, hz => by
    cases r; obtain ⟨t, rfl⟩ := rv
    exact ⟨[], [], .str x t, (fun _ h => nomatch h), by simp only [tru, PyData.shown]; exact .of_is (ReprIs.str x t (by simpa only [tru, PyData.shown] using hz)) _ _ _⟩
  | .list ds, _, _, r, rv, hem, hs, hz => by
    cases r with
    | lst ga rs =>
      cases rv
      obtain ⟨its, rv, ⟨o, n, h1, h2, _, h3⟩, _⟩ := I.list (SqL.of ga)
      simp only [tru] at hs hz ⊢
      have hz' : (listText (PyData.shownAll (truA ds))).length ≤ sizeLine := by simpa only [PyData.shown] using hz
      obtain ⟨as, bs, ra, hb, hk⟩ := rkaT_of I ds _ its rs rv (by simpa [emT] using hem) (by simpa [PyData.showable] using hs) (fun t ht => Nat.le_trans (listText_mem_le ht) hz')
      have r : Reads s.heap (.ref _) (.list (truA ds)) _ := .list h1 h2 h3 (show ReadsAll s.heap its.toArray.toList (truA ds) as from ra)
      have hna : _ ∉ bs := not_mem_of_deeper r (by simp only [PyData.depth]; omega) hb
      refine ⟨_, _ :: bs, r, ReadAtMost.cons r (by simp only [PyData.depth]; omega) hb, ?_⟩
      simp only [PyData.depth, PyData.shown]
      cases its with
      | nil =>
        generalize truA ds = ds' at ra hk hb ⊢
        cases ra
        simp only [PyData.shownAll, listText_nil]
        exact ReprK.listEmpty h1 h2 h3
      | cons x l => exact ReprK.list h1 h2 h3 hna (by simpa using hk.length_eq) (fun i y e => hk.item i y (by simpa using e))
  | .tuple ds, _, _, r, rv, hem, hs, hz => by
    cases r with
    | tup ga rs =>
      cases rv
      obtain ⟨its, rv, ⟨o, h1, h2, n, h3⟩, _⟩ := I.tuple ga
      simp only [tru] at hs hz ⊢
      have hz' : (tupleText (PyData.shownAll (truA ds))).length ≤ sizeLine := by simpa only [PyData.shown] using hz
      obtain ⟨as, bs, ra, hb, hk⟩ := rkaT_of I ds _ its rs rv (by simpa [emT] using hem) (by simpa [PyData.showable] using hs) (fun t ht => Nat.le_trans (tupleText_mem_le ht) hz')
      have r : Reads s.heap (.ref _) (.tuple (truA ds)) _ := .tuple h1 h2 h3 (show ReadsAll s.heap its.toArray.toList (truA ds) as from ra)
      have hna : _ ∉ bs := not_mem_of_deeper r (by simp only [PyData.depth]; omega) hb
      refine ⟨_, _ :: bs, r, ReadAtMost.cons r (by simp only [PyData.depth]; omega) hb, ?_⟩
      simp only [PyData.depth, PyData.shown]
      exact ReprK.tuple h1 h2 h3 hna (show ReprAllK X.prog X.w bs s.heap (PyData.depthAll (truA ds)) its.toArray.toList _ from hk)
  | .dict [], _, _, r, rv, _, hs, hz => by
    cases r with
    | dic ga =>
      cases rv
      obtain ⟨o, ep, h1, h2, h3, hsys⟩ := dic_at I ga
      have r : Reads s.heap (.ref _) (.dict []) _ := .dict h1 h2 h3 (show ReadsAll s.heap ((#[] : Array DictEntry).toList.map (·.key)) (([] : List (PyData × PyData)).map (·.1)) [] from .nil) (show ReadsAll s.heap ((#[] : Array DictEntry).toList.map (·.val)) (([] : List (PyData × PyData)).map (·.2)) [] from .nil)
      refine ⟨_, [_], r, ReadAtMost.cons r (Nat.le_refl _) (fun _ h => nomatch h), ?_⟩
      simp only [tru, List.tail_nil, PyData.depth, PyData.shown, PyData.shownKv_eq]
      exact ReprK.dict h1 h2 h3 hsys (by simp) (ReprEntriesK.of_two [] _ _ .nil .nil)
  | .dict (kv0 :: kvs), v, u, r, rv, hem, hs, hz => by
    have hk : ∃ x i, kv0 = (.none, .str "") ∧ kvs = [(.str x, .int i)] ∧ (PyData.str x).shown.length ≤ sizeLine := by
      have hem2 : emK (kv0 :: kvs) = true := by simpa only [emT] using hem
      unfold emK at hem2
      split at hem2
      · next e => cases e
      · next z x i e => cases e; rw [Bool.and_eq_true] at hem2; exact ⟨x, i, by rw [beq_iff_eq.mp hem2.1], rfl, of_decide_eq_true hem2.2⟩
      · cases hem2
    obtain ⟨x, i, rfl, rfl, hz1⟩ := hk
    cases r with
    | @dst a fs _ ga rf =>
      cases rf with
      | cons r1 r2 =>
        cases r2
        cases r1
        cases rv
        obtain ⟨o, es, ep, en, t1, t2, h1, h2, h3, h4, h5, h6, hsys⟩ := dst_at I ga
        have hs1 : i.natAbs.log2 < 1920 := by
          simp only [tru, List.tail_cons] at hs
          simpa [PyData.showable, PyData.showableKv] using hs
        have r : Reads s.heap (.ref a) (.dict [(.str x, .int i)]) _ := .dict h1 h2 h3 (show ReadsAll s.heap (es.toList.map (·.key)) [.str x] _ by rw [h4, List.map_cons, List.map_nil, h5]; exact .cons (.str x t1) .nil) (show ReadsAll s.heap (es.toList.map (·.val)) [.int i] _ by rw [h4, List.map_cons, List.map_nil, h6]; exact .cons (.int i t2) .nil)
        refine ⟨_, [_], r, ReadAtMost.cons r (Nat.le_refl _) (fun _ h => nomatch h), ?_⟩
        simp only [tru, List.tail_cons, PyData.depth, PyData.shown, PyData.shownKv_eq]
        exact ReprK.dict h1 h2 h3 hsys (by simp) (ReprEntriesK.of_two es.toList _ _ (by rw [h4, List.map_cons, List.map_nil, h5]; exact .cons (.of_is (ReprIs.str x t1 hz1) _ _ _) .nil) (by rw [h4, List.map_cons, List.map_nil, h6]; exact .cons (.of_is (ReprIs.int t2 hs1) _ _ _) .nil))
theorem rkaT_of (I : Inv X pins σ H s) : ∀ (ds : List Dt) (vs : List V) (us : List Value), DRs X.K H vs ds → Vals vs us → emTs ds = true → PyData.showableAll (truA ds) = true → (∀ t ∈ PyData.shownAll (truA ds), t.length ≤ sizeLine) → ∃ as bs, ReadsAll s.heap us (truA ds) as ∧ ReadAtMost s.heap (PyData.depthAll (truA ds)) bs ∧ ReprAllK X.prog X.w bs s.heap (PyData.depthAll (truA ds)) us (PyData.shownAll (truA ds))
  | [], _, _, r, rv, _, _, _ => by
    cases r; cases rv
    exact ⟨[], [], .nil, (fun _ h => nomatch h), by simp only [truA, PyData.shownAll]; exact .nil⟩
  | d :: ds, _, _, r, rv, hem, hs, hz => by
    cases r with
    | cons r1 r2 =>
      cases rv with
      | cons v1 v2 =>
        have hem' : emT d = true ∧ emTs ds = true := by simpa [emTs] using hem
        simp only [truA] at hs hz ⊢
        have hs' : (tru d).showable = true ∧ PyData.showableAll (truA ds) = true := by simpa [PyData.showableAll] using hs
        obtain ⟨a1, b1, ra1, hb1, k1⟩ := rkT_of I d _ _ r1 v1 hem'.1 hs'.1 (hz _ (by simp only [PyData.shownAll]; exact List.mem_cons_self ..))
        obtain ⟨a2, b2, ra2, hb2, k2⟩ := rkaT_of I ds _ _ r2 v2 hem'.2 hs'.2 (fun t ht => hz t (by simp only [PyData.shownAll]; exact List.mem_cons_of_mem _ ht))
        refine ⟨a1 ++ a2, b1 ++ b2, .cons ra1 ra2, ?_, ?_⟩
        · intro b hm
          simp only [PyData.depthAll]
          rcases List.mem_append.mp hm with hm | hm
          · obtain ⟨d', as', r', hd'⟩ := hb1 b hm
            exact ⟨d', as', r', Nat.le_trans hd' (Nat.le_max_left _ _)⟩
          · obtain ⟨d', as', r', hd'⟩ := hb2 b hm
            exact ⟨d', as', r', Nat.le_trans hd' (Nat.le_max_right _ _)⟩
        · simp only [PyData.depthAll, PyData.shownAll]
          exact .cons ((k1.more fun b hb => List.mem_append_left _ hb).level_le (Nat.le_max_left _ _)) (k2.more_le (fun b hb => List.mem_append_right _ hb) (Nat.le_max_right _ _))
end
end
open Classical in
noncomputable def pReprT (ds : List Dt) : Option Dt := match ds with
  | [.list ds] => if emTs ds = true ∧ (tru (.list ds)).showable = true ∧ (tru (.list ds)).shown.length ≤ sizeLine ∧ (tru (.list ds)).depth ≤ 60 then some (.str (tru (.list ds)).shown) else none
  | _ => none
theorem pc_reprT {X : Cx} (hG : X.A.guards = some []) (hu : X.A.units + 64 < cLine) : VCal X (.builtin "repr") (RC pReprT) := by
  intro pins s σ H xs us Q I rv ⟨G, ds, Q0, sg, r, q, hq⟩
  unfold RC at q
  split at q
  · next dd e =>
    unfold pReprT at e
    split at e
    · next ds =>
      obtain ⟨⟨nd, h1, h2, h3⟩, rfl⟩ := ite_at e
      cases r with
      | cons r1 r2 =>
      cases r2
      cases rv with
      | cons rv1 rv2 =>
      cases rv2
      have fin : ∀ h' u tk, (∀ b o, s.heap.get? b = some o → h'.get? b = some o) → L2.EP X pins σ Q (.str (tru (.list ds)).shown u) { s with heap := h', toks := tk } := fun h' u tk hk =>
        ⟨.str (tru (.list ds)).shown, H, I.kept hk, ⟨u, rfl⟩, hq _ q _ G H (Same.refl _) (Same.refl _) sg New.refl (.str _)⟩
      have r1' := DR.same sg r1
      cases r1' with
      | lst ga rs =>
        cases rv1
        obtain ⟨its, rv, ⟨o, n, g1, g2, _, g3⟩, _⟩ := I.list (SqL.of ga)
        simp only [tru] at h1 h2 h3 fin
        have hz' : (listText (PyData.shownAll (truA ds))).length ≤ sizeLine := by simpa only [PyData.shown] using h2
        obtain ⟨as, bs, ra, hb, hk⟩ := rkaT_of I ds _ its rs rv nd (by simpa [PyData.showable] using h1) (fun t ht => Nat.le_trans (listText_mem_le ht) hz')
        have r : Reads s.heap (.ref _) (.list (truA ds)) _ := .list g1 g2 g3 (show ReadsAll s.heap its.toArray.toList (truA ds) as from ra)
        have hna : _ ∉ bs := not_mem_of_deeper r (by simp only [PyData.depth]; omega) hb
        simp only [PyData.depth] at h3
        simp only [PyData.shown] at fin
        refine call_repr_slot (by omega) ⟨o, g1, g2⟩ F.slot_list_repr.toG ?_
        cases its with
        | nil =>
          generalize truA ds = ds' at ra hk hb fin
          cases ra
          simp only [PyData.shownAll, listText_nil] at fin
          exact call_list_repr_empty ⟨o, g1, g2⟩ g1 g3 ⟨_, _, rfl, fin s.heap _ _ fun _ _ e => e⟩
        | cons x l =>
          exact call_list_reprK g1 g2 g3 hna (by simpa using hk.length_eq) (fun i y e => hk.item i y (by simpa using e)) hG (fun b _ => Clear.nil b) (by show X.A.units + 1 + _ < cLine; omega) (fun _ _ e => e) (fun h' u tk hk' => ⟨_, _, rfl, fin h' u tk hk'⟩) hz'
    · cases e
  · exact q.elim
end VL


set_option maxRecDepth 100000
set_option maxHeartbeats 2000000
namespace VL
open PySem PySem.Spec PyProof.Rows L2
/-! ### checks and mirrors for errors as values -/
def isbB (K : PySem.W.Frag) (T : String) (tb : List (Str × Bool)) : Bool := tb.all fun p => decide (PySem.W.kitOne K (.ref (He.ga K p.1)) (.type T) = some p.2)
theorem isbB_ok {K : PySem.W.Frag} {T : String} {tb : List (Str × Bool)} (h : isbB K T tb = true) : ∀ p ∈ tb, PySem.W.kitOne K (.ref (He.ga K p.1)) (.type T) = some p.2 := fun p hp => of_decide_eq_true (List.all_eq_true.mp h p hp)
theorem rzk_of {P : Program} {w : World} {K : PySem.W.Frag} {mg : Str → Option Value} {base : Heap} {x : Str} {flds ks : List Str} (h : rzB K x flds = true) (g : mg x = some (.ref (He.ga K x))) (nd : flds.Nodup) {fd : FuncData} {ps : List Str} (F : FnOk P w K mg base (L2.CX P w) 1 (iA K x) fd ps (spInit K flds)) (hl : ps.length = ks.length + 1)
    (B : ∀ (s : Shared) (self : Value) (ws : List Value), ws.length = ks.length → BindsTo s fd ⟨[self], ks.zip ws⟩ (ps.zip (self :: ws.reverse))) : RzK P w K mg base x flds ks := by
  unfold rzB at h
  simp only [Bool.and_eq_true, decide_eq_true_eq, List.all_eq_true] at h
  obtain ⟨h0, h1, h2, h3⟩ := h
  exact ⟨oexB_ok h0, g, h1, nd, _, _, _, h2, h3, F, hl, B⟩
theorem rgk_of {P : Program} {w : World} {K : PySem.W.Frag} {mg : Str → Option Value} {base : Heap} {B newId initId : String} {bmB : List Value} {x f : Str} (fb : ExcBaseFacts B newId initId bmB) (sf : StoreFacts B bmB "object.__setattr__" "object") (h : rgB K x f newId bmB = true) (g : mg x = some (.ref (He.ga K x)))
    {fd : FuncData} {ps : List Str} (F : OexG K (He.ga K x) B newId initId bmB → FnOk P w K mg base (L2.CX P w) 1 (iA K x) fd ps (spOne K B newId initId bmB f)) (hl : ps.length = 2) (Bi : ∀ (s : Shared) (self : Value) (ws : List Value), ws.length = 1 → BindsTo s fd ⟨[self], [f].zip ws⟩ (ps.zip (self :: ws.reverse))) : RzGK P w K mg base B newId initId bmB x f := by
  unfold rgB at h
  simp only [Bool.and_eq_true, decide_eq_true_eq] at h
  obtain ⟨h0, h1, h2, h3⟩ := h
  have c := oegB_ok fb sf h0
  exact ⟨c, g, h1, _, _, _, h2, h3, F c, hl, Bi⟩
end VL


set_option maxRecDepth 100000
set_option maxHeartbeats 4000000
namespace LW
open PySem PySem.Spec PyProof.Rows L2 VL
/-! ### the text by places -/
def top (i : Nat) : Stmt := PySem.Challenge.pw_stepsound_k01_errors.main.body.getD i (.Pass ⟨0, 0, 0, 0⟩)
abbrev s__law_begun : Stmt := top 10
abbrev s__law_next : Stmt := top 11
abbrev s__law_marks : Stmt := top 12
abbrev s__law_above : Stmt := top 13
abbrev s__law_made : Stmt := top 14
abbrev s__law_right : Stmt := top 15
abbrev s_law : Stmt := top 16
def clsAt (s : Stmt) (j : Nat) : Stmt := match s with
  | .ClassDef _ _ _ body _ _ _ _ _ _ _ => body.getD j (.Pass ⟨0, 0, 0, 0⟩)
  | _ => .Pass ⟨0, 0, 0, 0⟩
abbrev i_BadCoder : Stmt := clsAt (top 1) 0
theorem sci_BadCoder : FnScope ["self", "part", "number"] ["self", "part", "number"] (defScope i_BadCoder) := ⟨rfl, rfl, rfl, by decide +kernel, rfl, by decide +kernel, by decide +kernel⟩
abbrev i_BadRow : Stmt := clsAt (top 2) 0
theorem sci_BadRow : FnScope ["self", "row", "word"] ["self", "row", "word"] (defScope i_BadRow) := ⟨rfl, rfl, rfl, by decide +kernel, rfl, by decide +kernel, by decide +kernel⟩
abbrev i_BadPaper : Stmt := clsAt (top 3) 0
theorem sci_BadPaper : FnScope ["self", "part", "number"] ["self", "part", "number"] (defScope i_BadPaper) := ⟨rfl, rfl, rfl, by decide +kernel, rfl, by decide +kernel, by decide +kernel⟩
abbrev i_BadByte : Stmt := clsAt (top 4) 0
theorem sci_BadByte : FnScope ["self", "number"] ["self", "number"] (defScope i_BadByte) := ⟨rfl, rfl, rfl, by decide +kernel, rfl, by decide +kernel, by decide +kernel⟩
abbrev i_OutOfPlace : Stmt := clsAt (top 5) 0
theorem sci_OutOfPlace : FnScope ["self", "text"] ["self", "text"] (defScope i_OutOfPlace) := ⟨rfl, rfl, rfl, by decide +kernel, rfl, by decide +kernel, by decide +kernel⟩
abbrev i_NoSeam : Stmt := clsAt (top 6) 0
theorem sci_NoSeam : FnScope ["self", "text"] ["self", "text"] (defScope i_NoSeam) := ⟨rfl, rfl, rfl, by decide +kernel, rfl, by decide +kernel, by decide +kernel⟩
abbrev i_TooGreat : Stmt := clsAt (top 7) 0
theorem sci_TooGreat : FnScope ["self", "most"] ["self", "most"] (defScope i_TooGreat) := ⟨rfl, rfl, rfl, by decide +kernel, rfl, by decide +kernel, by decide +kernel⟩
abbrev i_Nothing : Stmt := clsAt (top 8) 0
theorem sci_Nothing : FnScope ["self", "text"] ["self", "text"] (defScope i_Nothing) := ⟨rfl, rfl, rfl, by decide +kernel, rfl, by decide +kernel, by decide +kernel⟩
abbrev kn : List Str := ["BadCoder", "BadRow", "BadPaper", "BadByte", "OutOfPlace", "NoSeam", "TooGreat", "Nothing"]
abbrev nm__law_begun : List Str := ["script", "cell"]
theorem sc__law_begun : FnScope nm__law_begun ["script"] (defScope s__law_begun) := ⟨rfl, rfl, rfl, by decide +kernel, rfl, by decide +kernel, by decide +kernel⟩
abbrev nm__law_next : List Str := ["m", "many", "rest", "k", "cell", "mixed"]
theorem sc__law_next : FnScope nm__law_next ["m", "many"] (defScope s__law_next) := ⟨rfl, rfl, rfl, by decide +kernel, rfl, by decide +kernel, by decide +kernel⟩
abbrev nm__law_marks : List Str := ["one", "found"]
theorem sc__law_marks : FnScope nm__law_marks ["one"] (defScope s__law_marks) := ⟨rfl, rfl, rfl, by decide +kernel, rfl, by decide +kernel, by decide +kernel⟩
abbrev nm__law_above : List Str := ["one", "found"]
theorem sc__law_above : FnScope nm__law_above ["one"] (defScope s__law_above) := ⟨rfl, rfl, rfl, by decide +kernel, rfl, by decide +kernel, by decide +kernel⟩
abbrev nm__law_made : List Str := ["way", "x", "y", "found"]
theorem sc__law_made : FnScope nm__law_made ["way", "x", "y"] (defScope s__law_made) := ⟨rfl, rfl, rfl, by decide +kernel, rfl, by decide +kernel, by decide +kernel⟩
abbrev nm__law_right : List Str := ["way", "x", "y", "made", "fields", "at", "one", "k", "is_so"]
theorem sc__law_right : FnScope nm__law_right ["way", "x", "y"] (defScope s__law_right) := ⟨rfl, rfl, rfl, by decide +kernel, rfl, by decide +kernel, by decide +kernel⟩
abbrev nm_law : List Str := ["script", "m", "some", "turn"]
theorem sc_law : FnScope nm_law ["script"] (defScope s_law) := ⟨rfl, rfl, rfl, by decide +kernel, rfl, by decide +kernel, by decide +kernel⟩
def tb_IndexError : List (Str × Bool) := [("BadCoder", false), ("BadRow", false), ("BadPaper", false), ("BadByte", false), ("OutOfPlace", false), ("NoSeam", false), ("TooGreat", false), ("Nothing", false)]
def tb_KeyError : List (Str × Bool) := [("BadCoder", false), ("BadRow", false), ("BadPaper", false), ("BadByte", false), ("OutOfPlace", false), ("NoSeam", false), ("TooGreat", false), ("Nothing", false)]
def tb_LookupError : List (Str × Bool) := [("BadCoder", false), ("BadRow", false), ("BadPaper", false), ("BadByte", false), ("OutOfPlace", false), ("NoSeam", false), ("TooGreat", false), ("Nothing", true)]
def tb_OverflowError : List (Str × Bool) := [("BadCoder", false), ("BadRow", false), ("BadPaper", false), ("BadByte", false), ("OutOfPlace", false), ("NoSeam", false), ("TooGreat", true), ("Nothing", false)]
def tb_ValueError : List (Str × Bool) := [("BadCoder", true), ("BadRow", true), ("BadPaper", true), ("BadByte", true), ("OutOfPlace", true), ("NoSeam", true), ("TooGreat", false), ("Nothing", false)]
def kf : List (Str × List Str) := [("BadCoder", ["part", "number"]), ("BadRow", ["row", "word"]), ("BadPaper", ["part", "number"]), ("BadByte", ["number"]), ("OutOfPlace", ["text"]), ("NoSeam", ["text"]), ("TooGreat", ["most"]), ("Nothing", ["text"])]
def tf : List He.Defn := [("law", none), ("_law_right", none)]
/-! ### what the top has left -/
structure Tx (K : PySem.W.Frag) (mg : Str → Option Value) : Prop where
  d__law_begun : ∃ fd, FunD K "_law_begun" "_law_begun" (defArgs s__law_begun) (defBody s__law_begun) (defScope s__law_begun) [] [] (He.ga K "_law_begun") fd
  g__law_begun : mg "_law_begun" = some (.ref (He.ga K "_law_begun"))
  d__law_next : ∃ fd, FunD K "_law_next" "_law_next" (defArgs s__law_next) (defBody s__law_next) (defScope s__law_next) [] [] (He.ga K "_law_next") fd
  g__law_next : mg "_law_next" = some (.ref (He.ga K "_law_next"))
  d__law_marks : ∃ fd, FunD K "_law_marks" "_law_marks" (defArgs s__law_marks) (defBody s__law_marks) (defScope s__law_marks) [] [] (He.ga K "_law_marks") fd
  g__law_marks : mg "_law_marks" = some (.ref (He.ga K "_law_marks"))
  d__law_above : ∃ fd, FunD K "_law_above" "_law_above" (defArgs s__law_above) (defBody s__law_above) (defScope s__law_above) [] [] (He.ga K "_law_above") fd
  g__law_above : mg "_law_above" = some (.ref (He.ga K "_law_above"))
  d__law_made : ∃ fd, FunD K "_law_made" "_law_made" (defArgs s__law_made) (defBody s__law_made) (defScope s__law_made) [] [] (He.ga K "_law_made") fd
  g__law_made : mg "_law_made" = some (.ref (He.ga K "_law_made"))
  d__law_right : ∃ fd, FunD K "_law_right" "_law_right" (defArgs s__law_right) (defBody s__law_right) (defScope s__law_right) [] [] (He.ga K "_law_right") fd
  g__law_right : mg "_law_right" = some (.ref (He.ga K "_law_right"))
  d_law : ∃ fd, FunD K "law" "law" (defArgs s_law) (defBody s_law) (defScope s_law) [] [] (He.ga K "law") fd
  g_law : mg "law" = some (.ref (He.ga K "law"))
  g_BadCoder : mg "BadCoder" = some (.ref (He.ga K "BadCoder"))
  z_BadCoder : rzB K "BadCoder" ["part", "number"] = true
  d_BadCoder : ∃ fd, FunD K "__init__" "BadCoder.__init__" (defArgs i_BadCoder) (defBody i_BadCoder) (defScope i_BadCoder) [] [] (iA K "BadCoder") fd
  g_BadRow : mg "BadRow" = some (.ref (He.ga K "BadRow"))
  z_BadRow : rzB K "BadRow" ["row", "word"] = true
  d_BadRow : ∃ fd, FunD K "__init__" "BadRow.__init__" (defArgs i_BadRow) (defBody i_BadRow) (defScope i_BadRow) [] [] (iA K "BadRow") fd
  g_BadPaper : mg "BadPaper" = some (.ref (He.ga K "BadPaper"))
  z_BadPaper : rzB K "BadPaper" ["part", "number"] = true
  d_BadPaper : ∃ fd, FunD K "__init__" "BadPaper.__init__" (defArgs i_BadPaper) (defBody i_BadPaper) (defScope i_BadPaper) [] [] (iA K "BadPaper") fd
  g_BadByte : mg "BadByte" = some (.ref (He.ga K "BadByte"))
  z_BadByte : rzB K "BadByte" ["number"] = true
  d_BadByte : ∃ fd, FunD K "__init__" "BadByte.__init__" (defArgs i_BadByte) (defBody i_BadByte) (defScope i_BadByte) [] [] (iA K "BadByte") fd
  g_OutOfPlace : mg "OutOfPlace" = some (.ref (He.ga K "OutOfPlace"))
  z_OutOfPlace : rzB K "OutOfPlace" ["text"] = true
  d_OutOfPlace : ∃ fd, FunD K "__init__" "OutOfPlace.__init__" (defArgs i_OutOfPlace) (defBody i_OutOfPlace) (defScope i_OutOfPlace) [] [] (iA K "OutOfPlace") fd
  g_NoSeam : mg "NoSeam" = some (.ref (He.ga K "NoSeam"))
  z_NoSeam : rzB K "NoSeam" ["text"] = true
  d_NoSeam : ∃ fd, FunD K "__init__" "NoSeam.__init__" (defArgs i_NoSeam) (defBody i_NoSeam) (defScope i_NoSeam) [] [] (iA K "NoSeam") fd
  g_TooGreat : mg "TooGreat" = some (.ref (He.ga K "TooGreat"))
  z_TooGreat : rgB K "TooGreat" "most" "OverflowError.__new__" oeT = true
  d_TooGreat : ∃ fd, FunD K "__init__" "TooGreat.__init__" (defArgs i_TooGreat) (defBody i_TooGreat) (defScope i_TooGreat) [] [] (iA K "TooGreat") fd
  g_Nothing : mg "Nothing" = some (.ref (He.ga K "Nothing"))
  z_Nothing : rgB K "Nothing" "text" "LookupError.__new__" leT = true
  d_Nothing : ∃ fd, FunD K "__init__" "Nothing.__init__" (defArgs i_Nothing) (defBody i_Nothing) (defScope i_Nothing) [] [] (iA K "Nothing") fd
  kx : KnX K kn
  kf : KfOk K kf
  kb_IndexError : ∀ p ∈ tb_IndexError, PySem.W.kitOne K (.ref (He.ga K p.1)) (.type "IndexError") = some p.2
  kb_KeyError : ∀ p ∈ tb_KeyError, PySem.W.kitOne K (.ref (He.ga K p.1)) (.type "KeyError") = some p.2
  kb_LookupError : ∀ p ∈ tb_LookupError, PySem.W.kitOne K (.ref (He.ga K p.1)) (.type "LookupError") = some p.2
  kb_OverflowError : ∀ p ∈ tb_OverflowError, PySem.W.kitOne K (.ref (He.ga K p.1)) (.type "OverflowError") = some p.2
  kb_ValueError : ∀ p ∈ tb_ValueError, PySem.W.kitOne K (.ref (He.ga K p.1)) (.type "ValueError") = some p.2
  b_IndexError : mg "IndexError" = none
  b_KeyError : mg "KeyError" = none
  b_LookupError : mg "LookupError" = none
  b_OverflowError : mg "OverflowError" = none
  b_ValueError : mg "ValueError" = none
  b_enumerate : mg "enumerate" = none
  b_int : mg "int" = none
  b_isinstance : mg "isinstance" = none
  b_len : mg "len" = none
  b_list : mg "list" = none
  b_min : mg "min" = none
  b_range : mg "range" = none
  b_repr : mg "repr" = none
/-! ### the mirrors -/
/-- a draw: any number below many; the counter goes on -/
def v__law_next : VFn := fun ws n Q _ => match ws with
  | [.tok, .dat (.int many)] => 0 < many ∧ many < 10000000000000000000000000000000 ∧ n < 1000000000000 ∧ ∀ r, 0 ≤ r → r < many → Q (.dat (.int r)) (n + 1)
  | _ => False
def w__law_next : XFn := fun ws => match ws with
  | [.tok, .dat (.int many)] => .draw many fun r => .ret (.dat (.int r))
  | _ => .fail
theorem nextX : ∀ ws n Q E, SF w__law_next ws n Q E → v__law_next ws n Q E := fun ws n Q E h => by
  unfold SF w__law_next at h
  unfold v__law_next
  split at h
  · exact h
  · exact h.elim
noncomputable def t__law_marks : XS :=
  xSeq (xSet 1 (xFz (xLst (xCons (xIsE (kf.map (·.1)) "BadCoder" (xVar 0)) (xCons (xIsE (kf.map (·.1)) "BadRow" (xVar 0)) (xCons (xIsE (kf.map (·.1)) "BadPaper" (xVar 0)) (xCons (xIsE (kf.map (·.1)) "BadByte" (xVar 0)) (xNil))))))))
  (xSeq (xSet 1 (xOp pAdd (xVar 1) (xFz (xLst (xCons (xIsE (kf.map (·.1)) "OutOfPlace" (xVar 0)) (xCons (xIsE (kf.map (·.1)) "NoSeam" (xVar 0)) (xNil)))))))
  (xRet (xOp pAdd (xVar 1) (xFz (xLst (xCons (xIsE (kf.map (·.1)) "TooGreat" (xVar 0)) (xCons (xIsE (kf.map (·.1)) "Nothing" (xVar 0)) (xNil))))))))
noncomputable def w__law_marks : XFn := sealed (bodyX 2 1 t__law_marks)
theorem wd__law_marks : w__law_marks = bodyX 2 1 t__law_marks := sealed_eq _
noncomputable def t__law_above : XS :=
  xSeq (xSet 1 (xFz (xLst (xCons (xIsB tb_ValueError (xVar 0)) (xCons (xIsB tb_OverflowError (xVar 0)) (xCons (xIsB tb_LookupError (xVar 0)) (xNil)))))))
  (xRet (xOp pAdd (xVar 1) (xFz (xLst (xCons (xIsB tb_KeyError (xVar 0)) (xCons (xIsB tb_IndexError (xVar 0)) (xNil)))))))
noncomputable def w__law_above : XFn := sealed (bodyX 2 1 t__law_above)
theorem wd__law_above : w__law_above = bodyX 2 1 t__law_above := sealed_eq _
noncomputable def t__law_made : XS :=
  xSeq (xIfS (xTest (xOp pEq (xVar 0) (xC (.int 0)))) (xSeq (xSet 3 (xFz (xLst (xCons (xNew "BadCoder" ["part", "number"] (xCons (xVar 1) (xCons (xVar 2) (xNil)))) (xCons (xNew "BadRow" ["row", "word"] (xCons (xVar 1) (xCons (xVar 2) (xNil)))) (xCons (xNew "BadPaper" ["part", "number"] (xCons (xVar 1) (xCons (xVar 2) (xNil)))) (xCons (xNew "BadByte" ["number"] (xCons (xVar 1) (xNil))) (xNil))))))))
  (xRet (xOp pAdd (xVar 3) (xFz (xLst (xCons (xNew "OutOfPlace" ["text"] (xCons (xC (.str "a")) (xNil))) (xCons (xNew "NoSeam" ["text"] (xCons (xC (.str "b")) (xNil))) (xCons (xNew "TooGreat" ["most"] (xCons (xVar 1) (xNil))) (xCons (xNew "Nothing" ["text"] (xCons (xC (.str "c")) (xNil))) (xNil)))))))))) (xNext))
  (xSeq (xSet 3 (xFz (xLst (xCons (xNewK "BadCoder" ["part", "number"] (xCons (xVar 2) (xCons (xVar 1) (xNil)))) (xCons (xNewK "BadRow" ["row", "word"] (xCons (xVar 2) (xCons (xVar 1) (xNil)))) (xCons (xNewK "BadPaper" ["part", "number"] (xCons (xVar 2) (xCons (xVar 1) (xNil)))) (xCons (xNewK "BadByte" ["number"] (xCons (xVar 1) (xNil))) (xNil))))))))
  (xRet (xOp pAdd (xVar 3) (xFz (xLst (xCons (xNewK "OutOfPlace" ["text"] (xCons (xC (.str "a")) (xNil))) (xCons (xNewK "NoSeam" ["text"] (xCons (xC (.str "b")) (xNil))) (xCons (xNewK "TooGreat" ["most"] (xCons (xVar 1) (xNil))) (xCons (xNewK "Nothing" ["text"] (xCons (xC (.str "c")) (xNil))) (xNil))))))))))
noncomputable def w__law_made : XFn := sealed (bodyX 4 3 t__law_made)
theorem wd__law_made : w__law_made = bodyX 4 3 t__law_made := sealed_eq _
noncomputable def c__law_right_0 : XB :=
  xTest (xVar 8)
noncomputable def e__law_right_1 : XT :=
  xVar 7
noncomputable def b__law_right_2 : XS :=
  xSeq (xIfS (xTest (xOp pNe (xFz (xLc (ziEL (xCons (xCall w__law_marks [] (ywDat (xVar 6) (ywNil))) (xNil))) (ygT 2 (ygsC (ygN 7) (ygsC (ygN 8) ygsN))) c__law_right_0 e__law_right_1 [7, 8])) (xFz (xLst (xCons (xVar 5) (xNil)))))) (xRet (xC (.bool false))) (xNext))
  (xIfS (xTest (xOp pNe (xCall w__law_above [] (ywDat (xVar 6) (ywNil))) (xFz (xLst (xCons (xOp pLtA (xVar 5) (xC (.int 6))) (xCons (xOp pEq (xVar 5) (xC (.int 6))) (xCons (xOp pEq (xVar 5) (xC (.int 7))) (xCons (xC (.bool false)) (xCons (xC (.bool false)) (xNil)))))))))) (xRet (xC (.bool false))) (xNext))
noncomputable def t__law_right : XS :=
  xSeq (xSet 3 (xCall w__law_made [] (ywDat (xVar 0) (ywDat (xVar 1) (ywDat (xVar 2) (ywNil))))))
  (xSeq (xSet 4 (xFz (xLst (xCons (xXa kf "BadCoder" "part" (xOp pIx (xVar 3) (xC (.int 0)))) (xCons (xXa kf "BadCoder" "number" (xOp pIx (xVar 3) (xC (.int 0)))) (xCons (xXa kf "BadRow" "row" (xOp pIx (xVar 3) (xC (.int 1)))) (xCons (xXa kf "BadRow" "word" (xOp pIx (xVar 3) (xC (.int 1)))) (xCons (xXa kf "BadPaper" "part" (xOp pIx (xVar 3) (xC (.int 2)))) (xCons (xXa kf "BadPaper" "number" (xOp pIx (xVar 3) (xC (.int 2)))) (xNil))))))))))
  (xSeq (xIfS (xTest (xOp pNe (xCB pReprT (xCons (xOp pAdd (xVar 4) (xFz (xLst (xCons (xXa kf "BadByte" "number" (xOp pIx (xVar 3) (xC (.int 3)))) (xCons (xXa kf "TooGreat" "most" (xOp pIx (xVar 3) (xC (.int 6)))) (xNil)))))) (xNil))) (xCB pReprT (xCons (xFz (xLst (xCons (xVar 1) (xCons (xVar 2) (xCons (xVar 1) (xCons (xVar 2) (xCons (xVar 1) (xCons (xVar 2) (xCons (xVar 1) (xCons (xVar 1) (xNil))))))))))) (xNil))))) (xRet (xC (.bool false))) (xNext))
  (xSeq (xFor (ziEL (xCons (xVar 3) (xNil))) (ygT 2 (ygsC (ygN 5) (ygsC (ygN 6) (ygsN)))) b__law_right_2)
  (xRet (xC (.bool true))))))
noncomputable def w__law_right : XFn := sealed (bodyX 9 3 t__law_right)
theorem wd__law_right : w__law_right = bodyX 9 3 t__law_right := sealed_eq _
noncomputable def b_law_0 : XS :=
  xIfS (xNot (xTest (xCall w__law_right [] (ywDat (xCall w__law_next [] (ywVar 1 (ywDat (xC (.int 2)) (ywNil)))) (ywDat (xOp pIx (xVar 2) (xCall w__law_next [] (ywVar 1 (ywDat (xC (.int 14)) (ywNil))))) (ywDat (xOp pIx (xVar 2) (xCall w__law_next [] (ywVar 1 (ywDat (xC (.int 14)) (ywNil))))) (ywNil))))))) (xRet (xC (.bool false))) (xNext)
noncomputable def t_law0 : XS :=
  xSeq (xSet 2 (xFz (xLst (xCons (xC .none) (xCons (xC (.int 0)) (xCons (xUn pNeg (xC (.int 1))) (xCons (xC (.int 7)) (xCons (xC (.bool true)) (xCons (xC (.str "")) (xCons (xC (.str "form")) (xCons (xTup (xNil)) (xCons (xTup (xCons (xC (.int 1)) (xCons (xC (.int 2)) (xNil)))) (xCons (xFz (xLst (xCons (xC (.int 1)) (xCons (xC (.int 2)) (xNil))))) (xCons (xC (dstD [(.str "a", .int 1)])) (xCons (xOp pPow (xC (.int 10)) (xC (.int 30))) (xCons (xTup (xCons (xC (.int 1)) (xCons (xTup (xCons (xC (.int 0)) (xCons (xC (.int 2)) (xNil)))) (xNil)))) (xCons (xC (.bool false)) (xNil))))))))))))))))))
  (xSeq (xFor (ziR1 (xCons (xOp pAdd (xC (.int 2)) (xCB pMin2 (xCons (xLenS 0) (xCons (xC (.int 5)) (xNil))))) (xNil))) (ygN 3) b_law_0)
  (xRet (xC (.bool true))))
noncomputable def t_law : XS := sealed t_law0
theorem td_law : t_law = t_law0 := sealed_eq _
section
variable {P : Program} {w : World} {K : PySem.W.Frag} {mg : Str → Option Value} {base : Heap}
theorem okBegun (T : Tx K mg) : ∃ fd, FnG P w K mg base 1 (He.ga K "_law_begun") fd ["script"] (spBegun K) ∧ Binds K fd ["script"] [] ∧ PySem.W.keepIn K (.ref (He.ga K "_law_begun")) = true ∧ mg "_law_begun" = some (.ref (He.ga K "_law_begun")) := by
  obtain ⟨fd, F⟩ := T.d__law_begun
  have S := sc__law_begun
  refine ⟨fd, fnG_of (k := 0) F S (fun vs H Q E h => ?_) (fun cdv A outer s H vs Q E hcv hg hr h => ?_), F.bindsN fun _ _ _ _ _ _ us hl => match us, hl with | [_], _ => rfl, F.kp, T.g__law_begun⟩
  · obtain ⟨a, ns, rfl, _⟩ := h
    rfl
  · obtain ⟨a, ns, rfl, hs, hl, k⟩ := h
    refine ⟨_, pss_one (ps_ret (pe_disp (pps_cons pe_str (pe_callTy call_list_of rfl T.b_list (by decide +kernel) (pa_cons (pv 0) pa_nil)) (pps_cons pe_str (pe_lc (own := [("cell", 1)]) rfl S.nd (pi_list (pv 0))
      (blkOk_by (own := [("cell", 1)]) (N := nm__law_begun) (sc := defScope s__law_begun) (by decide +kernel)) (fun _ _ _ _ _ => pg_name (i := 1) S.nd rfl (Or.inl rfl)) (fun _ _ _ _ _ => pts_one (pt_cmpR op_ge (pv 1) (pe_op op_pow pe_int pe_int) (nomark _))) (fun _ _ _ _ _ => pv 1))
      (pps_cons pe_str pe_int pps_nil))) (by rfl) (by rfl) (fun z => by cases z) (by decide))), ?_⟩
    intro p hp
    have s1 : Same H (L2.upd H p (.dK [])) := same_upd hp
    refine ⟨_, rfl, a, _, rfl, .inl (s1.seq hs), fun lc hlc => ?_⟩
    have s2 := same_upd (o := .lst (ns.map V.int)) hlc
    refine ⟨_, rfl, a, rfl, ⟨_, (s1.trans s2).seq hs⟩, fun ll hll => ?_⟩
    have s3 : ∀ xs : List V, Same (L2.upd (L2.upd H p (.dK [])) lc (.lst (ns.map V.int))) (L2.upd (L2.upd (L2.upd H p (.dK [])) lc (.lst (ns.map V.int))) ll (.lst xs)) := fun xs => same_upd hll
    refine lc_list (K := K) (a := a) (xs := ns.map V.int) (fun i H' => ∃ ms : List Int, ms.length ≤ i ∧ H' = L2.upd (L2.upd (L2.upd H p (.dK [])) lc (.lst (ns.map V.int))) ll (.lst (ms.map V.int))) ⟨[], Nat.le_refl _, rfl⟩ ?_ ?_ ?_
    · rintro i H' _ ⟨ms, _, rfl⟩
      exact ((s1.trans s2).trans (s3 _)).seq hs
    · rintro i x H' hi ⟨ms, hm, rfl⟩
      obtain ⟨u, rfl⟩ : ∃ u, x = V.int u := by
        rw [List.getElem?_map] at hi
        cases e : ns[i]? with
        | none => rw [e] at hi; cases hi
        | some u => rw [e] at hi; exact ⟨u, (Option.some.inj hi).symm⟩
      have hi63 : i < 63 := by
        have q := (List.getElem?_eq_some_iff.mp hi).1
        rw [List.length_map] at q
        omega
      refine ⟨rfl, _, rfl, _, _, rfl, rfl, ⟨by decide, by decide, by decide⟩, _, _, rfl, rfl, _, rfl, ?_⟩
      refine ite2 (fun _ => ?_) (fun _ => ⟨ms, by omega, rfl⟩)
      refine ⟨_, rfl, _, upd_same, ?_, ms ++ [u], by simp; omega, by rw [upd_upd, List.map_append]; rfl⟩
      rw [List.length_map]
      exact Nat.lt_of_le_of_lt hm (Nat.lt_of_lt_of_le hi63 (by decide))
    · rintro H' ⟨ms, hm, rfl⟩
      rw [List.length_map] at hm
      have e1 : lc ≠ p := fun z => by subst z; rw [upd_same] at hlc; cases hlc
      have e2 : ll ≠ p := fun z => by subst z; rw [upd_ne e1.symm, upd_same] at hll; cases hll
      have e3 : ll ≠ lc := fun z => by subst z; rw [upd_same] at hll; cases hll
      have hlc0 : H lc = none := by rw [upd_ne e1] at hlc; exact hlc
      have hll0 : H ll = none := by rw [upd_ne e3, upd_ne e2] at hll; exact hll
      refine ⟨by rw [upd_ne e2.symm, upd_ne e1.symm, upd_same], mKvs lc ll 0, rfl, (by show 3 ≤ 15; decide), ?_⟩
      rw [m_merge]
      have sf : Same H (L2.upd (L2.upd (L2.upd (L2.upd H p (.dK [])) lc (.lst (ns.map V.int))) ll (.lst (ms.map V.int))) p (.dK (mKvs lc ll 0))) := fun b o e => by
        rw [upd_ne (ne_of_none e hp)]
        exact ((s1.trans s2).trans (s3 _)) _ _ e
      refine k p _ sf ⟨sf, hp, lc, ll, ns, ms, 0, hlc0, hll0, e3.symm, upd_same, ?_, ?_, Int.le_refl _, Int.le_refl _, hl, by omega⟩ hp
      · rw [upd_ne e1, upd_ne e3.symm, upd_same]
      · rw [upd_ne e2, upd_same]
theorem okNext (T : Tx K mg) : Ok P w K mg base 1 "_law_next" ["m", "many"] v__law_next := by
  obtain ⟨fd, F⟩ := T.d__law_next
  have S := sc__law_next
  refine ⟨fd, fnG_of (k := 0) F S (fun vs H Q E h => ?_) (fun cdv A outer s H vs Q E hcv hg hr h => ?_), F.bindsN fun _ _ _ _ _ _ us hl => match us, hl with | [_, _], _ => rfl, F.kp, T.g__law_next⟩
  · obtain ⟨C, n, ws, Q0, E0, e0, io, r, h, _⟩ := h
    match ws, r, h with
    | [.tok, .dat (.int many)], r, _ => rw [r.length]; rfl
  · obtain ⟨C, n, ws, Q0, E0, e0, io, r, h, hq, he⟩ := h
    match ws, vs, r, h with
    | [.tok, .dat (.int many)], [v1, v2], ⟨⟨m, em, e1⟩, r2, _⟩, ⟨h1, h2, h3, h4⟩ =>
      subst e1
      cases r2
      obtain ⟨e0, et⟩ := e0
      subst e0
      have hu1 := hu_of hr
      have hu := hr.units
      have M0 : Mach m n C.O0 C.H0 := by
        have := io.good
        rw [em] at this
        exact this
      -- what is handed back
      have fin : ∀ (H' : Hp) (x : Int), Mach m (n + 1) C.O0 H' → Dm C H' → 0 ≤ x → x < many → Q (.int x) H' := fun H' x M d x0 x1 =>
        hq (.dat (.int x)) (n + 1) (h4 x x0 x1) (.int x) C.G0 C.O0 H' ⟨by rw [em]; exact M, io.go, io.g0, io.o0, io.oh, io.nO, io.nG, d.d, ⟨d.t, io.tb.out, d.l⟩⟩ (.int x)
      have up1 : ∀ {H' : Hp}, Mach m n C.O0 H' → Mach m (n + 1) C.O0 H' := fun M => by
        obtain ⟨q1, q2, lc, ll, cs, ls, z, a1, a2, a3, a4, a5, a6, a7, a8, a9⟩ := M
        exact ⟨q1, q2, lc, ll, cs, ls, z, a1, a2, a3, a4, a5, a6, a7, by omega, a9⟩
      have left := fun (X : Cx) => @pe_dget X
      refine ⟨_, pss_cons (ps_while (passes_of (K := fun e s2 => L2.CX P w outer C.H0 s E e s2) rfl)
          (PW.pt (pw_and (pt_cmpR (op_neD hu) (pe_dget hu1 (pv 0) pe_str (fun _ _ => rfl)) (pe_lst pa_nil) (nomark _))
            (pw_and1 (pt_cmpR op_eq (pe_ix ix_list (pe_dget hu1 (pv 0) pe_str (fun _ _ => rfl)) pe_int (fun _ _ => rfl)) pe_int (nomark _)))))
          (pss_one (ps_dput hu1 (pv 0) pe_str (pe_slice sl_list (pe_dget hu1 (pv 0) pe_str (fun _ _ => rfl)) (po_some pe_int) po_none) rfl)))
        (pss_cons (ps_if (pt_cmpR (op_neD hu) (pe_dget hu1 (pv 0) pe_str (fun _ _ => rfl)) (pe_lst pa_nil) (nomark _))
          (pss_cons (ps_set (i := 2) S.nd rfl (Or.inl rfl) (pe_callTy call_int1 rfl T.b_int (by decide +kernel) (pa_cons (pe_ix ix_list (pe_dget hu1 (pv 0) pe_str (fun _ _ => rfl)) pe_int (fun _ _ => rfl)) pa_nil)))
            (pss_cons (ps_asg (pe_op op_fdivW (pv 2) (pv 1)) (pg_sub (pe_dget hu1 (pv 0) pe_str (fun _ _ => rfl)) pe_int set_list))
              (pss_one (ps_ret (pe_op op_mod (pv 2) (pv 1)))))) pss_nil)
        (pss_cons (ps_set (i := 3) S.nd rfl (Or.inl rfl) (pe_op op_add (pe_dget hu1 (pv 0) pe_str (fun _ _ => rfl)) pe_int))
        (pss_cons (ps_dput hu1 (pv 0) pe_str (pv 3) rfl)
        (pss_cons (ps_set (i := 4) S.nd rfl (Or.inl rfl) (pe_ifExp (pt_cmpR (op_neD hu) (pe_dget hu1 (pv 0) pe_str (fun _ _ => rfl)) (pe_lst pa_nil) (nomark _))
            (pe_ix ix_list (pe_dget hu1 (pv 0) pe_str (fun _ _ => rfl)) (pe_op op_mod (pe_callTy call_int1 rfl T.b_int (by decide +kernel) (pa_cons (pv 3) pa_nil)) (pe_callB call_len_seq rfl T.b_len (by decide +kernel) (pa_cons (pe_dget hu1 (pv 0) pe_str (fun _ _ => rfl)) pa_nil))) (fun _ _ => rfl)) pe_int))
        (pss_cons (ps_set (i := 5) S.nd rfl (Or.inl rfl) (pe_op op_mul (pe_callTy call_int1 rfl T.b_int (by decide +kernel) (pa_cons (pe_op op_add (pe_op op_add (pe_op op_mod (pe_callTy call_int1 rfl T.b_int (by decide +kernel) (pa_cons (pv 4) pa_nil)) pe_int) (pe_op op_mul pe_int (pv 3))) (pe_op op_mul (pe_op op_mul pe_int (pv 3)) (pv 3))) pa_nil)) pe_int))
        (pss_cons (ps_set (i := 5) S.nd rfl (Or.inl rfl) (pe_op op_mul (pe_callTy call_int1 rfl T.b_int (by decide +kernel) (pa_cons (pe_op op_add (pe_op op_mod (pe_callTy call_int1 rfl T.b_int (by decide +kernel) (pa_cons (pv 5) pa_nil)) pe_int) (pe_op op_mul pe_int (pv 3))) pa_nil)) pe_int))
        (pss_one (ps_ret (pe_op op_mod (pe_callTy call_int1 rfl T.b_int (by decide +kernel) (pa_cons (pe_op op_fdiv (pe_op op_mod (pe_callTy call_int1 rfl T.b_int (by decide +kernel) (pa_cons (pv 5) pa_nil)) pe_int) pe_int) pa_nil)) (pv 1)))))))))), ?_⟩
      obtain ⟨lc, ll0, cs, ls0, z, M1⟩ := M0.mk'
      refine seq_by (fun σ' H' => σ' = L2.start nm__law_next [V.ref m, V.int many] ∧ ∃ ll ls, MK m n C.O0 H' lc ll cs ls z ∧ Dm C H') ?_ (fun N hN => ?_)
      rotate_left
      · refine ⟨fun k σ' H' => σ' = _ ∧ ∃ ll ls, MK m n C.O0 H' lc ll cs ls z ∧ ls.length = k ∧ Dm C H', ⟨ls0.length, rfl, ll0, ls0, M1, rfl, ⟨fun _ h => h, io.tb.at_, io.tb.lam⟩⟩, ?_⟩
        rintro k σ' H' ⟨rfl, ll, ls, M, rfl, dm⟩
        refine ⟨_, rfl, _, _, rfl, M.gl, by decide, fun p hp => ?_⟩
        have Mp := M.garb (o := .lst []) hp
        have dp := dm.new (o := .lst []) hp
        refine ne_nil Mp.hl upd_same (fun hne => ⟨_, rfl, ?_⟩) (fun he => ⟨_, rfl, ?_⟩)
        · obtain ⟨x, xs, rfl⟩ : ∃ x xs, ls = x :: xs := by
            cases ls with
            | nil => exact absurd rfl hne
            | cons x xs => exact ⟨x, xs, rfl⟩
          refine ⟨_, rfl, _, _, rfl, Mp.gl, _, _, _, _, rfl, rfl, SqL.of Mp.hl, atI_ints (j := 0) rfl, rfl, _, rfl, ?_⟩
          refine ite2 (fun _ => ?_) (fun _ => hN _ _ ⟨rfl, _, _, Mp, dp⟩)
          refine ⟨fun σ' H' => σ' = L2.start nm__law_next [V.ref m, V.int many] ∧ ∃ ll, MK m n C.O0 H' lc ll cs xs z ∧ Dm C H', ?_, ?_⟩
          · rintro σ' H' ⟨rfl, l2, M2, d2⟩
            exact ⟨xs.length, by simp, rfl, l2, xs, M2, rfl, d2⟩
          · refine ⟨_, rfl, _, _, rfl, Mp.gl, _, rfl, _, _, rfl, SqL.of Mp.hl, fun l hl => ?_⟩
            rw [cut1_ints]
            have Ml := Mp.garb (o := .lst (((x :: xs).drop 1).map V.int)) hl
            have hl2 : C.O0 l = none := by
              cases e : C.O0 l with
              | none => rfl
              | some o => have := Mp.same _ _ e; rw [hl] at this; cases this
            have q := Ml.pl (l := l) (ms := (x :: xs).drop 1) upd_same hl2 (ne_of_none Mp.hc hl) (by have := M.nl; simp at this ⊢; omega)
            exact ⟨_, rfl, _, _, rfl, q.1, rfl, l, q.2, (dp.new hl).old Ml.hm plain_dK⟩
        · exact hN _ _ ⟨rfl, _, _, Mp, dp⟩
      · rintro σ' H' ⟨rfl, ll, ls, M, dm⟩
        refine seq_by (fun σ' H' => σ' = L2.start nm__law_next [V.ref m, V.int many] ∧ ∃ ll ls, MK m n C.O0 H' lc ll cs ls z ∧ Dm C H') ?_ (fun N hN => ?_)
        rotate_left
        · refine ⟨_, rfl, _, _, rfl, M.gl, by decide, fun p hp => ?_⟩
          have Mp := M.garb (o := .lst []) hp
          have dp := dm.new (o := .lst []) hp
          refine ne_nil Mp.hl upd_same (fun hne => ⟨_, rfl, ?_⟩) (fun he => ⟨_, rfl, ?_⟩)
          · obtain ⟨x, xs, rfl⟩ : ∃ x xs, ls = x :: xs := by
              cases ls with
              | nil => exact absurd rfl hne
              | cons x xs => exact ⟨x, xs, rfl⟩
            refine ⟨_, rfl, _, _, rfl, Mp.gl, _, _, _, _, rfl, rfl, SqL.of Mp.hl, atI_ints (j := 0) rfl, .inl ⟨_, rfl, ?_⟩⟩
            refine ⟨_, rfl, _, rfl, _, _, rfl, rfl, wide_div (b := 110) h1 (by omega) (by decide) (by decide), _, rfl, _, _, rfl, Mp.gl, _, _, _, 0, rfl, rfl, Mp.hl, ixN0 (by simp), ?_⟩
            refine ⟨_, rfl, _, rfl, _, _, rfl, rfl, h1, ?_⟩
            have q := Mp.ph (ms := (x / many) :: xs) (by have := M.nl; simp at this ⊢; omega)
            exact fin _ _ (up1 q.mach) (dp.old Mp.hl plain_lst) (Int.emod_nonneg _ (by omega)) (Int.emod_lt_of_pos _ h1)
          · exact hN _ _ ⟨rfl, _, _, Mp, dp⟩
        · rintro σ' H' ⟨rfl, ll, ls, M, dm⟩
          have hk : (0 : Int) ≤ z + 1 := by have := M.z0; omega
          have hk2 : z + 1 ≤ ((n + 1 : Nat) : Int) := by have := M.z1; omega
          have hk3 : z + 1 < 2 ^ 64 := by have := M.z1; omega
          refine ⟨_, rfl, _, _, rfl, M.ga, _, _, rfl, rfl, ?_⟩
          have q := M.pa (y := z + 1) (n' := n + 1) hk hk2
          refine ⟨_, rfl, _, rfl, _, _, rfl, q.1, ?_⟩
          have M2 := q.2
          have d2 := dm.old (o := .dK (mKvs lc ll (z + 1))) M.hm plain_dK
          generalize L2.upd H' m (.dK (mKvs lc ll (z + 1))) = H2 at M2 d2
          dsimp only
          refine seq_by (fun σ' H' => ∃ c : Int, σ' = List.set (List.set (L2.start nm__law_next [V.ref m, V.int many]) 3 (some (.int (z + 1)))) 4 (some (.int c)) ∧ Mach m (n + 1) C.O0 H' ∧ Dm C H') ?_ (fun N hN => ?_)
          rotate_left
          · refine ⟨_, rfl, _, _, rfl, M2.gc, by decide, fun p hp => ?_⟩
            have Mp := M2.garb (o := .lst []) hp
            have dp := d2.new (o := .lst []) hp
            refine ne_nil Mp.hc upd_same (fun hne => ⟨_, rfl, ?_⟩) (fun he => ⟨_, rfl, ?_⟩)
            · have hlen : 0 < cs.length := List.length_pos_iff.mpr hne
              have hr0 : 0 ≤ (z + 1) % (cs.length : Int) := Int.emod_nonneg _ (by omega)
              have hr1 : (z + 1) % (cs.length : Int) < cs.length := Int.emod_lt_of_pos _ (by omega)
              obtain ⟨j, hj⟩ : ∃ j : Nat, (z + 1) % (cs.length : Int) = (j : Int) := ⟨((z + 1) % (cs.length : Int)).toNat, (Int.toNat_of_nonneg hr0).symm⟩
              have hjl : j < cs.length := by omega
              refine ⟨_, rfl, _, _, rfl, Mp.gc, _, rfl, .inl ⟨_, rfl, _, rfl, _, _, rfl, Mp.gc, _, _, rfl, .inl (SqL.of Mp.hc), _, _, rfl, rfl, ?_, ?_⟩⟩
              · rw [List.length_map]; omega
              refine ⟨_, _, _, .int cs[j], rfl, rfl, SqL.of Mp.hc, ?_, ?_⟩
              · rw [List.length_map, hj]
                exact atI_ints (List.getElem?_eq_getElem hjl)
              · exact hN _ _ ⟨cs[j], rfl, Mp.mach, dp⟩
            · exact hN _ _ ⟨3, rfl, Mp.mach, dp⟩
          · rintro σ' H' ⟨c, rfl, M3, d3⟩
            have z29 : (0 : Int) < 2147483629 := by decide
            have z30 : (0 : Int) < 2147483647 := by decide
            have z31 : (0 : Int) < 2147483587 := by decide
            have z11 : (0 : Int) < 11 ∧ (11 : Int) < 1073741824 := by decide
            refine ⟨_, rfl, .inl ⟨_, rfl, _, _, rfl, rfl, z29, _, rfl, _, _, rfl, rfl, .inl (by decide), _, _, rfl, rfl, _, rfl, _, _, rfl, rfl, .inl (by decide), _, rfl, _, _, rfl, rfl, .inr ⟨by omega, hk3⟩, _, _, rfl, rfl, .inl ⟨_, rfl, _, _, rfl, rfl, .inr (by decide), ?_⟩⟩⟩
            refine ⟨_, rfl, .inl ⟨_, rfl, _, _, rfl, rfl, z30, _, rfl, _, _, rfl, rfl, .inl (by decide), _, _, rfl, rfl, .inl ⟨_, rfl, _, _, rfl, rfl, .inr (by decide), ?_⟩⟩⟩
            refine ⟨_, rfl, .inl ⟨_, rfl, _, _, rfl, rfl, z31, _, _, rfl, rfl, z11, .inl ⟨_, rfl, _, rfl, _, _, rfl, rfl, h1, ?_⟩⟩⟩
            exact fin _ _ M3 d3 (Int.emod_nonneg _ (by omega)) (Int.emod_lt_of_pos _ h1)
theorem rzk_BadByte (T : Tx K mg) : RzK P w K mg base "BadByte" ["number"] ["number"] := by
  obtain ⟨fd, F⟩ := T.d_BadByte
  have S := sci_BadByte
  refine rzk_of T.z_BadByte T.g_BadByte (by decide) (F.ok (k := 0) S (fun vs H Q E h => ?_) (fun cdv A outer s H vs Q E hr h => ?_)) rfl (F.kbR (ks := ["number"]) fun _ _ _ _ _ _ self ws hl => match ws, hl with | [_], _ => rfl)
  · obtain ⟨a, y, rfl, rd⟩ := init1_read h
    rfl
  · obtain ⟨a, y, rfl, rd⟩ := init1_read h
    exact ⟨_, pss_one (ps_ost (pv 0) (pv 1)), rd _ rfl rfl _ fun _ _ q => q⟩
theorem rzk_BadCoder (T : Tx K mg) : RzK P w K mg base "BadCoder" ["part", "number"] ["number", "part"] := by
  obtain ⟨fd, F⟩ := T.d_BadCoder
  have S := sci_BadCoder
  refine rzk_of T.z_BadCoder T.g_BadCoder (by decide) (F.ok (k := 0) S (fun vs H Q E h => ?_) (fun cdv A outer s H vs Q E hr h => ?_)) rfl (F.kbR (ks := ["number", "part"]) fun _ _ _ _ _ _ self ws hl => match ws, hl with | [_, _], _ => rfl)
  · obtain ⟨a, y, z, rfl, rd⟩ := init2_read h
    rfl
  · obtain ⟨a, y, z, rfl, rd⟩ := init2_read h
    exact ⟨_, pss_cons (ps_ost (pv 0) (pv 1)) (pss_one (ps_ost (pv 0) (pv 2))), rd _ rfl rfl rfl _ fun _ _ q => q⟩
theorem rzk_BadPaper (T : Tx K mg) : RzK P w K mg base "BadPaper" ["part", "number"] ["number", "part"] := by
  obtain ⟨fd, F⟩ := T.d_BadPaper
  have S := sci_BadPaper
  refine rzk_of T.z_BadPaper T.g_BadPaper (by decide) (F.ok (k := 0) S (fun vs H Q E h => ?_) (fun cdv A outer s H vs Q E hr h => ?_)) rfl (F.kbR (ks := ["number", "part"]) fun _ _ _ _ _ _ self ws hl => match ws, hl with | [_, _], _ => rfl)
  · obtain ⟨a, y, z, rfl, rd⟩ := init2_read h
    rfl
  · obtain ⟨a, y, z, rfl, rd⟩ := init2_read h
    exact ⟨_, pss_cons (ps_ost (pv 0) (pv 1)) (pss_one (ps_ost (pv 0) (pv 2))), rd _ rfl rfl rfl _ fun _ _ q => q⟩
theorem rzk_BadRow (T : Tx K mg) : RzK P w K mg base "BadRow" ["row", "word"] ["word", "row"] := by
  obtain ⟨fd, F⟩ := T.d_BadRow
  have S := sci_BadRow
  refine rzk_of T.z_BadRow T.g_BadRow (by decide) (F.ok (k := 0) S (fun vs H Q E h => ?_) (fun cdv A outer s H vs Q E hr h => ?_)) rfl (F.kbR (ks := ["word", "row"]) fun _ _ _ _ _ _ self ws hl => match ws, hl with | [_, _], _ => rfl)
  · obtain ⟨a, y, z, rfl, rd⟩ := init2_read h
    rfl
  · obtain ⟨a, y, z, rfl, rd⟩ := init2_read h
    exact ⟨_, pss_cons (ps_ost (pv 0) (pv 1)) (pss_one (ps_ost (pv 0) (pv 2))), rd _ rfl rfl rfl _ fun _ _ q => q⟩
theorem rzk_NoSeam (T : Tx K mg) : RzK P w K mg base "NoSeam" ["text"] ["text"] := by
  obtain ⟨fd, F⟩ := T.d_NoSeam
  have S := sci_NoSeam
  refine rzk_of T.z_NoSeam T.g_NoSeam (by decide) (F.ok (k := 0) S (fun vs H Q E h => ?_) (fun cdv A outer s H vs Q E hr h => ?_)) rfl (F.kbR (ks := ["text"]) fun _ _ _ _ _ _ self ws hl => match ws, hl with | [_], _ => rfl)
  · obtain ⟨a, y, rfl, rd⟩ := init1_read h
    rfl
  · obtain ⟨a, y, rfl, rd⟩ := init1_read h
    exact ⟨_, pss_one (ps_ost (pv 0) (pv 1)), rd _ rfl rfl _ fun _ _ q => q⟩
theorem rzk_Nothing (T : Tx K mg) : RzGK P w K mg base "LookupError" "LookupError.__new__" "LookupError.__init__" leT "Nothing" "text" := by
  obtain ⟨fd, F⟩ := T.d_Nothing
  have S := sci_Nothing
  refine rgk_of _root_.PySem.F.excBase_LookupError _root_.PySem.F.store_LookupError T.z_Nothing T.g_Nothing (fun c => F.ok (k := 0) S (fun vs H Q E h => ?_) (fun cdv A outer s H vs Q E hr h => ?_)) rfl (F.kbR (ks := ["text"]) fun _ _ _ _ _ _ self ws hl => match ws, hl with | [_], _ => rfl)
  · obtain ⟨a, y, rfl, rd⟩ := one_read h
    rfl
  · obtain ⟨a, y, rfl, rd⟩ := one_read h
    exact ⟨_, pss_one (ps_os1 (pv 0) (pv 1)), rd _ rfl rfl _ fun _ _ q => q⟩
theorem rzk_OutOfPlace (T : Tx K mg) : RzK P w K mg base "OutOfPlace" ["text"] ["text"] := by
  obtain ⟨fd, F⟩ := T.d_OutOfPlace
  have S := sci_OutOfPlace
  refine rzk_of T.z_OutOfPlace T.g_OutOfPlace (by decide) (F.ok (k := 0) S (fun vs H Q E h => ?_) (fun cdv A outer s H vs Q E hr h => ?_)) rfl (F.kbR (ks := ["text"]) fun _ _ _ _ _ _ self ws hl => match ws, hl with | [_], _ => rfl)
  · obtain ⟨a, y, rfl, rd⟩ := init1_read h
    rfl
  · obtain ⟨a, y, rfl, rd⟩ := init1_read h
    exact ⟨_, pss_one (ps_ost (pv 0) (pv 1)), rd _ rfl rfl _ fun _ _ q => q⟩
theorem rzk_TooGreat (T : Tx K mg) : RzGK P w K mg base "OverflowError" "OverflowError.__new__" "OverflowError.__init__" oeT "TooGreat" "most" := by
  obtain ⟨fd, F⟩ := T.d_TooGreat
  have S := sci_TooGreat
  refine rgk_of _root_.PySem.F.excBase_OverflowError _root_.PySem.F.store_OverflowError T.z_TooGreat T.g_TooGreat (fun c => F.ok (k := 0) S (fun vs H Q E h => ?_) (fun cdv A outer s H vs Q E hr h => ?_)) rfl (F.kbR (ks := ["most"]) fun _ _ _ _ _ _ self ws hl => match ws, hl with | [_], _ => rfl)
  · obtain ⟨a, y, rfl, rd⟩ := one_read h
    rfl
  · obtain ⟨a, y, rfl, rd⟩ := one_read h
    exact ⟨_, pss_one (ps_os1 (pv 0) (pv 1)), rd _ rfl rfl _ fun _ _ q => q⟩
theorem rz_BadCoder (T : Tx K mg) : RzC P w K mg base "BadCoder" ["part", "number"] := by
  obtain ⟨fd, F⟩ := T.d_BadCoder
  have S := sci_BadCoder
  refine rz_of T.z_BadCoder T.g_BadCoder (by decide) (F.ok (k := 0) S (fun vs H Q E h => ?_) (fun cdv A outer s H vs Q E hr h => ?_)) (F.bindsN fun _ _ _ _ _ _ us hl => match us, hl with | [_, _, _], _ => rfl)
  · obtain ⟨a, y, z, rfl, rd⟩ := init2_read h
    rfl
  · obtain ⟨a, y, z, rfl, rd⟩ := init2_read h
    exact ⟨_, pss_cons (ps_ost (pv 0) (pv 1)) (pss_one (ps_ost (pv 0) (pv 2))), rd _ rfl rfl rfl _ fun _ _ q => q⟩
theorem rz_BadRow (T : Tx K mg) : RzC P w K mg base "BadRow" ["row", "word"] := by
  obtain ⟨fd, F⟩ := T.d_BadRow
  have S := sci_BadRow
  refine rz_of T.z_BadRow T.g_BadRow (by decide) (F.ok (k := 0) S (fun vs H Q E h => ?_) (fun cdv A outer s H vs Q E hr h => ?_)) (F.bindsN fun _ _ _ _ _ _ us hl => match us, hl with | [_, _, _], _ => rfl)
  · obtain ⟨a, y, z, rfl, rd⟩ := init2_read h
    rfl
  · obtain ⟨a, y, z, rfl, rd⟩ := init2_read h
    exact ⟨_, pss_cons (ps_ost (pv 0) (pv 1)) (pss_one (ps_ost (pv 0) (pv 2))), rd _ rfl rfl rfl _ fun _ _ q => q⟩
theorem rz_BadPaper (T : Tx K mg) : RzC P w K mg base "BadPaper" ["part", "number"] := by
  obtain ⟨fd, F⟩ := T.d_BadPaper
  have S := sci_BadPaper
  refine rz_of T.z_BadPaper T.g_BadPaper (by decide) (F.ok (k := 0) S (fun vs H Q E h => ?_) (fun cdv A outer s H vs Q E hr h => ?_)) (F.bindsN fun _ _ _ _ _ _ us hl => match us, hl with | [_, _, _], _ => rfl)
  · obtain ⟨a, y, z, rfl, rd⟩ := init2_read h
    rfl
  · obtain ⟨a, y, z, rfl, rd⟩ := init2_read h
    exact ⟨_, pss_cons (ps_ost (pv 0) (pv 1)) (pss_one (ps_ost (pv 0) (pv 2))), rd _ rfl rfl rfl _ fun _ _ q => q⟩
theorem rz_BadByte (T : Tx K mg) : RzC P w K mg base "BadByte" ["number"] := by
  obtain ⟨fd, F⟩ := T.d_BadByte
  have S := sci_BadByte
  refine rz_of T.z_BadByte T.g_BadByte (by decide) (F.ok (k := 0) S (fun vs H Q E h => ?_) (fun cdv A outer s H vs Q E hr h => ?_)) (F.bindsN fun _ _ _ _ _ _ us hl => match us, hl with | [_, _], _ => rfl)
  · obtain ⟨a, y, rfl, rd⟩ := init1_read h
    rfl
  · obtain ⟨a, y, rfl, rd⟩ := init1_read h
    exact ⟨_, pss_one (ps_ost (pv 0) (pv 1)), rd _ rfl rfl _ fun _ _ q => q⟩
theorem rz_OutOfPlace (T : Tx K mg) : RzC P w K mg base "OutOfPlace" ["text"] := by
  obtain ⟨fd, F⟩ := T.d_OutOfPlace
  have S := sci_OutOfPlace
  refine rz_of T.z_OutOfPlace T.g_OutOfPlace (by decide) (F.ok (k := 0) S (fun vs H Q E h => ?_) (fun cdv A outer s H vs Q E hr h => ?_)) (F.bindsN fun _ _ _ _ _ _ us hl => match us, hl with | [_, _], _ => rfl)
  · obtain ⟨a, y, rfl, rd⟩ := init1_read h
    rfl
  · obtain ⟨a, y, rfl, rd⟩ := init1_read h
    exact ⟨_, pss_one (ps_ost (pv 0) (pv 1)), rd _ rfl rfl _ fun _ _ q => q⟩
theorem rz_NoSeam (T : Tx K mg) : RzC P w K mg base "NoSeam" ["text"] := by
  obtain ⟨fd, F⟩ := T.d_NoSeam
  have S := sci_NoSeam
  refine rz_of T.z_NoSeam T.g_NoSeam (by decide) (F.ok (k := 0) S (fun vs H Q E h => ?_) (fun cdv A outer s H vs Q E hr h => ?_)) (F.bindsN fun _ _ _ _ _ _ us hl => match us, hl with | [_, _], _ => rfl)
  · obtain ⟨a, y, rfl, rd⟩ := init1_read h
    rfl
  · obtain ⟨a, y, rfl, rd⟩ := init1_read h
    exact ⟨_, pss_one (ps_ost (pv 0) (pv 1)), rd _ rfl rfl _ fun _ _ q => q⟩
theorem rz_TooGreat (T : Tx K mg) : RzG P w K mg base "OverflowError" "OverflowError.__new__" "OverflowError.__init__" oeT "TooGreat" "most" := by
  obtain ⟨fd, F⟩ := T.d_TooGreat
  have S := sci_TooGreat
  refine rg_of _root_.PySem.F.excBase_OverflowError _root_.PySem.F.store_OverflowError T.z_TooGreat T.g_TooGreat (fun c => F.ok (k := 0) S (fun vs H Q E h => ?_) (fun cdv A outer s H vs Q E hr h => ?_)) (F.bindsN fun _ _ _ _ _ _ us hl => match us, hl with | [_, _], _ => rfl)
  · obtain ⟨a, y, rfl, rd⟩ := one_read h
    rfl
  · obtain ⟨a, y, rfl, rd⟩ := one_read h
    exact ⟨_, pss_one (ps_os1 (pv 0) (pv 1)), rd _ rfl rfl _ fun _ _ q => q⟩
theorem rz_Nothing (T : Tx K mg) : RzG P w K mg base "LookupError" "LookupError.__new__" "LookupError.__init__" leT "Nothing" "text" := by
  obtain ⟨fd, F⟩ := T.d_Nothing
  have S := sci_Nothing
  refine rg_of _root_.PySem.F.excBase_LookupError _root_.PySem.F.store_LookupError T.z_Nothing T.g_Nothing (fun c => F.ok (k := 0) S (fun vs H Q E h => ?_) (fun cdv A outer s H vs Q E hr h => ?_)) (F.bindsN fun _ _ _ _ _ _ us hl => match us, hl with | [_, _], _ => rfl)
  · obtain ⟨a, y, rfl, rd⟩ := one_read h
    rfl
  · obtain ⟨a, y, rfl, rd⟩ := one_read h
    exact ⟨_, pss_one (ps_os1 (pv 0) (pv 1)), rd _ rfl rfl _ fun _ _ q => q⟩
theorem ok__law_marks (T : Tx K mg) : Ok P w K mg base 1 "_law_marks" ["one"] (SF w__law_marks) := by
  rw [wd__law_marks]
  apply Ok.ofX
  obtain ⟨fd, F⟩ := T.d__law_marks
  have S := sc__law_marks
  refine ⟨fd, fnV F S fun cdv A outer s H E hcv hg hr => ?_, F.bindsN fun _ _ _ _ _ _ us hl => match us, hl with | [_], _ => rfl, F.kp, T.g__law_marks⟩
  · have hG : (cxOf (L2.CX P w) P w K mg base nm__law_marks "_law_marks" (defScope s__law_marks) (He.ga K "_law_marks") cdv A outer s H E).A.guards = some [] := hg
    have hu := hr.units
    have hu5 := units5 hr
    have tk := takes_of (X := cxOf (L2.CX P w) P w K mg base nm__law_marks "_law_marks" (defScope s__law_marks) (He.ga K "_law_marks") cdv A outer s H E) (E := E) rfl rfl rfl rfl
    have hp := passes_of (X := cxOf (L2.CX P w) P w K mg base nm__law_marks "_law_marks" (defScope s__law_marks) (He.ga K "_law_marks") cdv A outer s H E) (K := fun e s2 => L2.CX P w outer H s E e s2) rfl
    exact (xs_cons (xs_set (i := 1) S.nd rfl (by first | exact Or.inl rfl | exact Or.inr rfl) (xe_fz (xo_lst (xa_cons (xe_isC T.kf (y := "BadCoder") (by decide) rfl T.b_isinstance rfl T.g_BadCoder (xe_var 0)) (xa_cons (xe_isC T.kf (y := "BadRow") (by decide) rfl T.b_isinstance rfl T.g_BadRow (xe_var 0)) (xa_cons (xe_isC T.kf (y := "BadPaper") (by decide) rfl T.b_isinstance rfl T.g_BadPaper (xe_var 0)) (xa_cons (xe_isC T.kf (y := "BadByte") (by decide) rfl T.b_isinstance rfl T.g_BadByte (xe_var 0)) xa_nil)))))))
      (xs_cons (xs_set (i := 1) S.nd rfl (by first | exact Or.inl rfl | exact Or.inr rfl) (xe_op p_add (xe_var 1) (xe_fz (xo_lst (xa_cons (xe_isC T.kf (y := "OutOfPlace") (by decide) rfl T.b_isinstance rfl T.g_OutOfPlace (xe_var 0)) (xa_cons (xe_isC T.kf (y := "NoSeam") (by decide) rfl T.b_isinstance rfl T.g_NoSeam (xe_var 0)) xa_nil))))))
      (xs_one (xs_ret (xe_op p_add (xe_var 1) (xe_fz (xo_lst (xa_cons (xe_isC T.kf (y := "TooGreat") (by decide) rfl T.b_isinstance rfl T.g_TooGreat (xe_var 0)) (xa_cons (xe_isC T.kf (y := "Nothing") (by decide) rfl T.b_isinstance rfl T.g_Nothing (xe_var 0)) xa_nil)))))))))
theorem ok__law_above (T : Tx K mg) : Ok P w K mg base 1 "_law_above" ["one"] (SF w__law_above) := by
  rw [wd__law_above]
  apply Ok.ofX
  obtain ⟨fd, F⟩ := T.d__law_above
  have S := sc__law_above
  refine ⟨fd, fnV F S fun cdv A outer s H E hcv hg hr => ?_, F.bindsN fun _ _ _ _ _ _ us hl => match us, hl with | [_], _ => rfl, F.kp, T.g__law_above⟩
  · have hG : (cxOf (L2.CX P w) P w K mg base nm__law_above "_law_above" (defScope s__law_above) (He.ga K "_law_above") cdv A outer s H E).A.guards = some [] := hg
    have hu := hr.units
    have hu5 := units5 hr
    have tk := takes_of (X := cxOf (L2.CX P w) P w K mg base nm__law_above "_law_above" (defScope s__law_above) (He.ga K "_law_above") cdv A outer s H E) (E := E) rfl rfl rfl rfl
    have hp := passes_of (X := cxOf (L2.CX P w) P w K mg base nm__law_above "_law_above" (defScope s__law_above) (He.ga K "_law_above") cdv A outer s H E) (K := fun e s2 => L2.CX P w outer H s E e s2) rfl
    exact (xs_cons (xs_set (i := 1) S.nd rfl (by first | exact Or.inl rfl | exact Or.inr rfl) (xe_fz (xo_lst (xa_cons (xe_isB T.kb_ValueError rfl T.b_isinstance rfl T.b_ValueError (by decide +kernel) (xe_var 0)) (xa_cons (xe_isB T.kb_OverflowError rfl T.b_isinstance rfl T.b_OverflowError (by decide +kernel) (xe_var 0)) (xa_cons (xe_isB T.kb_LookupError rfl T.b_isinstance rfl T.b_LookupError (by decide +kernel) (xe_var 0)) xa_nil))))))
      (xs_one (xs_ret (xe_op p_add (xe_var 1) (xe_fz (xo_lst (xa_cons (xe_isB T.kb_KeyError rfl T.b_isinstance rfl T.b_KeyError (by decide +kernel) (xe_var 0)) (xa_cons (xe_isB T.kb_IndexError rfl T.b_isinstance rfl T.b_IndexError (by decide +kernel) (xe_var 0)) xa_nil))))))))
theorem ok__law_made (T : Tx K mg) (Z_BadByte : RzC P w K mg base "BadByte" ["number"]) (Z_BadCoder : RzC P w K mg base "BadCoder" ["part", "number"]) (Z_BadPaper : RzC P w K mg base "BadPaper" ["part", "number"]) (Z_BadRow : RzC P w K mg base "BadRow" ["row", "word"]) (Z_NoSeam : RzC P w K mg base "NoSeam" ["text"]) (Z_Nothing : RzG P w K mg base "LookupError" "LookupError.__new__" "LookupError.__init__" leT "Nothing" "text") (Z_OutOfPlace : RzC P w K mg base "OutOfPlace" ["text"]) (Z_TooGreat : RzG P w K mg base "OverflowError" "OverflowError.__new__" "OverflowError.__init__" oeT "TooGreat" "most") (ZK_BadByte : RzK P w K mg base "BadByte" ["number"] ["number"]) (ZK_BadCoder : RzK P w K mg base "BadCoder" ["part", "number"] ["number", "part"]) (ZK_BadPaper : RzK P w K mg base "BadPaper" ["part", "number"] ["number", "part"]) (ZK_BadRow : RzK P w K mg base "BadRow" ["row", "word"] ["word", "row"]) (ZK_NoSeam : RzK P w K mg base "NoSeam" ["text"] ["text"]) (ZK_Nothing : RzGK P w K mg base "LookupError" "LookupError.__new__" "LookupError.__init__" leT "Nothing" "text") (ZK_OutOfPlace : RzK P w K mg base "OutOfPlace" ["text"] ["text"]) (ZK_TooGreat : RzGK P w K mg base "OverflowError" "OverflowError.__new__" "OverflowError.__init__" oeT "TooGreat" "most") : Ok P w K mg base 3 "_law_made" ["way", "x", "y"] (SF w__law_made) := by
  rw [wd__law_made]
  apply Ok.ofX
  obtain ⟨fd, F⟩ := T.d__law_made
  have S := sc__law_made
  refine ⟨fd, fnV F S fun cdv A outer s H E hcv hg hr => ?_, F.bindsN fun _ _ _ _ _ _ us hl => match us, hl with | [_, _, _], _ => rfl, F.kp, T.g__law_made⟩
  · have hG : (cxOf (L2.CX P w) P w K mg base nm__law_made "_law_made" (defScope s__law_made) (He.ga K "_law_made") cdv A outer s H E).A.guards = some [] := hg
    have hu := hr.units
    have hu5 := units5 hr
    have tk := takes_of (X := cxOf (L2.CX P w) P w K mg base nm__law_made "_law_made" (defScope s__law_made) (He.ga K "_law_made") cdv A outer s H E) (E := E) rfl rfl rfl rfl
    have hp := passes_of (X := cxOf (L2.CX P w) P w K mg base nm__law_made "_law_made" (defScope s__law_made) (He.ga K "_law_made") cdv A outer s H E) (K := fun e s2 => L2.CX P w outer H s E e s2) rfl
    exact (xs_cons (xs_if (xt_cmp (p_eq hu) (xe_var 0) xe_int) (xs_cons (xs_set (i := 3) S.nd rfl (by first | exact Or.inl rfl | exact Or.inr rfl) (xe_fz (xo_lst (xa_cons (xe_new rfl (T.kf.xc "BadCoder" (by decide)) Z_BadCoder (hr.mono (by decide)) passes0 rfl (xa_cons (xe_var 1) (xa_cons (xe_var 2) xa_nil))) (xa_cons (xe_new rfl (T.kf.xc "BadRow" (by decide)) Z_BadRow (hr.mono (by decide)) passes0 rfl (xa_cons (xe_var 1) (xa_cons (xe_var 2) xa_nil))) (xa_cons (xe_new rfl (T.kf.xc "BadPaper" (by decide)) Z_BadPaper (hr.mono (by decide)) passes0 rfl (xa_cons (xe_var 1) (xa_cons (xe_var 2) xa_nil))) (xa_cons (xe_new rfl (T.kf.xc "BadByte" (by decide)) Z_BadByte (hr.mono (by decide)) passes0 rfl (xa_cons (xe_var 1) xa_nil)) xa_nil)))))))
      (xs_one (xs_ret (xe_op p_add (xe_var 3) (xe_fz (xo_lst (xa_cons (xe_new rfl (T.kf.xc "OutOfPlace" (by decide)) Z_OutOfPlace (hr.mono (by decide)) passes0 rfl (xa_cons xe_str xa_nil)) (xa_cons (xe_new rfl (T.kf.xc "NoSeam" (by decide)) Z_NoSeam (hr.mono (by decide)) passes0 rfl (xa_cons xe_str xa_nil)) (xa_cons (xe_newG rfl (T.kf.xc "TooGreat" (by decide)) Z_TooGreat (hr.mono (by decide)) passes0 rfl (xa_cons (xe_var 1) xa_nil)) (xa_cons (xe_newG rfl (T.kf.xc "Nothing" (by decide)) Z_Nothing (hr.mono (by decide)) passes0 rfl (xa_cons xe_str xa_nil)) xa_nil)))))))))) xs_nil)
      (xs_cons (xs_set (i := 3) S.nd rfl (by first | exact Or.inl rfl | exact Or.inr rfl) (xe_fz (xo_lst (xa_cons (xe_newK rfl (T.kf.xc "BadCoder" (by decide)) ZK_BadCoder (hr.mono (by decide)) passes0 rfl (xk_cons (xe_var 2) (xk_cons (xe_var 1) xk_nil))) (xa_cons (xe_newK rfl (T.kf.xc "BadRow" (by decide)) ZK_BadRow (hr.mono (by decide)) passes0 rfl (xk_cons (xe_var 2) (xk_cons (xe_var 1) xk_nil))) (xa_cons (xe_newK rfl (T.kf.xc "BadPaper" (by decide)) ZK_BadPaper (hr.mono (by decide)) passes0 rfl (xk_cons (xe_var 2) (xk_cons (xe_var 1) xk_nil))) (xa_cons (xe_newK rfl (T.kf.xc "BadByte" (by decide)) ZK_BadByte (hr.mono (by decide)) passes0 rfl (xk_cons (xe_var 1) xk_nil)) xa_nil)))))))
      (xs_one (xs_ret (xe_op p_add (xe_var 3) (xe_fz (xo_lst (xa_cons (xe_newK rfl (T.kf.xc "OutOfPlace" (by decide)) ZK_OutOfPlace (hr.mono (by decide)) passes0 rfl (xk_cons xe_str xk_nil)) (xa_cons (xe_newK rfl (T.kf.xc "NoSeam" (by decide)) ZK_NoSeam (hr.mono (by decide)) passes0 rfl (xk_cons xe_str xk_nil)) (xa_cons (xe_newGK rfl (T.kf.xc "TooGreat" (by decide)) ZK_TooGreat (hr.mono (by decide)) passes0 rfl (xk_cons (xe_var 1) xk_nil)) (xa_cons (xe_newGK rfl (T.kf.xc "Nothing" (by decide)) ZK_Nothing (hr.mono (by decide)) passes0 rfl (xk_cons xe_str xk_nil)) xa_nil)))))))))))
theorem ok__law_right (T : Tx K mg) (C__law_above : Ok P w K mg base 1 "_law_above" ["one"] (SF w__law_above)) (C__law_made : Ok P w K mg base 3 "_law_made" ["way", "x", "y"] (SF w__law_made)) (C__law_marks : Ok P w K mg base 1 "_law_marks" ["one"] (SF w__law_marks)) : Ok P w K mg base 4 "_law_right" ["way", "x", "y"] (SF w__law_right) := by
  rw [wd__law_right]
  apply Ok.ofX
  obtain ⟨fd, F⟩ := T.d__law_right
  have S := sc__law_right
  refine ⟨fd, fnV F S fun cdv A outer s H E hcv hg hr => ?_, F.bindsN fun _ _ _ _ _ _ us hl => match us, hl with | [_, _, _], _ => rfl, F.kp, T.g__law_right⟩
  · have hG : (cxOf (L2.CX P w) P w K mg base nm__law_right "_law_right" (defScope s__law_right) (He.ga K "_law_right") cdv A outer s H E).A.guards = some [] := hg
    have hu := hr.units
    have hu5 := units5 hr
    have tk := takes_of (X := cxOf (L2.CX P w) P w K mg base nm__law_right "_law_right" (defScope s__law_right) (He.ga K "_law_right") cdv A outer s H E) (E := E) rfl rfl rfl rfl
    have hp := passes_of (X := cxOf (L2.CX P w) P w K mg base nm__law_right "_law_right" (defScope s__law_right) (He.ga K "_law_right") cdv A outer s H E) (K := fun e s2 => L2.CX P w outer H s E e s2) rfl
    exact (xs_cons (xs_set (i := 3) S.nd rfl (by first | exact Or.inl rfl | exact Or.inr rfl) (xe_ok C__law_made hG (hr.mono (by decide)) tk rfl (yw_dat (xe_var 0) (yw_dat (xe_var 1) (yw_dat (xe_var 2) yw_nil)))))
      (xs_cons (xs_set (i := 4) S.nd rfl (by first | exact Or.inl rfl | exact Or.inr rfl) (xe_fz (xo_lst (xa_cons (xe_xa T.kf (c := "BadCoder") (fl := ["part", "number"]) (by decide) (by decide) (xe_ix (xe_var 3) xe_int)) (xa_cons (xe_xa T.kf (c := "BadCoder") (fl := ["part", "number"]) (by decide) (by decide) (xe_ix (xe_var 3) xe_int)) (xa_cons (xe_xa T.kf (c := "BadRow") (fl := ["row", "word"]) (by decide) (by decide) (xe_ix (xe_var 3) xe_int)) (xa_cons (xe_xa T.kf (c := "BadRow") (fl := ["row", "word"]) (by decide) (by decide) (xe_ix (xe_var 3) xe_int)) (xa_cons (xe_xa T.kf (c := "BadPaper") (fl := ["part", "number"]) (by decide) (by decide) (xe_ix (xe_var 3) xe_int)) (xa_cons (xe_xa T.kf (c := "BadPaper") (fl := ["part", "number"]) (by decide) (by decide) (xe_ix (xe_var 3) xe_int)) xa_nil)))))))))
      (xs_cons (xs_if (xt_cmp (p_ne hu) (xe_callB (pc_reprT hG hu) rfl T.b_repr (by decide +kernel) (xa_cons (xe_op p_add (xe_var 4) (xe_fz (xo_lst (xa_cons (xe_xa T.kf (c := "BadByte") (fl := ["number"]) (by decide) (by decide) (xe_ix (xe_var 3) xe_int)) (xa_cons (xe_xa T.kf (c := "TooGreat") (fl := ["most"]) (by decide) (by decide) (xe_ix (xe_var 3) xe_int)) xa_nil))))) xa_nil)) (xe_callB (pc_reprT hG hu) rfl T.b_repr (by decide +kernel) (xa_cons (xe_fz (xo_lst (xa_cons (xe_var 1) (xa_cons (xe_var 2) (xa_cons (xe_var 1) (xa_cons (xe_var 2) (xa_cons (xe_var 1) (xa_cons (xe_var 2) (xa_cons (xe_var 1) (xa_cons (xe_var 1) xa_nil)))))))))) xa_nil))) (xs_one (xs_ret xe_bl)) xs_nil)
      (xs_cons (xs_for hp rfl (zi_enumL rfl T.b_enumerate (xa_cons (xe_var 3) xa_nil)) (yg_tup rfl (ygs_cons (yg_name (i := 5) S.nd rfl (by first | exact Or.inl rfl | exact Or.inr rfl)) (ygs_cons (yg_name (i := 6) S.nd rfl (by first | exact Or.inl rfl | exact Or.inr rfl)) ygs_nil))) (xs_cons (xs_if (xt_cmp (p_ne hu) (xe_fz (xo_lc (own := [("k", 7), ("is_so", 8)]) rfl S.nd (zi_enumL rfl T.b_enumerate (xa_cons (xe_ok C__law_marks hG (hr.mono (by decide)) tk rfl (yw_dat (xe_var 6) yw_nil)) xa_nil)) (blkOk_by (own := [("k", 7), ("is_so", 8)]) (N := nm__law_right) (sc := defScope s__law_right) (by decide +kernel)) (fun _ _ _ _ _ => pg_tup rfl (pgs_cons (pg_name (i := 7) S.nd rfl (Or.inl rfl)) (pgs_cons (pg_name (i := 8) S.nd rfl (Or.inl rfl)) pgs_nil))) (ypair_tup2 7 8) (fun _ _ _ _ _ => xpts_one (xt_val (xe_var 8))) (fun _ _ _ _ _ => (xe_var 7)))) (xe_fz (xo_lst (xa_cons (xe_var 5) xa_nil)))) (xs_one (xs_ret xe_bl)) xs_nil)
      (xs_one (xs_if (xt_cmp (p_ne hu) (xe_ok C__law_above hG (hr.mono (by decide)) tk rfl (yw_dat (xe_var 6) yw_nil)) (xe_fz (xo_lst (xa_cons (xe_cmp (p_ltA hu5) (xe_var 5) xe_int) (xa_cons (xe_cmp (p_eq hu) (xe_var 5) xe_int) (xa_cons (xe_cmp (p_eq hu) (xe_var 5) xe_int) (xa_cons xe_bl (xa_cons xe_bl xa_nil)))))))) (xs_one (xs_ret xe_bl)) xs_nil))))
      (xs_one (xs_ret xe_bl))))))
theorem ok_law (T : Tx K mg) {fd : FuncData} (F : FunD K "law" "law" (defArgs s_law) (defBody s_law) (defScope s_law) [] [] (He.ga K "law") fd) (C__law_next : Ok P w K mg base 1 "_law_next" ["m", "many"] (SF w__law_next)) (C__law_right : Ok P w K mg base 4 "_law_right" ["way", "x", "y"] (SF w__law_right)) (ht : ∀ ns : List Int, ns.length ≤ 63 → SS t_law lawEnd ((startE 4 [.scr ns]).set 1 (some .tok)) 0) : FnG P w K mg base 6 (He.ga K "law") fd ["script"] (spLaw K) := by
  rw [td_law] at ht
  obtain ⟨fdB, FB, bB, kB, gB⟩ := okBegun (P := P) (w := w) (base := base) T
  have S := sc_law
  refine lawG (k := 5) F S (by decide) (fun cdv A outer s H E hcv hg hr => ?_) (fun cdv A outer s H E hcv hg hr => ?_) ht
  · have hG : (cxOf (L2.CX P w) P w K mg base nm_law "law" (defScope s_law) (He.ga K "law") cdv A outer s H E).A.guards = some [] := hg
    have tk := takes_of (X := cxOf (L2.CX P w) P w K mg base nm_law "law" (defScope s_law) (He.ga K "law") cdv A outer s H E) (E := E) rfl rfl rfl rfl
    exact ps_set (i := 1) S.nd rfl (by first | exact Or.inl rfl | exact Or.inr rfl) (pe_callG FB hG (hr.mono (by decide)) tk rfl gB kB bB .nil (pa_cons (pv 0) pa_nil))
  · have hG : (cxOf (L2.CX P w) P w K mg base nm_law "law" (defScope s_law) (He.ga K "law") cdv A outer s H E).A.guards = some [] := hg
    have hu := hr.units
    have hu5 := units5 hr
    have tk := takes_of (X := cxOf (L2.CX P w) P w K mg base nm_law "law" (defScope s_law) (He.ga K "law") cdv A outer s H E) (E := E) rfl rfl rfl rfl
    have hp := passes_of (X := cxOf (L2.CX P w) P w K mg base nm_law "law" (defScope s_law) (He.ga K "law") cdv A outer s H E) (K := fun e s2 => L2.CX P w outer H s E e s2) rfl
    exact (xs_cons (xs_set (i := 2) S.nd rfl (by first | exact Or.inl rfl | exact Or.inr rfl) (xe_fz (xo_lst (xa_cons xe_non (xa_cons xe_int (xa_cons (xe_neg xe_int) (xa_cons xe_int (xa_cons xe_bl (xa_cons xe_str (xa_cons xe_str (xa_cons (xe_tup xa_nil) (xa_cons (xe_tup (xa_cons xe_int (xa_cons xe_int xa_nil))) (xa_cons (xe_fz (xo_lst (xa_cons xe_int (xa_cons xe_int xa_nil)))) (xa_cons xe_dstC (xa_cons (xe_op p_pow xe_int xe_int) (xa_cons (xe_tup (xa_cons xe_int (xa_cons (xe_tup (xa_cons xe_int (xa_cons xe_int xa_nil))) xa_nil))) (xa_cons xe_bl xa_nil)))))))))))))))))
      (xs_cons (xs_for hp rfl (zi_range1 rfl T.b_range (xa_cons (xe_op p_add xe_int (xe_callB (pc_min2 rfl) rfl T.b_min (by decide +kernel) (xa_cons (xe_lenS (k := 0) rfl T.b_len (by decide +kernel)) (xa_cons xe_int xa_nil)))) xa_nil)) (yg_name (i := 3) S.nd rfl (by first | exact Or.inl rfl | exact Or.inr rfl)) (xs_one (xs_if (xt_not (xt_val (xe_ok C__law_right hG (hr.mono (by decide)) tk rfl (yw_dat (xe_ok C__law_next hG (hr.mono (by decide)) tk rfl (yw_var 1 (yw_dat xe_int yw_nil))) (yw_dat (xe_ix (xe_var 2) (xe_ok C__law_next hG (hr.mono (by decide)) tk rfl (yw_var 1 (yw_dat xe_int yw_nil)))) (yw_dat (xe_ix (xe_var 2) (xe_ok C__law_next hG (hr.mono (by decide)) tk rfl (yw_var 1 (yw_dat xe_int yw_nil)))) yw_nil)))))) (xs_one (xs_ret xe_bl)) xs_nil)))
      (xs_one (xs_ret xe_bl))))
end
theorem all_ok {P : Program} {w : World} {K : PySem.W.Frag} {mg : Str → Option Value} {base : Heap} (T : Tx K mg) {fd : FuncData} (F : FunD K "law" "law" (defArgs s_law) (defBody s_law) (defScope s_law) [] [] (He.ga K "law") fd) (tb : ∀ p ∈ tf.map (He.cT K), LamX.TabB base mg p.1 p.2) (ht : ∀ ns : List Int, ns.length ≤ 63 → SS t_law lawEnd ((startE 4 [.scr ns]).set 1 (some .tok)) 0) : FnG P w K mg base 6 (He.ga K "law") fd ["script"] (spLaw K) := by
  have C__law_next := (okNext (P := P) (w := w) (base := base) T).weak (c' := SF w__law_next) nextX
  have Z_BadCoder := rz_BadCoder (P := P) (w := w) (base := base) T
  have Z_BadRow := rz_BadRow (P := P) (w := w) (base := base) T
  have Z_BadPaper := rz_BadPaper (P := P) (w := w) (base := base) T
  have Z_BadByte := rz_BadByte (P := P) (w := w) (base := base) T
  have Z_OutOfPlace := rz_OutOfPlace (P := P) (w := w) (base := base) T
  have Z_NoSeam := rz_NoSeam (P := P) (w := w) (base := base) T
  have Z_TooGreat := rz_TooGreat (P := P) (w := w) (base := base) T
  have Z_Nothing := rz_Nothing (P := P) (w := w) (base := base) T
  have ZK_BadByte := rzk_BadByte (P := P) (w := w) (base := base) T
  have ZK_BadCoder := rzk_BadCoder (P := P) (w := w) (base := base) T
  have ZK_BadPaper := rzk_BadPaper (P := P) (w := w) (base := base) T
  have ZK_BadRow := rzk_BadRow (P := P) (w := w) (base := base) T
  have ZK_NoSeam := rzk_NoSeam (P := P) (w := w) (base := base) T
  have ZK_Nothing := rzk_Nothing (P := P) (w := w) (base := base) T
  have ZK_OutOfPlace := rzk_OutOfPlace (P := P) (w := w) (base := base) T
  have ZK_TooGreat := rzk_TooGreat (P := P) (w := w) (base := base) T
  have C__law_marks := ok__law_marks (P := P) (w := w) (base := base) T
  have C__law_above := ok__law_above (P := P) (w := w) (base := base) T
  have C__law_made := ok__law_made (P := P) (w := w) (base := base) T Z_BadByte Z_BadCoder Z_BadPaper Z_BadRow Z_NoSeam Z_Nothing Z_OutOfPlace Z_TooGreat ZK_BadByte ZK_BadCoder ZK_BadPaper ZK_BadRow ZK_NoSeam ZK_Nothing ZK_OutOfPlace ZK_TooGreat
  have C__law_right := ok__law_right (P := P) (w := w) (base := base) T C__law_above C__law_made C__law_marks
  exact ok_law T F C__law_next C__law_right ht
/-! ### the head -/
def e__law_begun : He.DefD := ⟨("_law_begun", none), "_law_begun", "_law_begun", defArgs s__law_begun, defBody s__law_begun, defScope s__law_begun, [], []⟩
def e__law_next : He.DefD := ⟨("_law_next", none), "_law_next", "_law_next", defArgs s__law_next, defBody s__law_next, defScope s__law_next, [], []⟩
def e__law_marks : He.DefD := ⟨("_law_marks", none), "_law_marks", "_law_marks", defArgs s__law_marks, defBody s__law_marks, defScope s__law_marks, [], []⟩
def e__law_above : He.DefD := ⟨("_law_above", none), "_law_above", "_law_above", defArgs s__law_above, defBody s__law_above, defScope s__law_above, [], []⟩
def e__law_made : He.DefD := ⟨("_law_made", none), "_law_made", "_law_made", defArgs s__law_made, defBody s__law_made, defScope s__law_made, [], []⟩
def e__law_right : He.DefD := ⟨("_law_right", none), "_law_right", "_law_right", defArgs s__law_right, defBody s__law_right, defScope s__law_right, [], []⟩
def e_law : He.DefD := ⟨("law", none), "law", "law", defArgs s_law, defBody s_law, defScope s_law, [], []⟩
def e_BadCoder : He.DefD := ⟨("BadCoder", some "__init__"), "__init__", "BadCoder.__init__", defArgs i_BadCoder, defBody i_BadCoder, defScope i_BadCoder, [], []⟩
def e_BadRow : He.DefD := ⟨("BadRow", some "__init__"), "__init__", "BadRow.__init__", defArgs i_BadRow, defBody i_BadRow, defScope i_BadRow, [], []⟩
def e_BadPaper : He.DefD := ⟨("BadPaper", some "__init__"), "__init__", "BadPaper.__init__", defArgs i_BadPaper, defBody i_BadPaper, defScope i_BadPaper, [], []⟩
def e_BadByte : He.DefD := ⟨("BadByte", some "__init__"), "__init__", "BadByte.__init__", defArgs i_BadByte, defBody i_BadByte, defScope i_BadByte, [], []⟩
def e_OutOfPlace : He.DefD := ⟨("OutOfPlace", some "__init__"), "__init__", "OutOfPlace.__init__", defArgs i_OutOfPlace, defBody i_OutOfPlace, defScope i_OutOfPlace, [], []⟩
def e_NoSeam : He.DefD := ⟨("NoSeam", some "__init__"), "__init__", "NoSeam.__init__", defArgs i_NoSeam, defBody i_NoSeam, defScope i_NoSeam, [], []⟩
def e_TooGreat : He.DefD := ⟨("TooGreat", some "__init__"), "__init__", "TooGreat.__init__", defArgs i_TooGreat, defBody i_TooGreat, defScope i_TooGreat, [], []⟩
def e_Nothing : He.DefD := ⟨("Nothing", some "__init__"), "__init__", "Nothing.__init__", defArgs i_Nothing, defBody i_Nothing, defScope i_Nothing, [], []⟩
def fn : List He.DefD := [e__law_begun, e__law_next, e__law_marks, e__law_above, e__law_made, e__law_right, e_law, e_BadCoder, e_BadRow, e_BadPaper, e_BadByte, e_OutOfPlace, e_NoSeam, e_TooGreat, e_Nothing]
def fa : List He.Fa := [.glo "_law_begun", .glo "_law_next", .glo "_law_marks", .glo "_law_above", .glo "_law_made", .glo "_law_right", .glo "law", .glo "BadCoder", .glo "BadRow", .glo "BadPaper", .glo "BadByte", .glo "OutOfPlace", .glo "NoSeam", .glo "TooGreat", .glo "Nothing", .free "IndexError", .free "KeyError", .free "LookupError", .free "OverflowError", .free "ValueError", .free "enumerate", .free "int", .free "isinstance", .free "len", .free "list", .free "min", .free "range", .free "repr"]
def ex (K : PySem.W.Frag) : Bool := rzB K "BadCoder" ["part", "number"] && (rzB K "BadRow" ["row", "word"] && (rzB K "BadPaper" ["part", "number"] && (rzB K "BadByte" ["number"] && (rzB K "OutOfPlace" ["text"] && (rzB K "NoSeam" ["text"] && (rgB K "TooGreat" "most" "OverflowError.__new__" oeT && (rgB K "Nothing" "text" "LookupError.__new__" leT && (knB K kn && (kfB K kf && (isbB K "IndexError" tb_IndexError && (isbB K "KeyError" tb_KeyError && (isbB K "LookupError" tb_LookupError && (isbB K "OverflowError" tb_OverflowError && (isbB K "ValueError" tb_ValueError && (ttB tf K)))))))))))))))
abbrev R : PySem.W.OpenRow := PySem.W.OpenLaw.row PySem.Challenge.rw_stepsound_k01_errors
def ts : List He.Tab := []
abbrev hk : PySem.W.Hook := He.hookX 4 fa fn ts tf ex
abbrev ob : PySem.W.SharedT → He.AlX := VL.obX 4 fa fn ts tf ex
def names : List PySem.Str := ([("BadCoder" : PySem.Str), ("BadRow" : PySem.Str), ("BadPaper" : PySem.Str), ("BadByte" : PySem.Str), ("OutOfPlace" : PySem.Str), ("NoSeam" : PySem.Str), ("TooGreat" : PySem.Str), ("Nothing" : PySem.Str), ("_law_begun" : PySem.Str), ("_law_next" : PySem.Str), ("_law_marks" : PySem.Str), ("_law_above" : PySem.Str), ("_law_made" : PySem.Str), ("_law_right" : PySem.Str)] : List PySem.Str)
theorem run (w : World) : HandSHeadRun.RunEq R (PySem.W.view R.prog [16]) hk ob 6000 names w := by
  intro os
  kernel_rfl
theorem tx {K : PySem.W.Frag} {w : World} {h : Heap} {mg : Str → Option Value} (X : K.In h) (G : h.Ns mainGlobals mg) (c0 : He.SaysX fa fn ts tf ex w h K) : Tx K mg ∧ ttB tf K = true := by
  have c := saysD_of c0
  have x := c0.more
  unfold ex at x
  obtain ⟨x0, x⟩ := He.ba x
  obtain ⟨x1, x⟩ := He.ba x
  obtain ⟨x2, x⟩ := He.ba x
  obtain ⟨x3, x⟩ := He.ba x
  obtain ⟨x4, x⟩ := He.ba x
  obtain ⟨x5, x⟩ := He.ba x
  obtain ⟨x6, x⟩ := He.ba x
  obtain ⟨x7, x⟩ := He.ba x
  obtain ⟨x8, x⟩ := He.ba x
  obtain ⟨x9, x⟩ := He.ba x
  obtain ⟨x10, x⟩ := He.ba x
  obtain ⟨x11, x⟩ := He.ba x
  obtain ⟨x12, x⟩ := He.ba x
  obtain ⟨x13, x⟩ := He.ba x
  obtain ⟨x14, x⟩ := He.ba x
  have x15 := x
  refine ⟨?_, x15⟩
  constructor
  · exact c.def_ 0 (d := e__law_begun) rfl
  · exact He.glo_ok X G (c.fact 0 (f := .glo "_law_begun") rfl)
  · exact c.def_ 1 (d := e__law_next) rfl
  · exact He.glo_ok X G (c.fact 1 (f := .glo "_law_next") rfl)
  · exact c.def_ 2 (d := e__law_marks) rfl
  · exact He.glo_ok X G (c.fact 2 (f := .glo "_law_marks") rfl)
  · exact c.def_ 3 (d := e__law_above) rfl
  · exact He.glo_ok X G (c.fact 3 (f := .glo "_law_above") rfl)
  · exact c.def_ 4 (d := e__law_made) rfl
  · exact He.glo_ok X G (c.fact 4 (f := .glo "_law_made") rfl)
  · exact c.def_ 5 (d := e__law_right) rfl
  · exact He.glo_ok X G (c.fact 5 (f := .glo "_law_right") rfl)
  · exact c.def_ 6 (d := e_law) rfl
  · exact He.glo_ok X G (c.fact 6 (f := .glo "law") rfl)
  · exact He.glo_ok X G (c.fact 7 (f := .glo "BadCoder") rfl)
  · exact x0
  · exact c.def_ 7 (d := e_BadCoder) rfl
  · exact He.glo_ok X G (c.fact 8 (f := .glo "BadRow") rfl)
  · exact x1
  · exact c.def_ 8 (d := e_BadRow) rfl
  · exact He.glo_ok X G (c.fact 9 (f := .glo "BadPaper") rfl)
  · exact x2
  · exact c.def_ 9 (d := e_BadPaper) rfl
  · exact He.glo_ok X G (c.fact 10 (f := .glo "BadByte") rfl)
  · exact x3
  · exact c.def_ 10 (d := e_BadByte) rfl
  · exact He.glo_ok X G (c.fact 11 (f := .glo "OutOfPlace") rfl)
  · exact x4
  · exact c.def_ 11 (d := e_OutOfPlace) rfl
  · exact He.glo_ok X G (c.fact 12 (f := .glo "NoSeam") rfl)
  · exact x5
  · exact c.def_ 12 (d := e_NoSeam) rfl
  · exact He.glo_ok X G (c.fact 13 (f := .glo "TooGreat") rfl)
  · exact x6
  · exact c.def_ 13 (d := e_TooGreat) rfl
  · exact He.glo_ok X G (c.fact 14 (f := .glo "Nothing") rfl)
  · exact x7
  · exact c.def_ 14 (d := e_Nothing) rfl
  · exact knB_ok x8
  · exact kfB_ok x9
  · exact isbB_ok x10
  · exact isbB_ok x11
  · exact isbB_ok x12
  · exact isbB_ok x13
  · exact isbB_ok x14
  · exact He.free_ok X G (c.fact 15 (f := .free "IndexError") rfl)
  · exact He.free_ok X G (c.fact 16 (f := .free "KeyError") rfl)
  · exact He.free_ok X G (c.fact 17 (f := .free "LookupError") rfl)
  · exact He.free_ok X G (c.fact 18 (f := .free "OverflowError") rfl)
  · exact He.free_ok X G (c.fact 19 (f := .free "ValueError") rfl)
  · exact He.free_ok X G (c.fact 20 (f := .free "enumerate") rfl)
  · exact He.free_ok X G (c.fact 21 (f := .free "int") rfl)
  · exact He.free_ok X G (c.fact 22 (f := .free "isinstance") rfl)
  · exact He.free_ok X G (c.fact 23 (f := .free "len") rfl)
  · exact He.free_ok X G (c.fact 24 (f := .free "list") rfl)
  · exact He.free_ok X G (c.fact 25 (f := .free "min") rfl)
  · exact He.free_ok X G (c.fact 26 (f := .free "range") rfl)
  · exact He.free_ok X G (c.fact 27 (f := .free "repr") rfl)
end LW


set_option maxRecDepth 100000
set_option maxHeartbeats 1000000
namespace LW
open PySem PySem.Spec PyProof.Rows L2 VL
theorem r_draw {m : Int} : w__law_next [.tok, .dat (.int m)] = .draw m fun r => .ret (.dat (.int r)) := rfl
end LW


set_option maxRecDepth 100000
set_option maxHeartbeats 1000000
namespace LW
open PySem PySem.Spec PyProof.Rows L2 VL
structure Th (d : Dt) : Prop where
  em : emT d = true
  sh : (tru d).showable = true
  ln : (tru d).shown.length ≤ 100
  dp : (tru d).depth ≤ 10
def some14 : List Dt := [.none, .int 0, .int (-1), .int 7, .bool true, .str "", .str "form", .tuple [], .tuple [.int 1, .int 2], .list [.int 1, .int 2], dstD [(.str "a", .int 1)], .int 1000000000000000000000000000000, .tuple [.int 1, .tuple [.int 0, .int 2]], .bool false]
def thB (d : Dt) : Bool := emT d && (tru d).showable && decide ((tru d).shown.length ≤ 100) && decide ((tru d).depth ≤ 10)
theorem thB_ok {d : Dt} (h : thB d = true) : Th d := by
  unfold thB at h
  simp only [Bool.and_eq_true, decide_eq_true_eq] at h
  exact ⟨h.1.1.1, h.1.1.2, h.1.2, h.2⟩
theorem th14 : ∀ d ∈ some14, Th d := by
  have h : some14.all thB = true := by decide +kernel
  exact fun d hd => thB_ok (List.all_eq_true.mp h d hd)
theorem repr8 {x y : Dt} (hx : Th x) (hy : Th y) : ∃ z : Str, pReprT [.list [x, y, x, y, x, y, x, x]] = some (.str z) := by
  refine ⟨(tru (.list [x, y, x, y, x, y, x, x])).shown, ?_⟩
  have e1 := hx.em; have e2 := hy.em; have s1 := hx.sh; have s2 := hy.sh; have l1 := hx.ln; have l2 := hy.ln; have d1 := hx.dp; have d2 := hy.dp
  unfold pReprT
  refine if_pos ⟨by simp only [emTs, e1, e2, Bool.and_true], by simp only [tru, truA, PyData.showable, PyData.showableAll, s1, s2, Bool.and_true], ?_, ?_⟩
  · simp only [tru, truA, PyData.shown, PyData.shownAll]
    refine Nat.le_trans (listText_len_le _) ?_
    simp only [List.map_cons, List.map_nil, List.sum_cons, List.sum_nil, List.length_cons, List.length_nil, sizeL]
    omega
  · simp only [tru, truA, PyData.depth, PyData.depthAll]
    omega
def madeD (x y : Dt) : List Dt := [errD "BadCoder" [(.str "part", x), (.str "number", y)], errD "BadRow" [(.str "row", x), (.str "word", y)], errD "BadPaper" [(.str "part", x), (.str "number", y)], errD "BadByte" [(.str "number", x)], errD "OutOfPlace" [(.str "text", .str "a")], errD "NoSeam" [(.str "text", .str "b")], errD "TooGreat" [(.str "most", x)], errD "Nothing" [(.str "text", .str "c")]]
theorem r_made {way : Int} (h : way = 0 ∨ way = 1) (x y : Dt) : w__law_made [.dat (.int way), .dat x, .dat y] = .ret (.dat (.list (madeD x y))) := by
  rw [wd__law_made]
  rcases h with rfl | rfl
  · unfold t__law_made madeD
    simp only [xNew, newK, errKv, List.zip_cons_cons, List.zip_nil_left, List.zip_nil_right, pIntB_b, dictW_c, pLtA_i, pSumT, pSumL, xIsE, isEK_at, xXa, xaK_1, xaK_2, capN, capC, ygT3c, opK2, opK, unK, notK, consK2, consK, tupK, lstK, fzK, cbK, retK, ifSK, setK, wcK, wdK, callK, forK, lcK, bodyX, startE, xSeq, sqF, xNext, xIfS, xRet, xSet, ygT_t, ygsC, ygsN, ygN, xVar, xC, xOp, xUn, pNeg_i, xTest, asB_b, xNot, xNil, xCons, xTup, xLst, xFz, xCall, rOfT_d, rOfT_o, rOfT_c, rOwT_o, ywNil, ywDat, ywVar, xCB, asI_i, xLenS, xFor, itT_t, itL_l, ziR1, ziET, ziEL, enT_t, enL_l, xLc, noOwnB, wipeE, pAdd_i, pAdd_t, pAdd_l, pSub_i, pLt_i, pLe_i, pGt_i, pGe_i, pIs_n, pIsNot_n, pIsB_b, pNotB_b, isN_n, isN_b, isN_i, isN_s, isN_t, isN_l, pIx_t, pIx_l, pLen_t, pLen_l, pMin2_i, pMax2_i, pAbs_i, pInt_i, pTuple_t, pTuple_l, pList_t, pList_l, pIadd_i, pSl_t, pSl_l, pEqI, pNeI, pEqS, pNeS, at0, at1, at2, at3, at4, at5, at6, at7, bx_ret, bx_exc, bx_fail, bd_ret, bd_exc, bd_fail, exS_ret, exS_exc, exS_fail, ofO_some, ofO_none, fnE, isi_T, isi_B, isi_I, isi_S, isi_L, sizeL, Option.bind_some, Option.map_some, Option.some.injEq, Int.reduceEq, Int.reduceLE, Int.reduceLT, Int.reduceNeg, Int.reduceAdd, Int.reduceSub, Int.reduceMul, decide_true, decide_false, decide_eq_true_eq, decide_not, eq_self, Int.cast_ofNat_Int, reduceCtorEq, List.length_cons, List.length_nil, List.map_cons, List.map_nil, List.replicate, List.cons_append, List.nil_append, List.append_nil, List.getElem?_cons_zero, List.getElem?_cons_succ, List.getElem?_nil, List.set_cons_zero, List.set_cons_succ, Nat.reduceAdd, Nat.reduceSub, Nat.reduceEqDiff, Nat.reduceLeDiff, Nat.reduceLT, Nat.zero_add, Nat.add_zero, true_and, and_true, false_and, and_false, Bool.not_true, Bool.not_false, Bool.true_and, Bool.and_true, Bool.false_and, Bool.and_false, Bool.or_false, Bool.false_or, Bool.or_true, Bool.true_or, Bool.not_eq_true', if_true, if_false, Bool.false_eq_true, Bool.not_eq_true, ↓reduceIte, ite_true, ite_false, Bool.true_eq_false, not_true_eq_false, not_false_eq_true, Nat.zero_le]
  · unfold t__law_made madeD
    simp only [xNew, newK, xNewK, errKv, List.reverse_cons, List.reverse_nil, List.zip_cons_cons, List.zip_nil_left, List.zip_nil_right, pIntB_b, dictW_c, pLtA_i, pSumT, pSumL, xIsE, isEK_at, xXa, xaK_1, xaK_2, capN, capC, ygT3c, opK2, opK, unK, notK, consK2, consK, tupK, lstK, fzK, cbK, retK, ifSK, setK, wcK, wdK, callK, forK, lcK, bodyX, startE, xSeq, sqF, xNext, xIfS, xRet, xSet, ygT_t, ygsC, ygsN, ygN, xVar, xC, xOp, xUn, pNeg_i, xTest, asB_b, xNot, xNil, xCons, xTup, xLst, xFz, xCall, rOfT_d, rOfT_o, rOfT_c, rOwT_o, ywNil, ywDat, ywVar, xCB, asI_i, xLenS, xFor, itT_t, itL_l, ziR1, ziET, ziEL, enT_t, enL_l, xLc, noOwnB, wipeE, pAdd_i, pAdd_t, pAdd_l, pSub_i, pLt_i, pLe_i, pGt_i, pGe_i, pIs_n, pIsNot_n, pIsB_b, pNotB_b, isN_n, isN_b, isN_i, isN_s, isN_t, isN_l, pIx_t, pIx_l, pLen_t, pLen_l, pMin2_i, pMax2_i, pAbs_i, pInt_i, pTuple_t, pTuple_l, pList_t, pList_l, pIadd_i, pSl_t, pSl_l, pEqI, pNeI, pEqS, pNeS, at0, at1, at2, at3, at4, at5, at6, at7, bx_ret, bx_exc, bx_fail, bd_ret, bd_exc, bd_fail, exS_ret, exS_exc, exS_fail, ofO_some, ofO_none, fnE, isi_T, isi_B, isi_I, isi_S, isi_L, sizeL, Option.bind_some, Option.map_some, Option.some.injEq, Int.reduceEq, Int.reduceLE, Int.reduceLT, Int.reduceNeg, Int.reduceAdd, Int.reduceSub, Int.reduceMul, decide_true, decide_false, decide_eq_true_eq, decide_not, eq_self, Int.cast_ofNat_Int, reduceCtorEq, List.length_cons, List.length_nil, List.map_cons, List.map_nil, List.replicate, List.cons_append, List.nil_append, List.append_nil, List.getElem?_cons_zero, List.getElem?_cons_succ, List.getElem?_nil, List.set_cons_zero, List.set_cons_succ, Nat.reduceAdd, Nat.reduceSub, Nat.reduceEqDiff, Nat.reduceLeDiff, Nat.reduceLT, Nat.zero_add, Nat.add_zero, true_and, and_true, false_and, and_false, Bool.not_true, Bool.not_false, Bool.true_and, Bool.and_true, Bool.false_and, Bool.and_false, Bool.or_false, Bool.false_or, Bool.or_true, Bool.true_or, Bool.not_eq_true', if_true, if_false, Bool.false_eq_true, Bool.not_eq_true, ↓reduceIte, ite_true, ite_false, Bool.true_eq_false, not_true_eq_false, not_false_eq_true, Nat.zero_le]
theorem ek {x c : Str} {kvs : List (Dt × Dt)} (hx : x ∈ kf.map (·.1)) : isEK (kf.map (·.1)) c (errD x kvs) = .ret (.bool (decide (x = c))) := if_pos hx
theorem mk_0 {kvs : List (Dt × Dt)} : w__law_marks [.dat (errD "BadCoder" kvs)] = .ret (.dat (.list [.bool true, .bool false, .bool false, .bool false, .bool false, .bool false, .bool false, .bool false])) := by
  have f0 : decide (("BadCoder" : Str) = "BadCoder") = true := by decide
  have f1 : decide (("BadCoder" : Str) = "BadRow") = false := by decide
  have f2 : decide (("BadCoder" : Str) = "BadPaper") = false := by decide
  have f3 : decide (("BadCoder" : Str) = "BadByte") = false := by decide
  have f4 : decide (("BadCoder" : Str) = "OutOfPlace") = false := by decide
  have f5 : decide (("BadCoder" : Str) = "NoSeam") = false := by decide
  have f6 : decide (("BadCoder" : Str) = "TooGreat") = false := by decide
  have f7 : decide (("BadCoder" : Str) = "Nothing") = false := by decide
  have e := fun c => ek (x := "BadCoder") (c := c) (kvs := kvs) (by decide)
  rw [wd__law_marks]
  refine body_rt rfl ?_
  unfold t__law_marks
  simp only [pIntB_b, dictW_c, pLtA_i, pSumT, pSumL, xIsE, isEK_at, xXa, xaK_1, xaK_2, capN, capC, ygT3c, opK2, opK, unK, notK, consK2, consK, tupK, lstK, fzK, cbK, retK, ifSK, setK, wcK, wdK, callK, forK, lcK, bodyX, startE, xSeq, sqF, xNext, xIfS, xRet, xSet, ygT_t, ygsC, ygsN, ygN, xVar, xC, xOp, xUn, pNeg_i, xTest, asB_b, xNot, xNil, xCons, xTup, xLst, xFz, xCall, rOfT_d, rOfT_o, rOfT_c, rOwT_o, ywNil, ywDat, ywVar, xCB, asI_i, xLenS, xFor, itT_t, itL_l, ziR1, ziET, ziEL, enT_t, enL_l, xLc, noOwnB, wipeE, pAdd_i, pAdd_t, pAdd_l, pSub_i, pLt_i, pLe_i, pGt_i, pGe_i, pIs_n, pIsNot_n, pIsB_b, pNotB_b, isN_n, isN_b, isN_i, isN_s, isN_t, isN_l, pIx_t, pIx_l, pLen_t, pLen_l, pMin2_i, pMax2_i, pAbs_i, pInt_i, pTuple_t, pTuple_l, pList_t, pList_l, pIadd_i, pSl_t, pSl_l, pEqI, pNeI, pEqS, pNeS, at0, at1, at2, at3, at4, at5, at6, at7, bx_ret, bx_exc, bx_fail, bd_ret, bd_exc, bd_fail, exS_ret, exS_exc, exS_fail, ofO_some, ofO_none, fnE, isi_T, isi_B, isi_I, isi_S, isi_L, sizeL, Option.bind_some, Option.map_some, Option.some.injEq, Int.reduceEq, Int.reduceLE, Int.reduceLT, Int.reduceNeg, Int.reduceAdd, Int.reduceSub, Int.reduceMul, decide_true, decide_false, decide_eq_true_eq, decide_not, eq_self, Int.cast_ofNat_Int, reduceCtorEq, List.length_cons, List.length_nil, List.map_cons, List.map_nil, List.replicate, List.cons_append, List.nil_append, List.append_nil, List.getElem?_cons_zero, List.getElem?_cons_succ, List.getElem?_nil, List.set_cons_zero, List.set_cons_succ, Nat.reduceAdd, Nat.reduceSub, Nat.reduceEqDiff, Nat.reduceLeDiff, Nat.reduceLT, Nat.zero_add, Nat.add_zero, true_and, and_true, false_and, and_false, Bool.not_true, Bool.not_false, Bool.true_and, Bool.and_true, Bool.false_and, Bool.and_false, Bool.or_false, Bool.false_or, Bool.or_true, Bool.true_or, Bool.not_eq_true', if_true, if_false, Bool.false_eq_true, Bool.not_eq_true, ↓reduceIte, ite_true, ite_false, Bool.true_eq_false, not_true_eq_false, not_false_eq_true, Nat.zero_le, e, f0, f1, f2, f3, f4, f5, f6, f7, pAdd_l]
theorem ab_0 {kvs : List (Dt × Dt)} : w__law_above [.dat (errD "BadCoder" kvs)] = .ret (.dat (.list [.bool true, .bool false, .bool false, .bool false, .bool false])) := by
  have f0 : isBK tb_ValueError (errD "BadCoder" kvs) = .ret (.bool true) := rfl
  have f1 : isBK tb_OverflowError (errD "BadCoder" kvs) = .ret (.bool false) := rfl
  have f2 : isBK tb_LookupError (errD "BadCoder" kvs) = .ret (.bool false) := rfl
  have f3 : isBK tb_KeyError (errD "BadCoder" kvs) = .ret (.bool false) := rfl
  have f4 : isBK tb_IndexError (errD "BadCoder" kvs) = .ret (.bool false) := rfl
  rw [wd__law_above]
  refine body_rt rfl ?_
  unfold t__law_above
  simp only [xIsB, pIntB_b, dictW_c, pLtA_i, pSumT, pSumL, xIsE, isEK_at, xXa, xaK_1, xaK_2, capN, capC, ygT3c, opK2, opK, unK, notK, consK2, consK, tupK, lstK, fzK, cbK, retK, ifSK, setK, wcK, wdK, callK, forK, lcK, bodyX, startE, xSeq, sqF, xNext, xIfS, xRet, xSet, ygT_t, ygsC, ygsN, ygN, xVar, xC, xOp, xUn, pNeg_i, xTest, asB_b, xNot, xNil, xCons, xTup, xLst, xFz, xCall, rOfT_d, rOfT_o, rOfT_c, rOwT_o, ywNil, ywDat, ywVar, xCB, asI_i, xLenS, xFor, itT_t, itL_l, ziR1, ziET, ziEL, enT_t, enL_l, xLc, noOwnB, wipeE, pAdd_i, pAdd_t, pAdd_l, pSub_i, pLt_i, pLe_i, pGt_i, pGe_i, pIs_n, pIsNot_n, pIsB_b, pNotB_b, isN_n, isN_b, isN_i, isN_s, isN_t, isN_l, pIx_t, pIx_l, pLen_t, pLen_l, pMin2_i, pMax2_i, pAbs_i, pInt_i, pTuple_t, pTuple_l, pList_t, pList_l, pIadd_i, pSl_t, pSl_l, pEqI, pNeI, pEqS, pNeS, at0, at1, at2, at3, at4, at5, at6, at7, bx_ret, bx_exc, bx_fail, bd_ret, bd_exc, bd_fail, exS_ret, exS_exc, exS_fail, ofO_some, ofO_none, fnE, isi_T, isi_B, isi_I, isi_S, isi_L, sizeL, Option.bind_some, Option.map_some, Option.some.injEq, Int.reduceEq, Int.reduceLE, Int.reduceLT, Int.reduceNeg, Int.reduceAdd, Int.reduceSub, Int.reduceMul, decide_true, decide_false, decide_eq_true_eq, decide_not, eq_self, Int.cast_ofNat_Int, reduceCtorEq, List.length_cons, List.length_nil, List.map_cons, List.map_nil, List.replicate, List.cons_append, List.nil_append, List.append_nil, List.getElem?_cons_zero, List.getElem?_cons_succ, List.getElem?_nil, List.set_cons_zero, List.set_cons_succ, Nat.reduceAdd, Nat.reduceSub, Nat.reduceEqDiff, Nat.reduceLeDiff, Nat.reduceLT, Nat.zero_add, Nat.add_zero, true_and, and_true, false_and, and_false, Bool.not_true, Bool.not_false, Bool.true_and, Bool.and_true, Bool.false_and, Bool.and_false, Bool.or_false, Bool.false_or, Bool.or_true, Bool.true_or, Bool.not_eq_true', if_true, if_false, Bool.false_eq_true, Bool.not_eq_true, ↓reduceIte, ite_true, ite_false, Bool.true_eq_false, not_true_eq_false, not_false_eq_true, Nat.zero_le, f0, f1, f2, f3, f4]
theorem mk_1 {kvs : List (Dt × Dt)} : w__law_marks [.dat (errD "BadRow" kvs)] = .ret (.dat (.list [.bool false, .bool true, .bool false, .bool false, .bool false, .bool false, .bool false, .bool false])) := by
  have f0 : decide (("BadRow" : Str) = "BadCoder") = false := by decide
  have f1 : decide (("BadRow" : Str) = "BadRow") = true := by decide
  have f2 : decide (("BadRow" : Str) = "BadPaper") = false := by decide
  have f3 : decide (("BadRow" : Str) = "BadByte") = false := by decide
  have f4 : decide (("BadRow" : Str) = "OutOfPlace") = false := by decide
  have f5 : decide (("BadRow" : Str) = "NoSeam") = false := by decide
  have f6 : decide (("BadRow" : Str) = "TooGreat") = false := by decide
  have f7 : decide (("BadRow" : Str) = "Nothing") = false := by decide
  have e := fun c => ek (x := "BadRow") (c := c) (kvs := kvs) (by decide)
  rw [wd__law_marks]
  refine body_rt rfl ?_
  unfold t__law_marks
  simp only [pIntB_b, dictW_c, pLtA_i, pSumT, pSumL, xIsE, isEK_at, xXa, xaK_1, xaK_2, capN, capC, ygT3c, opK2, opK, unK, notK, consK2, consK, tupK, lstK, fzK, cbK, retK, ifSK, setK, wcK, wdK, callK, forK, lcK, bodyX, startE, xSeq, sqF, xNext, xIfS, xRet, xSet, ygT_t, ygsC, ygsN, ygN, xVar, xC, xOp, xUn, pNeg_i, xTest, asB_b, xNot, xNil, xCons, xTup, xLst, xFz, xCall, rOfT_d, rOfT_o, rOfT_c, rOwT_o, ywNil, ywDat, ywVar, xCB, asI_i, xLenS, xFor, itT_t, itL_l, ziR1, ziET, ziEL, enT_t, enL_l, xLc, noOwnB, wipeE, pAdd_i, pAdd_t, pAdd_l, pSub_i, pLt_i, pLe_i, pGt_i, pGe_i, pIs_n, pIsNot_n, pIsB_b, pNotB_b, isN_n, isN_b, isN_i, isN_s, isN_t, isN_l, pIx_t, pIx_l, pLen_t, pLen_l, pMin2_i, pMax2_i, pAbs_i, pInt_i, pTuple_t, pTuple_l, pList_t, pList_l, pIadd_i, pSl_t, pSl_l, pEqI, pNeI, pEqS, pNeS, at0, at1, at2, at3, at4, at5, at6, at7, bx_ret, bx_exc, bx_fail, bd_ret, bd_exc, bd_fail, exS_ret, exS_exc, exS_fail, ofO_some, ofO_none, fnE, isi_T, isi_B, isi_I, isi_S, isi_L, sizeL, Option.bind_some, Option.map_some, Option.some.injEq, Int.reduceEq, Int.reduceLE, Int.reduceLT, Int.reduceNeg, Int.reduceAdd, Int.reduceSub, Int.reduceMul, decide_true, decide_false, decide_eq_true_eq, decide_not, eq_self, Int.cast_ofNat_Int, reduceCtorEq, List.length_cons, List.length_nil, List.map_cons, List.map_nil, List.replicate, List.cons_append, List.nil_append, List.append_nil, List.getElem?_cons_zero, List.getElem?_cons_succ, List.getElem?_nil, List.set_cons_zero, List.set_cons_succ, Nat.reduceAdd, Nat.reduceSub, Nat.reduceEqDiff, Nat.reduceLeDiff, Nat.reduceLT, Nat.zero_add, Nat.add_zero, true_and, and_true, false_and, and_false, Bool.not_true, Bool.not_false, Bool.true_and, Bool.and_true, Bool.false_and, Bool.and_false, Bool.or_false, Bool.false_or, Bool.or_true, Bool.true_or, Bool.not_eq_true', if_true, if_false, Bool.false_eq_true, Bool.not_eq_true, ↓reduceIte, ite_true, ite_false, Bool.true_eq_false, not_true_eq_false, not_false_eq_true, Nat.zero_le, e, f0, f1, f2, f3, f4, f5, f6, f7, pAdd_l]
theorem ab_1 {kvs : List (Dt × Dt)} : w__law_above [.dat (errD "BadRow" kvs)] = .ret (.dat (.list [.bool true, .bool false, .bool false, .bool false, .bool false])) := by
  have f0 : isBK tb_ValueError (errD "BadRow" kvs) = .ret (.bool true) := rfl
  have f1 : isBK tb_OverflowError (errD "BadRow" kvs) = .ret (.bool false) := rfl
  have f2 : isBK tb_LookupError (errD "BadRow" kvs) = .ret (.bool false) := rfl
  have f3 : isBK tb_KeyError (errD "BadRow" kvs) = .ret (.bool false) := rfl
  have f4 : isBK tb_IndexError (errD "BadRow" kvs) = .ret (.bool false) := rfl
  rw [wd__law_above]
  refine body_rt rfl ?_
  unfold t__law_above
  simp only [xIsB, pIntB_b, dictW_c, pLtA_i, pSumT, pSumL, xIsE, isEK_at, xXa, xaK_1, xaK_2, capN, capC, ygT3c, opK2, opK, unK, notK, consK2, consK, tupK, lstK, fzK, cbK, retK, ifSK, setK, wcK, wdK, callK, forK, lcK, bodyX, startE, xSeq, sqF, xNext, xIfS, xRet, xSet, ygT_t, ygsC, ygsN, ygN, xVar, xC, xOp, xUn, pNeg_i, xTest, asB_b, xNot, xNil, xCons, xTup, xLst, xFz, xCall, rOfT_d, rOfT_o, rOfT_c, rOwT_o, ywNil, ywDat, ywVar, xCB, asI_i, xLenS, xFor, itT_t, itL_l, ziR1, ziET, ziEL, enT_t, enL_l, xLc, noOwnB, wipeE, pAdd_i, pAdd_t, pAdd_l, pSub_i, pLt_i, pLe_i, pGt_i, pGe_i, pIs_n, pIsNot_n, pIsB_b, pNotB_b, isN_n, isN_b, isN_i, isN_s, isN_t, isN_l, pIx_t, pIx_l, pLen_t, pLen_l, pMin2_i, pMax2_i, pAbs_i, pInt_i, pTuple_t, pTuple_l, pList_t, pList_l, pIadd_i, pSl_t, pSl_l, pEqI, pNeI, pEqS, pNeS, at0, at1, at2, at3, at4, at5, at6, at7, bx_ret, bx_exc, bx_fail, bd_ret, bd_exc, bd_fail, exS_ret, exS_exc, exS_fail, ofO_some, ofO_none, fnE, isi_T, isi_B, isi_I, isi_S, isi_L, sizeL, Option.bind_some, Option.map_some, Option.some.injEq, Int.reduceEq, Int.reduceLE, Int.reduceLT, Int.reduceNeg, Int.reduceAdd, Int.reduceSub, Int.reduceMul, decide_true, decide_false, decide_eq_true_eq, decide_not, eq_self, Int.cast_ofNat_Int, reduceCtorEq, List.length_cons, List.length_nil, List.map_cons, List.map_nil, List.replicate, List.cons_append, List.nil_append, List.append_nil, List.getElem?_cons_zero, List.getElem?_cons_succ, List.getElem?_nil, List.set_cons_zero, List.set_cons_succ, Nat.reduceAdd, Nat.reduceSub, Nat.reduceEqDiff, Nat.reduceLeDiff, Nat.reduceLT, Nat.zero_add, Nat.add_zero, true_and, and_true, false_and, and_false, Bool.not_true, Bool.not_false, Bool.true_and, Bool.and_true, Bool.false_and, Bool.and_false, Bool.or_false, Bool.false_or, Bool.or_true, Bool.true_or, Bool.not_eq_true', if_true, if_false, Bool.false_eq_true, Bool.not_eq_true, ↓reduceIte, ite_true, ite_false, Bool.true_eq_false, not_true_eq_false, not_false_eq_true, Nat.zero_le, f0, f1, f2, f3, f4]
theorem mk_2 {kvs : List (Dt × Dt)} : w__law_marks [.dat (errD "BadPaper" kvs)] = .ret (.dat (.list [.bool false, .bool false, .bool true, .bool false, .bool false, .bool false, .bool false, .bool false])) := by
  have f0 : decide (("BadPaper" : Str) = "BadCoder") = false := by decide
  have f1 : decide (("BadPaper" : Str) = "BadRow") = false := by decide
  have f2 : decide (("BadPaper" : Str) = "BadPaper") = true := by decide
  have f3 : decide (("BadPaper" : Str) = "BadByte") = false := by decide
  have f4 : decide (("BadPaper" : Str) = "OutOfPlace") = false := by decide
  have f5 : decide (("BadPaper" : Str) = "NoSeam") = false := by decide
  have f6 : decide (("BadPaper" : Str) = "TooGreat") = false := by decide
  have f7 : decide (("BadPaper" : Str) = "Nothing") = false := by decide
  have e := fun c => ek (x := "BadPaper") (c := c) (kvs := kvs) (by decide)
  rw [wd__law_marks]
  refine body_rt rfl ?_
  unfold t__law_marks
  simp only [pIntB_b, dictW_c, pLtA_i, pSumT, pSumL, xIsE, isEK_at, xXa, xaK_1, xaK_2, capN, capC, ygT3c, opK2, opK, unK, notK, consK2, consK, tupK, lstK, fzK, cbK, retK, ifSK, setK, wcK, wdK, callK, forK, lcK, bodyX, startE, xSeq, sqF, xNext, xIfS, xRet, xSet, ygT_t, ygsC, ygsN, ygN, xVar, xC, xOp, xUn, pNeg_i, xTest, asB_b, xNot, xNil, xCons, xTup, xLst, xFz, xCall, rOfT_d, rOfT_o, rOfT_c, rOwT_o, ywNil, ywDat, ywVar, xCB, asI_i, xLenS, xFor, itT_t, itL_l, ziR1, ziET, ziEL, enT_t, enL_l, xLc, noOwnB, wipeE, pAdd_i, pAdd_t, pAdd_l, pSub_i, pLt_i, pLe_i, pGt_i, pGe_i, pIs_n, pIsNot_n, pIsB_b, pNotB_b, isN_n, isN_b, isN_i, isN_s, isN_t, isN_l, pIx_t, pIx_l, pLen_t, pLen_l, pMin2_i, pMax2_i, pAbs_i, pInt_i, pTuple_t, pTuple_l, pList_t, pList_l, pIadd_i, pSl_t, pSl_l, pEqI, pNeI, pEqS, pNeS, at0, at1, at2, at3, at4, at5, at6, at7, bx_ret, bx_exc, bx_fail, bd_ret, bd_exc, bd_fail, exS_ret, exS_exc, exS_fail, ofO_some, ofO_none, fnE, isi_T, isi_B, isi_I, isi_S, isi_L, sizeL, Option.bind_some, Option.map_some, Option.some.injEq, Int.reduceEq, Int.reduceLE, Int.reduceLT, Int.reduceNeg, Int.reduceAdd, Int.reduceSub, Int.reduceMul, decide_true, decide_false, decide_eq_true_eq, decide_not, eq_self, Int.cast_ofNat_Int, reduceCtorEq, List.length_cons, List.length_nil, List.map_cons, List.map_nil, List.replicate, List.cons_append, List.nil_append, List.append_nil, List.getElem?_cons_zero, List.getElem?_cons_succ, List.getElem?_nil, List.set_cons_zero, List.set_cons_succ, Nat.reduceAdd, Nat.reduceSub, Nat.reduceEqDiff, Nat.reduceLeDiff, Nat.reduceLT, Nat.zero_add, Nat.add_zero, true_and, and_true, false_and, and_false, Bool.not_true, Bool.not_false, Bool.true_and, Bool.and_true, Bool.false_and, Bool.and_false, Bool.or_false, Bool.false_or, Bool.or_true, Bool.true_or, Bool.not_eq_true', if_true, if_false, Bool.false_eq_true, Bool.not_eq_true, ↓reduceIte, ite_true, ite_false, Bool.true_eq_false, not_true_eq_false, not_false_eq_true, Nat.zero_le, e, f0, f1, f2, f3, f4, f5, f6, f7, pAdd_l]
theorem ab_2 {kvs : List (Dt × Dt)} : w__law_above [.dat (errD "BadPaper" kvs)] = .ret (.dat (.list [.bool true, .bool false, .bool false, .bool false, .bool false])) := by
  have f0 : isBK tb_ValueError (errD "BadPaper" kvs) = .ret (.bool true) := rfl
  have f1 : isBK tb_OverflowError (errD "BadPaper" kvs) = .ret (.bool false) := rfl
  have f2 : isBK tb_LookupError (errD "BadPaper" kvs) = .ret (.bool false) := rfl
  have f3 : isBK tb_KeyError (errD "BadPaper" kvs) = .ret (.bool false) := rfl
  have f4 : isBK tb_IndexError (errD "BadPaper" kvs) = .ret (.bool false) := rfl
  rw [wd__law_above]
  refine body_rt rfl ?_
  unfold t__law_above
  simp only [xIsB, pIntB_b, dictW_c, pLtA_i, pSumT, pSumL, xIsE, isEK_at, xXa, xaK_1, xaK_2, capN, capC, ygT3c, opK2, opK, unK, notK, consK2, consK, tupK, lstK, fzK, cbK, retK, ifSK, setK, wcK, wdK, callK, forK, lcK, bodyX, startE, xSeq, sqF, xNext, xIfS, xRet, xSet, ygT_t, ygsC, ygsN, ygN, xVar, xC, xOp, xUn, pNeg_i, xTest, asB_b, xNot, xNil, xCons, xTup, xLst, xFz, xCall, rOfT_d, rOfT_o, rOfT_c, rOwT_o, ywNil, ywDat, ywVar, xCB, asI_i, xLenS, xFor, itT_t, itL_l, ziR1, ziET, ziEL, enT_t, enL_l, xLc, noOwnB, wipeE, pAdd_i, pAdd_t, pAdd_l, pSub_i, pLt_i, pLe_i, pGt_i, pGe_i, pIs_n, pIsNot_n, pIsB_b, pNotB_b, isN_n, isN_b, isN_i, isN_s, isN_t, isN_l, pIx_t, pIx_l, pLen_t, pLen_l, pMin2_i, pMax2_i, pAbs_i, pInt_i, pTuple_t, pTuple_l, pList_t, pList_l, pIadd_i, pSl_t, pSl_l, pEqI, pNeI, pEqS, pNeS, at0, at1, at2, at3, at4, at5, at6, at7, bx_ret, bx_exc, bx_fail, bd_ret, bd_exc, bd_fail, exS_ret, exS_exc, exS_fail, ofO_some, ofO_none, fnE, isi_T, isi_B, isi_I, isi_S, isi_L, sizeL, Option.bind_some, Option.map_some, Option.some.injEq, Int.reduceEq, Int.reduceLE, Int.reduceLT, Int.reduceNeg, Int.reduceAdd, Int.reduceSub, Int.reduceMul, decide_true, decide_false, decide_eq_true_eq, decide_not, eq_self, Int.cast_ofNat_Int, reduceCtorEq, List.length_cons, List.length_nil, List.map_cons, List.map_nil, List.replicate, List.cons_append, List.nil_append, List.append_nil, List.getElem?_cons_zero, List.getElem?_cons_succ, List.getElem?_nil, List.set_cons_zero, List.set_cons_succ, Nat.reduceAdd, Nat.reduceSub, Nat.reduceEqDiff, Nat.reduceLeDiff, Nat.reduceLT, Nat.zero_add, Nat.add_zero, true_and, and_true, false_and, and_false, Bool.not_true, Bool.not_false, Bool.true_and, Bool.and_true, Bool.false_and, Bool.and_false, Bool.or_false, Bool.false_or, Bool.or_true, Bool.true_or, Bool.not_eq_true', if_true, if_false, Bool.false_eq_true, Bool.not_eq_true, ↓reduceIte, ite_true, ite_false, Bool.true_eq_false, not_true_eq_false, not_false_eq_true, Nat.zero_le, f0, f1, f2, f3, f4]
theorem mk_3 {kvs : List (Dt × Dt)} : w__law_marks [.dat (errD "BadByte" kvs)] = .ret (.dat (.list [.bool false, .bool false, .bool false, .bool true, .bool false, .bool false, .bool false, .bool false])) := by
  have f0 : decide (("BadByte" : Str) = "BadCoder") = false := by decide
  have f1 : decide (("BadByte" : Str) = "BadRow") = false := by decide
  have f2 : decide (("BadByte" : Str) = "BadPaper") = false := by decide
  have f3 : decide (("BadByte" : Str) = "BadByte") = true := by decide
  have f4 : decide (("BadByte" : Str) = "OutOfPlace") = false := by decide
  have f5 : decide (("BadByte" : Str) = "NoSeam") = false := by decide
  have f6 : decide (("BadByte" : Str) = "TooGreat") = false := by decide
  have f7 : decide (("BadByte" : Str) = "Nothing") = false := by decide
  have e := fun c => ek (x := "BadByte") (c := c) (kvs := kvs) (by decide)
  rw [wd__law_marks]
  refine body_rt rfl ?_
  unfold t__law_marks
  simp only [pIntB_b, dictW_c, pLtA_i, pSumT, pSumL, xIsE, isEK_at, xXa, xaK_1, xaK_2, capN, capC, ygT3c, opK2, opK, unK, notK, consK2, consK, tupK, lstK, fzK, cbK, retK, ifSK, setK, wcK, wdK, callK, forK, lcK, bodyX, startE, xSeq, sqF, xNext, xIfS, xRet, xSet, ygT_t, ygsC, ygsN, ygN, xVar, xC, xOp, xUn, pNeg_i, xTest, asB_b, xNot, xNil, xCons, xTup, xLst, xFz, xCall, rOfT_d, rOfT_o, rOfT_c, rOwT_o, ywNil, ywDat, ywVar, xCB, asI_i, xLenS, xFor, itT_t, itL_l, ziR1, ziET, ziEL, enT_t, enL_l, xLc, noOwnB, wipeE, pAdd_i, pAdd_t, pAdd_l, pSub_i, pLt_i, pLe_i, pGt_i, pGe_i, pIs_n, pIsNot_n, pIsB_b, pNotB_b, isN_n, isN_b, isN_i, isN_s, isN_t, isN_l, pIx_t, pIx_l, pLen_t, pLen_l, pMin2_i, pMax2_i, pAbs_i, pInt_i, pTuple_t, pTuple_l, pList_t, pList_l, pIadd_i, pSl_t, pSl_l, pEqI, pNeI, pEqS, pNeS, at0, at1, at2, at3, at4, at5, at6, at7, bx_ret, bx_exc, bx_fail, bd_ret, bd_exc, bd_fail, exS_ret, exS_exc, exS_fail, ofO_some, ofO_none, fnE, isi_T, isi_B, isi_I, isi_S, isi_L, sizeL, Option.bind_some, Option.map_some, Option.some.injEq, Int.reduceEq, Int.reduceLE, Int.reduceLT, Int.reduceNeg, Int.reduceAdd, Int.reduceSub, Int.reduceMul, decide_true, decide_false, decide_eq_true_eq, decide_not, eq_self, Int.cast_ofNat_Int, reduceCtorEq, List.length_cons, List.length_nil, List.map_cons, List.map_nil, List.replicate, List.cons_append, List.nil_append, List.append_nil, List.getElem?_cons_zero, List.getElem?_cons_succ, List.getElem?_nil, List.set_cons_zero, List.set_cons_succ, Nat.reduceAdd, Nat.reduceSub, Nat.reduceEqDiff, Nat.reduceLeDiff, Nat.reduceLT, Nat.zero_add, Nat.add_zero, true_and, and_true, false_and, and_false, Bool.not_true, Bool.not_false, Bool.true_and, Bool.and_true, Bool.false_and, Bool.and_false, Bool.or_false, Bool.false_or, Bool.or_true, Bool.true_or, Bool.not_eq_true', if_true, if_false, Bool.false_eq_true, Bool.not_eq_true, ↓reduceIte, ite_true, ite_false, Bool.true_eq_false, not_true_eq_false, not_false_eq_true, Nat.zero_le, e, f0, f1, f2, f3, f4, f5, f6, f7, pAdd_l]
theorem ab_3 {kvs : List (Dt × Dt)} : w__law_above [.dat (errD "BadByte" kvs)] = .ret (.dat (.list [.bool true, .bool false, .bool false, .bool false, .bool false])) := by
  have f0 : isBK tb_ValueError (errD "BadByte" kvs) = .ret (.bool true) := rfl
  have f1 : isBK tb_OverflowError (errD "BadByte" kvs) = .ret (.bool false) := rfl
  have f2 : isBK tb_LookupError (errD "BadByte" kvs) = .ret (.bool false) := rfl
  have f3 : isBK tb_KeyError (errD "BadByte" kvs) = .ret (.bool false) := rfl
  have f4 : isBK tb_IndexError (errD "BadByte" kvs) = .ret (.bool false) := rfl
  rw [wd__law_above]
  refine body_rt rfl ?_
  unfold t__law_above
  simp only [xIsB, pIntB_b, dictW_c, pLtA_i, pSumT, pSumL, xIsE, isEK_at, xXa, xaK_1, xaK_2, capN, capC, ygT3c, opK2, opK, unK, notK, consK2, consK, tupK, lstK, fzK, cbK, retK, ifSK, setK, wcK, wdK, callK, forK, lcK, bodyX, startE, xSeq, sqF, xNext, xIfS, xRet, xSet, ygT_t, ygsC, ygsN, ygN, xVar, xC, xOp, xUn, pNeg_i, xTest, asB_b, xNot, xNil, xCons, xTup, xLst, xFz, xCall, rOfT_d, rOfT_o, rOfT_c, rOwT_o, ywNil, ywDat, ywVar, xCB, asI_i, xLenS, xFor, itT_t, itL_l, ziR1, ziET, ziEL, enT_t, enL_l, xLc, noOwnB, wipeE, pAdd_i, pAdd_t, pAdd_l, pSub_i, pLt_i, pLe_i, pGt_i, pGe_i, pIs_n, pIsNot_n, pIsB_b, pNotB_b, isN_n, isN_b, isN_i, isN_s, isN_t, isN_l, pIx_t, pIx_l, pLen_t, pLen_l, pMin2_i, pMax2_i, pAbs_i, pInt_i, pTuple_t, pTuple_l, pList_t, pList_l, pIadd_i, pSl_t, pSl_l, pEqI, pNeI, pEqS, pNeS, at0, at1, at2, at3, at4, at5, at6, at7, bx_ret, bx_exc, bx_fail, bd_ret, bd_exc, bd_fail, exS_ret, exS_exc, exS_fail, ofO_some, ofO_none, fnE, isi_T, isi_B, isi_I, isi_S, isi_L, sizeL, Option.bind_some, Option.map_some, Option.some.injEq, Int.reduceEq, Int.reduceLE, Int.reduceLT, Int.reduceNeg, Int.reduceAdd, Int.reduceSub, Int.reduceMul, decide_true, decide_false, decide_eq_true_eq, decide_not, eq_self, Int.cast_ofNat_Int, reduceCtorEq, List.length_cons, List.length_nil, List.map_cons, List.map_nil, List.replicate, List.cons_append, List.nil_append, List.append_nil, List.getElem?_cons_zero, List.getElem?_cons_succ, List.getElem?_nil, List.set_cons_zero, List.set_cons_succ, Nat.reduceAdd, Nat.reduceSub, Nat.reduceEqDiff, Nat.reduceLeDiff, Nat.reduceLT, Nat.zero_add, Nat.add_zero, true_and, and_true, false_and, and_false, Bool.not_true, Bool.not_false, Bool.true_and, Bool.and_true, Bool.false_and, Bool.and_false, Bool.or_false, Bool.false_or, Bool.or_true, Bool.true_or, Bool.not_eq_true', if_true, if_false, Bool.false_eq_true, Bool.not_eq_true, ↓reduceIte, ite_true, ite_false, Bool.true_eq_false, not_true_eq_false, not_false_eq_true, Nat.zero_le, f0, f1, f2, f3, f4]
theorem mk_4 {kvs : List (Dt × Dt)} : w__law_marks [.dat (errD "OutOfPlace" kvs)] = .ret (.dat (.list [.bool false, .bool false, .bool false, .bool false, .bool true, .bool false, .bool false, .bool false])) := by
  have f0 : decide (("OutOfPlace" : Str) = "BadCoder") = false := by decide
  have f1 : decide (("OutOfPlace" : Str) = "BadRow") = false := by decide
  have f2 : decide (("OutOfPlace" : Str) = "BadPaper") = false := by decide
  have f3 : decide (("OutOfPlace" : Str) = "BadByte") = false := by decide
  have f4 : decide (("OutOfPlace" : Str) = "OutOfPlace") = true := by decide
  have f5 : decide (("OutOfPlace" : Str) = "NoSeam") = false := by decide
  have f6 : decide (("OutOfPlace" : Str) = "TooGreat") = false := by decide
  have f7 : decide (("OutOfPlace" : Str) = "Nothing") = false := by decide
  have e := fun c => ek (x := "OutOfPlace") (c := c) (kvs := kvs) (by decide)
  rw [wd__law_marks]
  refine body_rt rfl ?_
  unfold t__law_marks
  simp only [pIntB_b, dictW_c, pLtA_i, pSumT, pSumL, xIsE, isEK_at, xXa, xaK_1, xaK_2, capN, capC, ygT3c, opK2, opK, unK, notK, consK2, consK, tupK, lstK, fzK, cbK, retK, ifSK, setK, wcK, wdK, callK, forK, lcK, bodyX, startE, xSeq, sqF, xNext, xIfS, xRet, xSet, ygT_t, ygsC, ygsN, ygN, xVar, xC, xOp, xUn, pNeg_i, xTest, asB_b, xNot, xNil, xCons, xTup, xLst, xFz, xCall, rOfT_d, rOfT_o, rOfT_c, rOwT_o, ywNil, ywDat, ywVar, xCB, asI_i, xLenS, xFor, itT_t, itL_l, ziR1, ziET, ziEL, enT_t, enL_l, xLc, noOwnB, wipeE, pAdd_i, pAdd_t, pAdd_l, pSub_i, pLt_i, pLe_i, pGt_i, pGe_i, pIs_n, pIsNot_n, pIsB_b, pNotB_b, isN_n, isN_b, isN_i, isN_s, isN_t, isN_l, pIx_t, pIx_l, pLen_t, pLen_l, pMin2_i, pMax2_i, pAbs_i, pInt_i, pTuple_t, pTuple_l, pList_t, pList_l, pIadd_i, pSl_t, pSl_l, pEqI, pNeI, pEqS, pNeS, at0, at1, at2, at3, at4, at5, at6, at7, bx_ret, bx_exc, bx_fail, bd_ret, bd_exc, bd_fail, exS_ret, exS_exc, exS_fail, ofO_some, ofO_none, fnE, isi_T, isi_B, isi_I, isi_S, isi_L, sizeL, Option.bind_some, Option.map_some, Option.some.injEq, Int.reduceEq, Int.reduceLE, Int.reduceLT, Int.reduceNeg, Int.reduceAdd, Int.reduceSub, Int.reduceMul, decide_true, decide_false, decide_eq_true_eq, decide_not, eq_self, Int.cast_ofNat_Int, reduceCtorEq, List.length_cons, List.length_nil, List.map_cons, List.map_nil, List.replicate, List.cons_append, List.nil_append, List.append_nil, List.getElem?_cons_zero, List.getElem?_cons_succ, List.getElem?_nil, List.set_cons_zero, List.set_cons_succ, Nat.reduceAdd, Nat.reduceSub, Nat.reduceEqDiff, Nat.reduceLeDiff, Nat.reduceLT, Nat.zero_add, Nat.add_zero, true_and, and_true, false_and, and_false, Bool.not_true, Bool.not_false, Bool.true_and, Bool.and_true, Bool.false_and, Bool.and_false, Bool.or_false, Bool.false_or, Bool.or_true, Bool.true_or, Bool.not_eq_true', if_true, if_false, Bool.false_eq_true, Bool.not_eq_true, ↓reduceIte, ite_true, ite_false, Bool.true_eq_false, not_true_eq_false, not_false_eq_true, Nat.zero_le, e, f0, f1, f2, f3, f4, f5, f6, f7, pAdd_l]
theorem ab_4 {kvs : List (Dt × Dt)} : w__law_above [.dat (errD "OutOfPlace" kvs)] = .ret (.dat (.list [.bool true, .bool false, .bool false, .bool false, .bool false])) := by
  have f0 : isBK tb_ValueError (errD "OutOfPlace" kvs) = .ret (.bool true) := rfl
  have f1 : isBK tb_OverflowError (errD "OutOfPlace" kvs) = .ret (.bool false) := rfl
  have f2 : isBK tb_LookupError (errD "OutOfPlace" kvs) = .ret (.bool false) := rfl
  have f3 : isBK tb_KeyError (errD "OutOfPlace" kvs) = .ret (.bool false) := rfl
  have f4 : isBK tb_IndexError (errD "OutOfPlace" kvs) = .ret (.bool false) := rfl
  rw [wd__law_above]
  refine body_rt rfl ?_
  unfold t__law_above
  simp only [xIsB, pIntB_b, dictW_c, pLtA_i, pSumT, pSumL, xIsE, isEK_at, xXa, xaK_1, xaK_2, capN, capC, ygT3c, opK2, opK, unK, notK, consK2, consK, tupK, lstK, fzK, cbK, retK, ifSK, setK, wcK, wdK, callK, forK, lcK, bodyX, startE, xSeq, sqF, xNext, xIfS, xRet, xSet, ygT_t, ygsC, ygsN, ygN, xVar, xC, xOp, xUn, pNeg_i, xTest, asB_b, xNot, xNil, xCons, xTup, xLst, xFz, xCall, rOfT_d, rOfT_o, rOfT_c, rOwT_o, ywNil, ywDat, ywVar, xCB, asI_i, xLenS, xFor, itT_t, itL_l, ziR1, ziET, ziEL, enT_t, enL_l, xLc, noOwnB, wipeE, pAdd_i, pAdd_t, pAdd_l, pSub_i, pLt_i, pLe_i, pGt_i, pGe_i, pIs_n, pIsNot_n, pIsB_b, pNotB_b, isN_n, isN_b, isN_i, isN_s, isN_t, isN_l, pIx_t, pIx_l, pLen_t, pLen_l, pMin2_i, pMax2_i, pAbs_i, pInt_i, pTuple_t, pTuple_l, pList_t, pList_l, pIadd_i, pSl_t, pSl_l, pEqI, pNeI, pEqS, pNeS, at0, at1, at2, at3, at4, at5, at6, at7, bx_ret, bx_exc, bx_fail, bd_ret, bd_exc, bd_fail, exS_ret, exS_exc, exS_fail, ofO_some, ofO_none, fnE, isi_T, isi_B, isi_I, isi_S, isi_L, sizeL, Option.bind_some, Option.map_some, Option.some.injEq, Int.reduceEq, Int.reduceLE, Int.reduceLT, Int.reduceNeg, Int.reduceAdd, Int.reduceSub, Int.reduceMul, decide_true, decide_false, decide_eq_true_eq, decide_not, eq_self, Int.cast_ofNat_Int, reduceCtorEq, List.length_cons, List.length_nil, List.map_cons, List.map_nil, List.replicate, List.cons_append, List.nil_append, List.append_nil, List.getElem?_cons_zero, List.getElem?_cons_succ, List.getElem?_nil, List.set_cons_zero, List.set_cons_succ, Nat.reduceAdd, Nat.reduceSub, Nat.reduceEqDiff, Nat.reduceLeDiff, Nat.reduceLT, Nat.zero_add, Nat.add_zero, true_and, and_true, false_and, and_false, Bool.not_true, Bool.not_false, Bool.true_and, Bool.and_true, Bool.false_and, Bool.and_false, Bool.or_false, Bool.false_or, Bool.or_true, Bool.true_or, Bool.not_eq_true', if_true, if_false, Bool.false_eq_true, Bool.not_eq_true, ↓reduceIte, ite_true, ite_false, Bool.true_eq_false, not_true_eq_false, not_false_eq_true, Nat.zero_le, f0, f1, f2, f3, f4]
theorem mk_5 {kvs : List (Dt × Dt)} : w__law_marks [.dat (errD "NoSeam" kvs)] = .ret (.dat (.list [.bool false, .bool false, .bool false, .bool false, .bool false, .bool true, .bool false, .bool false])) := by
  have f0 : decide (("NoSeam" : Str) = "BadCoder") = false := by decide
  have f1 : decide (("NoSeam" : Str) = "BadRow") = false := by decide
  have f2 : decide (("NoSeam" : Str) = "BadPaper") = false := by decide
  have f3 : decide (("NoSeam" : Str) = "BadByte") = false := by decide
  have f4 : decide (("NoSeam" : Str) = "OutOfPlace") = false := by decide
  have f5 : decide (("NoSeam" : Str) = "NoSeam") = true := by decide
  have f6 : decide (("NoSeam" : Str) = "TooGreat") = false := by decide
  have f7 : decide (("NoSeam" : Str) = "Nothing") = false := by decide
  have e := fun c => ek (x := "NoSeam") (c := c) (kvs := kvs) (by decide)
  rw [wd__law_marks]
  refine body_rt rfl ?_
  unfold t__law_marks
  simp only [pIntB_b, dictW_c, pLtA_i, pSumT, pSumL, xIsE, isEK_at, xXa, xaK_1, xaK_2, capN, capC, ygT3c, opK2, opK, unK, notK, consK2, consK, tupK, lstK, fzK, cbK, retK, ifSK, setK, wcK, wdK, callK, forK, lcK, bodyX, startE, xSeq, sqF, xNext, xIfS, xRet, xSet, ygT_t, ygsC, ygsN, ygN, xVar, xC, xOp, xUn, pNeg_i, xTest, asB_b, xNot, xNil, xCons, xTup, xLst, xFz, xCall, rOfT_d, rOfT_o, rOfT_c, rOwT_o, ywNil, ywDat, ywVar, xCB, asI_i, xLenS, xFor, itT_t, itL_l, ziR1, ziET, ziEL, enT_t, enL_l, xLc, noOwnB, wipeE, pAdd_i, pAdd_t, pAdd_l, pSub_i, pLt_i, pLe_i, pGt_i, pGe_i, pIs_n, pIsNot_n, pIsB_b, pNotB_b, isN_n, isN_b, isN_i, isN_s, isN_t, isN_l, pIx_t, pIx_l, pLen_t, pLen_l, pMin2_i, pMax2_i, pAbs_i, pInt_i, pTuple_t, pTuple_l, pList_t, pList_l, pIadd_i, pSl_t, pSl_l, pEqI, pNeI, pEqS, pNeS, at0, at1, at2, at3, at4, at5, at6, at7, bx_ret, bx_exc, bx_fail, bd_ret, bd_exc, bd_fail, exS_ret, exS_exc, exS_fail, ofO_some, ofO_none, fnE, isi_T, isi_B, isi_I, isi_S, isi_L, sizeL, Option.bind_some, Option.map_some, Option.some.injEq, Int.reduceEq, Int.reduceLE, Int.reduceLT, Int.reduceNeg, Int.reduceAdd, Int.reduceSub, Int.reduceMul, decide_true, decide_false, decide_eq_true_eq, decide_not, eq_self, Int.cast_ofNat_Int, reduceCtorEq, List.length_cons, List.length_nil, List.map_cons, List.map_nil, List.replicate, List.cons_append, List.nil_append, List.append_nil, List.getElem?_cons_zero, List.getElem?_cons_succ, List.getElem?_nil, List.set_cons_zero, List.set_cons_succ, Nat.reduceAdd, Nat.reduceSub, Nat.reduceEqDiff, Nat.reduceLeDiff, Nat.reduceLT, Nat.zero_add, Nat.add_zero, true_and, and_true, false_and, and_false, Bool.not_true, Bool.not_false, Bool.true_and, Bool.and_true, Bool.false_and, Bool.and_false, Bool.or_false, Bool.false_or, Bool.or_true, Bool.true_or, Bool.not_eq_true', if_true, if_false, Bool.false_eq_true, Bool.not_eq_true, ↓reduceIte, ite_true, ite_false, Bool.true_eq_false, not_true_eq_false, not_false_eq_true, Nat.zero_le, e, f0, f1, f2, f3, f4, f5, f6, f7, pAdd_l]
theorem ab_5 {kvs : List (Dt × Dt)} : w__law_above [.dat (errD "NoSeam" kvs)] = .ret (.dat (.list [.bool true, .bool false, .bool false, .bool false, .bool false])) := by
  have f0 : isBK tb_ValueError (errD "NoSeam" kvs) = .ret (.bool true) := rfl
  have f1 : isBK tb_OverflowError (errD "NoSeam" kvs) = .ret (.bool false) := rfl
  have f2 : isBK tb_LookupError (errD "NoSeam" kvs) = .ret (.bool false) := rfl
  have f3 : isBK tb_KeyError (errD "NoSeam" kvs) = .ret (.bool false) := rfl
  have f4 : isBK tb_IndexError (errD "NoSeam" kvs) = .ret (.bool false) := rfl
  rw [wd__law_above]
  refine body_rt rfl ?_
  unfold t__law_above
  simp only [xIsB, pIntB_b, dictW_c, pLtA_i, pSumT, pSumL, xIsE, isEK_at, xXa, xaK_1, xaK_2, capN, capC, ygT3c, opK2, opK, unK, notK, consK2, consK, tupK, lstK, fzK, cbK, retK, ifSK, setK, wcK, wdK, callK, forK, lcK, bodyX, startE, xSeq, sqF, xNext, xIfS, xRet, xSet, ygT_t, ygsC, ygsN, ygN, xVar, xC, xOp, xUn, pNeg_i, xTest, asB_b, xNot, xNil, xCons, xTup, xLst, xFz, xCall, rOfT_d, rOfT_o, rOfT_c, rOwT_o, ywNil, ywDat, ywVar, xCB, asI_i, xLenS, xFor, itT_t, itL_l, ziR1, ziET, ziEL, enT_t, enL_l, xLc, noOwnB, wipeE, pAdd_i, pAdd_t, pAdd_l, pSub_i, pLt_i, pLe_i, pGt_i, pGe_i, pIs_n, pIsNot_n, pIsB_b, pNotB_b, isN_n, isN_b, isN_i, isN_s, isN_t, isN_l, pIx_t, pIx_l, pLen_t, pLen_l, pMin2_i, pMax2_i, pAbs_i, pInt_i, pTuple_t, pTuple_l, pList_t, pList_l, pIadd_i, pSl_t, pSl_l, pEqI, pNeI, pEqS, pNeS, at0, at1, at2, at3, at4, at5, at6, at7, bx_ret, bx_exc, bx_fail, bd_ret, bd_exc, bd_fail, exS_ret, exS_exc, exS_fail, ofO_some, ofO_none, fnE, isi_T, isi_B, isi_I, isi_S, isi_L, sizeL, Option.bind_some, Option.map_some, Option.some.injEq, Int.reduceEq, Int.reduceLE, Int.reduceLT, Int.reduceNeg, Int.reduceAdd, Int.reduceSub, Int.reduceMul, decide_true, decide_false, decide_eq_true_eq, decide_not, eq_self, Int.cast_ofNat_Int, reduceCtorEq, List.length_cons, List.length_nil, List.map_cons, List.map_nil, List.replicate, List.cons_append, List.nil_append, List.append_nil, List.getElem?_cons_zero, List.getElem?_cons_succ, List.getElem?_nil, List.set_cons_zero, List.set_cons_succ, Nat.reduceAdd, Nat.reduceSub, Nat.reduceEqDiff, Nat.reduceLeDiff, Nat.reduceLT, Nat.zero_add, Nat.add_zero, true_and, and_true, false_and, and_false, Bool.not_true, Bool.not_false, Bool.true_and, Bool.and_true, Bool.false_and, Bool.and_false, Bool.or_false, Bool.false_or, Bool.or_true, Bool.true_or, Bool.not_eq_true', if_true, if_false, Bool.false_eq_true, Bool.not_eq_true, ↓reduceIte, ite_true, ite_false, Bool.true_eq_false, not_true_eq_false, not_false_eq_true, Nat.zero_le, f0, f1, f2, f3, f4]
theorem mk_6 {kvs : List (Dt × Dt)} : w__law_marks [.dat (errD "TooGreat" kvs)] = .ret (.dat (.list [.bool false, .bool false, .bool false, .bool false, .bool false, .bool false, .bool true, .bool false])) := by
  have f0 : decide (("TooGreat" : Str) = "BadCoder") = false := by decide
  have f1 : decide (("TooGreat" : Str) = "BadRow") = false := by decide
  have f2 : decide (("TooGreat" : Str) = "BadPaper") = false := by decide
  have f3 : decide (("TooGreat" : Str) = "BadByte") = false := by decide
  have f4 : decide (("TooGreat" : Str) = "OutOfPlace") = false := by decide
  have f5 : decide (("TooGreat" : Str) = "NoSeam") = false := by decide
  have f6 : decide (("TooGreat" : Str) = "TooGreat") = true := by decide
  have f7 : decide (("TooGreat" : Str) = "Nothing") = false := by decide
  have e := fun c => ek (x := "TooGreat") (c := c) (kvs := kvs) (by decide)
  rw [wd__law_marks]
  refine body_rt rfl ?_
  unfold t__law_marks
  simp only [pIntB_b, dictW_c, pLtA_i, pSumT, pSumL, xIsE, isEK_at, xXa, xaK_1, xaK_2, capN, capC, ygT3c, opK2, opK, unK, notK, consK2, consK, tupK, lstK, fzK, cbK, retK, ifSK, setK, wcK, wdK, callK, forK, lcK, bodyX, startE, xSeq, sqF, xNext, xIfS, xRet, xSet, ygT_t, ygsC, ygsN, ygN, xVar, xC, xOp, xUn, pNeg_i, xTest, asB_b, xNot, xNil, xCons, xTup, xLst, xFz, xCall, rOfT_d, rOfT_o, rOfT_c, rOwT_o, ywNil, ywDat, ywVar, xCB, asI_i, xLenS, xFor, itT_t, itL_l, ziR1, ziET, ziEL, enT_t, enL_l, xLc, noOwnB, wipeE, pAdd_i, pAdd_t, pAdd_l, pSub_i, pLt_i, pLe_i, pGt_i, pGe_i, pIs_n, pIsNot_n, pIsB_b, pNotB_b, isN_n, isN_b, isN_i, isN_s, isN_t, isN_l, pIx_t, pIx_l, pLen_t, pLen_l, pMin2_i, pMax2_i, pAbs_i, pInt_i, pTuple_t, pTuple_l, pList_t, pList_l, pIadd_i, pSl_t, pSl_l, pEqI, pNeI, pEqS, pNeS, at0, at1, at2, at3, at4, at5, at6, at7, bx_ret, bx_exc, bx_fail, bd_ret, bd_exc, bd_fail, exS_ret, exS_exc, exS_fail, ofO_some, ofO_none, fnE, isi_T, isi_B, isi_I, isi_S, isi_L, sizeL, Option.bind_some, Option.map_some, Option.some.injEq, Int.reduceEq, Int.reduceLE, Int.reduceLT, Int.reduceNeg, Int.reduceAdd, Int.reduceSub, Int.reduceMul, decide_true, decide_false, decide_eq_true_eq, decide_not, eq_self, Int.cast_ofNat_Int, reduceCtorEq, List.length_cons, List.length_nil, List.map_cons, List.map_nil, List.replicate, List.cons_append, List.nil_append, List.append_nil, List.getElem?_cons_zero, List.getElem?_cons_succ, List.getElem?_nil, List.set_cons_zero, List.set_cons_succ, Nat.reduceAdd, Nat.reduceSub, Nat.reduceEqDiff, Nat.reduceLeDiff, Nat.reduceLT, Nat.zero_add, Nat.add_zero, true_and, and_true, false_and, and_false, Bool.not_true, Bool.not_false, Bool.true_and, Bool.and_true, Bool.false_and, Bool.and_false, Bool.or_false, Bool.false_or, Bool.or_true, Bool.true_or, Bool.not_eq_true', if_true, if_false, Bool.false_eq_true, Bool.not_eq_true, ↓reduceIte, ite_true, ite_false, Bool.true_eq_false, not_true_eq_false, not_false_eq_true, Nat.zero_le, e, f0, f1, f2, f3, f4, f5, f6, f7, pAdd_l]
theorem ab_6 {kvs : List (Dt × Dt)} : w__law_above [.dat (errD "TooGreat" kvs)] = .ret (.dat (.list [.bool false, .bool true, .bool false, .bool false, .bool false])) := by
  have f0 : isBK tb_ValueError (errD "TooGreat" kvs) = .ret (.bool false) := rfl
  have f1 : isBK tb_OverflowError (errD "TooGreat" kvs) = .ret (.bool true) := rfl
  have f2 : isBK tb_LookupError (errD "TooGreat" kvs) = .ret (.bool false) := rfl
  have f3 : isBK tb_KeyError (errD "TooGreat" kvs) = .ret (.bool false) := rfl
  have f4 : isBK tb_IndexError (errD "TooGreat" kvs) = .ret (.bool false) := rfl
  rw [wd__law_above]
  refine body_rt rfl ?_
  unfold t__law_above
  simp only [xIsB, pIntB_b, dictW_c, pLtA_i, pSumT, pSumL, xIsE, isEK_at, xXa, xaK_1, xaK_2, capN, capC, ygT3c, opK2, opK, unK, notK, consK2, consK, tupK, lstK, fzK, cbK, retK, ifSK, setK, wcK, wdK, callK, forK, lcK, bodyX, startE, xSeq, sqF, xNext, xIfS, xRet, xSet, ygT_t, ygsC, ygsN, ygN, xVar, xC, xOp, xUn, pNeg_i, xTest, asB_b, xNot, xNil, xCons, xTup, xLst, xFz, xCall, rOfT_d, rOfT_o, rOfT_c, rOwT_o, ywNil, ywDat, ywVar, xCB, asI_i, xLenS, xFor, itT_t, itL_l, ziR1, ziET, ziEL, enT_t, enL_l, xLc, noOwnB, wipeE, pAdd_i, pAdd_t, pAdd_l, pSub_i, pLt_i, pLe_i, pGt_i, pGe_i, pIs_n, pIsNot_n, pIsB_b, pNotB_b, isN_n, isN_b, isN_i, isN_s, isN_t, isN_l, pIx_t, pIx_l, pLen_t, pLen_l, pMin2_i, pMax2_i, pAbs_i, pInt_i, pTuple_t, pTuple_l, pList_t, pList_l, pIadd_i, pSl_t, pSl_l, pEqI, pNeI, pEqS, pNeS, at0, at1, at2, at3, at4, at5, at6, at7, bx_ret, bx_exc, bx_fail, bd_ret, bd_exc, bd_fail, exS_ret, exS_exc, exS_fail, ofO_some, ofO_none, fnE, isi_T, isi_B, isi_I, isi_S, isi_L, sizeL, Option.bind_some, Option.map_some, Option.some.injEq, Int.reduceEq, Int.reduceLE, Int.reduceLT, Int.reduceNeg, Int.reduceAdd, Int.reduceSub, Int.reduceMul, decide_true, decide_false, decide_eq_true_eq, decide_not, eq_self, Int.cast_ofNat_Int, reduceCtorEq, List.length_cons, List.length_nil, List.map_cons, List.map_nil, List.replicate, List.cons_append, List.nil_append, List.append_nil, List.getElem?_cons_zero, List.getElem?_cons_succ, List.getElem?_nil, List.set_cons_zero, List.set_cons_succ, Nat.reduceAdd, Nat.reduceSub, Nat.reduceEqDiff, Nat.reduceLeDiff, Nat.reduceLT, Nat.zero_add, Nat.add_zero, true_and, and_true, false_and, and_false, Bool.not_true, Bool.not_false, Bool.true_and, Bool.and_true, Bool.false_and, Bool.and_false, Bool.or_false, Bool.false_or, Bool.or_true, Bool.true_or, Bool.not_eq_true', if_true, if_false, Bool.false_eq_true, Bool.not_eq_true, ↓reduceIte, ite_true, ite_false, Bool.true_eq_false, not_true_eq_false, not_false_eq_true, Nat.zero_le, f0, f1, f2, f3, f4]
theorem mk_7 {kvs : List (Dt × Dt)} : w__law_marks [.dat (errD "Nothing" kvs)] = .ret (.dat (.list [.bool false, .bool false, .bool false, .bool false, .bool false, .bool false, .bool false, .bool true])) := by
  have f0 : decide (("Nothing" : Str) = "BadCoder") = false := by decide
  have f1 : decide (("Nothing" : Str) = "BadRow") = false := by decide
  have f2 : decide (("Nothing" : Str) = "BadPaper") = false := by decide
  have f3 : decide (("Nothing" : Str) = "BadByte") = false := by decide
  have f4 : decide (("Nothing" : Str) = "OutOfPlace") = false := by decide
  have f5 : decide (("Nothing" : Str) = "NoSeam") = false := by decide
  have f6 : decide (("Nothing" : Str) = "TooGreat") = false := by decide
  have f7 : decide (("Nothing" : Str) = "Nothing") = true := by decide
  have e := fun c => ek (x := "Nothing") (c := c) (kvs := kvs) (by decide)
  rw [wd__law_marks]
  refine body_rt rfl ?_
  unfold t__law_marks
  simp only [pIntB_b, dictW_c, pLtA_i, pSumT, pSumL, xIsE, isEK_at, xXa, xaK_1, xaK_2, capN, capC, ygT3c, opK2, opK, unK, notK, consK2, consK, tupK, lstK, fzK, cbK, retK, ifSK, setK, wcK, wdK, callK, forK, lcK, bodyX, startE, xSeq, sqF, xNext, xIfS, xRet, xSet, ygT_t, ygsC, ygsN, ygN, xVar, xC, xOp, xUn, pNeg_i, xTest, asB_b, xNot, xNil, xCons, xTup, xLst, xFz, xCall, rOfT_d, rOfT_o, rOfT_c, rOwT_o, ywNil, ywDat, ywVar, xCB, asI_i, xLenS, xFor, itT_t, itL_l, ziR1, ziET, ziEL, enT_t, enL_l, xLc, noOwnB, wipeE, pAdd_i, pAdd_t, pAdd_l, pSub_i, pLt_i, pLe_i, pGt_i, pGe_i, pIs_n, pIsNot_n, pIsB_b, pNotB_b, isN_n, isN_b, isN_i, isN_s, isN_t, isN_l, pIx_t, pIx_l, pLen_t, pLen_l, pMin2_i, pMax2_i, pAbs_i, pInt_i, pTuple_t, pTuple_l, pList_t, pList_l, pIadd_i, pSl_t, pSl_l, pEqI, pNeI, pEqS, pNeS, at0, at1, at2, at3, at4, at5, at6, at7, bx_ret, bx_exc, bx_fail, bd_ret, bd_exc, bd_fail, exS_ret, exS_exc, exS_fail, ofO_some, ofO_none, fnE, isi_T, isi_B, isi_I, isi_S, isi_L, sizeL, Option.bind_some, Option.map_some, Option.some.injEq, Int.reduceEq, Int.reduceLE, Int.reduceLT, Int.reduceNeg, Int.reduceAdd, Int.reduceSub, Int.reduceMul, decide_true, decide_false, decide_eq_true_eq, decide_not, eq_self, Int.cast_ofNat_Int, reduceCtorEq, List.length_cons, List.length_nil, List.map_cons, List.map_nil, List.replicate, List.cons_append, List.nil_append, List.append_nil, List.getElem?_cons_zero, List.getElem?_cons_succ, List.getElem?_nil, List.set_cons_zero, List.set_cons_succ, Nat.reduceAdd, Nat.reduceSub, Nat.reduceEqDiff, Nat.reduceLeDiff, Nat.reduceLT, Nat.zero_add, Nat.add_zero, true_and, and_true, false_and, and_false, Bool.not_true, Bool.not_false, Bool.true_and, Bool.and_true, Bool.false_and, Bool.and_false, Bool.or_false, Bool.false_or, Bool.or_true, Bool.true_or, Bool.not_eq_true', if_true, if_false, Bool.false_eq_true, Bool.not_eq_true, ↓reduceIte, ite_true, ite_false, Bool.true_eq_false, not_true_eq_false, not_false_eq_true, Nat.zero_le, e, f0, f1, f2, f3, f4, f5, f6, f7, pAdd_l]
theorem ab_7 {kvs : List (Dt × Dt)} : w__law_above [.dat (errD "Nothing" kvs)] = .ret (.dat (.list [.bool false, .bool false, .bool true, .bool false, .bool false])) := by
  have f0 : isBK tb_ValueError (errD "Nothing" kvs) = .ret (.bool false) := rfl
  have f1 : isBK tb_OverflowError (errD "Nothing" kvs) = .ret (.bool false) := rfl
  have f2 : isBK tb_LookupError (errD "Nothing" kvs) = .ret (.bool true) := rfl
  have f3 : isBK tb_KeyError (errD "Nothing" kvs) = .ret (.bool false) := rfl
  have f4 : isBK tb_IndexError (errD "Nothing" kvs) = .ret (.bool false) := rfl
  rw [wd__law_above]
  refine body_rt rfl ?_
  unfold t__law_above
  simp only [xIsB, pIntB_b, dictW_c, pLtA_i, pSumT, pSumL, xIsE, isEK_at, xXa, xaK_1, xaK_2, capN, capC, ygT3c, opK2, opK, unK, notK, consK2, consK, tupK, lstK, fzK, cbK, retK, ifSK, setK, wcK, wdK, callK, forK, lcK, bodyX, startE, xSeq, sqF, xNext, xIfS, xRet, xSet, ygT_t, ygsC, ygsN, ygN, xVar, xC, xOp, xUn, pNeg_i, xTest, asB_b, xNot, xNil, xCons, xTup, xLst, xFz, xCall, rOfT_d, rOfT_o, rOfT_c, rOwT_o, ywNil, ywDat, ywVar, xCB, asI_i, xLenS, xFor, itT_t, itL_l, ziR1, ziET, ziEL, enT_t, enL_l, xLc, noOwnB, wipeE, pAdd_i, pAdd_t, pAdd_l, pSub_i, pLt_i, pLe_i, pGt_i, pGe_i, pIs_n, pIsNot_n, pIsB_b, pNotB_b, isN_n, isN_b, isN_i, isN_s, isN_t, isN_l, pIx_t, pIx_l, pLen_t, pLen_l, pMin2_i, pMax2_i, pAbs_i, pInt_i, pTuple_t, pTuple_l, pList_t, pList_l, pIadd_i, pSl_t, pSl_l, pEqI, pNeI, pEqS, pNeS, at0, at1, at2, at3, at4, at5, at6, at7, bx_ret, bx_exc, bx_fail, bd_ret, bd_exc, bd_fail, exS_ret, exS_exc, exS_fail, ofO_some, ofO_none, fnE, isi_T, isi_B, isi_I, isi_S, isi_L, sizeL, Option.bind_some, Option.map_some, Option.some.injEq, Int.reduceEq, Int.reduceLE, Int.reduceLT, Int.reduceNeg, Int.reduceAdd, Int.reduceSub, Int.reduceMul, decide_true, decide_false, decide_eq_true_eq, decide_not, eq_self, Int.cast_ofNat_Int, reduceCtorEq, List.length_cons, List.length_nil, List.map_cons, List.map_nil, List.replicate, List.cons_append, List.nil_append, List.append_nil, List.getElem?_cons_zero, List.getElem?_cons_succ, List.getElem?_nil, List.set_cons_zero, List.set_cons_succ, Nat.reduceAdd, Nat.reduceSub, Nat.reduceEqDiff, Nat.reduceLeDiff, Nat.reduceLT, Nat.zero_add, Nat.add_zero, true_and, and_true, false_and, and_false, Bool.not_true, Bool.not_false, Bool.true_and, Bool.and_true, Bool.false_and, Bool.and_false, Bool.or_false, Bool.false_or, Bool.or_true, Bool.true_or, Bool.not_eq_true', if_true, if_false, Bool.false_eq_true, Bool.not_eq_true, ↓reduceIte, ite_true, ite_false, Bool.true_eq_false, not_true_eq_false, not_false_eq_true, Nat.zero_le, f0, f1, f2, f3, f4]

end LW


set_option maxRecDepth 100000
set_option maxHeartbeats 1000000
namespace LW
open PySem PySem.Spec PyProof.Rows L2 VL
def fldD (x y : Dt) : List Dt := [x, y, x, y, x, y]
theorem xa_at {c f : Str} {kvs : List (Dt × Dt)} {d : Dt} (h : ((kvs.find? fun p => match p.1 with | .str g => decide (g = f) | _ => false).map (·.2)) = some d) : xaK kf c f (errD c kvs) = .ret d := by
  have e : xaK kf c f (errD c kvs) = if c = c then ofO ((kvs.find? fun p => match p.1 with | .str g => decide (g = f) | _ => false).map (·.2)) else .fail := rfl
  rw [e, if_pos rfl, h]
  rfl
theorem lc8 {w0 w1 w2 w3 w4 w5 w6 w7 w8 : Option VL.W} (b0 b1 b2 b3 b4 b5 b6 b7 : Bool) : lcT (ygT 2 (ygsC (ygN 7) (ygsC (ygN 8) ygsN))) c__law_right_0 e__law_right_1 [w0, w1, w2, w3, w4, w5, w6, w7, w8] (enumD [.bool b0, .bool b1, .bool b2, .bool b3, .bool b4, .bool b5, .bool b6, .bool b7]) [] =
    .ret (([((0 : Int), b0), (1, b1), (2, b2), (3, b3), (4, b4), (5, b5), (6, b6), (7, b7)].filter (·.2)).map fun p => .int p.1) := by
  refine (lc_filter (fun p : Int × Bool => PyData.tuple [.int p.1, .bool p.2]) (·.2) (fun p => .int p.1) [((0 : Int), b0), (1, b1), (2, b2), (3, b3), (4, b4), (5, b5), (6, b6), (7, b7)] [] (by rw [sizeL]; simp only [List.length_cons, List.length_nil]; omega) (fun d hd => ?_) fun d hd hc => ?_).trans (by rw [List.nil_append])
  · unfold c__law_right_0
    simp only [pIntB_b, dictW_c, pLtA_i, pSumT, pSumL, xIsE, isEK_at, xXa, xaK_1, xaK_2, capN, capC, ygT3c, opK2, opK, unK, notK, consK2, consK, tupK, lstK, fzK, cbK, retK, ifSK, setK, wcK, wdK, callK, forK, lcK, bodyX, startE, xSeq, sqF, xNext, xIfS, xRet, xSet, ygT_t, ygsC, ygsN, ygN, xVar, xC, xOp, xUn, pNeg_i, xTest, asB_b, xNot, xNil, xCons, xTup, xLst, xFz, xCall, rOfT_d, rOfT_o, rOfT_c, rOwT_o, ywNil, ywDat, ywVar, xCB, asI_i, xLenS, xFor, itT_t, itL_l, ziR1, ziET, ziEL, enT_t, enL_l, xLc, noOwnB, wipeE, pAdd_i, pAdd_t, pAdd_l, pSub_i, pLt_i, pLe_i, pGt_i, pGe_i, pIs_n, pIsNot_n, pIsB_b, pNotB_b, isN_n, isN_b, isN_i, isN_s, isN_t, isN_l, pIx_t, pIx_l, pLen_t, pLen_l, pMin2_i, pMax2_i, pAbs_i, pInt_i, pTuple_t, pTuple_l, pList_t, pList_l, pIadd_i, pSl_t, pSl_l, pEqI, pNeI, pEqS, pNeS, at0, at1, at2, at3, at4, at5, at6, at7, bx_ret, bx_exc, bx_fail, bd_ret, bd_exc, bd_fail, exS_ret, exS_exc, exS_fail, ofO_some, ofO_none, fnE, isi_T, isi_B, isi_I, isi_S, isi_L, sizeL, Option.bind_some, Option.map_some, Option.some.injEq, Int.reduceEq, Int.reduceLE, Int.reduceLT, Int.reduceNeg, Int.reduceAdd, Int.reduceSub, Int.reduceMul, decide_true, decide_false, decide_eq_true_eq, decide_not, eq_self, Int.cast_ofNat_Int, reduceCtorEq, List.length_cons, List.length_nil, List.map_cons, List.map_nil, List.replicate, List.cons_append, List.nil_append, List.append_nil, List.getElem?_cons_zero, List.getElem?_cons_succ, List.getElem?_nil, List.set_cons_zero, List.set_cons_succ, Nat.reduceAdd, Nat.reduceSub, Nat.reduceEqDiff, Nat.reduceLeDiff, Nat.reduceLT, Nat.zero_add, Nat.add_zero, true_and, and_true, false_and, and_false, Bool.not_true, Bool.not_false, Bool.true_and, Bool.and_true, Bool.false_and, Bool.and_false, Bool.or_false, Bool.false_or, Bool.or_true, Bool.true_or, Bool.not_eq_true', if_true, if_false, Bool.false_eq_true, Bool.not_eq_true, ↓reduceIte, ite_true, ite_false, Bool.true_eq_false, not_true_eq_false, not_false_eq_true, Nat.zero_le]
  · unfold e__law_right_1
    simp only [pIntB_b, dictW_c, pLtA_i, pSumT, pSumL, xIsE, isEK_at, xXa, xaK_1, xaK_2, capN, capC, ygT3c, opK2, opK, unK, notK, consK2, consK, tupK, lstK, fzK, cbK, retK, ifSK, setK, wcK, wdK, callK, forK, lcK, bodyX, startE, xSeq, sqF, xNext, xIfS, xRet, xSet, ygT_t, ygsC, ygsN, ygN, xVar, xC, xOp, xUn, pNeg_i, xTest, asB_b, xNot, xNil, xCons, xTup, xLst, xFz, xCall, rOfT_d, rOfT_o, rOfT_c, rOwT_o, ywNil, ywDat, ywVar, xCB, asI_i, xLenS, xFor, itT_t, itL_l, ziR1, ziET, ziEL, enT_t, enL_l, xLc, noOwnB, wipeE, pAdd_i, pAdd_t, pAdd_l, pSub_i, pLt_i, pLe_i, pGt_i, pGe_i, pIs_n, pIsNot_n, pIsB_b, pNotB_b, isN_n, isN_b, isN_i, isN_s, isN_t, isN_l, pIx_t, pIx_l, pLen_t, pLen_l, pMin2_i, pMax2_i, pAbs_i, pInt_i, pTuple_t, pTuple_l, pList_t, pList_l, pIadd_i, pSl_t, pSl_l, pEqI, pNeI, pEqS, pNeS, at0, at1, at2, at3, at4, at5, at6, at7, bx_ret, bx_exc, bx_fail, bd_ret, bd_exc, bd_fail, exS_ret, exS_exc, exS_fail, ofO_some, ofO_none, fnE, isi_T, isi_B, isi_I, isi_S, isi_L, sizeL, Option.bind_some, Option.map_some, Option.some.injEq, Int.reduceEq, Int.reduceLE, Int.reduceLT, Int.reduceNeg, Int.reduceAdd, Int.reduceSub, Int.reduceMul, decide_true, decide_false, decide_eq_true_eq, decide_not, eq_self, Int.cast_ofNat_Int, reduceCtorEq, List.length_cons, List.length_nil, List.map_cons, List.map_nil, List.replicate, List.cons_append, List.nil_append, List.append_nil, List.getElem?_cons_zero, List.getElem?_cons_succ, List.getElem?_nil, List.set_cons_zero, List.set_cons_succ, Nat.reduceAdd, Nat.reduceSub, Nat.reduceEqDiff, Nat.reduceLeDiff, Nat.reduceLT, Nat.zero_add, Nat.add_zero, true_and, and_true, false_and, and_false, Bool.not_true, Bool.not_false, Bool.true_and, Bool.and_true, Bool.false_and, Bool.and_false, Bool.or_false, Bool.false_or, Bool.or_true, Bool.true_or, Bool.not_eq_true', if_true, if_false, Bool.false_eq_true, Bool.not_eq_true, ↓reduceIte, ite_true, ite_false, Bool.true_eq_false, not_true_eq_false, not_false_eq_true, Nat.zero_le]
theorem ne1 (i : Int) : pNe (.list [.int i]) (.list [.int i]) = some (.bool false) := pNe_self (dp := 1) (.lst (.cons (.int _) .nil)) (by decide) (by simp [plainD, plainA])
theorem ne5 (a b c d e : Bool) : pNe (.list [.bool a, .bool b, .bool c, .bool d, .bool e]) (.list [.bool a, .bool b, .bool c, .bool d, .bool e]) = some (.bool false) := by
  have s : Shp 1 (.list [.bool a, .bool b, .bool c, .bool d, .bool e]) := .lst (.cons (.bool _) (.cons (.bool _) (.cons (.bool _) (.cons (.bool _) (.cons (.bool _) .nil)))))
  rw [pNe_of s s (by decide)]
  cases a <;> cases b <;> cases c <;> cases d <;> cases e <;> rfl
theorem r_loop {way x y : Dt} (z5 z6 : Option VL.W) : ∃ w5 w6, forT (ygT 2 (ygsC (ygN 5) (ygsC (ygN 6) ygsN))) b__law_right_2 (enumD (madeD x y)) [some (.dat (way)), some (.dat (x)), some (.dat (y)), some (.dat (.list (madeD x y))), some (.dat (.list (fldD x y))), (z5), (z6), none, none] = .ret (.nx [some (.dat (way)), some (.dat (x)), some (.dat (y)), some (.dat (.list (madeD x y))), some (.dat (.list (fldD x y))), (w5), (w6), none, none]) := by
  refine ⟨_, _, for_fold (σ := Option VL.W × Option VL.W) (δ := Int × Dt) (fun s => [some (.dat (way)), some (.dat (x)), some (.dat (y)), some (.dat (.list (madeD x y))), some (.dat (.list (fldD x y))), (s.1), (s.2), none, none]) (fun p => .tuple [.int p.1, p.2]) (fun s p => (some (.dat (.int p.1)), some (.dat p.2))) (fun _ => True)
    [((0 : Int), errD "BadCoder" [(.str "part", x), (.str "number", y)]), (1, errD "BadRow" [(.str "row", x), (.str "word", y)]), (2, errD "BadPaper" [(.str "part", x), (.str "number", y)]), (3, errD "BadByte" [(.str "number", x)]), (4, errD "OutOfPlace" [(.str "text", .str "a")]), (5, errD "NoSeam" [(.str "text", .str "b")]), (6, errD "TooGreat" [(.str "most", x)]), (7, errD "Nothing" [(.str "text", .str "c")])] (z5, z6) trivial ?_⟩
  intro s d hd _
  refine ⟨trivial, ?_⟩
  simp only [List.mem_cons, List.not_mem_nil, or_false] at hd
  unfold turnT b__law_right_2
  rcases hd with rfl|rfl|rfl|rfl|rfl|rfl|rfl|rfl
  · simp only [mk_0, ab_0, pIntB_b, dictW_c, pLtA_i, pSumT, pSumL, xIsE, isEK_at, xXa, xaK_1, xaK_2, capN, capC, ygT3c, opK2, opK, unK, notK, consK2, consK, tupK, lstK, fzK, cbK, retK, ifSK, setK, wcK, wdK, callK, forK, lcK, bodyX, startE, xSeq, sqF, xNext, xIfS, xRet, xSet, ygT_t, ygsC, ygsN, ygN, xVar, xC, xOp, xUn, pNeg_i, xTest, asB_b, xNot, xNil, xCons, xTup, xLst, xFz, xCall, rOfT_d, rOfT_o, rOfT_c, rOwT_o, ywNil, ywDat, ywVar, xCB, asI_i, xLenS, xFor, itT_t, itL_l, ziR1, ziET, ziEL, enT_t, enL_l, xLc, noOwnB, wipeE, pAdd_i, pAdd_t, pAdd_l, pSub_i, pLt_i, pLe_i, pGt_i, pGe_i, pIs_n, pIsNot_n, pIsB_b, pNotB_b, isN_n, isN_b, isN_i, isN_s, isN_t, isN_l, pIx_t, pIx_l, pLen_t, pLen_l, pMin2_i, pMax2_i, pAbs_i, pInt_i, pTuple_t, pTuple_l, pList_t, pList_l, pIadd_i, pSl_t, pSl_l, pEqI, pNeI, pEqS, pNeS, at0, at1, at2, at3, at4, at5, at6, at7, bx_ret, bx_exc, bx_fail, bd_ret, bd_exc, bd_fail, exS_ret, exS_exc, exS_fail, ofO_some, ofO_none, fnE, isi_T, isi_B, isi_I, isi_S, isi_L, sizeL, Option.bind_some, Option.map_some, Option.some.injEq, Int.reduceEq, Int.reduceLE, Int.reduceLT, Int.reduceNeg, Int.reduceAdd, Int.reduceSub, Int.reduceMul, decide_true, decide_false, decide_eq_true_eq, decide_not, eq_self, Int.cast_ofNat_Int, reduceCtorEq, List.length_cons, List.length_nil, List.map_cons, List.map_nil, List.replicate, List.cons_append, List.nil_append, List.append_nil, List.getElem?_cons_zero, List.getElem?_cons_succ, List.getElem?_nil, List.set_cons_zero, List.set_cons_succ, Nat.reduceAdd, Nat.reduceSub, Nat.reduceEqDiff, Nat.reduceLeDiff, Nat.reduceLT, Nat.zero_add, Nat.add_zero, true_and, and_true, false_and, and_false, Bool.not_true, Bool.not_false, Bool.true_and, Bool.and_true, Bool.false_and, Bool.and_false, Bool.or_false, Bool.false_or, Bool.or_true, Bool.true_or, Bool.not_eq_true', if_true, if_false, Bool.false_eq_true, Bool.not_eq_true, ↓reduceIte, ite_true, ite_false, Bool.true_eq_false, not_true_eq_false, not_false_eq_true, Nat.zero_le, lc8, List.filter_cons, List.filter_nil, ne1, ne5, pLtA_i, pEqI]
    rfl
  · simp only [mk_1, ab_1, pIntB_b, dictW_c, pLtA_i, pSumT, pSumL, xIsE, isEK_at, xXa, xaK_1, xaK_2, capN, capC, ygT3c, opK2, opK, unK, notK, consK2, consK, tupK, lstK, fzK, cbK, retK, ifSK, setK, wcK, wdK, callK, forK, lcK, bodyX, startE, xSeq, sqF, xNext, xIfS, xRet, xSet, ygT_t, ygsC, ygsN, ygN, xVar, xC, xOp, xUn, pNeg_i, xTest, asB_b, xNot, xNil, xCons, xTup, xLst, xFz, xCall, rOfT_d, rOfT_o, rOfT_c, rOwT_o, ywNil, ywDat, ywVar, xCB, asI_i, xLenS, xFor, itT_t, itL_l, ziR1, ziET, ziEL, enT_t, enL_l, xLc, noOwnB, wipeE, pAdd_i, pAdd_t, pAdd_l, pSub_i, pLt_i, pLe_i, pGt_i, pGe_i, pIs_n, pIsNot_n, pIsB_b, pNotB_b, isN_n, isN_b, isN_i, isN_s, isN_t, isN_l, pIx_t, pIx_l, pLen_t, pLen_l, pMin2_i, pMax2_i, pAbs_i, pInt_i, pTuple_t, pTuple_l, pList_t, pList_l, pIadd_i, pSl_t, pSl_l, pEqI, pNeI, pEqS, pNeS, at0, at1, at2, at3, at4, at5, at6, at7, bx_ret, bx_exc, bx_fail, bd_ret, bd_exc, bd_fail, exS_ret, exS_exc, exS_fail, ofO_some, ofO_none, fnE, isi_T, isi_B, isi_I, isi_S, isi_L, sizeL, Option.bind_some, Option.map_some, Option.some.injEq, Int.reduceEq, Int.reduceLE, Int.reduceLT, Int.reduceNeg, Int.reduceAdd, Int.reduceSub, Int.reduceMul, decide_true, decide_false, decide_eq_true_eq, decide_not, eq_self, Int.cast_ofNat_Int, reduceCtorEq, List.length_cons, List.length_nil, List.map_cons, List.map_nil, List.replicate, List.cons_append, List.nil_append, List.append_nil, List.getElem?_cons_zero, List.getElem?_cons_succ, List.getElem?_nil, List.set_cons_zero, List.set_cons_succ, Nat.reduceAdd, Nat.reduceSub, Nat.reduceEqDiff, Nat.reduceLeDiff, Nat.reduceLT, Nat.zero_add, Nat.add_zero, true_and, and_true, false_and, and_false, Bool.not_true, Bool.not_false, Bool.true_and, Bool.and_true, Bool.false_and, Bool.and_false, Bool.or_false, Bool.false_or, Bool.or_true, Bool.true_or, Bool.not_eq_true', if_true, if_false, Bool.false_eq_true, Bool.not_eq_true, ↓reduceIte, ite_true, ite_false, Bool.true_eq_false, not_true_eq_false, not_false_eq_true, Nat.zero_le, lc8, List.filter_cons, List.filter_nil, ne1, ne5, pLtA_i, pEqI]
    rfl
  · simp only [mk_2, ab_2, pIntB_b, dictW_c, pLtA_i, pSumT, pSumL, xIsE, isEK_at, xXa, xaK_1, xaK_2, capN, capC, ygT3c, opK2, opK, unK, notK, consK2, consK, tupK, lstK, fzK, cbK, retK, ifSK, setK, wcK, wdK, callK, forK, lcK, bodyX, startE, xSeq, sqF, xNext, xIfS, xRet, xSet, ygT_t, ygsC, ygsN, ygN, xVar, xC, xOp, xUn, pNeg_i, xTest, asB_b, xNot, xNil, xCons, xTup, xLst, xFz, xCall, rOfT_d, rOfT_o, rOfT_c, rOwT_o, ywNil, ywDat, ywVar, xCB, asI_i, xLenS, xFor, itT_t, itL_l, ziR1, ziET, ziEL, enT_t, enL_l, xLc, noOwnB, wipeE, pAdd_i, pAdd_t, pAdd_l, pSub_i, pLt_i, pLe_i, pGt_i, pGe_i, pIs_n, pIsNot_n, pIsB_b, pNotB_b, isN_n, isN_b, isN_i, isN_s, isN_t, isN_l, pIx_t, pIx_l, pLen_t, pLen_l, pMin2_i, pMax2_i, pAbs_i, pInt_i, pTuple_t, pTuple_l, pList_t, pList_l, pIadd_i, pSl_t, pSl_l, pEqI, pNeI, pEqS, pNeS, at0, at1, at2, at3, at4, at5, at6, at7, bx_ret, bx_exc, bx_fail, bd_ret, bd_exc, bd_fail, exS_ret, exS_exc, exS_fail, ofO_some, ofO_none, fnE, isi_T, isi_B, isi_I, isi_S, isi_L, sizeL, Option.bind_some, Option.map_some, Option.some.injEq, Int.reduceEq, Int.reduceLE, Int.reduceLT, Int.reduceNeg, Int.reduceAdd, Int.reduceSub, Int.reduceMul, decide_true, decide_false, decide_eq_true_eq, decide_not, eq_self, Int.cast_ofNat_Int, reduceCtorEq, List.length_cons, List.length_nil, List.map_cons, List.map_nil, List.replicate, List.cons_append, List.nil_append, List.append_nil, List.getElem?_cons_zero, List.getElem?_cons_succ, List.getElem?_nil, List.set_cons_zero, List.set_cons_succ, Nat.reduceAdd, Nat.reduceSub, Nat.reduceEqDiff, Nat.reduceLeDiff, Nat.reduceLT, Nat.zero_add, Nat.add_zero, true_and, and_true, false_and, and_false, Bool.not_true, Bool.not_false, Bool.true_and, Bool.and_true, Bool.false_and, Bool.and_false, Bool.or_false, Bool.false_or, Bool.or_true, Bool.true_or, Bool.not_eq_true', if_true, if_false, Bool.false_eq_true, Bool.not_eq_true, ↓reduceIte, ite_true, ite_false, Bool.true_eq_false, not_true_eq_false, not_false_eq_true, Nat.zero_le, lc8, List.filter_cons, List.filter_nil, ne1, ne5, pLtA_i, pEqI]
    rfl
  · simp only [mk_3, ab_3, pIntB_b, dictW_c, pLtA_i, pSumT, pSumL, xIsE, isEK_at, xXa, xaK_1, xaK_2, capN, capC, ygT3c, opK2, opK, unK, notK, consK2, consK, tupK, lstK, fzK, cbK, retK, ifSK, setK, wcK, wdK, callK, forK, lcK, bodyX, startE, xSeq, sqF, xNext, xIfS, xRet, xSet, ygT_t, ygsC, ygsN, ygN, xVar, xC, xOp, xUn, pNeg_i, xTest, asB_b, xNot, xNil, xCons, xTup, xLst, xFz, xCall, rOfT_d, rOfT_o, rOfT_c, rOwT_o, ywNil, ywDat, ywVar, xCB, asI_i, xLenS, xFor, itT_t, itL_l, ziR1, ziET, ziEL, enT_t, enL_l, xLc, noOwnB, wipeE, pAdd_i, pAdd_t, pAdd_l, pSub_i, pLt_i, pLe_i, pGt_i, pGe_i, pIs_n, pIsNot_n, pIsB_b, pNotB_b, isN_n, isN_b, isN_i, isN_s, isN_t, isN_l, pIx_t, pIx_l, pLen_t, pLen_l, pMin2_i, pMax2_i, pAbs_i, pInt_i, pTuple_t, pTuple_l, pList_t, pList_l, pIadd_i, pSl_t, pSl_l, pEqI, pNeI, pEqS, pNeS, at0, at1, at2, at3, at4, at5, at6, at7, bx_ret, bx_exc, bx_fail, bd_ret, bd_exc, bd_fail, exS_ret, exS_exc, exS_fail, ofO_some, ofO_none, fnE, isi_T, isi_B, isi_I, isi_S, isi_L, sizeL, Option.bind_some, Option.map_some, Option.some.injEq, Int.reduceEq, Int.reduceLE, Int.reduceLT, Int.reduceNeg, Int.reduceAdd, Int.reduceSub, Int.reduceMul, decide_true, decide_false, decide_eq_true_eq, decide_not, eq_self, Int.cast_ofNat_Int, reduceCtorEq, List.length_cons, List.length_nil, List.map_cons, List.map_nil, List.replicate, List.cons_append, List.nil_append, List.append_nil, List.getElem?_cons_zero, List.getElem?_cons_succ, List.getElem?_nil, List.set_cons_zero, List.set_cons_succ, Nat.reduceAdd, Nat.reduceSub, Nat.reduceEqDiff, Nat.reduceLeDiff, Nat.reduceLT, Nat.zero_add, Nat.add_zero, true_and, and_true, false_and, and_false, Bool.not_true, Bool.not_false, Bool.true_and, Bool.and_true, Bool.false_and, Bool.and_false, Bool.or_false, Bool.false_or, Bool.or_true, Bool.true_or, Bool.not_eq_true', if_true, if_false, Bool.false_eq_true, Bool.not_eq_true, ↓reduceIte, ite_true, ite_false, Bool.true_eq_false, not_true_eq_false, not_false_eq_true, Nat.zero_le, lc8, List.filter_cons, List.filter_nil, ne1, ne5, pLtA_i, pEqI]
    rfl
  · simp only [mk_4, ab_4, pIntB_b, dictW_c, pLtA_i, pSumT, pSumL, xIsE, isEK_at, xXa, xaK_1, xaK_2, capN, capC, ygT3c, opK2, opK, unK, notK, consK2, consK, tupK, lstK, fzK, cbK, retK, ifSK, setK, wcK, wdK, callK, forK, lcK, bodyX, startE, xSeq, sqF, xNext, xIfS, xRet, xSet, ygT_t, ygsC, ygsN, ygN, xVar, xC, xOp, xUn, pNeg_i, xTest, asB_b, xNot, xNil, xCons, xTup, xLst, xFz, xCall, rOfT_d, rOfT_o, rOfT_c, rOwT_o, ywNil, ywDat, ywVar, xCB, asI_i, xLenS, xFor, itT_t, itL_l, ziR1, ziET, ziEL, enT_t, enL_l, xLc, noOwnB, wipeE, pAdd_i, pAdd_t, pAdd_l, pSub_i, pLt_i, pLe_i, pGt_i, pGe_i, pIs_n, pIsNot_n, pIsB_b, pNotB_b, isN_n, isN_b, isN_i, isN_s, isN_t, isN_l, pIx_t, pIx_l, pLen_t, pLen_l, pMin2_i, pMax2_i, pAbs_i, pInt_i, pTuple_t, pTuple_l, pList_t, pList_l, pIadd_i, pSl_t, pSl_l, pEqI, pNeI, pEqS, pNeS, at0, at1, at2, at3, at4, at5, at6, at7, bx_ret, bx_exc, bx_fail, bd_ret, bd_exc, bd_fail, exS_ret, exS_exc, exS_fail, ofO_some, ofO_none, fnE, isi_T, isi_B, isi_I, isi_S, isi_L, sizeL, Option.bind_some, Option.map_some, Option.some.injEq, Int.reduceEq, Int.reduceLE, Int.reduceLT, Int.reduceNeg, Int.reduceAdd, Int.reduceSub, Int.reduceMul, decide_true, decide_false, decide_eq_true_eq, decide_not, eq_self, Int.cast_ofNat_Int, reduceCtorEq, List.length_cons, List.length_nil, List.map_cons, List.map_nil, List.replicate, List.cons_append, List.nil_append, List.append_nil, List.getElem?_cons_zero, List.getElem?_cons_succ, List.getElem?_nil, List.set_cons_zero, List.set_cons_succ, Nat.reduceAdd, Nat.reduceSub, Nat.reduceEqDiff, Nat.reduceLeDiff, Nat.reduceLT, Nat.zero_add, Nat.add_zero, true_and, and_true, false_and, and_false, Bool.not_true, Bool.not_false, Bool.true_and, Bool.and_true, Bool.false_and, Bool.and_false, Bool.or_false, Bool.false_or, Bool.or_true, Bool.true_or, Bool.not_eq_true', if_true, if_false, Bool.false_eq_true, Bool.not_eq_true, ↓reduceIte, ite_true, ite_false, Bool.true_eq_false, not_true_eq_false, not_false_eq_true, Nat.zero_le, lc8, List.filter_cons, List.filter_nil, ne1, ne5, pLtA_i, pEqI]
    rfl
  · simp only [mk_5, ab_5, pIntB_b, dictW_c, pLtA_i, pSumT, pSumL, xIsE, isEK_at, xXa, xaK_1, xaK_2, capN, capC, ygT3c, opK2, opK, unK, notK, consK2, consK, tupK, lstK, fzK, cbK, retK, ifSK, setK, wcK, wdK, callK, forK, lcK, bodyX, startE, xSeq, sqF, xNext, xIfS, xRet, xSet, ygT_t, ygsC, ygsN, ygN, xVar, xC, xOp, xUn, pNeg_i, xTest, asB_b, xNot, xNil, xCons, xTup, xLst, xFz, xCall, rOfT_d, rOfT_o, rOfT_c, rOwT_o, ywNil, ywDat, ywVar, xCB, asI_i, xLenS, xFor, itT_t, itL_l, ziR1, ziET, ziEL, enT_t, enL_l, xLc, noOwnB, wipeE, pAdd_i, pAdd_t, pAdd_l, pSub_i, pLt_i, pLe_i, pGt_i, pGe_i, pIs_n, pIsNot_n, pIsB_b, pNotB_b, isN_n, isN_b, isN_i, isN_s, isN_t, isN_l, pIx_t, pIx_l, pLen_t, pLen_l, pMin2_i, pMax2_i, pAbs_i, pInt_i, pTuple_t, pTuple_l, pList_t, pList_l, pIadd_i, pSl_t, pSl_l, pEqI, pNeI, pEqS, pNeS, at0, at1, at2, at3, at4, at5, at6, at7, bx_ret, bx_exc, bx_fail, bd_ret, bd_exc, bd_fail, exS_ret, exS_exc, exS_fail, ofO_some, ofO_none, fnE, isi_T, isi_B, isi_I, isi_S, isi_L, sizeL, Option.bind_some, Option.map_some, Option.some.injEq, Int.reduceEq, Int.reduceLE, Int.reduceLT, Int.reduceNeg, Int.reduceAdd, Int.reduceSub, Int.reduceMul, decide_true, decide_false, decide_eq_true_eq, decide_not, eq_self, Int.cast_ofNat_Int, reduceCtorEq, List.length_cons, List.length_nil, List.map_cons, List.map_nil, List.replicate, List.cons_append, List.nil_append, List.append_nil, List.getElem?_cons_zero, List.getElem?_cons_succ, List.getElem?_nil, List.set_cons_zero, List.set_cons_succ, Nat.reduceAdd, Nat.reduceSub, Nat.reduceEqDiff, Nat.reduceLeDiff, Nat.reduceLT, Nat.zero_add, Nat.add_zero, true_and, and_true, false_and, and_false, Bool.not_true, Bool.not_false, Bool.true_and, Bool.and_true, Bool.false_and, Bool.and_false, Bool.or_false, Bool.false_or, Bool.or_true, Bool.true_or, Bool.not_eq_true', if_true, if_false, Bool.false_eq_true, Bool.not_eq_true, ↓reduceIte, ite_true, ite_false, Bool.true_eq_false, not_true_eq_false, not_false_eq_true, Nat.zero_le, lc8, List.filter_cons, List.filter_nil, ne1, ne5, pLtA_i, pEqI]
    rfl
  · simp only [mk_6, ab_6, pIntB_b, dictW_c, pLtA_i, pSumT, pSumL, xIsE, isEK_at, xXa, xaK_1, xaK_2, capN, capC, ygT3c, opK2, opK, unK, notK, consK2, consK, tupK, lstK, fzK, cbK, retK, ifSK, setK, wcK, wdK, callK, forK, lcK, bodyX, startE, xSeq, sqF, xNext, xIfS, xRet, xSet, ygT_t, ygsC, ygsN, ygN, xVar, xC, xOp, xUn, pNeg_i, xTest, asB_b, xNot, xNil, xCons, xTup, xLst, xFz, xCall, rOfT_d, rOfT_o, rOfT_c, rOwT_o, ywNil, ywDat, ywVar, xCB, asI_i, xLenS, xFor, itT_t, itL_l, ziR1, ziET, ziEL, enT_t, enL_l, xLc, noOwnB, wipeE, pAdd_i, pAdd_t, pAdd_l, pSub_i, pLt_i, pLe_i, pGt_i, pGe_i, pIs_n, pIsNot_n, pIsB_b, pNotB_b, isN_n, isN_b, isN_i, isN_s, isN_t, isN_l, pIx_t, pIx_l, pLen_t, pLen_l, pMin2_i, pMax2_i, pAbs_i, pInt_i, pTuple_t, pTuple_l, pList_t, pList_l, pIadd_i, pSl_t, pSl_l, pEqI, pNeI, pEqS, pNeS, at0, at1, at2, at3, at4, at5, at6, at7, bx_ret, bx_exc, bx_fail, bd_ret, bd_exc, bd_fail, exS_ret, exS_exc, exS_fail, ofO_some, ofO_none, fnE, isi_T, isi_B, isi_I, isi_S, isi_L, sizeL, Option.bind_some, Option.map_some, Option.some.injEq, Int.reduceEq, Int.reduceLE, Int.reduceLT, Int.reduceNeg, Int.reduceAdd, Int.reduceSub, Int.reduceMul, decide_true, decide_false, decide_eq_true_eq, decide_not, eq_self, Int.cast_ofNat_Int, reduceCtorEq, List.length_cons, List.length_nil, List.map_cons, List.map_nil, List.replicate, List.cons_append, List.nil_append, List.append_nil, List.getElem?_cons_zero, List.getElem?_cons_succ, List.getElem?_nil, List.set_cons_zero, List.set_cons_succ, Nat.reduceAdd, Nat.reduceSub, Nat.reduceEqDiff, Nat.reduceLeDiff, Nat.reduceLT, Nat.zero_add, Nat.add_zero, true_and, and_true, false_and, and_false, Bool.not_true, Bool.not_false, Bool.true_and, Bool.and_true, Bool.false_and, Bool.and_false, Bool.or_false, Bool.false_or, Bool.or_true, Bool.true_or, Bool.not_eq_true', if_true, if_false, Bool.false_eq_true, Bool.not_eq_true, ↓reduceIte, ite_true, ite_false, Bool.true_eq_false, not_true_eq_false, not_false_eq_true, Nat.zero_le, lc8, List.filter_cons, List.filter_nil, ne1, ne5, pLtA_i, pEqI]
    rfl
  · simp only [mk_7, ab_7, pIntB_b, dictW_c, pLtA_i, pSumT, pSumL, xIsE, isEK_at, xXa, xaK_1, xaK_2, capN, capC, ygT3c, opK2, opK, unK, notK, consK2, consK, tupK, lstK, fzK, cbK, retK, ifSK, setK, wcK, wdK, callK, forK, lcK, bodyX, startE, xSeq, sqF, xNext, xIfS, xRet, xSet, ygT_t, ygsC, ygsN, ygN, xVar, xC, xOp, xUn, pNeg_i, xTest, asB_b, xNot, xNil, xCons, xTup, xLst, xFz, xCall, rOfT_d, rOfT_o, rOfT_c, rOwT_o, ywNil, ywDat, ywVar, xCB, asI_i, xLenS, xFor, itT_t, itL_l, ziR1, ziET, ziEL, enT_t, enL_l, xLc, noOwnB, wipeE, pAdd_i, pAdd_t, pAdd_l, pSub_i, pLt_i, pLe_i, pGt_i, pGe_i, pIs_n, pIsNot_n, pIsB_b, pNotB_b, isN_n, isN_b, isN_i, isN_s, isN_t, isN_l, pIx_t, pIx_l, pLen_t, pLen_l, pMin2_i, pMax2_i, pAbs_i, pInt_i, pTuple_t, pTuple_l, pList_t, pList_l, pIadd_i, pSl_t, pSl_l, pEqI, pNeI, pEqS, pNeS, at0, at1, at2, at3, at4, at5, at6, at7, bx_ret, bx_exc, bx_fail, bd_ret, bd_exc, bd_fail, exS_ret, exS_exc, exS_fail, ofO_some, ofO_none, fnE, isi_T, isi_B, isi_I, isi_S, isi_L, sizeL, Option.bind_some, Option.map_some, Option.some.injEq, Int.reduceEq, Int.reduceLE, Int.reduceLT, Int.reduceNeg, Int.reduceAdd, Int.reduceSub, Int.reduceMul, decide_true, decide_false, decide_eq_true_eq, decide_not, eq_self, Int.cast_ofNat_Int, reduceCtorEq, List.length_cons, List.length_nil, List.map_cons, List.map_nil, List.replicate, List.cons_append, List.nil_append, List.append_nil, List.getElem?_cons_zero, List.getElem?_cons_succ, List.getElem?_nil, List.set_cons_zero, List.set_cons_succ, Nat.reduceAdd, Nat.reduceSub, Nat.reduceEqDiff, Nat.reduceLeDiff, Nat.reduceLT, Nat.zero_add, Nat.add_zero, true_and, and_true, false_and, and_false, Bool.not_true, Bool.not_false, Bool.true_and, Bool.and_true, Bool.false_and, Bool.and_false, Bool.or_false, Bool.false_or, Bool.or_true, Bool.true_or, Bool.not_eq_true', if_true, if_false, Bool.false_eq_true, Bool.not_eq_true, ↓reduceIte, ite_true, ite_false, Bool.true_eq_false, not_true_eq_false, not_false_eq_true, Nat.zero_le, lc8, List.filter_cons, List.filter_nil, ne1, ne5, pLtA_i, pEqI]
    rfl

end LW


set_option maxRecDepth 100000
set_option maxHeartbeats 1000000
namespace LW
open PySem PySem.Spec PyProof.Rows L2 VL
theorem r_right {way : Int} (hw : way = 0 ∨ way = 1) {x y : Dt} (hx : Th x) (hy : Th y) : w__law_right [.dat (.int way), .dat x, .dat y] = .ret (.dat (.bool true)) := by
  obtain ⟨z, ez⟩ := repr8 hx hy
  obtain ⟨w5, w6, el⟩ := r_loop (way := .int way) (x := x) (y := y) none none
  rw [wd__law_right]
  refine body_rt rfl ?_
  unfold t__law_right
  have m0 : pIx (.list (madeD x y)) (.int 0) = some (errD "BadCoder" [(.str "part", x), (.str "number", y)]) := rfl
  have m1 : pIx (.list (madeD x y)) (.int 1) = some (errD "BadRow" [(.str "row", x), (.str "word", y)]) := rfl
  have m2 : pIx (.list (madeD x y)) (.int 2) = some (errD "BadPaper" [(.str "part", x), (.str "number", y)]) := rfl
  have m3 : pIx (.list (madeD x y)) (.int 3) = some (errD "BadByte" [(.str "number", x)]) := rfl
  have m6 : pIx (.list (madeD x y)) (.int 6) = some (errD "TooGreat" [(.str "most", x)]) := rfl
  have a0 : xaK kf "BadCoder" "part" (errD "BadCoder" [(.str "part", x), (.str "number", y)]) = .ret x := xa_at rfl
  have a1 : xaK kf "BadCoder" "number" (errD "BadCoder" [(.str "part", x), (.str "number", y)]) = .ret y := xa_at rfl
  have a2 : xaK kf "BadRow" "row" (errD "BadRow" [(.str "row", x), (.str "word", y)]) = .ret x := xa_at rfl
  have a3 : xaK kf "BadRow" "word" (errD "BadRow" [(.str "row", x), (.str "word", y)]) = .ret y := xa_at rfl
  have a4 : xaK kf "BadPaper" "part" (errD "BadPaper" [(.str "part", x), (.str "number", y)]) = .ret x := xa_at rfl
  have a5 : xaK kf "BadPaper" "number" (errD "BadPaper" [(.str "part", x), (.str "number", y)]) = .ret y := xa_at rfl
  have a6 : xaK kf "BadByte" "number" (errD "BadByte" [(.str "number", x)]) = .ret x := xa_at rfl
  have a7 : xaK kf "TooGreat" "most" (errD "TooGreat" [(.str "most", x)]) = .ret x := xa_at rfl
  have ad : pAdd (.list [x, y, x, y, x, y]) (.list [x, x]) = some (.list [x, y, x, y, x, y, x, x]) := pAdd_l.trans (if_pos (by simp [sizeL]))
  rw [sq_at (ρ' := [some (.dat (.int (way))), some (.dat (x)), some (.dat (y)), some (.dat (.list (madeD x y))), none, none, none, none, none]) (by simp only [r_made hw, pIntB_b, dictW_c, pLtA_i, pSumT, pSumL, xIsE, isEK_at, xXa, xaK_1, xaK_2, capN, capC, ygT3c, opK2, opK, unK, notK, consK2, consK, tupK, lstK, fzK, cbK, retK, ifSK, setK, wcK, wdK, callK, forK, lcK, bodyX, startE, xSeq, sqF, xNext, xIfS, xRet, xSet, ygT_t, ygsC, ygsN, ygN, xVar, xC, xOp, xUn, pNeg_i, xTest, asB_b, xNot, xNil, xCons, xTup, xLst, xFz, xCall, rOfT_d, rOfT_o, rOfT_c, rOwT_o, ywNil, ywDat, ywVar, xCB, asI_i, xLenS, xFor, itT_t, itL_l, ziR1, ziET, ziEL, enT_t, enL_l, xLc, noOwnB, wipeE, pAdd_i, pAdd_t, pAdd_l, pSub_i, pLt_i, pLe_i, pGt_i, pGe_i, pIs_n, pIsNot_n, pIsB_b, pNotB_b, isN_n, isN_b, isN_i, isN_s, isN_t, isN_l, pIx_t, pIx_l, pLen_t, pLen_l, pMin2_i, pMax2_i, pAbs_i, pInt_i, pTuple_t, pTuple_l, pList_t, pList_l, pIadd_i, pSl_t, pSl_l, pEqI, pNeI, pEqS, pNeS, at0, at1, at2, at3, at4, at5, at6, at7, bx_ret, bx_exc, bx_fail, bd_ret, bd_exc, bd_fail, exS_ret, exS_exc, exS_fail, ofO_some, ofO_none, fnE, isi_T, isi_B, isi_I, isi_S, isi_L, sizeL, Option.bind_some, Option.map_some, Option.some.injEq, Int.reduceEq, Int.reduceLE, Int.reduceLT, Int.reduceNeg, Int.reduceAdd, Int.reduceSub, Int.reduceMul, decide_true, decide_false, decide_eq_true_eq, decide_not, eq_self, Int.cast_ofNat_Int, reduceCtorEq, List.length_cons, List.length_nil, List.map_cons, List.map_nil, List.replicate, List.cons_append, List.nil_append, List.append_nil, List.getElem?_cons_zero, List.getElem?_cons_succ, List.getElem?_nil, List.set_cons_zero, List.set_cons_succ, Nat.reduceAdd, Nat.reduceSub, Nat.reduceEqDiff, Nat.reduceLeDiff, Nat.reduceLT, Nat.zero_add, Nat.add_zero, true_and, and_true, false_and, and_false, Bool.not_true, Bool.not_false, Bool.true_and, Bool.and_true, Bool.false_and, Bool.and_false, Bool.or_false, Bool.false_or, Bool.or_true, Bool.true_or, Bool.not_eq_true', if_true, if_false, Bool.false_eq_true, Bool.not_eq_true, ↓reduceIte, ite_true, ite_false, Bool.true_eq_false, not_true_eq_false, not_false_eq_true, Nat.zero_le])]
  rw [sq_at (ρ' := [some (.dat (.int (way))), some (.dat (x)), some (.dat (y)), some (.dat (.list (madeD x y))), some (.dat (.list (fldD x y))), none, none, none, none]) (by simp only [xXa, m0, m1, m2, m3, m6, a0, a1, a2, a3, a4, a5, fldD, pIntB_b, dictW_c, pLtA_i, pSumT, pSumL, xIsE, isEK_at, xXa, xaK_1, xaK_2, capN, capC, ygT3c, opK2, opK, unK, notK, consK2, consK, tupK, lstK, fzK, cbK, retK, ifSK, setK, wcK, wdK, callK, forK, lcK, bodyX, startE, xSeq, sqF, xNext, xIfS, xRet, xSet, ygT_t, ygsC, ygsN, ygN, xVar, xC, xOp, xUn, pNeg_i, xTest, asB_b, xNot, xNil, xCons, xTup, xLst, xFz, xCall, rOfT_d, rOfT_o, rOfT_c, rOwT_o, ywNil, ywDat, ywVar, xCB, asI_i, xLenS, xFor, itT_t, itL_l, ziR1, ziET, ziEL, enT_t, enL_l, xLc, noOwnB, wipeE, pAdd_i, pAdd_t, pAdd_l, pSub_i, pLt_i, pLe_i, pGt_i, pGe_i, pIs_n, pIsNot_n, pIsB_b, pNotB_b, isN_n, isN_b, isN_i, isN_s, isN_t, isN_l, pIx_t, pIx_l, pLen_t, pLen_l, pMin2_i, pMax2_i, pAbs_i, pInt_i, pTuple_t, pTuple_l, pList_t, pList_l, pIadd_i, pSl_t, pSl_l, pEqI, pNeI, pEqS, pNeS, at0, at1, at2, at3, at4, at5, at6, at7, bx_ret, bx_exc, bx_fail, bd_ret, bd_exc, bd_fail, exS_ret, exS_exc, exS_fail, ofO_some, ofO_none, fnE, isi_T, isi_B, isi_I, isi_S, isi_L, sizeL, Option.bind_some, Option.map_some, Option.some.injEq, Int.reduceEq, Int.reduceLE, Int.reduceLT, Int.reduceNeg, Int.reduceAdd, Int.reduceSub, Int.reduceMul, decide_true, decide_false, decide_eq_true_eq, decide_not, eq_self, Int.cast_ofNat_Int, reduceCtorEq, List.length_cons, List.length_nil, List.map_cons, List.map_nil, List.replicate, List.cons_append, List.nil_append, List.append_nil, List.getElem?_cons_zero, List.getElem?_cons_succ, List.getElem?_nil, List.set_cons_zero, List.set_cons_succ, Nat.reduceAdd, Nat.reduceSub, Nat.reduceEqDiff, Nat.reduceLeDiff, Nat.reduceLT, Nat.zero_add, Nat.add_zero, true_and, and_true, false_and, and_false, Bool.not_true, Bool.not_false, Bool.true_and, Bool.and_true, Bool.false_and, Bool.and_false, Bool.or_false, Bool.false_or, Bool.or_true, Bool.true_or, Bool.not_eq_true', if_true, if_false, Bool.false_eq_true, Bool.not_eq_true, ↓reduceIte, ite_true, ite_false, Bool.true_eq_false, not_true_eq_false, not_false_eq_true, Nat.zero_le])]
  rw [sq_at (ρ' := [some (.dat (.int (way))), some (.dat (x)), some (.dat (y)), some (.dat (.list (madeD x y))), some (.dat (.list (fldD x y))), none, none, none, none]) (by simp only [xXa, m3, m6, a6, a7, fldD, ad, ez, pNeS, beq_self_eq_true, pIntB_b, dictW_c, pLtA_i, pSumT, pSumL, xIsE, isEK_at, xXa, xaK_1, xaK_2, capN, capC, ygT3c, opK2, opK, unK, notK, consK2, consK, tupK, lstK, fzK, cbK, retK, ifSK, setK, wcK, wdK, callK, forK, lcK, bodyX, startE, xSeq, sqF, xNext, xIfS, xRet, xSet, ygT_t, ygsC, ygsN, ygN, xVar, xC, xOp, xUn, pNeg_i, xTest, asB_b, xNot, xNil, xCons, xTup, xLst, xFz, xCall, rOfT_d, rOfT_o, rOfT_c, rOwT_o, ywNil, ywDat, ywVar, xCB, asI_i, xLenS, xFor, itT_t, itL_l, ziR1, ziET, ziEL, enT_t, enL_l, xLc, noOwnB, wipeE, pAdd_i, pAdd_t, pAdd_l, pSub_i, pLt_i, pLe_i, pGt_i, pGe_i, pIs_n, pIsNot_n, pIsB_b, pNotB_b, isN_n, isN_b, isN_i, isN_s, isN_t, isN_l, pIx_t, pIx_l, pLen_t, pLen_l, pMin2_i, pMax2_i, pAbs_i, pInt_i, pTuple_t, pTuple_l, pList_t, pList_l, pIadd_i, pSl_t, pSl_l, pEqI, pNeI, pEqS, pNeS, at0, at1, at2, at3, at4, at5, at6, at7, bx_ret, bx_exc, bx_fail, bd_ret, bd_exc, bd_fail, exS_ret, exS_exc, exS_fail, ofO_some, ofO_none, fnE, isi_T, isi_B, isi_I, isi_S, isi_L, sizeL, Option.bind_some, Option.map_some, Option.some.injEq, Int.reduceEq, Int.reduceLE, Int.reduceLT, Int.reduceNeg, Int.reduceAdd, Int.reduceSub, Int.reduceMul, decide_true, decide_false, decide_eq_true_eq, decide_not, eq_self, Int.cast_ofNat_Int, reduceCtorEq, List.length_cons, List.length_nil, List.map_cons, List.map_nil, List.replicate, List.cons_append, List.nil_append, List.append_nil, List.getElem?_cons_zero, List.getElem?_cons_succ, List.getElem?_nil, List.set_cons_zero, List.set_cons_succ, Nat.reduceAdd, Nat.reduceSub, Nat.reduceEqDiff, Nat.reduceLeDiff, Nat.reduceLT, Nat.zero_add, Nat.add_zero, true_and, and_true, false_and, and_false, Bool.not_true, Bool.not_false, Bool.true_and, Bool.and_true, Bool.false_and, Bool.and_false, Bool.or_false, Bool.false_or, Bool.or_true, Bool.true_or, Bool.not_eq_true', if_true, if_false, Bool.false_eq_true, Bool.not_eq_true, ↓reduceIte, ite_true, ite_false, Bool.true_eq_false, not_true_eq_false, not_false_eq_true, Nat.zero_le])]
  rw [sq_at (ρ' := [some (.dat (.int (way))), some (.dat (x)), some (.dat (y)), some (.dat (.list (madeD x y))), some (.dat (.list (fldD x y))), (w5), (w6), none, none]) (by simp only [xFor, ziET, pIntB_b, dictW_c, pLtA_i, pSumT, pSumL, xIsE, isEK_at, xXa, xaK_1, xaK_2, capN, capC, ygT3c, opK2, opK, unK, notK, consK2, consK, tupK, lstK, fzK, cbK, retK, ifSK, setK, wcK, wdK, callK, forK, lcK, bodyX, startE, xSeq, sqF, xNext, xIfS, xRet, xSet, ygT_t, ygsC, ygsN, ygN, xVar, xC, xOp, xUn, pNeg_i, xTest, asB_b, xNot, xNil, xCons, xTup, xLst, xFz, xCall, rOfT_d, rOfT_o, rOfT_c, rOwT_o, ywNil, ywDat, ywVar, xCB, asI_i, xLenS, xFor, itT_t, itL_l, ziR1, ziET, ziEL, enT_t, enL_l, xLc, noOwnB, wipeE, pAdd_i, pAdd_t, pAdd_l, pSub_i, pLt_i, pLe_i, pGt_i, pGe_i, pIs_n, pIsNot_n, pIsB_b, pNotB_b, isN_n, isN_b, isN_i, isN_s, isN_t, isN_l, pIx_t, pIx_l, pLen_t, pLen_l, pMin2_i, pMax2_i, pAbs_i, pInt_i, pTuple_t, pTuple_l, pList_t, pList_l, pIadd_i, pSl_t, pSl_l, pEqI, pNeI, pEqS, pNeS, at0, at1, at2, at3, at4, at5, at6, at7, bx_ret, bx_exc, bx_fail, bd_ret, bd_exc, bd_fail, exS_ret, exS_exc, exS_fail, ofO_some, ofO_none, fnE, isi_T, isi_B, isi_I, isi_S, isi_L, sizeL, Option.bind_some, Option.map_some, Option.some.injEq, Int.reduceEq, Int.reduceLE, Int.reduceLT, Int.reduceNeg, Int.reduceAdd, Int.reduceSub, Int.reduceMul, decide_true, decide_false, decide_eq_true_eq, decide_not, eq_self, Int.cast_ofNat_Int, reduceCtorEq, List.length_cons, List.length_nil, List.map_cons, List.map_nil, List.replicate, List.cons_append, List.nil_append, List.append_nil, List.getElem?_cons_zero, List.getElem?_cons_succ, List.getElem?_nil, List.set_cons_zero, List.set_cons_succ, Nat.reduceAdd, Nat.reduceSub, Nat.reduceEqDiff, Nat.reduceLeDiff, Nat.reduceLT, Nat.zero_add, Nat.add_zero, true_and, and_true, false_and, and_false, Bool.not_true, Bool.not_false, Bool.true_and, Bool.and_true, Bool.false_and, Bool.and_false, Bool.or_false, Bool.false_or, Bool.or_true, Bool.true_or, Bool.not_eq_true', if_true, if_false, Bool.false_eq_true, Bool.not_eq_true, ↓reduceIte, ite_true, ite_false, Bool.true_eq_false, not_true_eq_false, not_false_eq_true, Nat.zero_le, el])]
  simp only [pIntB_b, dictW_c, pLtA_i, pSumT, pSumL, xIsE, isEK_at, xXa, xaK_1, xaK_2, capN, capC, ygT3c, opK2, opK, unK, notK, consK2, consK, tupK, lstK, fzK, cbK, retK, ifSK, setK, wcK, wdK, callK, forK, lcK, bodyX, startE, xSeq, sqF, xNext, xIfS, xRet, xSet, ygT_t, ygsC, ygsN, ygN, xVar, xC, xOp, xUn, pNeg_i, xTest, asB_b, xNot, xNil, xCons, xTup, xLst, xFz, xCall, rOfT_d, rOfT_o, rOfT_c, rOwT_o, ywNil, ywDat, ywVar, xCB, asI_i, xLenS, xFor, itT_t, itL_l, ziR1, ziET, ziEL, enT_t, enL_l, xLc, noOwnB, wipeE, pAdd_i, pAdd_t, pAdd_l, pSub_i, pLt_i, pLe_i, pGt_i, pGe_i, pIs_n, pIsNot_n, pIsB_b, pNotB_b, isN_n, isN_b, isN_i, isN_s, isN_t, isN_l, pIx_t, pIx_l, pLen_t, pLen_l, pMin2_i, pMax2_i, pAbs_i, pInt_i, pTuple_t, pTuple_l, pList_t, pList_l, pIadd_i, pSl_t, pSl_l, pEqI, pNeI, pEqS, pNeS, at0, at1, at2, at3, at4, at5, at6, at7, bx_ret, bx_exc, bx_fail, bd_ret, bd_exc, bd_fail, exS_ret, exS_exc, exS_fail, ofO_some, ofO_none, fnE, isi_T, isi_B, isi_I, isi_S, isi_L, sizeL, Option.bind_some, Option.map_some, Option.some.injEq, Int.reduceEq, Int.reduceLE, Int.reduceLT, Int.reduceNeg, Int.reduceAdd, Int.reduceSub, Int.reduceMul, decide_true, decide_false, decide_eq_true_eq, decide_not, eq_self, Int.cast_ofNat_Int, reduceCtorEq, List.length_cons, List.length_nil, List.map_cons, List.map_nil, List.replicate, List.cons_append, List.nil_append, List.append_nil, List.getElem?_cons_zero, List.getElem?_cons_succ, List.getElem?_nil, List.set_cons_zero, List.set_cons_succ, Nat.reduceAdd, Nat.reduceSub, Nat.reduceEqDiff, Nat.reduceLeDiff, Nat.reduceLT, Nat.zero_add, Nat.add_zero, true_and, and_true, false_and, and_false, Bool.not_true, Bool.not_false, Bool.true_and, Bool.and_true, Bool.false_and, Bool.and_false, Bool.or_false, Bool.false_or, Bool.or_true, Bool.true_or, Bool.not_eq_true', if_true, if_false, Bool.false_eq_true, Bool.not_eq_true, ↓reduceIte, ite_true, ite_false, Bool.true_eq_false, not_true_eq_false, not_false_eq_true, Nat.zero_le]
theorem d_right {way : Int} (hw : way = 0 ∨ way = 1) {x y : Dt} (hx : x ∈ some14) (hy : y ∈ some14) : w__law_right [.dat (.int way), .dat x, .dat y] = .ret (.dat (.bool true)) := r_right hw (th14 x hx) (th14 y hy)
theorem ix14 {i : Int} (h0 : 0 ≤ i) (h1 : i < 14) : ∃ d, atI some14 i = some d ∧ d ∈ some14 := by
  obtain ⟨n, rfl⟩ : ∃ n : Nat, i = n := ⟨i.toNat, by omega⟩
  have hn : n < 14 := by omega
  have hl : n < some14.length := hn
  exact ⟨some14[n], atI_nat (j := n) (List.getElem?_eq_getElem hl), List.getElem_mem hl⟩
theorem law1 {ns : List Int} : t_law ((startE 4 [.scr ns]).set 1 (some .tok)) = xSeq (xFor (ziR1 (xCons (xOp pAdd (xC (.int 2)) (xCB pMin2 (xCons (xLenS 0) (xCons (xC (.int 5)) (xNil))))) (xNil))) (ygN 3) b_law_0) (xRet (xC (.bool true))) [(some (.scr ns)), some .tok, some (.dat (.list some14)), none] := by
  have ep : pPow (.int 10) (.int 30) = some (.int 1000000000000000000000000000000) := if_pos ⟨by decide, by decide, by decide⟩
  rw [td_law]
  unfold t_law0
  refine sq_at ?_
  unfold some14
  simp only [ep, pIntB_b, dictW_c, pLtA_i, pSumT, pSumL, xIsE, isEK_at, xXa, xaK_1, xaK_2, capN, capC, ygT3c, opK2, opK, unK, notK, consK2, consK, tupK, lstK, fzK, cbK, retK, ifSK, setK, wcK, wdK, callK, forK, lcK, bodyX, startE, xSeq, sqF, xNext, xIfS, xRet, xSet, ygT_t, ygsC, ygsN, ygN, xVar, xC, xOp, xUn, pNeg_i, xTest, asB_b, xNot, xNil, xCons, xTup, xLst, xFz, xCall, rOfT_d, rOfT_o, rOfT_c, rOwT_o, ywNil, ywDat, ywVar, xCB, asI_i, xLenS, xFor, itT_t, itL_l, ziR1, ziET, ziEL, enT_t, enL_l, xLc, noOwnB, wipeE, pAdd_i, pAdd_t, pAdd_l, pSub_i, pLt_i, pLe_i, pGt_i, pGe_i, pIs_n, pIsNot_n, pIsB_b, pNotB_b, isN_n, isN_b, isN_i, isN_s, isN_t, isN_l, pIx_t, pIx_l, pLen_t, pLen_l, pMin2_i, pMax2_i, pAbs_i, pInt_i, pTuple_t, pTuple_l, pList_t, pList_l, pIadd_i, pSl_t, pSl_l, pEqI, pNeI, pEqS, pNeS, at0, at1, at2, at3, at4, at5, at6, at7, bx_ret, bx_exc, bx_fail, bd_ret, bd_exc, bd_fail, exS_ret, exS_exc, exS_fail, ofO_some, ofO_none, fnE, isi_T, isi_B, isi_I, isi_S, isi_L, sizeL, Option.bind_some, Option.map_some, Option.some.injEq, Int.reduceEq, Int.reduceLE, Int.reduceLT, Int.reduceNeg, Int.reduceAdd, Int.reduceSub, Int.reduceMul, decide_true, decide_false, decide_eq_true_eq, decide_not, eq_self, Int.cast_ofNat_Int, reduceCtorEq, List.length_cons, List.length_nil, List.map_cons, List.map_nil, List.replicate, List.cons_append, List.nil_append, List.append_nil, List.getElem?_cons_zero, List.getElem?_cons_succ, List.getElem?_nil, List.set_cons_zero, List.set_cons_succ, Nat.reduceAdd, Nat.reduceSub, Nat.reduceEqDiff, Nat.reduceLeDiff, Nat.reduceLT, Nat.zero_add, Nat.add_zero, true_and, and_true, false_and, and_false, Bool.not_true, Bool.not_false, Bool.true_and, Bool.and_true, Bool.false_and, Bool.and_false, Bool.or_false, Bool.false_or, Bool.or_true, Bool.true_or, Bool.not_eq_true', if_true, if_false, Bool.false_eq_true, Bool.not_eq_true, ↓reduceIte, ite_true, ite_false, Bool.true_eq_false, not_true_eq_false, not_false_eq_true, Nat.zero_le]
end LW


set_option maxRecDepth 100000
set_option maxHeartbeats 1000000
namespace LW
open PySem PySem.Spec PyProof.Rows L2 VL
theorem to_law (t : XS) (ρ : Nv) (h : Dr (3 * 7 + 0) (t ρ) (fun f => f = .rt (.dat (.bool true)))) : SS t lawEnd ρ 0 := Dr.law h (by decide)
theorem law2 (ns : List Int) (hns : ns.length ≤ 63) : Dr (3 * 7 + 0) (xSeq (xFor (ziR1 (xCons (xOp pAdd (xC (.int 2)) (xCB pMin2 (xCons (xLenS 0) (xCons (xC (.int 5)) (xNil))))) (xNil))) (ygN 3) b_law_0) (xRet (xC (.bool true))) [(some (.scr ns)), some .tok, some (.dat (.list some14)), none]) (fun f => f = .rt (.dat (.bool true))) := by
  obtain ⟨S, hS⟩ : ∃ S, S = some14 := ⟨_, rfl⟩
  rw [← hS]
  refine Dr.seq (J := fun ρ => ∃ (x3 : Option VL.W), ρ = [(some (.scr ns)), some .tok, some (.dat (.list S)), (x3)]) (3 * 7) _ ?_ ?_
  · have a1 : 2 ≤ 2 + mn (ns.length : Int) 5 ∧ 2 + mn (ns.length : Int) 5 ≤ 7 := by unfold mn; split <;> omega
    have hlen : (rngD 0 (2 + mn (ns.length : Int) 5).toNat).length = (2 + mn (ns.length : Int) 5).toNat := rngD_len _ _
    simp only [rgT1_i (j := 2 + mn (ns.length : Int) 5) (by omega) (by omega), pIntB_b, dictW_c, pLtA_i, pSumT, pSumL, xIsE, isEK_at, xXa, xaK_1, xaK_2, capN, capC, ygT3c, opK2, opK, unK, notK, consK2, consK, tupK, lstK, fzK, cbK, retK, ifSK, setK, wcK, wdK, callK, forK, lcK, bodyX, startE, xSeq, sqF, xNext, xIfS, xRet, xSet, ygT_t, ygsC, ygsN, ygN, xVar, xC, xOp, xUn, pNeg_i, xTest, asB_b, xNot, xNil, xCons, xTup, xLst, xFz, xCall, rOfT_d, rOfT_o, rOfT_c, rOwT_o, ywNil, ywDat, ywVar, xCB, asI_i, xLenS, xFor, itT_t, itL_l, ziR1, ziET, ziEL, enT_t, enL_l, xLc, noOwnB, wipeE, pAdd_i, pAdd_t, pAdd_l, pSub_i, pLt_i, pLe_i, pGt_i, pGe_i, pIs_n, pIsNot_n, pIsB_b, pNotB_b, isN_n, isN_b, isN_i, isN_s, isN_t, isN_l, pIx_t, pIx_l, pLen_t, pLen_l, pMin2_i, pMax2_i, pAbs_i, pInt_i, pTuple_t, pTuple_l, pList_t, pList_l, pIadd_i, pSl_t, pSl_l, pEqI, pNeI, pEqS, pNeS, at0, at1, at2, at3, at4, at5, at6, at7, bx_ret, bx_exc, bx_fail, bd_ret, bd_exc, bd_fail, exS_ret, exS_exc, exS_fail, ofO_some, ofO_none, fnE, isi_T, isi_B, isi_I, isi_S, isi_L, sizeL, Option.bind_some, Option.map_some, Option.some.injEq, Int.reduceEq, Int.reduceLE, Int.reduceLT, Int.reduceNeg, Int.reduceAdd, Int.reduceSub, Int.reduceMul, decide_true, decide_false, decide_eq_true_eq, decide_not, eq_self, Int.cast_ofNat_Int, reduceCtorEq, List.length_cons, List.length_nil, List.map_cons, List.map_nil, List.replicate, List.cons_append, List.nil_append, List.append_nil, List.getElem?_cons_zero, List.getElem?_cons_succ, List.getElem?_nil, List.set_cons_zero, List.set_cons_succ, Nat.reduceAdd, Nat.reduceSub, Nat.reduceEqDiff, Nat.reduceLeDiff, Nat.reduceLT, Nat.zero_add, Nat.add_zero, true_and, and_true, false_and, and_false, Bool.not_true, Bool.not_false, Bool.true_and, Bool.and_true, Bool.false_and, Bool.and_false, Bool.or_false, Bool.false_or, Bool.or_true, Bool.true_or, Bool.not_eq_true', if_true, if_false, Bool.false_eq_true, Bool.not_eq_true, ↓reduceIte, ite_true, ite_false, Bool.true_eq_false, not_true_eq_false, not_false_eq_true, Nat.zero_le]
    refine Dr.le (k := 3 * (rngD 0 (2 + mn (ns.length : Int) 5).toNat).length) ?_ (by rw [hlen]; omega)
    refine Dr.forT (J := fun ds ρ => ∃ (x3 : Option VL.W), ρ = [(some (.scr ns)), some .tok, some (.dat (.list S)), (x3)]) ?_ ?_ _ _ ⟨none, rfl⟩
    · rintro ρ ⟨x3, rfl⟩
      exact ⟨_, rfl, x3, rfl⟩
    · rintro d ds ρ ⟨x3, rfl⟩
      refine ⟨_, rfl, ?_⟩
      unfold b_law_0
      simp only [r_draw, bx_draw, bd_draw, exS_draw, pIntB_b, dictW_c, pLtA_i, pSumT, pSumL, xIsE, isEK_at, xXa, xaK_1, xaK_2, capN, capC, ygT3c, opK2, opK, unK, notK, consK2, consK, tupK, lstK, fzK, cbK, retK, ifSK, setK, wcK, wdK, callK, forK, lcK, bodyX, startE, xSeq, sqF, xNext, xIfS, xRet, xSet, ygT_t, ygsC, ygsN, ygN, xVar, xC, xOp, xUn, pNeg_i, xTest, asB_b, xNot, xNil, xCons, xTup, xLst, xFz, xCall, rOfT_d, rOfT_o, rOfT_c, rOwT_o, ywNil, ywDat, ywVar, xCB, asI_i, xLenS, xFor, itT_t, itL_l, ziR1, ziET, ziEL, enT_t, enL_l, xLc, noOwnB, wipeE, pAdd_i, pAdd_t, pAdd_l, pSub_i, pLt_i, pLe_i, pGt_i, pGe_i, pIs_n, pIsNot_n, pIsB_b, pNotB_b, isN_n, isN_b, isN_i, isN_s, isN_t, isN_l, pIx_t, pIx_l, pLen_t, pLen_l, pMin2_i, pMax2_i, pAbs_i, pInt_i, pTuple_t, pTuple_l, pList_t, pList_l, pIadd_i, pSl_t, pSl_l, pEqI, pNeI, pEqS, pNeS, at0, at1, at2, at3, at4, at5, at6, at7, bx_ret, bx_exc, bx_fail, bd_ret, bd_exc, bd_fail, exS_ret, exS_exc, exS_fail, ofO_some, ofO_none, fnE, isi_T, isi_B, isi_I, isi_S, isi_L, sizeL, Option.bind_some, Option.map_some, Option.some.injEq, Int.reduceEq, Int.reduceLE, Int.reduceLT, Int.reduceNeg, Int.reduceAdd, Int.reduceSub, Int.reduceMul, decide_true, decide_false, decide_eq_true_eq, decide_not, eq_self, Int.cast_ofNat_Int, reduceCtorEq, List.length_cons, List.length_nil, List.map_cons, List.map_nil, List.replicate, List.cons_append, List.nil_append, List.append_nil, List.getElem?_cons_zero, List.getElem?_cons_succ, List.getElem?_nil, List.set_cons_zero, List.set_cons_succ, Nat.reduceAdd, Nat.reduceSub, Nat.reduceEqDiff, Nat.reduceLeDiff, Nat.reduceLT, Nat.zero_add, Nat.add_zero, true_and, and_true, false_and, and_false, Bool.not_true, Bool.not_false, Bool.true_and, Bool.and_true, Bool.false_and, Bool.and_false, Bool.or_false, Bool.false_or, Bool.or_true, Bool.true_or, Bool.not_eq_true', if_true, if_false, Bool.false_eq_true, Bool.not_eq_true, ↓reduceIte, ite_true, ite_false, Bool.true_eq_false, not_true_eq_false, not_false_eq_true, Nat.zero_le]
      refine Dr.draw (k := 2) (by omega) (by omega) fun q q0 q1 => ?_
      have hq : q = 0 ∨ q = 1 := by omega
      refine Dr.draw (k := 1) (by omega) (by omega) fun i i0 i1 => ?_
      obtain ⟨dx, ex, hx⟩ := ix14 i0 i1
      rw [← hS] at ex
      simp only [ex, r_draw, bx_draw, bd_draw, exS_draw, pIntB_b, dictW_c, pLtA_i, pSumT, pSumL, xIsE, isEK_at, xXa, xaK_1, xaK_2, capN, capC, ygT3c, opK2, opK, unK, notK, consK2, consK, tupK, lstK, fzK, cbK, retK, ifSK, setK, wcK, wdK, callK, forK, lcK, bodyX, startE, xSeq, sqF, xNext, xIfS, xRet, xSet, ygT_t, ygsC, ygsN, ygN, xVar, xC, xOp, xUn, pNeg_i, xTest, asB_b, xNot, xNil, xCons, xTup, xLst, xFz, xCall, rOfT_d, rOfT_o, rOfT_c, rOwT_o, ywNil, ywDat, ywVar, xCB, asI_i, xLenS, xFor, itT_t, itL_l, ziR1, ziET, ziEL, enT_t, enL_l, xLc, noOwnB, wipeE, pAdd_i, pAdd_t, pAdd_l, pSub_i, pLt_i, pLe_i, pGt_i, pGe_i, pIs_n, pIsNot_n, pIsB_b, pNotB_b, isN_n, isN_b, isN_i, isN_s, isN_t, isN_l, pIx_t, pIx_l, pLen_t, pLen_l, pMin2_i, pMax2_i, pAbs_i, pInt_i, pTuple_t, pTuple_l, pList_t, pList_l, pIadd_i, pSl_t, pSl_l, pEqI, pNeI, pEqS, pNeS, at0, at1, at2, at3, at4, at5, at6, at7, bx_ret, bx_exc, bx_fail, bd_ret, bd_exc, bd_fail, exS_ret, exS_exc, exS_fail, ofO_some, ofO_none, fnE, isi_T, isi_B, isi_I, isi_S, isi_L, sizeL, Option.bind_some, Option.map_some, Option.some.injEq, Int.reduceEq, Int.reduceLE, Int.reduceLT, Int.reduceNeg, Int.reduceAdd, Int.reduceSub, Int.reduceMul, decide_true, decide_false, decide_eq_true_eq, decide_not, eq_self, Int.cast_ofNat_Int, reduceCtorEq, List.length_cons, List.length_nil, List.map_cons, List.map_nil, List.replicate, List.cons_append, List.nil_append, List.append_nil, List.getElem?_cons_zero, List.getElem?_cons_succ, List.getElem?_nil, List.set_cons_zero, List.set_cons_succ, Nat.reduceAdd, Nat.reduceSub, Nat.reduceEqDiff, Nat.reduceLeDiff, Nat.reduceLT, Nat.zero_add, Nat.add_zero, true_and, and_true, false_and, and_false, Bool.not_true, Bool.not_false, Bool.true_and, Bool.and_true, Bool.false_and, Bool.and_false, Bool.or_false, Bool.false_or, Bool.or_true, Bool.true_or, Bool.not_eq_true', if_true, if_false, Bool.false_eq_true, Bool.not_eq_true, ↓reduceIte, ite_true, ite_false, Bool.true_eq_false, not_true_eq_false, not_false_eq_true, Nat.zero_le]
      refine Dr.draw (k := 0) (by omega) (by omega) fun j j0 j1 => ?_
      obtain ⟨dy, ey, hy⟩ := ix14 j0 j1
      rw [← hS] at ey
      simp only [ey, d_right hq hx hy, r_draw, bx_draw, bd_draw, exS_draw, pIntB_b, dictW_c, pLtA_i, pSumT, pSumL, xIsE, isEK_at, xXa, xaK_1, xaK_2, capN, capC, ygT3c, opK2, opK, unK, notK, consK2, consK, tupK, lstK, fzK, cbK, retK, ifSK, setK, wcK, wdK, callK, forK, lcK, bodyX, startE, xSeq, sqF, xNext, xIfS, xRet, xSet, ygT_t, ygsC, ygsN, ygN, xVar, xC, xOp, xUn, pNeg_i, xTest, asB_b, xNot, xNil, xCons, xTup, xLst, xFz, xCall, rOfT_d, rOfT_o, rOfT_c, rOwT_o, ywNil, ywDat, ywVar, xCB, asI_i, xLenS, xFor, itT_t, itL_l, ziR1, ziET, ziEL, enT_t, enL_l, xLc, noOwnB, wipeE, pAdd_i, pAdd_t, pAdd_l, pSub_i, pLt_i, pLe_i, pGt_i, pGe_i, pIs_n, pIsNot_n, pIsB_b, pNotB_b, isN_n, isN_b, isN_i, isN_s, isN_t, isN_l, pIx_t, pIx_l, pLen_t, pLen_l, pMin2_i, pMax2_i, pAbs_i, pInt_i, pTuple_t, pTuple_l, pList_t, pList_l, pIadd_i, pSl_t, pSl_l, pEqI, pNeI, pEqS, pNeS, at0, at1, at2, at3, at4, at5, at6, at7, bx_ret, bx_exc, bx_fail, bd_ret, bd_exc, bd_fail, exS_ret, exS_exc, exS_fail, ofO_some, ofO_none, fnE, isi_T, isi_B, isi_I, isi_S, isi_L, sizeL, Option.bind_some, Option.map_some, Option.some.injEq, Int.reduceEq, Int.reduceLE, Int.reduceLT, Int.reduceNeg, Int.reduceAdd, Int.reduceSub, Int.reduceMul, decide_true, decide_false, decide_eq_true_eq, decide_not, eq_self, Int.cast_ofNat_Int, reduceCtorEq, List.length_cons, List.length_nil, List.map_cons, List.map_nil, List.replicate, List.cons_append, List.nil_append, List.append_nil, List.getElem?_cons_zero, List.getElem?_cons_succ, List.getElem?_nil, List.set_cons_zero, List.set_cons_succ, Nat.reduceAdd, Nat.reduceSub, Nat.reduceEqDiff, Nat.reduceLeDiff, Nat.reduceLT, Nat.zero_add, Nat.add_zero, true_and, and_true, false_and, and_false, Bool.not_true, Bool.not_false, Bool.true_and, Bool.and_true, Bool.false_and, Bool.and_false, Bool.or_false, Bool.false_or, Bool.or_true, Bool.true_or, Bool.not_eq_true', if_true, if_false, Bool.false_eq_true, Bool.not_eq_true, ↓reduceIte, ite_true, ite_false, Bool.true_eq_false, not_true_eq_false, not_false_eq_true, Nat.zero_le]
      exact Dr.ret (.inl ⟨_, .inl rfl, _, rfl⟩)
  · rintro ρ ⟨x3, rfl⟩
    simp only [pIntB_b, dictW_c, pLtA_i, pSumT, pSumL, xIsE, isEK_at, xXa, xaK_1, xaK_2, capN, capC, ygT3c, opK2, opK, unK, notK, consK2, consK, tupK, lstK, fzK, cbK, retK, ifSK, setK, wcK, wdK, callK, forK, lcK, bodyX, startE, xSeq, sqF, xNext, xIfS, xRet, xSet, ygT_t, ygsC, ygsN, ygN, xVar, xC, xOp, xUn, pNeg_i, xTest, asB_b, xNot, xNil, xCons, xTup, xLst, xFz, xCall, rOfT_d, rOfT_o, rOfT_c, rOwT_o, ywNil, ywDat, ywVar, xCB, asI_i, xLenS, xFor, itT_t, itL_l, ziR1, ziET, ziEL, enT_t, enL_l, xLc, noOwnB, wipeE, pAdd_i, pAdd_t, pAdd_l, pSub_i, pLt_i, pLe_i, pGt_i, pGe_i, pIs_n, pIsNot_n, pIsB_b, pNotB_b, isN_n, isN_b, isN_i, isN_s, isN_t, isN_l, pIx_t, pIx_l, pLen_t, pLen_l, pMin2_i, pMax2_i, pAbs_i, pInt_i, pTuple_t, pTuple_l, pList_t, pList_l, pIadd_i, pSl_t, pSl_l, pEqI, pNeI, pEqS, pNeS, at0, at1, at2, at3, at4, at5, at6, at7, bx_ret, bx_exc, bx_fail, bd_ret, bd_exc, bd_fail, exS_ret, exS_exc, exS_fail, ofO_some, ofO_none, fnE, isi_T, isi_B, isi_I, isi_S, isi_L, sizeL, Option.bind_some, Option.map_some, Option.some.injEq, Int.reduceEq, Int.reduceLE, Int.reduceLT, Int.reduceNeg, Int.reduceAdd, Int.reduceSub, Int.reduceMul, decide_true, decide_false, decide_eq_true_eq, decide_not, eq_self, Int.cast_ofNat_Int, reduceCtorEq, List.length_cons, List.length_nil, List.map_cons, List.map_nil, List.replicate, List.cons_append, List.nil_append, List.append_nil, List.getElem?_cons_zero, List.getElem?_cons_succ, List.getElem?_nil, List.set_cons_zero, List.set_cons_succ, Nat.reduceAdd, Nat.reduceSub, Nat.reduceEqDiff, Nat.reduceLeDiff, Nat.reduceLT, Nat.zero_add, Nat.add_zero, true_and, and_true, false_and, and_false, Bool.not_true, Bool.not_false, Bool.true_and, Bool.and_true, Bool.false_and, Bool.and_false, Bool.or_false, Bool.false_or, Bool.or_true, Bool.true_or, Bool.not_eq_true', if_true, if_false, Bool.false_eq_true, Bool.not_eq_true, ↓reduceIte, ite_true, ite_false, Bool.true_eq_false, not_true_eq_false, not_false_eq_true, Nat.zero_le]
    exact Dr.ret rfl
theorem law3 (ns : List Int) (hns : ns.length ≤ 63) : Dr (3 * 7 + 0) (t_law ((startE 4 [.scr ns]).set 1 (some .tok))) (fun f => f = .rt (.dat (.bool true))) := by
  rw [law1]
  exact law2 ns hns
theorem law_holds : ∀ ns : List Int, ns.length ≤ 63 → SS t_law lawEnd ((startE 4 [.scr ns]).set 1 (some .tok)) 0 := fun ns hns => to_law t_law _ (law3 ns hns)
end LW


open PySem PySem.W PySem.Calls PyProof.Rows
set_option maxRecDepth 100000 in
set_option maxHeartbeats 0 in
theorem PySem.Challenge.cw_stepsound_k01_errors_holds : PySem.Challenge.rw_stepsound_k01_errors.Holds := by
  w_on; o_law
  refine HandSHeadRun.head_any (r := OpenLaw.row PySem.Challenge.rw_stepsound_k01_errors) (q := view (OpenLaw.row PySem.Challenge.rw_stepsound_k01_errors).prog [16]) (H := LW.hk) (ob := LW.ob) (M := 6000) (loose := LW.names) (d := HandSHeadRun.topDef (OpenLaw.row PySem.Challenge.rw_stepsound_k01_errors).prog 16) (kwd := []) VL.obX_eq
    (by kernel_rfl) (fun s => by kernel_rfl) LW.run (by kernel_rfl) (by kernel_rfl) (by kernel_rfl) (by rfl) (by first | assumption | decide +kernel) (by decide +kernel) ⟨rfl, rfl, rfl, rfl, rfl, by decide +kernel⟩ ?hw ?hc
  case hw => w_witness2
  case hc =>
    refine VL.walkG (l := PySem.Challenge.rw_stepsound_k01_errors) (k := 6) rfl (by kernel_rfl) ⟨rfl, by decide, by decide⟩ ?F
    intro w mg fa h Y G hmg0
    obtain ⟨K, KX, c⟩ := Y
    have hmg : mg ("law" : PySem.Str) = some (.ref fa) := by
      have e : (HandSHeadRun.topDef (OpenLaw.row PySem.Challenge.rw_stepsound_k01_errors).prog 16).name = ("law" : PySem.Str) := by kernel_rfl
      rw [← e]
      exact hmg0
    obtain ⟨T, ex⟩ := LW.tx KX G c
    have ea := hmg.symm.trans T.g_law
    cases ea
    obtain ⟨fd, F⟩ := T.d_law
    exact ⟨K, fd, LW.tf.map (He.cT K), KX, VL.tabsAt_of KX c (VL.ttB_eq ex), fun s v => (L2.FunD.bindsA (ps := ["script"]) F (fun _ _ _ _ _ _ us hl => match us, hl with | [_], _ => rfl)) s [v] rfl, fun base _ _ tb => LW.all_ok T F tb LW.law_holds⟩

