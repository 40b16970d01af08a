import PyProof.Rows.All
import Wide.All
import OpenK.AllK
import Wide.FinOn
import KE.KStateDown
import KE.KDictKeyed
import KE.KExcIs
import Lean
import HandS.ForMost
import HandS.ForExc
import HandS.More
import HandS.Defaults
import HandS.Head0
import HandS.Head1
import HandS.Head2
import HandS.HeadEnd
import HandS.HeadHook1
import HandS.HeadHook2
import HandS.HeadHook4
import HandS.IsInst
import HandS.TupAny
import HandS.TupMul
import HandS.TupLe
import HandS.Deep
import HandS.Walk
import HandS.CallSlots
import HandS.Flow
import HandS.Zip
import HandS.Conv
import HandS.Lambda
import PyProof.ReprRoads
import HandS.Style
import KE.GoesEnum
import KE.GoesNew
import PyProof.FactsAll.tuple_2
import HandS.ExcInit
import HandS.ExcField
import HandS.TryMany
import HandS.Wide
import KE.KExcInit
import KE.KTupSum
import KE.GoesMore
import KE.KDictDisplayH
import KE.KDictWalk
import KE.LtData
import KE.SortData
import KE.KDictSum
import KE.KDictCopyH
import HandS.DictTup
import PyProof.Transfer
import HandS.DictComp
import HandS.Text
import HandS.FStr
import PyProof.StrOps2
import KE.KUnpackStar
import HandS.Property
import HandS.MakeKwOnly
import HandS.Star
import HandS.OwnEq
import HandS.NamedTupSort
import PyProof.InstNe
import PySem.Challenge.RW_stepsound_k44_hearers
set_option Elab.async false
set_option linter.all false
set_option maxRecDepth 100000
set_option maxHeartbeats 2000000
/-! VL: plain values over the hand layer: what a def does to data, without the heap. -/
namespace VL
open PySem PySem.Spec PyProof.Rows L2
abbrev Dt := PyData
/-! ### keys of dicts: numbers, None, tuples of such -/
mutual
def keyOf : Dt → Option NestedKey
  | .none => some .none
  | .bool b => some (.num (if b = true then 1 else 0))
  | .int i => some (.num i)
  | .tuple ds => (keysOf ds).map .tup
  | .str _ => none
  | .list _ => none
  | .dict _ => none
def keysOf : List Dt → Option (List NestedKey)
  | [] => some []
  | d :: ds => (keyOf d).bind fun k => (keysOf ds).map fun ks => k :: ks
end
mutual
def nkHash : NestedKey → Int
  | .none => reduceHash 0xFCA86420
  | .num i => hashInt i
  | .text _ => 0
  | .tup ks => reduceHash (Builtin.Tuple.tupleHashOf (nkHashes ks))
def nkHashes : List NestedKey → List Int
  | [] => []
  | k :: ks => nkHash k :: nkHashes ks
end
mutual
def nkFree : NestedKey → Bool
  | .none => true
  | .num _ => true
  | .text _ => false
  | .tup ks => nkFrees ks
def nkFrees : List NestedKey → Bool
  | [] => true
  | k :: ks => nkFree k && nkFrees ks
end
mutual
theorem nkHash_eq (w : World) : ∀ {k : NestedKey}, nkFree k = true → NestedKey.hash w k = nkHash k
  | .none, _ => by rw [nkHash, NestedKey.hash]
  | .num i, _ => by rw [nkHash, NestedKey.hash]
  | .text _, h => by simp [nkFree] at h
  | .tup ks, h => by rw [nkHash, NestedKey.hash, nkHashes_eq w (by simpa only [nkFree] using h)]
theorem nkHashes_eq (w : World) : ∀ {ks : List NestedKey}, nkFrees ks = true → NestedKey.hashes w ks = nkHashes ks
  | [], _ => by rw [nkHashes, NestedKey.hashes]
  | k :: ks, h => by
    simp only [nkFrees, Bool.and_eq_true] at h
    rw [nkHashes, NestedKey.hashes, nkHash_eq w h.1, nkHashes_eq w h.2]
end
mutual
theorem keyOf_free : ∀ {d : Dt} {k : NestedKey}, keyOf d = some k → nkFree k = true
  | .none, k, h => by simp only [keyOf, Option.some.injEq] at h; subst h; rfl
  | .bool b, k, h => by simp only [keyOf, Option.some.injEq] at h; subst h; rfl
  | .int i, k, h => by simp only [keyOf, Option.some.injEq] at h; subst h; rfl
  | .tuple ds, k, h => by
    simp only [keyOf, Option.map_eq_some_iff] at h
    obtain ⟨ks, h1, rfl⟩ := h
    rw [nkFree]
    exact keysOf_free h1
  | .str _, k, h => by simp [keyOf] at h
  | .list _, k, h => by simp [keyOf] at h
  | .dict _, k, h => by simp [keyOf] at h
theorem keysOf_free : ∀ {ds : List Dt} {ks : List NestedKey}, keysOf ds = some ks → nkFrees ks = true
  | [], ks, h => by simp only [keysOf, Option.some.injEq] at h; subst h; rfl
  | d :: ds, ks, h => by
    simp only [keysOf, Option.bind_eq_some_iff, Option.map_eq_some_iff] at h
    obtain ⟨k, h1, ks', h2, rfl⟩ := h
    rw [nkFrees, keyOf_free h1, keysOf_free h2]
    rfl
end
/-- a dict whose keys are such tuples: the key, where its tuple stands, the value -/
def DictO (a : Addr) (es : List (NestedKey × Addr × V)) (o : Obj) : HO := .ext fun h => es.length ≤ sizeLine ∧ (a == sysModules) = false ∧ (∀ e ∈ es, nkFree e.1 = true ∧ e.1.depth ≤ 8) ∧
  ∃ xs : List (NestedKey × Addr × Value), Paired (fun p q => p.1 = q.1 ∧ p.2.1 = q.2.1 ∧ RelV p.2.2 q.2.2) es xs ∧
    ∃ ents ep, h.get? a = some o ∧ o.ExactDict ∧ o.data = .dict ents ep ∧ ents.toList = xs.map (fun x => (⟨nkHash x.1, .ref x.2.1, x.2.2⟩ : DictEntry)) ∧ (xs.map (·.1)).Nodup
/-- an own class, plain -/
structure ClsOk (K : PySem.W.Frag) (c : Str) : Prop where
  cl : Cls K (He.ga K c)
  ha : PySem.W.findIn K (.ref (He.ga K c)) "__class__" = some (some (.builtin "object.__class__"))
  hn : PySem.W.specialIn K (.builtin "object.__class__") "__get__" = some (some (.builtin "getset_descriptor.__get__"))
  htk : PySem.W.takesIn K (.builtin "object.__class__") = some true
  hm : PySem.W.mroIn K (He.ga K c) (.type "object") = some true
  ki : ∀ T ∈ ["bool", "int", "str", "list", "tuple"], PySem.W.kitOne K (.ref (He.ga K c)) (.type T) = some false
/-- an own class of errors -/
structure XCls (K : PySem.W.Frag) (c : Str) : Prop where
  hg : PySem.W.findIn K (.ref (He.ga K c)) "__getattribute__" = some (some (.builtin "BaseException.__getattribute__"))
  hk : PySem.W.findIn K (.ref (He.ga K c)) "__getattr__" = some none
  hs : PySem.W.subIn K (.ref (He.ga K c)) (.type "BaseException") = some true
  hd : PySem.W.hasDictIn K (He.ga K c) = true
  ha : PySem.W.findIn K (.ref (He.ga K c)) "__class__" = some (some (.builtin "object.__class__"))
  hn : PySem.W.specialIn K (.builtin "object.__class__") "__get__" = some (some (.builtin "getset_descriptor.__get__"))
  ht : PySem.W.takesIn K (.builtin "object.__class__") = some true
  hm : PySem.W.mroIn K (He.ga K c) (.type "object") = some true
  ki : ∀ T ∈ ["bool", "int", "str", "list", "tuple"], PySem.W.kitOne K (.ref (He.ga K c)) (.type T) = some false
/-- an error's object: its class, its dict -/
def ErrO (cls : Value) (d : Option Addr) (a : Addr) : HO := .ext fun h => ∃ (oe : Obj) (vs : Array Value), h.get? a = some oe ∧ Zc cls d oe ∧ oe.data = .fields vs
/-- a thing that is known by where it stands -/
def rf (a : Addr) : Dt := .dict [(.list [.bool true], .int ((a : Nat) : Int))]
/-! ### data that stand in a part of the heap -/
mutual
inductive DR (K : PySem.W.Frag) (G : Hp) : V → Dt → Prop
  | non : DR K G .non .none
  | bl (b : Bool) : DR K G (.bl b) (.bool b)
  | int (i : Int) : DR K G (.int i) (.int i)
  | str (x : Str) : DR K G (.str x) (.str x)
  | lst {a : Addr} {xs : List V} {ds : List Dt} : G a = some (.lst xs) → DRs K G xs ds → DR K G (.ref a) (.list ds)
  | tup {a : Addr} {xs : List V} {ds : List Dt} : SqT K G a xs → DRs K G xs ds → DR K G (.ref a) (.tuple ds)
  | rfc {a dx : Addr} : G dx = some (.own a) → DR K G (.ref a) (rf a)
  | dic {a : Addr} : G a = some (.dK []) → DR K G (.ref a) (.dict [])
  | dct {a : Addr} {es : List (NestedKey × Addr × V)} {o : Obj} {kvs : List (Dt × Dt)} : G a = some (DictO a es o) → DKs K G es kvs → DR K G (.ref a) (.dict ((.none, .none) :: kvs))
  | err {a dd : Addr} {c : Str} {fs gs : List (Str × V)} {kvs : List (Dt × Dt)} : XCls K c → G a = some (ErrO (.ref (He.ga K c)) (some dd) a) → G dd = some (.xd fs) → (∀ p ∈ gs, fs.lookup p.1 = some p.2) → DFs K G gs kvs → DR K G (.ref a) (.dict ((.list [.none], .str c) :: kvs))
inductive DRs (K : PySem.W.Frag) (G : Hp) : List V → List Dt → Prop
  | nil : DRs K G [] []
  | cons {v : V} {vs : List V} {d : Dt} {ds : List Dt} : DR K G v d → DRs K G vs ds → DRs K G (v :: vs) (d :: ds)
inductive DKs (K : PySem.W.Frag) (G : Hp) : List (NestedKey × Addr × V) → List (Dt × Dt) → Prop
  | nil : DKs K G [] []
  | cons {k : NestedKey} {b : Addr} {v : V} {kd vd : Dt} {es : List (NestedKey × Addr × V)} {kvs : List (Dt × Dt)} : DR K G (.ref b) kd → keyOf kd = some k → DR K G v vd → DKs K G es kvs → DKs K G ((k, b, v) :: es) ((kd, vd) :: kvs)
inductive DFs (K : PySem.W.Frag) (G : Hp) : List (Str × V) → List (Dt × Dt) → Prop
  | nil : DFs K G [] []
  | cons {f : Str} {v : V} {vd : Dt} {fs : List (Str × V)} {kvs : List (Dt × Dt)} : DR K G v vd → DFs K G fs kvs → DFs K G ((f, v) :: fs) ((.str f, vd) :: kvs)
end
theorem sameT {K : PySem.W.Frag} {H H' : Hp} {a : Addr} {xs : List V} (e : Same H H') (h : SqT K H a xs) : SqT K H' a xs := by
  rcases h with (h | ⟨o, h⟩) | h
  · exact .inl (.inl (e _ _ h))
  · exact .inl (.inr ⟨o, e _ _ h⟩)
  · exact .inr h
section
variable {K : PySem.W.Frag} {G H : Hp}
mutual
theorem DR.same (s : Same G H) : ∀ {v : V} {d : Dt}, DR K G v d → DR K H v d
  | _, _, .non => .non
  | _, _, .bl b => .bl b
  | _, _, .int i => .int i
  | _, _, .str x => .str x
  | _, _, .lst a r => .lst (s _ _ a) (DRs.same s r)
  | _, _, .tup a r => .tup (sameT s a) (DRs.same s r)
  | _, _, .rfc a => .rfc (s _ _ a)
  | _, _, .dic a => .dic (s _ _ a)
  | _, _, .dct a r => .dct (s _ _ a) (DKs.same s r)
  | _, _, .err k a b l r => .err k (s _ _ a) (s _ _ b) l (DFs.same s r)
theorem DRs.same (s : Same G H) : ∀ {vs : List V} {ds : List Dt}, DRs K G vs ds → DRs K H vs ds
  | _, _, .nil => .nil
  | _, _, .cons a r => .cons (DR.same s a) (DRs.same s r)
theorem DKs.same (s : Same G H) : ∀ {es : List (NestedKey × Addr × V)} {kvs : List (Dt × Dt)}, DKs K G es kvs → DKs K H es kvs
  | _, _, .nil => .nil
  | _, _, .cons a e b r => .cons (DR.same s a) e (DR.same s b) (DKs.same s r)
theorem DFs.same (s : Same G H) : ∀ {fs : List (Str × V)} {kvs : List (Dt × Dt)}, DFs K G fs kvs → DFs K H fs kvs
  | _, _, .nil => .nil
  | _, _, .cons a r => .cons (DR.same s a) (DFs.same s r)
end
mutual
theorem DR.dp : ∀ {d : Dt} {v : V}, d.hasDict = false → DR K G v d → Dp K G v d
  | .none, _, _, h => by cases h; exact .non
  | .bool b, _, _, h => by cases h; exact .bl b
  | .int i, _, _, h => by cases h; exact .int i
  | .str x, _, _, h => by cases h; exact .str x
  | .list ds, _, n, h => by
    cases h with
    | lst a r => exact .lst (SqL.of a) (DRs.dp (by simpa only [PyData.hasDict] using n) r)
  | .tuple ds, _, n, h => by
    cases h with
    | tup a r => exact .tup a (DRs.dp (by simpa only [PyData.hasDict] using n) r)
  | .dict _, _, n, h => by simp [PyData.hasDict] at n
theorem DRs.dp : ∀ {ds : List Dt} {vs : List V}, PyData.hasDictAll ds = false → DRs K G vs ds → DpAll K G vs ds
  | [], _, _, h => by cases h; exact .nil
  | d :: ds, _, n, h => by
    cases h with
    | cons a r =>
      simp only [PyData.hasDictAll, Bool.or_eq_false_iff] at n
      exact .cons (DR.dp n.1 a) (DRs.dp n.2 r)
end
theorem DRs.length : ∀ {ds : List Dt} {vs : List V}, DRs K G vs ds → vs.length = ds.length
  | [], _, h => by cases h; rfl
  | d :: ds, _, h => by
    cases h with
    | cons a r => simp [DRs.length r]
theorem DRs.get : ∀ {ds : List Dt} {vs : List V} {i : Nat} {d : Dt}, DRs K G vs ds → ds[i]? = some d → ∃ v, vs[i]? = some v ∧ DR K G v d
  | [], _, i, d, h, e => by simp at e
  | d :: ds, _, i, d', h, e => by
    cases h with
    | cons a r =>
      cases i with
      | zero => simp at e; subst e; exact ⟨_, rfl, a⟩
      | succ i =>
        obtain ⟨v, h1, h2⟩ := DRs.get r (i := i) (by simpa using e)
        exact ⟨v, by simpa using h1, h2⟩
theorem DRs.append : ∀ {ds es : List Dt} {vs us : List V}, DRs K G vs ds → DRs K G us es → DRs K G (vs ++ us) (ds ++ es)
  | [], _, _, _, h, h' => by cases h; exact h'
  | d :: ds, _, _, _, h, h' => by
    cases h with
    | cons a r => exact .cons a (DRs.append r h')
theorem DRs.drop : ∀ {ds : List Dt} {vs : List V} (n : Nat), DRs K G vs ds → DRs K G (vs.drop n) (ds.drop n)
  | _, _, 0, h => h
  | [], _, n + 1, h => by cases h; exact .nil
  | d :: ds, _, n + 1, h => by
    cases h with
    | cons a r => exact DRs.drop n r
theorem DRs.take : ∀ {ds : List Dt} {vs : List V} (n : Nat), DRs K G vs ds → DRs K G (vs.take n) (ds.take n)
  | _, _, 0, h => .nil
  | [], _, n + 1, h => by cases h; exact .nil
  | d :: ds, _, n + 1, h => by
    cases h with
    | cons a r => exact .cons a (DRs.take n r)
theorem DRs.ints : ∀ (ns : List Int), DRs K G (ns.map V.int) (ns.map PyData.int)
  | [] => .nil
  | n :: ns => .cons (.int n) (DRs.ints ns)
theorem DRs.bools : ∀ (ns : List Bool), DRs K G (ns.map V.bl) (ns.map PyData.bool)
  | [] => .nil
  | n :: ns => .cons (.bl n) (DRs.bools ns)
end
theorem same_upd {H : Hp} {p : Addr} {o : HO} (n : H p = none) : Same H (upd H p o) := fun b u e => by
  rw [upd_ne (ne_of_none e n)]; exact e
theorem same_upd2 {G H : Hp} {p : Addr} {o : HO} (s : Same G H) : Same (upd G p o) (upd H p o) := fun b u e => by
  by_cases hb : b = p
  · subst hb; rw [upd_same] at e ⊢; exact e
  · rw [upd_ne hb] at e ⊢; exact s _ _ e
/-- nothing of G' is new but what was not there -/
def NewA (G H G' : Hp) : Prop := ∀ a o, G' a = some o → G a = some o ∨ H a = none
/-- .. and nothing of an instance -/
def New (G H G' : Hp) : Prop := ∀ a o, G' a = some o → G a = some o ∨ (H a = none ∧ ∀ b, o ≠ .own b)
theorem new_upd {G H : Hp} {p : Addr} {o : HO} (n : H p = none) (no : ∀ b, o ≠ .own b := by intro b e; cases e) : New G H (upd G p o) := fun a u e => by
  by_cases h : a = p
  · subst h; rw [upd_same] at e; cases e; exact .inr ⟨n, no⟩
  · rw [upd_ne h] at e; exact .inl e
theorem New.refl {G H : Hp} : New G H G := fun _ _ e => .inl e
theorem NewA.refl {G H : Hp} : NewA G H G := fun _ _ e => .inl e
theorem New.a {G H G' : Hp} (n : New G H G') : NewA G H G' := fun a o e => (n a o e).imp_right fun q => q.1
/-! ### the tables of code objects -/
/-- a datum is no code object -/
theorem codeO_ne {c : Addr} {q : Str} {a : Addr} {es : List (NestedKey × Addr × V)} {o : Obj} : LamX.CodeO c q ≠ DictO a es o := fun e => by
  unfold LamX.CodeO DictO at e
  have e1 := HO.ext.inj e
  have key : ∀ h : Heap, (∃ (oc : Obj) (vs : Array Value) (t : Tok), h.get? c = some oc ∧ oc.data = .fields vs ∧ vs[1]? = some (.str q t)) → ∃ (o : Obj) (ents : Array DictEntry) (ep : Nat), h.get? a = some o ∧ o.data = .dict ents ep := fun h hh => by
    have e2 : _ = _ := congrFun e1 h
    have hh' := e2 ▸ hh
    obtain ⟨_, _, _, xs, _, ents, ep, h1, _, h2, _⟩ := hh'
    exact ⟨o, ents, ep, h1, h2⟩
  have h0 := key ⟨Array.replicate (c + a + 1) { cls := .none, data := .fields #[.none, .str q default] }, {}⟩
  have g : ∀ b, b < c + a + 1 → (⟨Array.replicate (c + a + 1) { cls := .none, data := .fields #[.none, .str q default] }, {}⟩ : Heap).get? b = some { cls := .none, data := .fields #[.none, .str q default] } := fun b hb => by
    have e1 : (Array.replicate (c + a + 1) ({ cls := .none, data := .fields #[.none, .str q default] } : Obj))[b]? = some { cls := .none, data := .fields #[.none, .str q default] } := by
      rw [Array.getElem?_replicate, if_pos hb]
    simp only [Heap.get?, e1]
  obtain ⟨o, ents, ep, h1, h2⟩ := h0 ⟨_, _, default, g c (Nat.lt_succ_of_le (Nat.le_add_right c a)), rfl, rfl⟩
  rw [g a (Nat.lt_succ_of_le (Nat.le_add_left a c))] at h1
  cases h1
  cases h2
/-- the tables stand, and out of O -/
structure TbO (T L : List (Addr × Str)) (O H : Hp) : Prop where
  at_ : LamX.Tabs T H
  out : ∀ p ∈ T, O p.1 = none
  lam : ∀ p ∈ L, H p.1 = some (LamX.CodeO p.1 p.2)
/-- a thing that is no table and no code object -/
def Plain (o : HO) : Prop := (∀ ps, o ≠ .tbl ps) ∧ (∀ c q, o ≠ LamX.CodeO c q) ∧ ∀ b, o ≠ .own b
theorem plain_lst {xs : List V} : Plain (.lst xs) := ⟨fun _ e => (by cases e), fun _ _ e => (by unfold LamX.CodeO at e; cases e), fun _ e => (by cases e)⟩
theorem plain_dK {xs} : Plain (.dK xs) := ⟨fun _ e => (by cases e), fun _ _ e => (by unfold LamX.CodeO at e; cases e), fun _ e => (by cases e)⟩
theorem plain_dct {a es o} : Plain (DictO a es o) := ⟨fun _ e => (by unfold DictO at e; cases e), fun _ _ e => codeO_ne e.symm, fun _ e => (by unfold DictO at e; cases e)⟩
theorem tabs_upd {T : List (Addr × Str)} {H : Hp} {a : Addr} {o u : HO} (t : LamX.Tabs T H) (h : H a = some u ∧ Plain u ∨ H a = none) : LamX.Tabs T (upd H a o) := fun p hp => by
  obtain ⟨ps, h1, h2, h3⟩ := t p hp
  have n1 : p.1 ≠ a := fun e => by
    rw [e] at h1
    rcases h with ⟨h, z, _⟩ | h
    · rw [h] at h1; cases h1; exact z _ rfl
    · rw [h] at h1; cases h1
  refine ⟨ps, by rw [upd_ne n1]; exact h1, h2, fun pos cv hc => ?_⟩
  obtain ⟨c, e1, e2⟩ := h3 pos cv hc
  have n2 : c ≠ a := fun e => by
    rw [e] at e2
    rcases h with ⟨h, _, z, _⟩ | h
    · rw [h] at e2; cases e2; exact z _ _ rfl
    · rw [h] at e2; cases e2
  exact ⟨c, e1, by rw [upd_ne n2]; exact e2⟩
/-- the defs that may make lambdas -/
def lamU : List He.Defn := [("law", none), ("_law_right", none), ("_law_nine_right", none), ("_law_tiny_right", none), ("_law_refused_right", none), ("_law_begins_right", none), ("_law_stretch_right", none), ("_law_sum_right", none), ("_law_long_right", none), ("_law_times_right", none), ("_law_deed", none), ("_law_levels_right", none), ("_law_full_right", none), ("_law_none_right", none), ("_law_go", none), ("_law_first", none), ("_law_second", none), ("_law_third", none)]
def lamNm (p : He.Defn) : Str := p.1 ++ ".<locals>." ++ "<lambda>"
def hasFn (K : PySem.W.Frag) (p : He.Defn) : Bool := (match K.lookup (He.fAd K p) with | some ⟨_, _, .func _, _⟩ => true | _ => false) && (K.lookup (He.cT K p).2).isNone
def lamT (K : PySem.W.Frag) (tf : List He.Defn) : List (Addr × Str) := tf.map fun p => ((He.cT K p).2, lamNm p)
/-- their tables -/
def tabT (K : PySem.W.Frag) : List (Addr × Str) := lamT K (lamU.filter (hasFn K))
/-- what a thing of one's own holds: a datum, or a list of its own -/
inductive Cl where
  | d (x : Dt)
  | l (xs : List Dt)
/-! ### things that change, known by where they stand -/
structure Cell where
  c : Str
  fs : List (Str × Cl)
abbrev Sto := Addr → Option Cell
structure Sn where
  n : Nat
  st : Sto
instance : OfNat Sn 0 := ⟨⟨0, fun _ => none⟩⟩
/-! ### the machine of the draws -/
def mKvs (lc ll : Addr) (z : Int) : List (L2.Key × V) := [(.inr "cells", .ref lc), (.inr "left", .ref ll), (.inr "at", .int z)]
structure Mach (m : Addr) (n : Nat) (O H : Hp) : Prop where
  same : Same O H
  om : O m = none
  ex : ∃ (lc ll : Addr) (cs ls : List Int) (z : Int), O lc = none ∧ O ll = none ∧ lc ≠ ll ∧ H m = some (.dK (mKvs lc ll z)) ∧ H lc = some (.lst (cs.map V.int)) ∧ H ll = some (.lst (ls.map V.int)) ∧ 0 ≤ z ∧ z ≤ n ∧ cs.length ≤ 63 ∧ ls.length ≤ 63
def Good (mo : Option Addr) (n : Sn) (O H : Hp) : Prop := match mo with
  | none => Same O H
  | some m => Mach m n.n O H
theorem Good.same {mo : Option Addr} {n : Sn} {O H : Hp} (g : Good mo n O H) : Same O H := by
  cases mo with
  | none => exact g
  | some m => exact Mach.same g
/-- O and H changed alike at an address of O's, or at a free one -/
theorem Good.upd {mo : Option Addr} {n : Sn} {O H : Hp} {p : Addr} {o : HO} (g : Good mo n O H) (h : O p ≠ none ∨ H p = none) : Good mo n (upd O p o) (upd H p o) := by
  cases mo with
  | none => exact same_upd2 g
  | some m =>
    obtain ⟨s, om, lc, ll, cs, ls, z, h1, h2, h3, h4, h5, h6, r⟩ := g
    have ne : ∀ {q : Addr} {u : HO}, O q = none → H q = some u → q ≠ p := fun {q u} a b e => by
      subst e
      rcases h with h | h
      · exact h a
      · rw [h] at b; cases b
    exact ⟨same_upd2 s, by rw [upd_ne (ne om h4)]; exact om, lc, ll, cs, ls, z, by rw [upd_ne (ne h1 h5)]; exact h1, by rw [upd_ne (ne h2 h6)]; exact h2, h3, by rw [upd_ne (ne om h4)]; exact h4,
      by rw [upd_ne (ne h1 h5)]; exact h5, by rw [upd_ne (ne h2 h6)]; exact h6, r⟩
/-- the grown part -/
def grow (O H H' : Hp) : Hp := fun a => match H a with
  | none => H' a
  | some _ => O a
theorem grow_old {O H H' : Hp} {a : Addr} {o : HO} (h : H a = some o) : grow O H H' a = O a := by unfold grow; rw [h]
theorem grow_new {O H H' : Hp} {a : Addr} (h : H a = none) : grow O H H' a = H' a := by unfold grow; rw [h]
theorem grow_same {O H H' : Hp} (s : Same O H) : Same O (grow O H H') := fun a o e => by rw [grow_old (s _ _ e)]; exact e
theorem Good.grow {mo : Option Addr} {n : Sn} {O H H' : Hp} (g : Good mo n O H) (s : Same H H') : Good mo n (grow O H H') H' := by
  have sg : Same (VL.grow O H H') H' := fun a o e => by
    cases q : H a with
    | none => rw [grow_new q] at e; exact e
    | some u => rw [grow_old q] at e; rw [s _ _ q, ← q]; exact g.same _ _ e
  cases mo with
  | none => exact sg
  | some m =>
    obtain ⟨s0, om, lc, ll, cs, ls, z, h1, h2, h3, h4, h5, h6, r⟩ := g
    exact ⟨sg, by rw [grow_old h4]; exact om, lc, ll, cs, ls, z, by rw [grow_old h5]; exact h1, by rw [grow_old h6]; exact h2, h3, s _ _ h4, s _ _ h5, s _ _ h6, r⟩
theorem TbO.grow {T L : List (Addr × Str)} {O H H' : Hp} (t : TbO T L O H) (s : Same H H') : TbO T L (grow O H H') H' := ⟨t.at_.ext s, fun p hp => by
  obtain ⟨ps, h1, _⟩ := t.at_ p hp
  rw [grow_old h1]
  exact t.out p hp, fun p hp => s _ _ (t.lam p hp)⟩
theorem lam_upd {L : List (Addr × Str)} {H : Hp} {a : Addr} {o u : HO} (t : ∀ p ∈ L, H p.1 = some (LamX.CodeO p.1 p.2)) (h : H a = some u ∧ Plain u ∨ H a = none) : ∀ p ∈ L, upd H a o p.1 = some (LamX.CodeO p.1 p.2) := fun p hp => by
  have e := t p hp
  rw [upd_ne fun z => by
    rw [z] at e
    rcases h with ⟨h, _, q, _⟩ | h
    · rw [h] at e; exact q _ _ (Option.some.inj e)
    · rw [h] at e; cases e]
  exact e
theorem TbO.upd {T L : List (Addr × Str)} {O H : Hp} {a : Addr} {o u : HO} (t : TbO T L O H) (ho : O a = some u) (h : H a = some u) (p : Plain u) : TbO T L (upd O a o) (upd H a o) := ⟨tabs_upd t.at_ (.inl ⟨h, p⟩), fun q hq => by
  rw [upd_ne fun e => by have := t.out q hq; rw [e, ho] at this; cases this]
  exact t.out q hq, lam_upd t.lam (.inl ⟨h, p⟩)⟩
/-- an own error: its class's name, its fields -/
structure Exc where
  name : Str
  fs : List (Str × Dt)
def ExcAt (K : PySem.W.Frag) (G : Hp) (x : Exc) (cls : Value) (d : Option Addr) : Prop :=
  cls = .ref (He.ga K x.name) ∧ ∃ a fs, d = some a ∧ G a = some (.xd fs) ∧ ∀ f dv, x.fs.lookup f = some dv → ∃ v, fs.lookup f = some v ∧ DR K G v dv
theorem ExcAt.same {K : PySem.W.Frag} {G G' : Hp} {x : Exc} {cls : Value} {d : Option Addr} (s : Same G G') (h : ExcAt K G x cls d) : ExcAt K G' x cls d := by
  obtain ⟨h1, a, fs, h2, h3, h4⟩ := h
  refine ⟨h1, a, fs, h2, s _ _ h3, fun f dv e => ?_⟩
  obtain ⟨v, e1, r⟩ := h4 f dv e
  exact ⟨v, e1, DR.same s r⟩
/-! ### what a name stands for -/
inductive W where
  | dat (d : Dt)
  /-- a list of one's own: no other name, no datum has it -/
  | own (ds : List Dt)
  /-- the machine of the draws -/
  | tok
  /-- the script -/
  | scr (ns : List Int)
  /-- an error in hand: where it stands, what it is -/
  | err (p : Addr × Value × Option Addr) (x : Exc)
  /-- a lambda: where it stands, its code object and name -/
  | lam (f c : Addr) (q : Str) (mo : Option Addr) (G : Hp)
  /-- a dict of one's own -/
  | dct (kvs : List (Dt × Cl))
abbrev Nv := List (Option W)
structure Ct where
  K : PySem.W.Frag
  mo : Option Addr
  T : List (Addr × Str)
  L : List (Addr × Str)
  G0 : Hp
  O0 : Hp
  H0 : Hp
abbrev Ct.e (C : Ct) : Option Addr × List (Addr × Str) := (C.mo, C.L)
/-- it stands at a, of one's own -/
structure Ow (C : Ct) (G O : Hp) (a : Addr) (o : HO) : Prop where
  g : G a = none
  h0 : C.H0 a = none
  o : O a = some o
def RelC (K : PySem.W.Frag) (C : Ct) (G O : Hp) : Cl → V → List Addr → Prop
  | .d x, v, fp => DR K G v x ∧ fp = []
  | .l ds, v, fp => ∃ a xs, v = .ref a ∧ fp = [a] ∧ Ow C G O a (.lst xs) ∧ DRs K G xs ds
inductive DCs (K : PySem.W.Frag) (C : Ct) (G O : Hp) : List (NestedKey × Addr × V) → List (Dt × Cl) → List Addr → Prop
  | nil : DCs K C G O [] [] []
  | cons {k : NestedKey} {b : Addr} {v : V} {kd : Dt} {c : Cl} {fp fps : List Addr} {es : List (NestedKey × Addr × V)} {kvs : List (Dt × Cl)} : DR K G (.ref b) kd → keyOf kd = some k → RelC K C G O c v fp → (∀ x ∈ fp, x ∉ fps) → DCs K C G O es kvs fps → DCs K C G O ((k, b, v) :: es) ((kd, c) :: kvs) (fp ++ fps)
/-- the thing, and where it stands -/
def RelF (K : PySem.W.Frag) (C : Ct) (G O : Hp) : W → V → List Addr → Prop
  | .dat d, v, fp => DR K G v d ∧ fp = []
  | .own ds, v, fp => ∃ a xs, v = .ref a ∧ fp = [a] ∧ Ow C G O a (.lst xs) ∧ DRs K G xs ds
  | .tok, v, fp => (∃ m, C.mo = some m ∧ v = .ref m) ∧ fp = []
  | .scr ns, v, fp => (∃ a, v = .ref a ∧ SqL K G a (ns.map V.int)) ∧ fp = []
  | .err p x, v, fp => (v = .ref p.1 ∧ ExcAt K G x p.2.1 p.2.2) ∧ fp = []
  | .lam f c q mo G1, v, fp => (v = .ref f ∧ (c, q) ∈ C.L ∧ C.mo = mo ∧ Same G1 G) ∧ fp = []
  | .dct kvs, v, fp => ∃ a es fps ob, v = .ref a ∧ fp = a :: fps ∧ a ∉ fps ∧ Ow C G O a (DictO a es ob) ∧ DCs K C G O es kvs fps
def RelW (K : PySem.W.Frag) (C : Ct) (G O : Hp) : W → V → Prop
  | .dat d, v => DR K G v d
  | .own ds, v => ∃ a xs, v = .ref a ∧ G a = none ∧ C.H0 a = none ∧ O a = some (.lst xs) ∧ DRs K G xs ds
  | .tok, v => ∃ m, C.mo = some m ∧ v = .ref m
  | .scr ns, v => ∃ a, v = .ref a ∧ SqL K G a (ns.map V.int)
  | .err p x, v => v = .ref p.1 ∧ ExcAt K G x p.2.1 p.2.2
  | .lam f c q mo G1, v => v = .ref f ∧ (c, q) ∈ C.L ∧ C.mo = mo ∧ Same G1 G
  | .dct kvs, v => ∃ fp, RelF K C G O (.dct kvs) v fp
section
variable {K : PySem.W.Frag} {C C' : Ct} {G O H G' O' H' : Hp}
theorem RelF.w {w : W} {v : V} {fp : List Addr} (r : RelF K C G O w v fp) : RelW K C G O w v := by
  cases w with
  | dat d => exact r.1
  | own ds => obtain ⟨a, xs, e, _, o, q⟩ := r; exact ⟨a, xs, e, o.g, o.h0, o.o, q⟩
  | tok => exact r.1
  | scr ns => exact r.1
  | err p x => exact r.1
  | lam f c q mo G1 => exact r.1
  | dct kvs => exact ⟨fp, r⟩
theorem RelW.f {w : W} {v : V} (r : RelW K C G O w v) : ∃ fp, RelF K C G O w v fp := by
  cases w with
  | dat d => exact ⟨[], r, rfl⟩
  | own ds => obtain ⟨a, xs, e, h1, h2, h3, q⟩ := r; exact ⟨[a], a, xs, e, rfl, ⟨h1, h2, h3⟩, q⟩
  | tok => exact ⟨[], r, rfl⟩
  | scr ns => exact ⟨[], r, rfl⟩
  | err p x => exact ⟨[], r, rfl⟩
  | lam f c q mo G1 => exact ⟨[], r, rfl⟩
  | dct kvs => exact r
/-- the same places seen from elsewhere -/
structure Sees (C C' : Ct) (G O G' O' : Hp) (fp : List Addr) : Prop where
  sg : Same G G'
  at_ : ∀ b ∈ fp, O' b = O b ∧ G' b = none ∧ C'.H0 b = none
theorem Sees.sub {fp fp' : List Addr} (s : Sees C C' G O G' O' fp) (h : ∀ b ∈ fp', b ∈ fp) : Sees C C' G O G' O' fp' := ⟨s.sg, fun b hb => s.at_ b (h b hb)⟩
theorem Ow.see {a : Addr} {o : HO} {fp : List Addr} (w : Ow C G O a o) (s : Sees C C' G O G' O' fp) (h : a ∈ fp) : Ow C' G' O' a o := ⟨(s.at_ a h).2.1, (s.at_ a h).2.2, by rw [(s.at_ a h).1]; exact w.o⟩
theorem RelC.see {c : Cl} {v : V} {fp : List Addr} (r : RelC K C G O c v fp) (s : Sees C C' G O G' O' fp) : RelC K C' G' O' c v fp := by
  cases c with
  | d x => exact ⟨DR.same s.sg r.1, r.2⟩
  | l ds => obtain ⟨a, xs, e, e2, o, q⟩ := r; exact ⟨a, xs, e, e2, o.see s (by rw [e2]; exact List.mem_singleton.mpr rfl), DRs.same s.sg q⟩
theorem DCs.see {es : List (NestedKey × Addr × V)} {kvs : List (Dt × Cl)} {fp : List Addr} (r : DCs K C G O es kvs fp) (s : Sees C C' G O G' O' fp) : DCs K C' G' O' es kvs fp := by
  induction r with
  | nil => exact .nil
  | cons a e b d r ih => exact .cons (DR.same s.sg a) e (b.see (s.sub fun _ h => List.mem_append_left _ h)) d (ih (s.sub fun _ h => List.mem_append_right _ h))
theorem RelF.see {w : W} {v : V} {fp : List Addr} (r : RelF K C G O w v fp) (s : Sees C C' G O G' O' fp) (hm : C'.e = C.e) : RelF K C' G' O' w v fp := by
  cases w with
  | dat d => exact ⟨DR.same s.sg r.1, r.2⟩
  | own ds => obtain ⟨a, xs, e, e2, o, q⟩ := r; exact ⟨a, xs, e, e2, o.see s (by rw [e2]; exact List.mem_singleton.mpr rfl), DRs.same s.sg q⟩
  | tok => rw [RelF, show C'.mo = C.mo from congrArg Prod.fst hm]; exact r
  | lam f c q mo G1 => exact ⟨⟨r.1.1, by rw [show C'.L = C.L from congrArg Prod.snd hm]; exact r.1.2.1, by rw [show C'.mo = C.mo from congrArg Prod.fst hm]; exact r.1.2.2.1, r.1.2.2.2.trans s.sg⟩, r.2⟩
  | scr ns => obtain ⟨⟨a, e, h⟩, e2⟩ := r; exact ⟨⟨a, e, s.sg.seq h⟩, e2⟩
  | err p x => exact ⟨⟨r.1.1, r.1.2.same s.sg⟩, r.2⟩
  | dct kvs =>
    obtain ⟨a, es, fps, ob, e, e2, n, o, q⟩ := r
    exact ⟨a, es, fps, ob, e, e2, n, o.see s (by rw [e2]; exact List.mem_cons_self), q.see (s.sub fun _ h => by rw [e2]; exact List.mem_cons_of_mem _ h)⟩
theorem RelC.ow {c : Cl} {v : V} {fp : List Addr} (r : RelC K C G O c v fp) : ∀ b ∈ fp, ∃ o, Ow C G O b o ∧ Plain o := fun b hb => by
  cases c with
  | d x => rw [r.2] at hb; cases hb
  | l ds => obtain ⟨a, xs, e, e2, o, q⟩ := r; rw [e2] at hb; rw [List.mem_singleton.mp hb]; exact ⟨_, o, plain_lst⟩
theorem DCs.ow {es : List (NestedKey × Addr × V)} {kvs : List (Dt × Cl)} {fp : List Addr} (r : DCs K C G O es kvs fp) : ∀ b ∈ fp, ∃ o, Ow C G O b o ∧ Plain o := by
  induction r with
  | nil => intro b hb; cases hb
  | cons a e q d r ih =>
    intro b hb
    rcases List.mem_append.mp hb with h | h
    · exact q.ow b h
    · exact ih b h
theorem RelF.ow {w : W} {v : V} {fp : List Addr} (r : RelF K C G O w v fp) : ∀ b ∈ fp, ∃ o, Ow C G O b o ∧ Plain o := fun b hb => by
  cases w with
  | dat d => rw [r.2] at hb; cases hb
  | own ds => obtain ⟨a, xs, e, e2, o, q⟩ := r; rw [e2] at hb; rw [List.mem_singleton.mp hb]; exact ⟨_, o, plain_lst⟩
  | tok => rw [r.2] at hb; cases hb
  | scr ns => rw [r.2] at hb; cases hb
  | err p x => rw [r.2] at hb; cases hb
  | lam f c q mo G1 => rw [r.2] at hb; cases hb
  | dct kvs =>
    obtain ⟨a, es, fps, ob, e, e2, n, o, q⟩ := r
    rw [e2] at hb
    rcases List.mem_cons.mp hb with h | h
    · rw [h]; exact ⟨_, o, plain_dct⟩
    · exact q.ow b h
end
/-- the fields: data, and lists of their own -/
inductive FdOk (K : PySem.W.Frag) (G O H : Hp) : List (Str × V) → List (Str × Cl) → List Addr → Prop
  | nil : FdOk K G O H [] [] []
  | dat {f : Str} {v : V} {d : Dt} {es : List (Str × V)} {kvs : List (Str × Cl)} {ls : List Addr} : DR K G v d → FdOk K G O H es kvs ls → FdOk K G O H ((f, v) :: es) ((f, .d d) :: kvs) ls
  | lst {f : Str} {l : Addr} {xs : List V} {ds : List Dt} {es : List (Str × V)} {kvs : List (Str × Cl)} {ls : List Addr} : O l = none → H l = some (.lst xs) → DRs K G xs ds → l ∉ ls → FdOk K G O H es kvs ls → FdOk K G O H ((f, .ref l) :: es) ((f, .l ds) :: kvs) (l :: ls)
structure CellOk (K : PySem.W.Frag) (G O H : Hp) (a : Addr) (x : Cell) (ls : List Addr) : Prop where
  cl : ClsOk K x.c
  len : x.fs.length ≤ 1000
  ex : ∃ (dx : Addr) (vs : List (Str × V)), O a = none ∧ H a = some (.ins (He.ga K x.c) dx vs) ∧ G dx = some (.own a) ∧ FdOk K G O H vs x.fs ls
/-- what changes stands so -/
structure StoW (K : PySem.W.Frag) (mo : Option Addr) (st : Sto) (G O H : Hp) (L : Addr → List Addr) : Prop where
  at_ : ∀ a c, st a = some c → CellOk K G O H a c (L a)
  own : ∀ dx a, G dx = some (.own a) → ∃ c, st a = some c
  dis : ∀ a b c e, a ≠ b → st a = some c → st b = some e → ∀ x ∈ L a, x ∉ L b
  ap : ∀ a c, st a = some c → ∀ m lc ll z, mo = some m → H m = some (.dK (mKvs lc ll z)) → lc ∉ L a ∧ ll ∉ L a
def StoOk (K : PySem.W.Frag) (mo : Option Addr) (st : Sto) (G O H : Hp) : Prop := ∃ L, StoW K mo st G O H L
theorem FdOk.move {K : PySem.W.Frag} {G O H G' O' H' : Hp} {vs : List (Str × V)} {fs : List (Str × Cl)} {ls : List Addr} (x : FdOk K G O H vs fs ls) (sg : Same G G') (k : ∀ b ∈ ls, ∀ o, H b = some o → O b = none → (∀ qs, o ≠ .tbl qs) → O' b = none ∧ H' b = some o) : FdOk K G' O' H' vs fs ls := by
  induction x with
  | nil => exact .nil
  | dat r _ ih => exact .dat (DR.same sg r) (ih k)
  | lst o h r n _ ih => exact .lst (k _ List.mem_cons_self _ h o (fun _ e => by cases e)).1 (k _ List.mem_cons_self _ h o (fun _ e => by cases e)).2 (DRs.same sg r) n (ih fun b hb => k b (List.mem_cons_of_mem _ hb))
theorem CellOk.move {K : PySem.W.Frag} {G O H G' O' H' : Hp} {a : Addr} {c : Cell} {ls : List Addr} (x : CellOk K G O H a c ls) (sg : Same G G') (k : ∀ b, b = a ∨ b ∈ ls → ∀ o, H b = some o → O b = none → (∀ qs, o ≠ .tbl qs) → O' b = none ∧ H' b = some o) : CellOk K G' O' H' a c ls := by
  obtain ⟨kk, ln, dx, vs, o1, h1, g1, d⟩ := x
  exact ⟨kk, ln, dx, vs, (k _ (.inl rfl) _ h1 o1 (fun _ e => by cases e)).1, (k _ (.inl rfl) _ h1 o1 (fun _ e => by cases e)).2, sg _ _ g1, d.move sg fun b hb => k b (.inr hb)⟩
theorem StoOk.move' {K : PySem.W.Frag} {mo : Option Addr} {st : Sto} {n : Sn} {G O H G' O' H' : Hp} (x : StoOk K mo st G O H) (g : Good mo n O H) (sg : Same G G') (nw : ∀ dx a, G' dx = some (.own a) → G dx = some (.own a)) (k : ∀ b o, H b = some o → O b = none → (∀ qs, o ≠ .tbl qs) → O' b = none ∧ H' b = some o) : StoOk K mo st G' O' H' := by
  obtain ⟨L, x⟩ := x
  refine ⟨L, fun a c e => (x.at_ a c e).move sg fun b _ => k b, fun dx a e => x.own dx a (nw dx a e), x.dis, fun a c e m lc ll z em hm => ?_⟩
  subst em
  obtain ⟨_, om, lc', ll', cs, ls, z', _, _, _, h4, _⟩ := g
  have h5 := (k _ _ h4 om (fun _ e => by cases e)).2
  rw [h5] at hm
  rw [hm] at h5
  exact x.ap a c e m lc ll z rfl (by rw [h4]; exact hm)
theorem StoOk.move {K : PySem.W.Frag} {mo : Option Addr} {st : Sto} {n : Sn} {G O H G' O' H' : Hp} (x : StoOk K mo st G O H) (g : Good mo n O H) (sg : Same G G') (nw : ∀ dx a, G' dx = some (.own a) → G dx = some (.own a)) (k : ∀ b o, H b = some o → O b = none → O' b = none ∧ H' b = some o) : StoOk K mo st G' O' H' := x.move' g sg nw fun b o e z _ => k b o e z
/-- all but the names -/
structure Io (C : Ct) (n : Sn) (G O H : Hp) : Prop where
  good : Good C.mo n O H
  go : Same G O
  g0 : Same C.G0 G
  o0 : Same C.O0 O
  oh : Same C.O0 C.H0
  nO : NewA C.O0 C.H0 O
  nG : NewA C.G0 C.H0 G
  h0 : ∀ a, H a = none → C.H0 a = none
  tb : TbO C.T C.L O H
  sto : StoOk C.K C.mo n.st G O H
/-- the names stand for things that stand apart -/
structure Sl (K : PySem.W.Frag) (C : Ct) (σ : L2.St) (ρ : Nv) (G O : Hp) (F : Nat → List Addr) : Prop where
  at_ : ∀ (i : Nat) (w : W), ρ[i]? = some (some w) → ∃ v, σ[i]? = some (some v) ∧ RelF K C G O w v (F i)
  ap : ∀ (i j : Nat) (w u : W), i ≠ j → ρ[i]? = some (some w) → ρ[j]? = some (some u) → ∀ b ∈ F i, b ∉ F j
structure In (K : PySem.W.Frag) (C : Ct) (σ : L2.St) (ρ : Nv) (n : Sn) (G O H : Hp) : Prop extends Io C n G O H where
  ht : C.T = tabT K ∧ C.K = K
  len : σ.length = ρ.length
  sep : ∃ F, Sl K C σ ρ G O F
/-- a thing of one's own that no name has -/
def FrW (K : PySem.W.Frag) (C : Ct) (σ : L2.St) (ρ : Nv) (G O : Hp) (w : W) (v : V) : Prop :=
  ∃ F fp, Sl K C σ ρ G O F ∧ RelF K C G O w v fp ∧ ∀ (j : Nat) (u : W), ρ[j]? = some (some u) → ∀ b ∈ fp, b ∉ F j
theorem FrW.w {K : PySem.W.Frag} {C : Ct} {σ : L2.St} {ρ : Nv} {G O : Hp} {w : W} {v : V} (f : FrW K C σ ρ G O w v) : RelW K C G O w v := by
  obtain ⟨F, fp, _, r, _⟩ := f
  exact r.w
section
variable {K : PySem.W.Frag} {C C' : Ct} {σ : L2.St} {ρ : Nv} {n : Sn} {G O H G' O' H' : Hp} {F : Nat → List Addr}
theorem Io.oH (I : Io C n G O H) : Same O H := I.good.same
theorem Io.gH (I : Io C n G O H) : Same G H := I.go.trans I.oH
theorem In.slot (I : In K C σ ρ n G O H) (i : Nat) (w : W) (e : ρ[i]? = some (some w)) : ∃ v, σ[i]? = some (some v) ∧ RelW K C G O w v := by
  obtain ⟨F, S⟩ := I.sep
  obtain ⟨v, h1, h2⟩ := S.at_ i w e
  exact ⟨v, h1, h2.w⟩
theorem Sl.see (S : Sl K C σ ρ G O F) (sg : Same G G') (h : ∀ (i : Nat) (w : W), ρ[i]? = some (some w) → ∀ b ∈ F i, O' b = O b ∧ G' b = none ∧ C'.H0 b = none) (hm : C'.e = C.e) : Sl K C' σ ρ G' O' F :=
  ⟨fun i w e => by
    obtain ⟨v, h1, h2⟩ := S.at_ i w e
    exact ⟨v, h1, h2.see ⟨sg, h i w e⟩ hm⟩, S.ap⟩
theorem Sl.ow (S : Sl K C σ ρ G O F) {i : Nat} {w : W} (e : ρ[i]? = some (some w)) : ∀ b ∈ F i, ∃ o, Ow C G O b o ∧ Plain o := by
  obtain ⟨v, _, h⟩ := S.at_ i w e
  exact h.ow
theorem Io.pure (I : Io C n G O H) (sh : Same H H') (sg : Same G G') (sgh : Same G' H') (nw : New G H G') : Io C n G' (grow O H H') H' := by
  have hn : ∀ a, H' a = none → H a = none := fun a e => by
    cases q : H a with
    | none => rfl
    | some o => rw [sh _ _ q] at e; cases e
  refine ⟨I.good.grow sh, fun a o e => ?_, I.g0.trans sg, I.o0.trans (grow_same I.oH), I.oh, fun a o e => ?_, fun a o e => ?_, fun a e => I.h0 a (hn a e), I.tb.grow sh, I.sto.move I.good sg (fun dx a e => (nw dx _ e).elim _root_.id fun q => absurd rfl (q.2 a)) fun b o e z => ⟨by rw [grow_old e]; exact z, sh _ _ e⟩⟩
  · rcases nw a o e with q | q
    · rw [grow_old (I.gH _ _ q)]; exact I.go _ _ q
    · rw [grow_new q.1]; exact sgh _ _ e
  · cases q : H a with
    | none => exact .inr (I.h0 a q)
    | some u => rw [grow_old q] at e; exact I.nO a o e
  · rcases nw a o e with q | q
    · exact I.nG a o q
    · exact .inr (I.h0 a q.1)
theorem Sl.pure (S : Sl K C σ ρ G O F) (I : Io C n G O H) (sg : Same G G') (nw : New G H G') : Sl K C σ ρ G' (grow O H H') F := S.see sg (fun i w e b hb => by
  obtain ⟨o, w, _⟩ := S.ow e b hb
  have hh := I.oH _ _ w.o
  refine ⟨grow_old hh, ?_, w.h0⟩
  cases z : G' b with
  | none => rfl
  | some u =>
    rcases nw b u z with y | y
    · rw [w.g] at y; cases y
    · rw [hh] at y; cases y.1) rfl
theorem Io.stoUpd {a : Addr} {o u : HO} (I : Io C n G O H) (h : O a = some u) : StoOk C.K C.mo n.st G (upd O a o) (upd H a o) := I.sto.move I.good (Same.refl _) (fun _ _ e => e) fun b u e z => by
  have nb : b ≠ a := fun q => by rw [q, h] at z; cases z
  exact ⟨by rw [upd_ne nb]; exact z, by rw [upd_ne nb]; exact e⟩
/-- a step that changes nothing old -/
theorem In.pure (I : In K C σ ρ n G O H) (sh : Same H H') (sg : Same G G') (sgh : Same G' H') (nw : New G H G') : In K C σ ρ n G' (grow O H H') H' := by
  obtain ⟨F, S⟩ := I.sep
  exact ⟨I.toIo.pure sh sg sgh nw, I.ht, I.len, F, S.pure I.toIo sg nw⟩
/-- a new frozen thing -/
theorem In.new {p : Addr} {o : HO} (I : In K C σ ρ n G O H) (hp : H p = none) (no : ∀ b, o ≠ .own b := by intro b e; cases e) : In K C σ ρ n (upd G p o) (grow O H (upd H p o)) (upd H p o) :=
  I.pure (same_upd hp) (same_upd (by cases q : G p with | none => rfl | some u => rw [I.gH _ _ q] at hp; cases hp)) (same_upd2 I.gH) (new_upd hp no)
theorem In.gfree {p : Addr} (I : Io C n G O H) (hp : H p = none) : G p = none := by
  cases q : G p with | none => rfl | some u => rw [I.gH _ _ q] at hp; cases hp
theorem In.newSame {p : Addr} {o : HO} (I : Io C n G O H) (hp : H p = none) : Same G (upd G p o) := same_upd (In.gfree I hp)
theorem In.dat (I : In K C σ ρ n G O H) {v : V} {d : Dt} (r : DR K G v d) : FrW K C σ ρ G O (.dat d) v := by
  obtain ⟨F, S⟩ := I.sep
  exact ⟨F, [], S, ⟨r, rfl⟩, fun _ _ _ b hb => by cases hb⟩
/-- a name is given a thing -/
theorem In.setW (I : In K C σ ρ n G O H) (i : Nat) {v : V} {w : W} (f : FrW K C σ ρ G O w v) : In K C (σ.set i (some v)) (ρ.set i (some w)) n G O H := by
  obtain ⟨F, fp, S, r, ap⟩ := f
  have old : ∀ {j : Nat} {u : W}, i ≠ j → (ρ.set i (some w))[j]? = some (some u) → ρ[j]? = some (some u) := fun {j u} h e => by rw [List.getElem?_set_ne h] at e; exact e
  have lt : ∀ {u : W}, (ρ.set i (some w))[i]? = some (some u) → i < ρ.length ∧ u = w := fun {u} e => by
    by_cases hi : i < ρ.length
    · rw [List.getElem?_set_self hi] at e; cases e; exact ⟨hi, rfl⟩
    · rw [List.getElem?_eq_none (by simpa using hi)] at e; cases e
  refine ⟨I.toIo, I.ht, by simp [I.len], fun j => if j = i then fp else F j, fun j u e => ?_, fun j k u x jk e1 e2 b hb => ?_⟩
  · by_cases h : i = j
    · subst h
      obtain ⟨hi, rfl⟩ := lt e
      exact ⟨v, by rw [List.getElem?_set_self (by rw [I.len]; exact hi)], by rw [if_pos rfl]; exact r⟩
    · obtain ⟨u', h1, h2⟩ := S.at_ j u (old h e)
      exact ⟨u', by rw [List.getElem?_set_ne h]; exact h1, by rw [if_neg (Ne.symm h)]; exact h2⟩
  · try dsimp only at hb ⊢
    by_cases hj : i = j
    · subst hj
      rw [if_pos rfl] at hb
      rw [if_neg (Ne.symm jk)]
      exact ap k x (old jk e2) b hb
    · rw [if_neg (Ne.symm hj)] at hb
      by_cases hk : i = k
      · subst hk
        rw [if_pos rfl]
        exact fun z => ap j u (old hj e1) b z hb
      · rw [if_neg (Ne.symm hk)]
        exact S.ap j k u x jk (old hj e1) (old hk e2) b hb
/-- a name is given a datum -/
theorem In.set (I : In K C σ ρ n G O H) (i : Nat) {v : V} {d : Dt} (r : DR K G v d) : In K C (σ.set i (some v)) (ρ.set i (some (.dat d))) n G O H := I.setW i (I.dat r)
/-- a thing of one's own is changed at one of its places -/
theorem In.mutW (I : In K C σ ρ n G O H) (S : Sl K C σ ρ G O F) {i : Nat} {a : Addr} {w w' : W} {v : V} {o : HO} {fp : List Addr} (hi : ρ[i]? = some (some w)) (hs : σ[i]? = some (some v)) (ha : a ∈ F i) (r : RelF K C G (upd O a o) w' v fp) (sub : ∀ b ∈ fp, b ∈ F i) :
    In K C σ (ρ.set i (some w')) n G (upd O a o) (upd H a o) := by
  obtain ⟨oa, wa, pa⟩ := S.ow hi a ha
  have o0n : C.O0 a = none := by
    cases q : C.O0 a with | none => rfl | some u => have := I.oh _ _ q; rw [wa.h0] at this; cases this
  have hl : i < ρ.length := by
    by_cases hl : i < ρ.length
    · exact hl
    · rw [List.getElem?_eq_none (by simpa using hl)] at hi; cases hi
  have old : ∀ {j : Nat} {u : W}, i ≠ j → (ρ.set i (some w'))[j]? = some (some u) → ρ[j]? = some (some u) := fun {j u} h e => by rw [List.getElem?_set_ne h] at e; exact e
  refine ⟨⟨I.good.upd (.inl (by rw [wa.o]; simp)), fun b u e => ?_, I.g0, fun b u e => ?_, I.oh, fun b u e => ?_, I.nG, fun b e => ?_, I.tb.upd wa.o (I.oH _ _ wa.o) pa, I.sto.move I.good (Same.refl _) (fun _ _ e => e) fun b u e z => by
    have nb : b ≠ a := fun q => by rw [q, wa.o] at z; cases z
    exact ⟨by rw [upd_ne nb]; exact z, by rw [upd_ne nb]; exact e⟩⟩, I.ht, by simp [I.len], fun j => if j = i then fp else F j, fun j u e => ?_, fun j k u x jk e1 e2 b hb => ?_⟩
  · rw [upd_ne (ne_of_none e wa.g)]; exact I.go _ _ e
  · rw [upd_ne (ne_of_none e o0n)]; exact I.o0 _ _ e
  · by_cases hb : b = a
    · subst hb; exact .inr wa.h0
    · rw [upd_ne hb] at e; exact I.nO b u e
  · by_cases hb : b = a
    · subst hb; exact wa.h0
    · rw [upd_ne hb] at e; exact I.h0 b e
  · by_cases h : i = j
    · subst h
      rw [List.getElem?_set_self hl] at e
      cases e
      exact ⟨v, hs, by rw [if_pos rfl]; exact r⟩
    · have e' := old h e
      obtain ⟨u', h1, h2⟩ := S.at_ j u e'
      refine ⟨u', h1, ?_⟩
      rw [if_neg (Ne.symm h)]
      refine h2.see ⟨Same.refl _, fun b hb => ?_⟩ rfl
      obtain ⟨ob, wb, _⟩ := h2.ow b hb
      have nb : b ≠ a := fun z => by rw [z] at hb; exact S.ap i j w u h hi e' a ha hb
      exact ⟨upd_ne nb, wb.g, wb.h0⟩
  · try dsimp only at hb ⊢
    by_cases hj : i = j
    · subst hj
      rw [if_pos rfl] at hb
      rw [if_neg (Ne.symm jk)]
      exact S.ap i k w x jk hi (old jk e2) b (sub b hb)
    · rw [if_neg (Ne.symm hj)] at hb
      by_cases hk : i = k
      · subst hk
        rw [if_pos rfl]
        exact fun z => S.ap i j w u hj hi (old hj e1) b (sub b z) hb
      · rw [if_neg (Ne.symm hk)]
        exact S.ap j k u x jk (old hj e1) (old hk e2) b hb
/-- one's own list is changed -/
theorem In.mut (I : In K C σ ρ n G O H) {i : Nat} {a : Addr} {ds es : List Dt} {xs ys : List V} (hi : ρ[i]? = some (some (.own ds))) (hs : σ[i]? = some (some (.ref a))) (g : G a = none) (h0 : C.H0 a = none) (o : O a = some (.lst xs)) (r : DRs K G ys es) :
    In K C σ (ρ.set i (some (.own es))) n G (upd O a (.lst ys)) (upd H a (.lst ys)) := by
  obtain ⟨F, S⟩ := I.sep
  obtain ⟨v, e1, b, zs, e2, e3, w, q⟩ := S.at_ i _ hi
  rw [hs] at e1
  cases e1
  cases e2
  exact I.mutW S hi hs (by rw [e3]; exact List.mem_singleton.mpr rfl) ⟨a, ys, rfl, rfl, ⟨g, h0, upd_same⟩, r⟩ (by rw [e3]; exact fun b hb => hb)
/-! what is one's own becomes a datum -/
def fzC : Cl → Dt
  | .d x => x
  | .l ds => .list ds
def fzW : W → Dt
  | .dat d => d
  | .own ds => .list ds
  | .dct kvs => .dict ((.none, .none) :: kvs.map fun p => (p.1, fzC p.2))
  | _ => .none
open Classical in
noncomputable def frz (G O : Hp) (fp : List Addr) : Hp := fun a => if a ∈ fp then O a else G a
theorem frz_in {fp : List Addr} {a : Addr} (h : a ∈ fp) : frz G O fp a = O a := if_pos h
theorem frz_out {fp : List Addr} {a : Addr} (h : a ∉ fp) : frz G O fp a = G a := if_neg h
theorem frz_same {fp : List Addr} (h : ∀ b ∈ fp, G b = none) : Same G (frz G O fp) := fun a o e => by
  by_cases ha : a ∈ fp
  · rw [h a ha] at e; cases e
  · rw [frz_out ha]; exact e
theorem RelC.frz {c : Cl} {v : V} {fp fp' : List Addr} (r : RelC K C G O c v fp) (h : ∀ b ∈ fp, b ∈ fp') (s : Same G (frz G O fp')) : DR K (frz G O fp') v (fzC c) := by
  cases c with
  | d x => exact DR.same s r.1
  | l ds =>
    obtain ⟨a, xs, rfl, rfl, o, q⟩ := r
    exact .lst (by rw [frz_in (h a (List.mem_singleton.mpr rfl))]; exact o.o) (DRs.same s q)
theorem DCs.frz {es : List (NestedKey × Addr × V)} {kvs : List (Dt × Cl)} {fp fp' : List Addr} (r : DCs K C G O es kvs fp) (h : ∀ b ∈ fp, b ∈ fp') (s : Same G (frz G O fp')) : DKs K (frz G O fp') es (kvs.map fun p => (p.1, fzC p.2)) := by
  induction r with
  | nil => exact .nil
  | cons a e b d r ih => exact .cons (DR.same s a) e (b.frz (fun x hx => h x (List.mem_append_left _ hx)) s) (ih fun x hx => h x (List.mem_append_right _ hx))
/-- what can become a datum -/
def isOwn : W → Bool
  | .dat _ => true
  | .own _ => true
  | .dct _ => true
  | _ => false
theorem RelF.frz {w : W} {v : V} {fp : List Addr} (r : RelF K C G O w v fp) (h : isOwn w = true) : Same G (frz G O fp) ∧ DR K (frz G O fp) v (fzW w) := by
  have s : Same G (VL.frz G O fp) := frz_same fun b hb => by obtain ⟨_, o, _⟩ := r.ow b hb; exact o.g
  refine ⟨s, ?_⟩
  cases w with
  | dat d => exact DR.same s r.1
  | own ds =>
    obtain ⟨a, xs, rfl, rfl, o, q⟩ := r
    exact .lst (by rw [frz_in (List.mem_singleton.mpr rfl)]; exact o.o) (DRs.same s q)
  | dct kvs =>
    obtain ⟨a, es, fps, ob, rfl, rfl, n, o, q⟩ := r
    exact .dct (by rw [frz_in List.mem_cons_self]; exact o.o) (q.frz (fun b hb => List.mem_cons_of_mem _ hb) s)
  | tok => cases h
  | scr ns => cases h
  | err p x => cases h
  | lam f c q mo G1 => cases h
theorem Io.frz (I : Io C n G O H) {fp : List Addr} (h : ∀ b ∈ fp, ∃ o, Ow C G O b o ∧ Plain o) : Io C n (VL.frz G O fp) O H := by
  refine ⟨I.good, fun b u e => ?_, I.g0.trans (frz_same fun b hb => by obtain ⟨_, o, _⟩ := h b hb; exact o.g), I.o0, I.oh, I.nO, fun b u e => ?_, I.h0, I.tb, I.sto.move I.good (frz_same fun b hb => by obtain ⟨_, o, _⟩ := h b hb; exact o.g) (fun dx a e => by
    by_cases hb : dx ∈ fp
    · obtain ⟨o, w, p⟩ := h dx hb
      rw [frz_in hb, w.o] at e
      exact absurd (Option.some.inj e) (p.2.2 a)
    · rw [frz_out hb] at e; exact e) fun b u e z => ⟨z, e⟩⟩
  · by_cases hb : b ∈ fp
    · rw [frz_in hb] at e; exact e
    · rw [frz_out hb] at e; exact I.go _ _ e
  · by_cases hb : b ∈ fp
    · obtain ⟨_, o, _⟩ := h b hb; exact .inr o.h0
    · rw [frz_out hb] at e; exact I.nG b u e
theorem Sl.frz (S : Sl K C σ ρ G O F) {fp : List Addr} (h : ∀ b ∈ fp, G b = none) (ap : ∀ (j : Nat) (u : W), ρ[j]? = some (some u) → ∀ b ∈ fp, b ∉ F j) : Sl K C σ ρ (VL.frz G O fp) O F := S.see (frz_same h) (fun i w e b hb => by
  obtain ⟨o, q, _⟩ := S.ow e b hb
  exact ⟨rfl, by rw [frz_out fun z => ap i w e b z hb]; exact q.g, q.h0⟩) rfl
/-- a thing of one's own that no name has becomes a datum -/
theorem In.frzW (I : In K C σ ρ n G O H) {w : W} {v : V} (f : FrW K C σ ρ G O w v) (h : isOwn w = true) : ∃ G', In K C σ ρ n G' O H ∧ Same G G' ∧ DR K G' v (fzW w) := by
  obtain ⟨F, fp, S, r, ap⟩ := f
  obtain ⟨s, d⟩ := r.frz h
  exact ⟨_, ⟨I.toIo.frz r.ow, I.ht, I.len, F, S.frz (fun b hb => by obtain ⟨_, o, _⟩ := r.ow b hb; exact o.g) ap⟩, s, d⟩
/-- the thing of a name becomes a datum -/
theorem In.frzS (I : In K C σ ρ n G O H) {i : Nat} {w : W} (hi : ρ[i]? = some (some w)) (h : isOwn w = true) : ∃ G', Same G G' ∧ In K C σ (ρ.set i (some (.dat (fzW w)))) n G' O H := by
  obtain ⟨F, S⟩ := I.sep
  obtain ⟨v, hs, r⟩ := S.at_ i w hi
  obtain ⟨s, d⟩ := r.frz h
  have hl : i < ρ.length := by
    by_cases hl : i < ρ.length
    · exact hl
    · rw [List.getElem?_eq_none (by simpa using hl)] at hi; cases hi
  have old : ∀ {j : Nat} {u : W}, i ≠ j → (ρ.set i (some (.dat (fzW w))))[j]? = some (some u) → ρ[j]? = some (some u) := fun {j u} h e => by rw [List.getElem?_set_ne h] at e; exact e
  refine ⟨_, s, I.toIo.frz r.ow, I.ht, by simp [I.len], fun j => if j = i then [] else F j, fun j u e => ?_, fun j k u x jk e1 e2 b hb => ?_⟩
  · by_cases h : i = j
    · subst h
      rw [List.getElem?_set_self hl] at e
      cases e
      exact ⟨v, hs, by rw [if_pos rfl]; exact ⟨d, rfl⟩⟩
    · have e' := old h e
      obtain ⟨u', h1, h2⟩ := S.at_ j u e'
      refine ⟨u', h1, ?_⟩
      rw [if_neg (Ne.symm h)]
      refine h2.see ⟨s, fun b hb => ?_⟩ rfl
      obtain ⟨ob, wb, _⟩ := h2.ow b hb
      exact ⟨rfl, by rw [frz_out fun z => S.ap i j w u h hi e' b z hb]; exact wb.g, wb.h0⟩
  · try dsimp only at hb ⊢
    by_cases hj : i = j
    · subst hj; rw [if_pos rfl] at hb; cases hb
    · rw [if_neg (Ne.symm hj)] at hb
      by_cases hk : i = k
      · subst hk; rw [if_pos rfl]; intro z; cases z
      · rw [if_neg (Ne.symm hk)]
        exact S.ap j k u x jk (old hj e1) (old hk e2) b hb
/-- one's own list becomes a datum -/
theorem In.frz (I : In K C σ ρ n G O H) {i : Nat} {ds : List Dt} (hi : ρ[i]? = some (some (.own ds))) : ∃ G', Same G G' ∧ In K C σ (ρ.set i (some (.dat (.list ds)))) n G' O H := I.frzS hi rfl
end
end VL


set_option maxRecDepth 100000
set_option maxHeartbeats 2000000
namespace VL
open PySem PySem.Spec PyProof.Rows L2
abbrev XW := Exc → Sn → Prop
abbrev VT := Nv → Sn → (Dt → Sn → Prop) → XW → Prop
abbrev VB := Nv → Sn → (Bool → Sn → Prop) → XW → Prop
abbrev VA := Nv → Sn → (List Dt → Sn → Prop) → XW → Prop
/-- what an error's wish tells the frame -/
def LkX (K : PySem.W.Frag) (U : WX) (C : Ct) (σ : L2.St) (ρ : Nv) (E0 : XW) : Prop :=
  ∀ x n', E0 x n' → ∀ cls d G' O' H', In K C σ ρ n' G' O' H' → ExcAt K G' x cls d → U cls d σ H'
def up (K : PySem.W.Frag) (U : WX) (t : VT) : TE := fun σ H Q => ∃ (C : Ct) (ρ : Nv) (n : Sn) (G O : Hp) (Q0 : Dt → Sn → Prop) (E0 : XW), In K C σ ρ n G O H ∧ t ρ n Q0 E0 ∧
  (∀ d n', Q0 d n' → ∀ v G' O' H', In K C σ ρ n' G' O' H' → Same G G' → DR K G' v d → Q v H') ∧ LkX K U C σ ρ E0
def upB (K : PySem.W.Frag) (U : WX) (t : VB) : TT := fun σ H Q => ∃ (C : Ct) (ρ : Nv) (n : Sn) (G O : Hp) (Q0 : Bool → Sn → Prop) (E0 : XW), In K C σ ρ n G O H ∧ t ρ n Q0 E0 ∧
  (∀ b n', Q0 b n' → ∀ G' O' H', In K C σ ρ n' G' O' H' → Same G G' → Q b H') ∧ LkX K U C σ ρ E0
def upA (K : PySem.W.Frag) (U : WX) (t : VA) : TA := fun σ H Q => ∃ (C : Ct) (ρ : Nv) (n : Sn) (G O : Hp) (Q0 : List Dt → Sn → Prop) (E0 : XW), In K C σ ρ n G O H ∧ t ρ n Q0 E0 ∧
  (∀ ds n', Q0 ds n' → ∀ vs G' O' H', In K C σ ρ n' G' O' H' → Same G G' → DRs K G' vs ds → Q vs H') ∧ LkX K U C σ ρ E0
/-- a fresh list of one's own -/
def Fresh (C : Ct) (σ : L2.St) (ρ : Nv) (K : PySem.W.Frag) (G O : Hp) (a : Addr) (ds : List Dt) : Prop := FrW K C σ ρ G O (.own ds) (.ref a)
def upO (K : PySem.W.Frag) (U : WX) (t : VA) : TE := fun σ H Q => ∃ (C : Ct) (ρ : Nv) (n : Sn) (G O : Hp) (Q0 : List Dt → Sn → Prop) (E0 : XW), In K C σ ρ n G O H ∧ t ρ n Q0 E0 ∧
  (∀ ds n', Q0 ds n' → ∀ a G' O' H', In K C σ ρ n' G' O' H' → Same G G' → Fresh C σ ρ K G' O' a ds → Q (.ref a) H') ∧ LkX K U C σ ρ E0
abbrev VE (X : Cx) (U : WX) (e : Expr) (t : VT) : Prop := PE X e (up X.K U t)
abbrev VTt (X : Cx) (U : WX) (e : Expr) (t : VB) : Prop := PT X e (upB X.K U t)
abbrev VW (X : Cx) (U : WX) (e : Expr) (t : VB) : Prop := PW X e (upB X.K U t)
abbrev VAa (X : Cx) (U : WX) (es : List Expr) (t : VA) : Prop := PA X es (upA X.K U t)
abbrev VO (X : Cx) (U : WX) (e : Expr) (t : VA) : Prop := PE X e (upO X.K U t)
theorem pe_imp {X : Cx} {e : Expr} {t t' : TE} (h : PE X e t) (w : ∀ σ H Q, t' σ H Q → t σ H Q) : PE X e t' := ⟨fun pins s σ H Q I q => h.run pins s σ H Q I (w _ _ _ q)⟩
theorem pt_imp {X : Cx} {e : Expr} {t t' : TT} (h : PT X e t) (w : ∀ σ H Q, t' σ H Q → t σ H Q) : PT X e t' := ⟨fun pins s σ H Q I q => h.run pins s σ H Q I (w _ _ _ q)⟩
theorem pw_imp {X : Cx} {e : Expr} {t t' : TT} (h : PW X e t) (w : ∀ σ H Q, t' σ H Q → t σ H Q) : PW X e t' := ⟨fun wh pins s σ H Q I q => h.run wh pins s σ H Q I (w _ _ _ q)⟩
theorem pa_imp {X : Cx} {e : List Expr} {t t' : TA} (h : PA X e t) (w : ∀ σ H Q, t' σ H Q → t σ H Q) : PA X e t' := ⟨fun pos pins s σ H Q I q => h.run pos pins s σ H Q I (w _ _ _ q)⟩
theorem ps_imp {X : Cx} {e : Stmt} {t t' : TS} (h : PS X e t) (w : ∀ D σ H, t' D σ H → t D σ H) : PS X e t' := ⟨fun pins s σ H D I q => h.run pins s σ H D I (w _ _ _ q)⟩
theorem pss_imp {X : Cx} {e : List Stmt} {t t' : TS} (h : PSs X e t) (w : ∀ D σ H, t' D σ H → t D σ H) : PSs X e t' := ⟨fun pins s σ H D I q => h.run pins s σ H D I (w _ _ _ q)⟩
section
variable {X : Cx} {U : WX} {a b c e : Expr} {es rest : List Expr} {pos : Pos} {ta tb tc : VT} {xa xb : VB} {al : VA}
/-! ### names, constants -/
def vVar (i : Nat) : VT := fun ρ n Q _ => match ρ[i]? with
  | some (some (.dat d)) => Q d n
  | _ => False
def vC (d : Dt) : VT := fun _ n Q _ => Q d n
theorem ve_of {t : TE} {u : VT} (h : PE X e t) (w : ∀ C σ ρ n G O H Q Q0 E0, In X.K C σ ρ n G O H → u ρ n Q0 E0 → (∀ d n', Q0 d n' → ∀ v G' O' H', In X.K C σ ρ n' G' O' H' → Same G G' → DR X.K G' v d → Q v H') → LkX X.K U C σ ρ E0 → t σ H Q) : VE X U e u :=
  pe_imp h fun σ H Q ⟨C, ρ, n, G, O, Q0, E0, I, h1, h2, h3⟩ => w C σ ρ n G O H Q Q0 E0 I h1 h2 h3
theorem ve_var (i : Nat) {x : Str} (hN : X.N[i]? = some x := by rfl) (hv : Vis X.env.scope x := by first | exact Or.inl rfl | exact Or.inr (Or.inl rfl) | exact Or.inr (Or.inr rfl)) (hd : (x == ("__debug__" : Str)) = false := by decide)
    (hcd : (x == ("__classdict__" : Str)) = false := by decide) : VE X U (.Name x pos) (vVar i) := by
  refine ve_of (pe_var hN hv hd hcd) fun C σ ρ n G O H Q Q0 E0 I h hq _ => ?_
  unfold vVar at h
  split at h
  · next d e =>
    obtain ⟨v, e1, r⟩ := I.slot i _ e
    exact ⟨v, e1, hq d n h v G O H I (Same.refl _) r⟩
  · exact h.elim
theorem ve_const {d : Dt} {v : V} (h : PE X e (tC v)) (r : ∀ G, DR X.K G v d) : VE X U e (vC d) :=
  ve_of h fun C σ ρ n G O H Q Q0 E0 I h hq _ => hq d n h v G O H I (Same.refl _) (r G)
theorem ve_int {i j} : VE X U (.Constant (.int i) j pos) (vC (.int i)) := ve_const pe_int fun _ => .int i
theorem ve_bl {i j} : VE X U (.Constant (.bool i) j pos) (vC (.bool i)) := ve_const pe_bl fun _ => .bl i
theorem ve_non {j} : VE X U (.Constant .none j pos) (vC .none) := ve_const pe_non fun _ => .non
theorem ve_str {x j} : VE X U (.Constant (.str x) j pos) (vC (.str x)) := ve_const pe_str fun _ => .str x
theorem ve_gint {x : Str} {i : Int} (hg : Gl X x) (hm : ∃ t, X.mg x = some (.int i t)) (hd : (x == ("__debug__" : Str)) = false := by decide) : VE X U (.Name x pos) (vC (.int i)) := by
  obtain ⟨t, hm⟩ := hm
  exact ve_const (v := .int i) (pe_glob (v := .int i) hg hm ⟨t, rfl⟩ hd) fun _ => .int i
/-! ### operators -/
abbrev R2D := Dt → Dt → (Dt → Prop) → Prop
def lift2 (K : PySem.W.Frag) (r : R2D) : R2 := fun x y H Q => ∃ G d1 d2 Q0, Same G H ∧ DR K G x d1 ∧ DR K G y d2 ∧ r d1 d2 Q0 ∧
  ∀ d, Q0 d → ∀ v G' H', Same H H' → Same G G' → Same G' H' → New G H G' → DR K G' v d → Q v H'
abbrev VOp (X : Cx) (f : Value → Value → Sem Value) (r : R2D) : Prop := OpR X f (lift2 X.K r)
def vOp (r : R2D) (ta tb : VT) : VT := fun ρ n Q E => ta ρ n (fun d1 n1 => tb ρ n1 (fun d2 n2 => r d1 d2 fun d => Q d n2) E) E
theorem up_op {r : R2D} : ∀ σ H Q, up X.K U (vOp r ta tb) σ H Q → tOp (lift2 X.K r) (up X.K U ta) (up X.K U tb) σ H Q :=
  fun σ H Q ⟨C, ρ, n, G, O, Q0, E0, I, h, hq, he⟩ => ⟨C, ρ, n, G, O, _, E0, I, h, fun d1 n1 h1 v1 G1 O1 H1 I1 s1 r1 => ⟨C, ρ, n1, G1, O1, _, E0, I1, h1, fun d2 n2 h2 v2 G2 O2 H2 I2 s2 r2 =>
    ⟨G2, d1, d2, _, I2.gH, DR.same s2 r1, r2, h2, fun d hd v G' H' sh sg sgh nw rd => hq d n2 hd v G' _ H' (I2.pure sh sg sgh nw) ((s1.trans s2).trans sg) rd⟩, he⟩, he⟩
theorem ve_op {op : Operator} {r : R2D} (ho : VOp X (binaryOp op) r) (ha : VE X U a ta) (hb : VE X U b tb) : VE X U (.BinOp a op b pos) (vOp r ta tb) := pe_imp (pe_op ho ha hb) up_op
theorem ve_cmp {op : CmpOp} {r : R2D} (ho : VOp X (compareOp op) r) (ha : VE X U a ta) (hb : VE X U b tb) (hm : behindInMarks op b = false := by first | exact nomark _ | rfl) : VE X U (.Compare a [op] [b] pos) (vOp r ta tb) := pe_imp (pe_cmpR ho ha hb hm) up_op
/-- a value as a test -/
def isB (Q : Bool → Prop) : Dt → Prop
  | .bool b => Q b
  | _ => False
def vTest (t : VT) : VB := fun ρ n Q E => t ρ n (fun d n' => isB (fun b => Q b n') d) E
theorem vt_cmp {op : CmpOp} {r : R2D} (ho : VOp X (compareOp op) r) (ha : VE X U a ta) (hb : VE X U b tb) (hm : behindInMarks op b = false := by first | exact nomark _ | rfl) : VTt X U (.Compare a [op] [b] pos) (vTest (vOp r ta tb)) :=
  pt_imp (pt_cmpR ho ha hb hm) fun σ H Q h => by
    obtain ⟨C, ρ, n, G, O, Q0, E0, I, h, hq, he⟩ := h
    refine up_op σ H _ ⟨C, ρ, n, G, O, _, E0, I, h, fun d n' h1 v G' O' H' I' s' r' => ?_, he⟩
    cases d with
    | bool b => cases r'; exact ⟨b, rfl, hq b n' h1 G' O' H' I' s'⟩
    | _ => exact h1.elim
theorem vt_val {t : VT} (h : VE X U e t) (he : ∀ whole, isTrue e X.env whole = (do let v ← whole; standAt e.pos; holding [v] (truthy v)) := by intro _; rfl) : VTt X U e (vTest t) :=
  pt_imp (pt_val h he) fun σ H Q ⟨C, ρ, n, G, O, Q0, E0, I, h, hq, he⟩ => ⟨C, ρ, n, G, O, _, E0, I, h, fun d n' h1 v G' O' H' I' s' r' => by
    cases d with
    | bool b => cases r'; exact ⟨b, rfl, hq b n' h1 G' O' H' I' s'⟩
    | _ => exact h1.elim, he⟩
/-- a chain of two comparisons -/
def vChain (r r' : R2D) (ta tb tc : VT) : VT := fun ρ n Q E => ta ρ n (fun d1 n1 => tb ρ n1 (fun d2 n2 => r d1 d2 (isB fun k => if k = true then tc ρ n2 (fun d3 n3 => r' d2 d3 fun d => Q d n3) E else Q (.bool false) n2)) E) E
theorem up_chain {r r' : R2D} : ∀ σ H Q, up X.K U (vChain r r' ta tb tc) σ H Q → tChain (lift2 X.K r) (lift2 X.K r') (up X.K U ta) (up X.K U tb) (up X.K U tc) σ H Q :=
  fun σ H Q ⟨C, ρ, n, G, O, Q0, E0, I, h, hq, he⟩ => ⟨C, ρ, n, G, O, _, E0, I, h, fun d1 n1 h1 v1 G1 O1 H1 I1 s1 r1 => ⟨C, ρ, n1, G1, O1, _, E0, I1, h1, fun d2 n2 h2 v2 G2 O2 H2 I2 s2 r2 =>
    ⟨G2, d1, d2, _, I2.gH, DR.same s2 r1, r2, h2, fun d hd v G3 H3 sh sg sgh nw rd => by
      cases d with
      | bool k =>
        cases rd
        refine ⟨k, rfl, ?_⟩
        have I3 := I2.pure sh sg sgh nw
        cases k with
        | true =>
          rw [if_pos rfl]
          have hd' : tc ρ n2 (fun d3 n3 => r' d2 d3 fun d => Q0 d n3) E0 := hd
          exact ⟨C, ρ, n2, G3, _, _, E0, I3, hd', fun d3 n3 h3 v3 G4 O4 H4 I4 s4 r3 => ⟨G4, d2, d3, _, I4.gH, DR.same (sg.trans s4) r2, r3, h3, fun d hd v G5 H5 sh5 sg5 sgh5 nw5 rd => hq d n3 hd v G5 _ H5 (I4.pure sh5 sg5 sgh5 nw5) ((((s1.trans s2).trans sg).trans s4).trans sg5) rd⟩, he⟩
        | false =>
          rw [if_neg Bool.false_ne_true]
          have hd' : Q0 (.bool false) n2 := hd
          exact hq _ n2 hd' _ G3 _ H3 I3 ((s1.trans s2).trans sg) (.bl false)
      | _ => exact False.elim hd⟩, he⟩, he⟩
theorem ve_chain {op op' : CmpOp} {r r' : R2D} (ho : VOp X (compareOp op) r) (ho' : VOp X (compareOp op') r') (ha : VE X U a ta) (hb : VE X U b tb) (hc : VE X U c tc) (hm : lastMarks [op, op'] [b, c] = false := by with_unfolding_all rfl) :
    VE X U (.Compare a [op, op'] [b, c] pos) (vChain r r' ta tb tc) := pe_imp (pe_chain ho ho' ha hb hc hm) up_chain
theorem vt_chain {op op' : CmpOp} {r r' : R2D} (ho : VOp X (compareOp op) r) (ho' : VOp X (compareOp op') r') (ha : VE X U a ta) (hb : VE X U b tb) (hc : VE X U c tc) (hm : lastMarks [op, op'] [b, c] = false := by with_unfolding_all rfl) :
    VTt X U (.Compare a [op, op'] [b, c] pos) (vTest (vChain r r' ta tb tc)) := pt_imp (pt_chain ho ho' ha hb hc hm) fun σ H Q h => by
    obtain ⟨C, ρ, n, G, O, Q0, E0, I, h, hq, he⟩ := h
    refine up_chain σ H _ ⟨C, ρ, n, G, O, _, E0, I, h, fun d n' h1 v G' O' H' I' s' r' => ?_, he⟩
    cases d with
    | bool b => cases r'; exact ⟨b, rfl, hq b n' h1 G' O' H' I' s'⟩
    | _ => exact h1.elim
/-! ### one-place operators -/
abbrev R1D := Dt → (Dt → Prop) → Prop
def vUn (r : R1D) (ta : VT) : VT := fun ρ n Q E => ta ρ n (fun d1 n1 => r d1 fun d => Q d n1) E
def dNeg : R1D := fun d Q => match d with
  | .int i => Q (.int (-i))
  | _ => False
theorem ve_neg (ha : VE X U a ta) : VE X U (.UnaryOp .USub a pos) (vUn dNeg ta) :=
  pe_imp (pe_un un_neg ha) fun σ H Q ⟨C, ρ, n, G, O, Q0, E0, I, h, hq, he⟩ => ⟨C, ρ, n, G, O, _, E0, I, h, fun d n' h1 v G' O' H' I' s' r' => by
    cases d with
    | int i => cases r'; exact ⟨i, rfl, hq _ n' h1 _ G' O' H' I' s' (.int _)⟩
    | _ => exact h1.elim, he⟩
/-! ### and, or, not, if -/
def vAnd (t u : VB) : VB := fun ρ n Q E => t ρ n (fun c n1 => if c = true then u ρ n1 Q E else Q false n1) E
def vOr (t u : VB) : VB := fun ρ n Q E => t ρ n (fun c n1 => if c = true then Q true n1 else u ρ n1 Q E) E
def vNot (t : VB) : VB := fun ρ n Q E => t ρ n (fun c n1 => Q (!c) n1) E
theorem upB_and : ∀ σ H Q, upB X.K U (vAnd xa xb) σ H Q → tAnd (upB X.K U xa) (upB X.K U xb) σ H Q :=
  fun σ H Q ⟨C, ρ, n, G, O, Q0, E0, I, h, hq, he⟩ => ⟨C, ρ, n, G, O, _, E0, I, h, fun c n1 h1 G1 O1 H1 I1 s1 => by
    cases c with
    | true =>
      rw [if_pos rfl] at h1 ⊢
      exact ⟨C, ρ, n1, G1, O1, _, E0, I1, h1, fun b n' hb G' O' H' I' s' => hq b n' hb G' O' H' I' (s1.trans s'), he⟩
    | false =>
      rw [if_neg Bool.false_ne_true] at h1 ⊢
      exact hq _ n1 h1 G1 O1 H1 I1 s1, he⟩
theorem upB_or : ∀ σ H Q, upB X.K U (vOr xa xb) σ H Q → tOr (upB X.K U xa) (upB X.K U xb) σ H Q :=
  fun σ H Q ⟨C, ρ, n, G, O, Q0, E0, I, h, hq, he⟩ => ⟨C, ρ, n, G, O, _, E0, I, h, fun c n1 h1 G1 O1 H1 I1 s1 => by
    cases c with
    | false =>
      rw [if_neg Bool.false_ne_true] at h1 ⊢
      exact ⟨C, ρ, n1, G1, O1, _, E0, I1, h1, fun b n' hb G' O' H' I' s' => hq b n' hb G' O' H' I' (s1.trans s'), he⟩
    | true =>
      rw [if_pos rfl] at h1 ⊢
      exact hq _ n1 h1 G1 O1 H1 I1 s1, he⟩
theorem vw_and1 (ha : VTt X U a xa) : VW X U (.BoolOp .And [a] pos) xa := pw_and1 ha
theorem vw_or1 (ha : VTt X U a xa) : VW X U (.BoolOp .Or [a] pos) xa := pw_or1 ha
theorem vw_and (ha : VTt X U a xa) (hb : VW X U (.BoolOp .And (b :: rest) pos) xb) : VW X U (.BoolOp .And (a :: b :: rest) pos) (vAnd xa xb) := pw_imp (pw_and ha hb) upB_and
theorem vw_or (ha : VTt X U a xa) (hb : VW X U (.BoolOp .Or (b :: rest) pos) xb) : VW X U (.BoolOp .Or (a :: b :: rest) pos) (vOr xa xb) := pw_imp (pw_or ha hb) upB_or
theorem vt_w (h : VW X U a xa) : VTt X U a xa := h.pt
theorem vt_not (ha : VTt X U a xa) : VTt X U (.UnaryOp .Not a pos) (vNot xa) :=
  pt_imp (pt_not ha) fun σ H Q ⟨C, ρ, n, G, O, Q0, E0, I, h, hq, he⟩ => ⟨C, ρ, n, G, O, _, E0, I, h, fun c n1 h1 G1 O1 H1 I1 s1 => hq _ n1 h1 G1 O1 H1 I1 s1, he⟩
/-- as values -/
def vAndV (ta tb : VT) : VT := fun ρ n Q E => ta ρ n (fun d n1 => isB (fun c => if c = true then tb ρ n1 Q E else Q (.bool false) n1) d) E
def vNotV (ta : VT) : VT := fun ρ n Q E => ta ρ n (fun d n1 => isB (fun c => Q (.bool (!c)) n1) d) E
theorem ve_one {op} (h : VE X U a ta) : VE X U (.BoolOp op [a] pos) ta := pe_one h
theorem ve_and (ha : VE X U a ta) (hb : VE X U (.BoolOp .And (b :: rest) pos) tb) : VE X U (.BoolOp .And (a :: b :: rest) pos) (vAndV ta tb) :=
  pe_imp (pe_and ha hb) fun σ H Q ⟨C, ρ, n, G, O, Q0, E0, I, h, hq, he⟩ => ⟨C, ρ, n, G, O, _, E0, I, h, fun d n1 h1 v G1 O1 H1 I1 s1 r1 => by
    cases d with
    | bool c =>
      cases r1
      refine ⟨c, rfl, ?_⟩
      cases c with
      | true =>
        rw [if_pos rfl]
        have h1' : tb ρ n1 Q0 E0 := h1
        exact ⟨C, ρ, n1, G1, O1, _, E0, I1, h1', fun d n' hb v G' O' H' I' s' r' => hq d n' hb v G' O' H' I' (s1.trans s') r', he⟩
      | false =>
        rw [if_neg Bool.false_ne_true]
        have h1' : Q0 (.bool false) n1 := h1
        exact hq _ n1 h1' _ G1 O1 H1 I1 s1 (.bl _)
    | _ => exact h1.elim, he⟩
theorem ve_not (ha : VE X U a ta) : VE X U (.UnaryOp .Not a pos) (vNotV ta) :=
  pe_imp (pe_not ha) fun σ H Q ⟨C, ρ, n, G, O, Q0, E0, I, h, hq, he⟩ => ⟨C, ρ, n, G, O, _, E0, I, h, fun d n1 h1 v G1 O1 H1 I1 s1 r1 => by
    cases d with
    | bool c => cases r1; exact ⟨c, rfl, hq _ n1 h1 _ G1 O1 H1 I1 s1 (.bl _)⟩
    | _ => exact h1.elim, he⟩
def vIf (t : VB) (ta tb : VT) : VT := fun ρ n Q E => t ρ n (fun c n1 => if c = true then ta ρ n1 Q E else tb ρ n1 Q E) E
theorem ve_if (hc : VTt X U c xa) (ha : VE X U a ta) (hb : VE X U b tb) : VE X U (.IfExp c a b pos) (vIf xa ta tb) :=
  pe_imp (pe_ifExp hc ha hb) fun σ H Q ⟨C, ρ, n, G, O, Q0, E0, I, h, hq, he⟩ => ⟨C, ρ, n, G, O, _, E0, I, h, fun c n1 h1 G1 O1 H1 I1 s1 => by
    cases c with
    | true =>
      rw [if_pos rfl] at h1 ⊢
      exact ⟨C, ρ, n1, G1, O1, _, E0, I1, h1, fun d n' hb v G' O' H' I' s' r' => hq d n' hb v G' O' H' I' (s1.trans s') r', he⟩
    | false =>
      rw [if_neg Bool.false_ne_true] at h1 ⊢
      exact ⟨C, ρ, n1, G1, O1, _, E0, I1, h1, fun d n' hb v G' O' H' I' s' r' => hq d n' hb v G' O' H' I' (s1.trans s') r', he⟩, he⟩
/-! ### argument lists, displays -/
def vNil : VA := fun _ n Q _ => Q [] n
def vCons (ta : VT) (tr : VA) : VA := fun ρ n Q E => ta ρ n (fun d n1 => tr ρ n1 (fun ds n2 => Q (d :: ds) n2) E) E
theorem va_nil : VAa X U [] vNil := pa_imp pa_nil fun σ H Q ⟨C, ρ, n, G, O, Q0, E0, I, h, hq, he⟩ => hq [] n h [] G O H I (Same.refl _) .nil
theorem va_cons (ha : VE X U e ta) (hr : VAa X U es al) (hs : starEach (e :: es) X.env = (false, eval e X.env) :: starEach es X.env := by rfl) : VAa X U (e :: es) (vCons ta al) :=
  pa_imp (pa_cons ha hr hs) fun σ H Q ⟨C, ρ, n, G, O, Q0, E0, I, h, hq, he⟩ => ⟨C, ρ, n, G, O, _, E0, I, h, fun d n1 h1 v G1 O1 H1 I1 s1 r1 => ⟨C, ρ, n1, G1, O1, _, E0, I1, h1, fun ds n2 h2 vs G2 O2 H2 I2 s2 r2 =>
    hq _ n2 h2 _ G2 O2 H2 I2 (s1.trans s2) (.cons (DR.same s2 r1) r2), he⟩, he⟩
def vTup (t : VA) : VT := fun ρ n Q E => t ρ n (fun ds n1 => ds.length ≤ sizeLine ∧ Q (.tuple ds) n1) E
theorem ve_tup {x1} (h : VAa X U es al) : VE X U (.Tuple es x1 pos) (vTup al) :=
  pe_imp (pe_tup h) fun σ H Q ⟨C, ρ, n, G, O, Q0, E0, I, h, hq, he⟩ => ⟨C, ρ, n, G, O, _, E0, I, h, fun ds n1 h1 vs G1 O1 H1 I1 s1 r1 =>
    ⟨by rw [DRs.length r1]; exact h1.1, fun p hp => hq _ n1 h1.2 _ _ _ _ (I1.new hp) (s1.trans (In.newSame I1.toIo hp)) (.tup (SqT.of upd_same) (DRs.same (In.newSame I1.toIo hp) r1))⟩, he⟩
/-- a new list of one's own -/
theorem frW_new {K : PySem.W.Frag} {C : Ct} {σ : L2.St} {ρ : Nv} {n : Sn} {G O H : Hp} {p : Addr} {o : HO} {w : W} (I : In K C σ ρ n G O H) (hp : H p = none) (r : ∀ O', Ow C G O' p o → RelF K C G O' w (.ref p) [p]) :
    In K C σ ρ n G (grow O H (L2.upd H p o)) (L2.upd H p o) ∧ FrW K C σ ρ G (grow O H (L2.upd H p o)) w (.ref p) := by
  obtain ⟨F, S⟩ := I.sep
  refine ⟨I.pure (same_upd hp) (Same.refl _) (I.gH.trans (same_upd hp)) New.refl, F, [p], S.pure I.toIo (Same.refl _) New.refl, r _ ⟨In.gfree I.toIo hp, I.h0 p hp, by rw [grow_new hp, upd_same]⟩, fun j u e b hb z => ?_⟩
  rw [List.mem_singleton.mp hb] at z
  obtain ⟨o, q, _⟩ := S.ow e p z
  rw [I.oH _ _ q.o] at hp
  cases hp
theorem fresh_new {K : PySem.W.Frag} {C : Ct} {σ : L2.St} {ρ : Nv} {n : Sn} {G O H : Hp} {p : Addr} {xs : List V} {ds : List Dt} (I : In K C σ ρ n G O H) (hp : H p = none) (r : DRs K G xs ds) :
    In K C σ ρ n G (grow O H (L2.upd H p (.lst xs))) (L2.upd H p (.lst xs)) ∧ Fresh C σ ρ K G (grow O H (L2.upd H p (.lst xs))) p ds := frW_new I hp fun O' w => ⟨p, xs, rfl, rfl, w, r⟩
def vLst (t : VA) : VA := fun ρ n Q E => t ρ n (fun ds n1 => ds.length ≤ sizeLine ∧ Q ds n1) E
theorem vo_lst (h : VAa X U es al) : VO X U (.List es pos) (vLst al) :=
  pe_imp (pe_lst h) fun σ H Q ⟨C, ρ, n, G, O, Q0, E0, I, h, hq, he⟩ => ⟨C, ρ, n, G, O, _, E0, I, h, fun ds n1 h1 vs G1 O1 H1 I1 s1 r1 =>
    ⟨by rw [DRs.length r1]; exact h1.1, fun p hp => hq _ n1 h1.2 p _ _ _ (fresh_new I1 hp r1).1 s1 (fresh_new I1 hp r1).2⟩, he⟩
/-- a list of one's own, as a datum -/
def vFz (t : VA) : VT := fun ρ n Q E => t ρ n (fun ds n1 => Q (.list ds) n1) E
theorem In.frzFresh {K : PySem.W.Frag} {C : Ct} {σ : L2.St} {ρ : Nv} {n : Sn} {G O H : Hp} {a : Addr} {ds : List Dt} (I : In K C σ ρ n G O H) (f : Fresh C σ ρ K G O a ds) : ∃ G', In K C σ ρ n G' O H ∧ Same G G' ∧ DR K G' (.ref a) (.list ds) := I.frzW f rfl
theorem ve_fz (h : VO X U e al) : VE X U e (vFz al) :=
  pe_imp h fun σ H Q ⟨C, ρ, n, G, O, Q0, E0, I, h, hq, he⟩ => ⟨C, ρ, n, G, O, _, E0, I, h, fun ds n1 h1 a G1 O1 H1 I1 s1 f => by
    obtain ⟨G2, I2, s2, r⟩ := In.frzFresh I1 f
    exact hq _ n1 h1 _ G2 O1 H1 I2 (s1.trans s2) r, he⟩
end
end VL


set_option maxRecDepth 100000
set_option maxHeartbeats 2000000
namespace VL
open PySem PySem.Spec PyProof.Rows L2
/-! ### statements -/
structure VN where
  nx : Nv → Sn → Prop
  rt : W → Sn → Prop
  bk : Nv → Sn → Prop
  ct : Nv → Sn → Prop
  xc : Exc → Nv → Sn → Prop
structure LkS (K : PySem.W.Frag) (U : WX) (C : Ct) (V : VN) (D : Ends) : Prop where
  nx : ∀ ρ' n', V.nx ρ' n' → ∀ σ' G' O' H', In K C σ' ρ' n' G' O' H' → D.nx σ' H'
  rt : ∀ w n', V.rt w n' → ∀ v G' O' H', Io C n' G' O' H' → RelW K C G' O' w v → D.rt v H'
  bk : ∀ ρ' n', V.bk ρ' n' → ∀ σ' G' O' H', In K C σ' ρ' n' G' O' H' → D.bk σ' H'
  ct : ∀ ρ' n', V.ct ρ' n' → ∀ σ' G' O' H', In K C σ' ρ' n' G' O' H' → D.ct σ' H'
  xc : ∀ x ρ' n', V.xc x ρ' n' → ∀ cls d σ' G' O' H', In K C σ' ρ' n' G' O' H' → ExcAt K G' x cls d → U cls d σ' H'
abbrev VST := VN → Nv → Sn → Prop
def upS (K : PySem.W.Frag) (U : WX) (t : VST) : TS := fun D σ H => ∃ (C : Ct) (ρ : Nv) (n : Sn) (G O : Hp) (V : VN), In K C σ ρ n G O H ∧ t V ρ n ∧ LkS K U C V D
abbrev VS (X : Cx) (U : WX) (st : Stmt) (t : VST) : Prop := PS X st (upS X.K U t)
abbrev VSs (X : Cx) (U : WX) (st : List Stmt) (t : VST) : Prop := PSs X st (upS X.K U t)
theorem LkS.lkx {K : PySem.W.Frag} {U : WX} {C : Ct} {V : VN} {D : Ends} (L : LkS K U C V D) (σ : L2.St) (ρ : Nv) : LkX K U C σ ρ (fun x n' => V.xc x ρ n') := fun x n' h cls d G' O' H' I r => L.xc x ρ n' h cls d σ G' O' H' I r
section
variable {X : Cx} {U : WX} {e : Expr} {pos : Pos} {te : VT} {al : VA} {st : Stmt} {sts rest : List Stmt} {t u : VST} {xb : VB}
def vSeq (t u : VST) : VST := fun V ρ n => t { V with nx := u V } ρ n
def vNext : VST := fun V ρ n => V.nx ρ n
theorem vs_nil : VSs X U [] vNext := pss_imp pss_nil fun D σ H ⟨C, ρ, n, G, O, V, I, h, L⟩ => L.nx ρ n h σ G O H I
theorem vs_cons (h1 : VS X U st t) (h2 : VSs X U rest u) : VSs X U (st :: rest) (vSeq t u) := pss_imp (pss_cons h1 h2) fun D σ H ⟨C, ρ, n, G, O, V, I, h, L⟩ =>
  ⟨C, ρ, n, G, O, { V with nx := u V }, I, h, ⟨fun ρ' n' q σ' G' O' H' I' => ⟨C, ρ', n', G', O', V, I', q, L⟩, L.rt, L.bk, L.ct, L.xc⟩⟩
theorem vs_one (h1 : VS X U st t) : VSs X U [st] t := pss_one h1
def vDrop (te : VT) : VST := fun V ρ n => te ρ n (fun _ n' => V.nx ρ n') fun x n' => V.xc x ρ n'
theorem vs_expr (he : VE X U e te) (hs : swapsWith e none pos.line X.env = pure false := by rfl) : VS X U (.Expr e pos) (vDrop te) := ps_imp (ps_expr he hs) fun D σ H ⟨C, ρ, n, G, O, V, I, h, L⟩ =>
  ⟨C, ρ, n, G, O, _, _, I, h, fun d n' q v G' O' H' I' _ _ => L.nx ρ n' q σ G' O' H' I', L.lkx σ ρ⟩
def vRet (te : VT) : VST := fun V ρ n => te ρ n (fun d n' => V.rt (.dat d) n') fun x n' => V.xc x ρ n'
theorem vs_ret (he : VE X U e te) : VS X U (.Return (some e) pos) (vRet te) := ps_imp (ps_ret he) fun D σ H ⟨C, ρ, n, G, O, V, I, h, L⟩ =>
  ⟨C, ρ, n, G, O, _, _, I, h, fun d n' q v G' O' H' I' _ r => L.rt _ n' q v G' O' H' I'.toIo r, L.lkx σ ρ⟩
def vIfS (c : VB) (t u : VST) : VST := fun V ρ n => c ρ n (fun b n' => if b = true then t V ρ n' else u V ρ n') fun x n' => V.xc x ρ n'
theorem vs_if {c : Expr} {a b : List Stmt} (hc : VTt X U c xb) (ha : VSs X U a t) (hb : VSs X U b u) : VS X U (.If c a b pos) (vIfS xb t u) := ps_imp (ps_if hc ha hb) fun D σ H ⟨C, ρ, n, G, O, V, I, h, L⟩ =>
  ⟨C, ρ, n, G, O, _, _, I, h, fun b n' q G' O' H' I' _ => by
    cases b with
    | true => rw [if_pos rfl] at q ⊢; exact ⟨C, ρ, n', G', O', V, I', q, L⟩
    | false => rw [if_neg Bool.false_ne_true] at q ⊢; exact ⟨C, ρ, n', G', O', V, I', q, L⟩, L.lkx σ ρ⟩
/-! ### names that are given values -/
def vSet (i : Nat) (te : VT) : VST := fun V ρ n => te ρ n (fun d n' => V.nx (ρ.set i (some (.dat d))) n') fun x n' => V.xc x ρ n'
theorem vs_set {i : Nat} {x : Str} {pos' : Pos} (hN : X.N.Nodup) (hi : X.N[i]? = some x) (hx : Loc X.env.scope x) (he : VE X U e te) (hs : swapsWith e (some (.Name x pos')) pos.line X.env = pure false := by rfl) (hf : X.fn x = true ∨ X.env.scope.names.lookup x = some .local := by first | exact .inl rfl | exact .inr rfl | assumption) :
    VS X U (.Assign [.Name x pos'] e pos) (vSet i te) := ps_imp (ps_set hN hi hx he hs hf) fun D σ H ⟨C, ρ, n, G, O, V, I, h, L⟩ =>
  ⟨C, ρ, n, G, O, _, _, I, h, fun d n' q v G' O' H' I' _ r => L.nx _ n' q _ G' O' H' (I'.set i r), L.lkx σ ρ⟩
def vSetO (i : Nat) (te : VA) : VST := fun V ρ n => te ρ n (fun ds n' => V.nx (ρ.set i (some (.own ds))) n') fun x n' => V.xc x ρ n'
theorem vs_setO {i : Nat} {x : Str} {pos' : Pos} (hN : X.N.Nodup) (hi : X.N[i]? = some x) (hx : Loc X.env.scope x) (he : VO X U e al) (hs : swapsWith e (some (.Name x pos')) pos.line X.env = pure false := by rfl) (hf : X.fn x = true ∨ X.env.scope.names.lookup x = some .local := by first | exact .inl rfl | exact .inr rfl | assumption) :
    VS X U (.Assign [.Name x pos'] e pos) (vSetO i al) := ps_imp (ps_set hN hi hx he hs hf) fun D σ H ⟨C, ρ, n, G, O, V, I, h, L⟩ =>
  ⟨C, ρ, n, G, O, _, _, I, h, fun ds n' q a G' O' H' I' _ f => L.nx _ n' q _ G' O' H' (I'.setW i f), L.lkx σ ρ⟩
/-- one's own list becomes a datum ahead of a statement -/
def vFrz (i : Nat) (t : VST) : VST := fun V ρ n => match ρ[i]? with
  | some (some (.own ds)) => t V (ρ.set i (some (.dat (.list ds)))) n
  | _ => False
theorem vs_frz (i : Nat) (h : VS X U st t) : VS X U st (vFrz i t) := ps_imp h fun D σ H ⟨C, ρ, n, G, O, V, I, h, L⟩ => by
  unfold vFrz at h
  split at h
  · next ds e =>
    obtain ⟨G', _, I'⟩ := I.frz e
    exact ⟨C, _, n, G', O, V, I', h, L⟩
  · exact h.elim
/-! ### targets -/
abbrev VGt := Dt → Nv → (Nv → Prop) → Prop
def upG (K : PySem.W.Frag) (g : VGt) : TG := fun v σ H Q => ∃ (C : Ct) (ρ : Nv) (n : Sn) (G O : Hp) (d : Dt) (Q0 : Nv → Prop), In K C σ ρ n G O H ∧ DR K G v d ∧ g d ρ Q0 ∧ ∀ ρ', Q0 ρ' → ∀ σ', In K C σ' ρ' n G O H → Q σ' H
abbrev VGs := List Dt → Nv → (Nv → Prop) → Prop
def upGs (K : PySem.W.Frag) (g : VGs) : TGs := fun vs σ H Q => ∃ (C : Ct) (ρ : Nv) (n : Sn) (G O : Hp) (ds : List Dt) (Q0 : Nv → Prop), In K C σ ρ n G O H ∧ DRs K G vs ds ∧ g ds ρ Q0 ∧ ∀ ρ', Q0 ρ' → ∀ σ', In K C σ' ρ' n G O H → Q σ' H
theorem pg_imp {e : Expr} {t t' : TG} (h : PG X e t) (w : ∀ v σ H Q, t' v σ H Q → t v σ H Q) : PG X e t' := ⟨fun pins s σ H v u Q I r q => h.run pins s σ H v u Q I r (w _ _ _ _ q)⟩
theorem pgs_imp {e : List Expr} {t t' : TGs} (h : PGs X e t) (w : ∀ v σ H Q, t' v σ H Q → t v σ H Q) : PGs X e t' := ⟨fun pins s σ H v u Q I r q => h.run pins s σ H v u Q I r (w _ _ _ _ q)⟩
def gN (i : Nat) : VGt := fun d ρ Q => Q (ρ.set i (some (.dat d)))
theorem vg_name {i : Nat} {x : Str} (hN : X.N.Nodup) (hi : X.N[i]? = some x) (hx : Loc X.env.scope x) (hf : X.fn x = true ∨ X.env.scope.names.lookup x = some .local := by first | exact .inl rfl | exact .inr rfl | assumption) : PG X (.Name x pos) (upG X.K (gN i)) :=
  pg_imp (pg_name hN hi hx hf) fun v σ H Q ⟨C, ρ, n, G, O, d, Q0, I, r, h, hq⟩ => hq _ h _ (I.set i r)
def gsN : VGs := fun ds ρ Q => match ds with
  | [] => Q ρ
  | _ => False
def gsC (g : VGt) (r : VGs) : VGs := fun ds ρ Q => match ds with
  | d :: ds => g d ρ fun ρ1 => r ds ρ1 Q
  | [] => False
theorem vgs_nil : PGs X [] (upGs X.K gsN) := pgs_imp pgs_nil fun vs σ H Q ⟨C, ρ, n, G, O, ds, Q0, I, r, h, hq⟩ => by
  cases ds with
  | nil => cases r; exact ⟨rfl, hq _ h _ I⟩
  | cons d ds => exact h.elim
theorem vgs_cons {e : Expr} {es : List Expr} {g : VGt} {r : VGs} (h1 : PG X e (upG X.K g)) (h2 : PGs X es (upGs X.K r)) (hs : (assignEach (e :: es) X.env).map (·.2) = assign e X.env :: (assignEach es X.env).map (·.2) := by rfl) : PGs X (e :: es) (upGs X.K (gsC g r)) :=
  pgs_imp (pgs_cons h1 h2 hs) fun vs σ H Q ⟨C, ρ, n, G, O, ds, Q0, I, r, h, hq⟩ => by
  cases ds with
  | nil => exact h.elim
  | cons d ds =>
    cases r with
    | cons r1 r2 => exact ⟨_, _, rfl, C, ρ, n, G, O, d, _, I, r1, h, fun ρ1 h1 σ1 I1 => ⟨C, ρ1, n, G, O, ds, Q0, I1, r2, h1, hq⟩⟩
def gT (k : Nat) (r : VGs) : VGt := fun d ρ Q => match d with
  | .tuple ds => ds.length = k ∧ r ds ρ Q
  | _ => False
theorem vg_tup {es : List Expr} {k : Nat} {r : VGs} {n : Nat} (hc : X.calm = true) (h : PGs X es (upGs X.K r)) (hn : (assignEach es X.env).length = n := by rfl) (hst : (assignEach es X.env).findIdx? (·.1) = none := by rfl) : PG X (.Tuple es k pos) (upG X.K (gT n r)) :=
  pg_imp (pg_tup hc h hn hst) fun v σ H Q ⟨C, ρ, m, G, O, d, Q0, I, r, h, hq⟩ => by
  cases d with
  | tuple ds =>
    cases r with
    | tup a r => exact ⟨_, _, rfl, sameT I.gH a, by rw [DRs.length r]; exact h.1, C, ρ, m, G, O, ds, Q0, I, r, h.2, hq⟩
  | _ => exact h.elim
def vAsg (te : VT) (g : VGt) : VST := fun V ρ n => te ρ n (fun d n' => g d ρ fun ρ' => V.nx ρ' n') fun x n' => V.xc x ρ n'
theorem vs_asg {tg : Expr} {g : VGt} (he : VE X U e te) (hg : PG X tg (upG X.K g)) (hs : swapsWithSole [tg] e pos.line X.env = pure false := by rfl) (hw : swappedStores [tg] e X.env = pure none := by rfl)
    (h1 : (assignEach [tg] X.env).map (·.2) = [assign tg X.env] := by rfl) : VS X U (.Assign [tg] e pos) (vAsg te g) := ps_imp (ps_asg he hg hs hw h1) fun D σ H ⟨C, ρ, n, G, O, V, I, h, L⟩ =>
  ⟨C, ρ, n, G, O, _, _, I, h, fun d n' q v G' O' H' I' _ r => ⟨C, ρ, n', G', O', d, _, I', r, q, fun ρ' q' σ' I'' => L.nx _ n' q' _ G' O' H' I''⟩, L.lkx σ ρ⟩
def vPar (i j : Nat) (al : VA) : VST := fun V ρ n => al ρ n (fun ds n' => match ds with
  | [d1, d2] => V.nx ((ρ.set i (some (.dat d1))).set j (some (.dat d2))) n'
  | _ => False) fun x n' => V.xc x ρ n'
theorem vs_par {i j : Nat} {x y : Str} {a b : Expr} {px py pt : Pos} {kt k2 pt2} (hc : X.calm = true) (hN : X.N.Nodup) (hi : X.N[i]? = some x) (hj : X.N[j]? = some y) (hij : i ≠ j)
    (hx : X.env.scope.names.lookup x = some .local) (hy : X.env.scope.names.lookup y = some .local) (ha : VAa X U [a, b] al)
    (hw : swappedStores [.Tuple [.Name x px, .Name y py] kt pt] (.Tuple [a, b] k2 pt2) X.env = pure (some [x, y]))
    (hs : swapsWithSole [.Tuple [.Name x px, .Name y py] kt pt] (.Tuple [a, b] k2 pt2) pos.line X.env = pure false := by rfl) :
    VS X U (.Assign [.Tuple [.Name x px, .Name y py] kt pt] (.Tuple [a, b] k2 pt2) pos) (vPar i j al) := ps_imp (ps_par hc hN hi hj hij hx hy ha hw hs) fun D σ H ⟨C, ρ, n, G, O, V, I, h, L⟩ =>
  ⟨C, ρ, n, G, O, _, _, I, h, fun ds n' q vs G' O' H' I' _ r => by
    match ds, r, q with
    | [d1, d2], .cons r1 (.cons r2 .nil), q => exact ⟨_, _, rfl, L.nx _ n' q _ G' O' H' ((I'.set i r1).set j r2)⟩, L.lkx σ ρ⟩
/-- xs.append(e), xs a list of one's own -/
def vAppend (i : Nat) (te : VT) : VST := fun V ρ n => match ρ[i]? with
  | some (some (.own ds)) => te ρ n (fun d n' => ds.length < sizeLine ∧ V.nx (ρ.set i (some (.own (ds ++ [d])))) n') fun x n' => V.xc x ρ n'
  | _ => False
theorem vs_append {i : Nat} (h : PE X e (tBM X.K "list" rAppend (tVar i) (tCons (up X.K U te) tNil))) (hs : swapsWith e none pos.line X.env = pure false := by rfl) :
    VS X U (.Expr e pos) (vAppend i te) := ps_imp (ps_expr h hs) fun D σ H ⟨C, ρ, n, G, O, V, I, h, L⟩ => by
  unfold vAppend at h
  split at h
  · next ds e0 =>
    obtain ⟨v, e1, a, xs, rfl, g, h0, o, r⟩ := I.slot i _ e0
    refine ⟨_, e1, .inl ⟨rfl, _, SqL.of (I.oH _ _ o)⟩, C, ρ, n, G, O, _, _, I, h, fun d n' q v G' O' H' I' s' rd => ?_, L.lkx σ ρ⟩
    obtain ⟨v', e1', a', xs', ev, g', h0', o', r'⟩ := I'.slot i _ e0
    rw [e1] at e1'
    cases e1'
    cases ev
    exact ⟨a, xs', v, rfl, rfl, I'.oH _ _ o', by rw [DRs.length r']; exact q.1, L.nx _ n' q.2 _ G' _ _ (I'.mut e0 e1 g' h0' o' (DRs.append r' (.cons rd .nil)))⟩
  · exact h.elim
end
/-! ### defs -/
structure FnG (P : Program) (w : World) (K : PySem.W.Frag) (mg : Str → Option Value) (base : Heap) (k : Nat) (f : Addr) (fd : FuncData) (ps : List Str) (sp : Sp) : Prop where
  len : ∀ vs H Q E, sp vs H Q E → vs.length = ps.length
  run : ∀ (A : Around) (outer : List PySem.Env) (s : Shared) (H : Hp) (args : Args) (us : List Value) (vs : List V) (Q : VK) (E : XK), A.guards = some [] → Room k A → Env0 P w K mg base A outer s H → BindsTo s fd args (ps.zip us) → Vals vs us → sp vs H Q E →
    codeAny (model P w) A (.call (.ref f) args) (CR (L2.CX P w) outer P w H s Q E) s
theorem FnG.mono {P : Program} {w : World} {K : PySem.W.Frag} {mg : Str → Option Value} {base : Heap} {j k : Nat} {f : Addr} {fd : FuncData} {ps : List Str} {sp : Sp} (F : FnG P w K mg base j f fd ps sp) (h : j ≤ k) : FnG P w K mg base k f fd ps sp :=
  ⟨F.len, fun A outer s H args us vs Q E hg hr => F.run A outer s H args us vs Q E hg (hr.mono h)⟩
theorem FnG.imp {P : Program} {w : World} {K : PySem.W.Frag} {mg : Str → Option Value} {base : Heap} {k : Nat} {f : Addr} {fd : FuncData} {ps : List Str} {sp sp' : Sp} (F : FnG P w K mg base k f fd ps sp) (h : ∀ vs H Q E, sp' vs H Q E → sp vs H Q E) : FnG P w K mg base k f fd ps sp' :=
  ⟨fun vs H Q E q => F.len vs H Q E (h _ _ _ _ q), fun A outer s H args us vs Q E hg hr he hb hv hs => F.run A outer s H args us vs Q E hg hr he hb hv (h _ _ _ _ hs)⟩
/-- a def by its body; nothing that is being shown (repr) is under way -/
theorem fnG_of {P : Program} {w : World} {K : PySem.W.Frag} {mg : Str → Option Value} {base : Heap} {k : Nat} {x qual : Str} {params : Arguments} {body : List Stmt} {scope : Scope} {dvs : List V} {kws : List (Str × V)} {f : Addr} {fd : FuncData} {N ps : List Str} {sp : Sp}
    (F : FunD K x qual params body scope dvs kws f fd) (S : FnScope N ps scope) (len : ∀ vs H Q E, sp vs H Q E → vs.length = ps.length)
    (hb : ∀ (cdv : Value) (A : Around) (outer : List PySem.Env) (s : Shared) (H : Hp) (vs : List V) (Q : VK) (E : XK), fd.code = cdv → A.guards = some [] → Room k (A.deeper (envOfC qual scope s.heap.objs.size f cdv)) → sp vs H Q E →
      ∃ t, PSs (cxOf (L2.CX P w) P w K mg base N qual scope f cdv A outer s H E) body t ∧ t { nx := fun _ H' => Q .non H', rt := Q } (start N vs) H) : FnG P w K mg base (k + 1) f fd ps sp := by
  obtain ⟨oc, od, dV, kV, doc, pm, an, cdv, ct, osl, rfl, lk, hcd, _, _⟩ := F.ex
  constructor
  · exact len
  intro A outer s H args us vs Q E hg hr e0 hbd rv hsp
  have hk : ∀ b o, base.get? b = some o → s.heap.get? b = some o := fun b o e => (e0.bs b o e).1
  have KI : K.In s.heap := e0.mod.kin.keeps hk
  have nl : s.heap.NoLimit := e0.mod.nolimit.keeps hk
  have kinds : ∀ y ∈ ps.zip us, scope.names.lookup y.1 = some .local ∨ (scope.names.lookup y.1 = some .cell ∧ ((cellsFrom (s.heap.objs.size + 1) scope.names []).lookup y.1).isSome = true) := by
    rintro ⟨nm, val⟩ hy
    rcases S.par nm (List.of_mem_zip hy).1 with q | q
    · exact Or.inl q
    · exact Or.inr ⟨q, PySem.W.cellsFrom_some _ _ _ (Or.inl q)⟩
  refine codeAny_call_function hr.depth (KI _ _ lk) rfl S.co S.gen rfl (PySem.W.codeRec_of KI hcd) (hbd _ _ _ _ ?_)
  refine wpAny_newFunctionEnv_cells S.kind kinds fun env he s1 ic => ?_
  subst he
  refine ⟨nl.keeps ic.toInCall.keep, codeAny_func ?_⟩
  obtain ⟨t, ht, hq⟩ := hb cdv A outer s H vs Q E rfl hg (hr.deeper _) hsp
  have I0 := inv_start (CX := L2.CX P w) (E := E) S hr.hd e0 (len _ _ _ _ hsp) rv ic
  refine wpAny_mono (ht.run [] s1 (start N vs) H _ I0 hq) (fun fl s' hs => ?_) fun e s' hs => hs
  cases fl with
  | ret u =>
    obtain ⟨v, σ', H', J, r1, q⟩ := hs
    exact ⟨v, H', J.os, J.bare, J.base, J.hok, r1, q⟩
  | next =>
    obtain ⟨σ', H', J, q⟩ := hs
    exact ⟨V.non, H', J.os, J.bare, J.base, J.hok, rfl, q⟩
  | brk => obtain ⟨_, _, _, q⟩ := hs; exact False.elim q
  | cont => obtain ⟨_, _, _, q⟩ := hs; exact False.elim q
/-! ### what a def does to values -/
abbrev VFn := List W → Sn → (W → Sn → Prop) → XW → Prop
def RelWs (K : PySem.W.Frag) (C : Ct) (G O : Hp) : List W → List V → Prop
  | [], [] => True
  | w :: ws, v :: vs => RelW K C G O w v ∧ RelWs K C G O ws vs
  | _, _ => False
theorem RelWs.length {K : PySem.W.Frag} {C : Ct} {G O : Hp} : ∀ {ws : List W} {vs : List V}, RelWs K C G O ws vs → vs.length = ws.length
  | [], [], _ => rfl
  | _ :: _, _ :: _, h => by simp [RelWs.length h.2]
  | [], _ :: _, h => h.elim
  | _ :: _, [], h => h.elim
theorem RelWs.get {K : PySem.W.Frag} {C : Ct} {G O : Hp} : ∀ {ws : List W} {vs : List V} {i : Nat} {w : W}, RelWs K C G O ws vs → ws[i]? = some w → ∃ v, vs[i]? = some v ∧ RelW K C G O w v
  | [], _, _, _, _, e => by simp at e
  | _ :: _, [], _, _, h, _ => h.elim
  | w :: ws, v :: vs, 0, _, h, e => by simp at e; subst e; exact ⟨v, rfl, h.1⟩
  | w :: ws, v :: vs, i + 1, _, h, e => by
    obtain ⟨u, h1, h2⟩ := RelWs.get (i := i) h.2 (by simpa using e)
    exact ⟨u, by simpa using h1, h2⟩
def lift (K : PySem.W.Frag) (c : VFn) : Sp := fun vs H Q E => ∃ (C : Ct) (n : Sn) (ws : List W) (Q0 : W → Sn → Prop) (E0 : XW), (C.H0 = H ∧ C.T = tabT K ∧ C.K = K) ∧ Io C n C.G0 C.O0 H ∧ RelWs K C C.G0 C.O0 ws vs ∧ c ws n Q0 E0 ∧
  (∀ w n', Q0 w n' → ∀ v G' O' H', Io C n' G' O' H' → RelW K C G' O' w v → Q v H') ∧ (∀ x n', E0 x n' → ∀ cls d G' O' H', Io C n' G' O' H' → ExcAt K G' x cls d → E cls d H')
def startE (m : Nat) (ws : List W) : Nv := ws.map some ++ List.replicate (m - ws.length) none
def bodyV (m k : Nat) (t : VST) : VFn := fun ws n Q E => ws.length = k ∧ t ⟨fun _ n' => Q (.dat .none) n', Q, fun _ _ => False, fun _ _ => False, fun x _ n' => E x n'⟩ (startE m ws) n
theorem RelW.here {K : PySem.W.Frag} {C : Ct} {n : Sn} {G O : Hp} {w : W} {v : V} (h : Io C n G O C.H0) (r : RelW K C G O w v) : RelF K C G O w v [] := by
  obtain ⟨fp, f⟩ := r.f
  cases fp with
  | nil => exact f
  | cons b fp =>
    obtain ⟨o, q, _⟩ := f.ow b List.mem_cons_self
    have := h.oH _ _ q.o
    rw [q.h0] at this
    cases this
theorem in_start {K : PySem.W.Frag} {C : Ct} {n : Sn} {N : List Str} {ws : List W} {vs : List V} (ht : C.T = tabT K ∧ C.K = K) (h : Io C n C.G0 C.O0 C.H0) (r : RelWs K C C.G0 C.O0 ws vs) : In K C (start N vs) (startE N.length ws) n C.G0 C.O0 C.H0 := by
  have el := r.length
  refine ⟨h, ht, ?_, fun _ => [], fun i w e => ?_, fun _ _ _ _ _ _ _ b hb => by cases hb⟩
  · unfold L2.start startE; simp [el]
  · unfold startE at e
    by_cases hi : i < ws.length
    · rw [List.getElem?_append_left (by simpa using hi), List.getElem?_map] at e
      cases q : ws[i]? with
      | none => rw [q] at e; cases e
      | some w' =>
        rw [q] at e
        cases e
        obtain ⟨v, hv, rw'⟩ := r.get q
        refine ⟨v, ?_, rw'.here h⟩
        unfold L2.start
        rw [List.getElem?_append_left (by rw [List.length_map, el]; exact hi), List.getElem?_map, hv]
        rfl
    · rw [List.getElem?_append_right (by simpa using hi), List.getElem?_replicate] at e
      split at e <;> cases e
/-- THE RULE: a def's body gives what the def does to values -/
theorem fnV {P : Program} {w : World} {K : PySem.W.Frag} {mg : Str → Option Value} {base : Heap} {k : Nat} {x qual : Str} {params : Arguments} {body : List Stmt} {scope : Scope} {dvs : List V} {kws : List (Str × V)} {f : Addr} {fd : FuncData} {N ps : List Str} {t : VST}
    (F : FunD K x qual params body scope dvs kws f fd) (S : FnScope N ps scope)
    (hb : ∀ (cdv : Value) (A : Around) (outer : List PySem.Env) (s : Shared) (H : Hp) (E : XK), fd.code = cdv → A.guards = some [] → Room k (A.deeper (envOfC qual scope s.heap.objs.size f cdv)) →
      VSs (cxOf (L2.CX P w) P w K mg base N qual scope f cdv A outer s H E) (fun cls d _ H' => E cls d H') body t) : FnG P w K mg base (k + 1) f fd ps (lift K (bodyV N.length ps.length t)) := by
  refine fnG_of F S (fun vs H Q E h => ?_) (fun cdv A outer s H vs Q E hcv hg hr h => ⟨_, hb cdv A outer s H E hcv hg hr, ?_⟩)
  · obtain ⟨C, n, ws, Q0, E0, e0, io, r, h, _⟩ := h
    rw [r.length, h.1]
  · obtain ⟨C, n, ws, Q0, E0, e0, io, r, h, hq, he⟩ := h
    obtain ⟨e0, et⟩ := e0
    subst e0
    refine ⟨C, _, n, C.G0, C.O0, _, in_start et io r, h.2, ⟨fun ρ' n' q σ' G' O' H' I' => hq _ n' q .non G' O' H' I'.toIo .non, hq, fun _ _ q => q.elim, fun _ _ q => q.elim, fun x ρ' n' q cls d σ' G' O' H' I' r' => he x n' q cls d G' O' H' I'.toIo r'⟩⟩
/-- another promise that says no more -/
theorem FnG.weak {P : Program} {w : World} {K : PySem.W.Frag} {mg : Str → Option Value} {base : Heap} {k : Nat} {f : Addr} {fd : FuncData} {ps : List Str} {c c' : VFn} (F : FnG P w K mg base k f fd ps (lift K c)) (h : ∀ ws n Q E, c' ws n Q E → c ws n Q E) : FnG P w K mg base k f fd ps (lift K c') :=
  F.imp fun vs H Q E ⟨C, n, ws, Q0, E0, e0, io, r, q, hq, he⟩ => ⟨C, n, ws, Q0, E0, e0, io, r, h _ _ _ _ q, hq, he⟩
/-! ### calls -/
abbrev Ct.now (C : Ct) (G O H : Hp) : Ct := ⟨C.K, C.mo, C.T, C.L, G, O, H⟩
theorem In.call {K : PySem.W.Frag} {C : Ct} {σ : L2.St} {ρ : Nv} {n n' : Sn} {G O H G' O' H' : Hp} (I : In K C σ ρ n G O H) (J : Io (C.now G O H) n' G' O' H') : In K C σ ρ n' G' O' H' := by
  obtain ⟨F, S⟩ := I.sep
  refine ⟨⟨J.good, J.go, I.g0.trans J.g0, I.o0.trans J.o0, I.oh, fun a o e => ?_, fun a o e => ?_, fun a e => I.h0 a (J.h0 a e), J.tb, J.sto⟩, I.ht, I.len, F, S.see J.g0 (fun i w e b hb => ?_) rfl⟩
  · rcases J.nO a o e with q | q
    · exact I.nO a o q
    · exact .inr (I.h0 a q)
  · rcases J.nG a o e with q | q
    · exact I.nG a o q
    · exact .inr (I.h0 a q)
  · obtain ⟨o, q, _⟩ := S.ow e b hb
    have q2 : O' b = some o := J.o0 _ _ q.o
    refine ⟨q2.trans q.o.symm, ?_, q.h0⟩
    cases z : G' b with
    | none => rfl
    | some u =>
      rcases J.nG b u z with y | y
      · have y' : G b = some u := y
        rw [q.g] at y'; cases y'
      · have y' : H b = none := y
        rw [I.oH _ _ q.o] at y'; cases y'
/-- what a call hands back is no one's -/
theorem In.callW {K : PySem.W.Frag} {C : Ct} {σ : L2.St} {ρ : Nv} {n n' : Sn} {G O H G' O' H' : Hp} {w : W} {v : V} (I : In K C σ ρ n G O H) (J : Io (C.now G O H) n' G' O' H') (r : RelW K (C.now G O H) G' O' w v) : FrW K C σ ρ G' O' w v := by
  obtain ⟨F, S⟩ := (I.call J).sep
  obtain ⟨fp, f⟩ := r.f
  have hn : ∀ b ∈ fp, H b = none := fun b hb => by obtain ⟨o, q, _⟩ := f.ow b hb; exact q.h0
  obtain ⟨F0, S0⟩ := I.sep
  refine ⟨F0, fp, ?_, f.see ⟨Same.refl _, fun b hb => ?_⟩ rfl, fun j u e b hb z => ?_⟩
  · refine S0.see J.g0 (fun i w e b hb => ?_) rfl
    obtain ⟨o, q, _⟩ := S0.ow e b hb
    have q2 : O' b = some o := J.o0 _ _ q.o
    refine ⟨q2.trans q.o.symm, ?_, q.h0⟩
    cases z : G' b with
    | none => rfl
    | some u =>
      rcases J.nG b u z with y | y
      · have y' : G b = some u := y
        rw [q.g] at y'; cases y'
      · have y' : H b = none := y
        rw [I.oH _ _ q.o] at y'; cases y'
  · obtain ⟨o, q, _⟩ := f.ow b hb
    exact ⟨rfl, q.g, I.h0 b (hn b hb)⟩
  · obtain ⟨o, q, _⟩ := S0.ow e b z
    have := hn b hb
    rw [I.oH _ _ q.o] at this
    cases this
/-- arguments: data, the machine, the script -/
abbrev VAW := Nv → Sn → (List W → Sn → Prop) → XW → Prop
def RWs (K : PySem.W.Frag) (C : Ct) (G : Hp) : List W → List V → Prop
  | [], [] => True
  | w :: ws, v :: vs => (match w with | .dat d => DR K G v d | .own _ => False | .err _ _ => False | .lam _ _ _ _ _ => False | .dct _ => False | .tok => ∃ m, C.mo = some m ∧ v = .ref m | .scr ns => ∃ a, v = .ref a ∧ SqL K G a (ns.map V.int)) ∧ RWs K C G ws vs
  | _, _ => False
theorem RWs.same {K : PySem.W.Frag} {C : Ct} {G G' : Hp} (s : Same G G') : ∀ {ws : List W} {vs : List V}, RWs K C G ws vs → RWs K C G' ws vs
  | [], [], _ => trivial
  | [], _ :: _, h => h.elim
  | _ :: _, [], h => h.elim
  | w :: ws, v :: vs, h => by
    refine ⟨?_, RWs.same s h.2⟩
    cases w with
    | dat d => exact DR.same s h.1
    | own ds => exact h.1.elim
    | tok => exact h.1
    | scr ns => obtain ⟨a, e, q⟩ := h.1; exact ⟨a, e, s.seq q⟩
    | err p x => exact h.1
    | lam f c q mo G1 => exact h.1
    | dct kvs => exact h.1
theorem RWs.rel {K : PySem.W.Frag} {C C' : Ct} {G O : Hp} (hm : C'.mo = C.mo) : ∀ {ws : List W} {vs : List V}, RWs K C G ws vs → RelWs K C' G O ws vs
  | [], [], _ => trivial
  | [], _ :: _, h => h.elim
  | _ :: _, [], h => h.elim
  | w :: ws, v :: vs, h => by
    refine ⟨?_, RWs.rel hm h.2⟩
    cases w with
    | dat d => exact h.1
    | own ds => exact h.1.elim
    | tok => obtain ⟨m, e, q⟩ := h.1; exact ⟨m, hm.trans e, q⟩
    | scr ns => exact h.1
    | err p x => exact h.1.elim
    | lam f c q mo G1 => exact h.1.elim
    | dct kvs => exact h.1.elim
def upW (K : PySem.W.Frag) (U : WX) (t : VAW) : TA := fun σ H Q => ∃ (C : Ct) (ρ : Nv) (n : Sn) (G O : Hp) (Q0 : List W → Sn → Prop) (E0 : XW), In K C σ ρ n G O H ∧ t ρ n Q0 E0 ∧
  (∀ ws n', Q0 ws n' → ∀ vs G' O' H', In K C σ ρ n' G' O' H' → Same G G' → RWs K C G' ws vs → Q vs H') ∧ LkX K U C σ ρ E0
abbrev VAg (X : Cx) (U : WX) (es : List Expr) (t : VAW) : Prop := PA X es (upW X.K U t)
section
variable {X : Cx} {U : WX} {e : Expr} {es : List Expr} {pos p : Pos} {te : VT} {al : VAW} {x : Str} {k : Nat} {f : Addr} {fd : FuncData} {ps : List Str} {c : VFn}
def wNil : VAW := fun _ n Q _ => Q [] n
def wDat (te : VT) (r : VAW) : VAW := fun ρ n Q E => te ρ n (fun d n1 => r ρ n1 (fun ws n2 => Q (.dat d :: ws) n2) E) E
def wVar (i : Nat) (r : VAW) : VAW := fun ρ n Q E => match ρ[i]? with
  | some (some .tok) => r ρ n (fun ws n2 => Q (.tok :: ws) n2) E
  | some (some (.scr ns)) => r ρ n (fun ws n2 => Q (.scr ns :: ws) n2) E
  | _ => False
theorem wa_nil : VAg X U [] wNil := pa_imp pa_nil fun σ H Q ⟨C, ρ, n, G, O, Q0, E0, I, h, hq, he⟩ => hq [] n h [] G O H I (Same.refl _) trivial
theorem wa_dat (ha : VE X U e te) (hr : VAg X U es al) (hs : starEach (e :: es) X.env = (false, eval e X.env) :: starEach es X.env := by rfl) : VAg X U (e :: es) (wDat te al) :=
  pa_imp (pa_cons ha hr hs) fun σ H Q ⟨C, ρ, n, G, O, Q0, E0, I, h, hq, he⟩ => ⟨C, ρ, n, G, O, _, E0, I, h, fun d n1 h1 v G1 O1 H1 I1 s1 r1 => ⟨C, ρ, n1, G1, O1, _, E0, I1, h1, fun ds n2 h2 vs G2 O2 H2 I2 s2 r2 =>
    hq _ n2 h2 _ G2 O2 H2 I2 (s1.trans s2) ⟨DR.same s2 r1, r2⟩, he⟩, he⟩
theorem wa_var (i : Nat) (hr : VAg X U es al) (hN : X.N[i]? = some x := by rfl) (hv : Vis X.env.scope x := by first | exact Or.inl rfl | exact Or.inr (Or.inl rfl) | exact Or.inr (Or.inr rfl)) (hd : (x == ("__debug__" : Str)) = false := by decide)
    (hcd : (x == ("__classdict__" : Str)) = false := by decide) (hs : starEach (.Name x pos :: es) X.env = (false, eval (.Name x pos) X.env) :: starEach es X.env := by rfl) : VAg X U (.Name x pos :: es) (wVar i al) :=
  pa_imp (pa_cons (pe_var hN hv hd hcd) hr hs) fun σ H Q ⟨C, ρ, n, G, O, Q0, E0, I, h, hq, he⟩ => by
    unfold wVar at h
    split at h
    · next e0 =>
      obtain ⟨v, e1, m, em, ev⟩ := I.slot i _ e0
      exact ⟨v, e1, C, ρ, n, G, O, _, E0, I, h, fun ws n2 h2 vs G2 O2 H2 I2 s2 r2 => hq _ n2 h2 _ G2 O2 H2 I2 s2 ⟨⟨m, em, ev⟩, r2⟩, he⟩
    · next ns e0 =>
      obtain ⟨v, e1, a, ea, sq⟩ := I.slot i _ e0
      exact ⟨v, e1, C, ρ, n, G, O, _, E0, I, h, fun ws n2 h2 vs G2 O2 H2 I2 s2 r2 => hq _ n2 h2 _ G2 O2 H2 I2 s2 ⟨⟨a, ea, s2.seq sq⟩, r2⟩, he⟩
    · exact h.elim
/-- a call of a def of the text -/
theorem pe_callG {sp : Sp} {dvs : List V} {ds : List Value} {t : TA} (F : FnG X.prog X.w X.K X.mg X.base k f fd ps sp) (hG : X.A.guards = some []) (hr : Room k X.A) (tk : Takes X U) (hg : Gl X x) (hm : X.mg x = some (.ref f)) (hk : PySem.W.keepIn X.K (.ref f) = true) (hb : Binds X.K fd ps ds) (hd : Vals dvs ds)
    (ha : PA X (e :: es) t) (hdb : (x == ("__debug__" : Str)) = false := by decide) (he : starEach (e :: es) X.env = (false, eval e X.env) :: starEach es X.env := by rfl) (hpl : (backTo pos (starEach es X.env)).any (·.1) = false := by rfl) :
    PE X (.Call (.Name x p) (e :: es) [] pos) (fun σ H Q => t σ H fun vs H1 => sp (vs ++ dvs) H1 Q fun cls d H' => U cls d σ H') := by
  constructor
  intro pins s σ H Q I h
  refine wpAny_Call_Name_kw (ld_glob I hg hm ?_ hdb)
  refine PySem.W.callWith_K (h₀ := X.base) I.ok.mod.kin hk (thn (ha.run pos pins s σ H _ I h) fun us s1 z => ?_) he hpl
  obtain ⟨vs, H1, I1, r, q⟩ := z
  refine ⟨I1.kIn, ?_⟩
  have r2 : Vals (vs ++ dvs) (us ++ ds) := r.append hd
  have hl : (us ++ ds).length = ps.length := r2.length.symm.trans (F.len _ _ _ _ q)
  refine wpAny_call (codeAny_mono (F.run X.A X.stack s1 H1 ⟨us, []⟩ (us ++ ds) (vs ++ dvs) Q _ hG hr I1.env0 (hb s1 us I1.kIn hl) r2 q) fun rs s' hq => ?_)
  match rs, hq with
  | .error e, hq => exact passAt tk σ pins H1 s1 e s' I1 hq
  | .ok (.ret u), hq => exact I1.after hq
def rOf (Q : Dt → Sn → Prop) : W → Sn → Prop := fun w n => match w with
  | .dat d => Q d n
  | .own ds => Q (.list ds) n
  | .dct kvs => Q (fzW (.dct kvs)) n
  | _ => False
theorem rOf_own {Q : Dt → Sn → Prop} {w : W} {n : Sn} (h : rOf Q w n) : isOwn w = true ∧ Q (fzW w) n := by
  cases w <;> first | exact ⟨rfl, h⟩ | exact h.elim
def vCall (c : VFn) (dw : List W) (al : VAW) : VT := fun ρ n Q E => al ρ n (fun ws n1 => c (ws ++ dw) n1 (rOf Q) E) E
/-- the defaults' data stand in the written part -/
def RDf (K : PySem.W.Frag) : List W → List V → Prop
  | [], [] => True
  | w :: ws, v :: vs => (match w with | .dat d => ∀ G, DR K G v d | _ => False) ∧ RDf K ws vs
  | _, _ => False
theorem RDf.rws {K : PySem.W.Frag} {C : Ct} {G : Hp} : ∀ {dw : List W} {dvs : List V}, RDf K dw dvs → RWs K C G dw dvs
  | [], [], _ => trivial
  | [], _ :: _, h => h.elim
  | _ :: _, [], h => h.elim
  | w :: ws, v :: vs, d => by
    refine ⟨?_, RDf.rws d.2⟩
    cases w with
    | dat x => exact d.1 G
    | _ => exact d.1.elim
theorem RDf.app {K : PySem.W.Frag} {C : Ct} {G : Hp} {dw : List W} {dvs : List V} (d : RDf K dw dvs) : ∀ {ws : List W} {vs : List V}, RWs K C G ws vs → RWs K C G (ws ++ dw) (vs ++ dvs)
  | _ :: _, _ :: _, h => ⟨h.1, RDf.app d h.2⟩
  | [], _ :: _, h => h.elim
  | _ :: _, [], h => h.elim
  | [], [], _ => d.rws
theorem ve_call {dw : List W} {dvs : List V} {ds : List Value} (F : FnG X.prog X.w X.K X.mg X.base k f fd ps (lift X.K c)) (hG : X.A.guards = some []) (hr : Room k X.A) (tk : Takes X U) (hg : Gl X x) (hm : X.mg x = some (.ref f)) (hk : PySem.W.keepIn X.K (.ref f) = true) (hb : Binds X.K fd ps ds) (hd : Vals dvs ds) (hdw : RDf X.K dw dvs)
    (ha : VAg X U (e :: es) al) (hdb : (x == ("__debug__" : Str)) = false := by decide) (he : starEach (e :: es) X.env = (false, eval e X.env) :: starEach es X.env := by rfl) (hpl : (backTo pos (starEach es X.env)).any (·.1) = false := by rfl) :
    VE X U (.Call (.Name x p) (e :: es) [] pos) (vCall c dw al) :=
  pe_imp (pe_callG F hG hr tk hg hm hk hb hd ha hdb he hpl) fun σ H Q ⟨C, ρ, n, G, O, Q0, E0, I, h, hq, hE⟩ => ⟨C, ρ, n, G, O, _, E0, I, h, fun ws n1 h1 vs G1 O1 H1 I1 s1 r1 =>
    ⟨C.now G1 O1 H1, n1, _, _, E0, ⟨rfl, I1.ht⟩, ⟨I1.good, I1.go, Same.refl _, Same.refl _, I1.oH, NewA.refl, NewA.refl, fun _ q => q, I1.tb, I1.sto⟩, RWs.rel (C := C) (C' := C.now G1 O1 H1) rfl (hdw.app r1), h1, fun w n' q v G' O' H' J rw' => by
      obtain ⟨ho, q⟩ := rOf_own q
      obtain ⟨G2, I3, s3, r3⟩ := (I1.call J).frzW (I1.callW J rw') ho
      exact hq _ n' q _ G2 O' H' I3 ((s1.trans J.g0).trans s3) r3, fun x n' q cls d G' O' H' J r => hE x n' q cls d G' O' H' (I1.call J) r⟩, hE⟩
end
end VL


set_option maxRecDepth 100000
set_option maxHeartbeats 2000000
namespace VL
open PySem PySem.Spec PyProof.Rows L2
/-! ### operators on data -/
def dAdd : R2D := fun a b Q => match a, b with
  | .int i, .int j => Q (.int (i + j))
  | .str x, .str y => x.length + y.length ≤ sizeLine ∧ Q (.str (x ++ y))
  | .tuple xs, .tuple ys => xs.length + ys.length ≤ sizeLine ∧ Q (.tuple (xs ++ ys))
  | .list xs, .list ys => xs.length + ys.length ≤ sizeLine ∧ Q (.list (xs ++ ys))
  | _, _ => False
def dSub : R2D := fun a b Q => match a, b with
  | .int i, .int j => Q (.int (i - j))
  | _, _ => False
def dMul : R2D := fun a b Q => match a, b with
  | .int i, .int j => CMul i j ∧ Q (.int (i * j))
  | _, _ => False
def dDiv : R2D := fun a b Q => match a, b with
  | .int i, .int j => CDiv i j ∧ Q (.int (i / j))
  | _, _ => False
/-- what may be compared: two texts, or data of plain signs that are not too deep -/
def shp (a b : Dt) : Prop := match a, b with
  | .str _, .str _ => True
  | a, b => SeqAt.shaped a = true ∧ SeqAt.shaped b = true
def dEq : R2D := fun a b Q => shp a b ∧ Q (.bool (PyData.eqv a b))
def dNe : R2D := fun a b Q => shp a b ∧ Q (.bool (!PyData.eqv a b))
def dLt : R2D := fun a b Q => match a, b with
  | .int i, .int j => Q (.bool (decide (i < j)))
  | _, _ => False
def dLe : R2D := fun a b Q => match a, b with
  | .int i, .int j => Q (.bool (decide (i ≤ j)))
  | _, _ => False
def dGt : R2D := fun a b Q => match a, b with
  | .int i, .int j => Q (.bool (decide (j < i)))
  | _, _ => False
def dGe : R2D := fun a b Q => match a, b with
  | .int i, .int j => Q (.bool (decide (j ≤ i)))
  | _, _ => False
def isNoneD : Dt → Bool
  | .none => true
  | _ => false
def dIs : R2D := fun a b Q => match b with
  | .none => Q (.bool (isNoneD a))
  | _ => False
def dIsNot : R2D := fun a b Q => match b with
  | .none => Q (.bool (!isNoneD a))
  | _ => False
section
variable {X : Cx}
theorem DR.none_iff {K : PySem.W.Frag} {G : Hp} {v : V} {d : Dt} (r : DR K G v d) : decide (v = V.non) = isNoneD d := by
  cases d <;> cases r <;> rfl
theorem op2I {f : Value → Value → Sem Value} {C : Int → Int → Prop} {g : Int → Int → V} {r : R2D} (o : OpR X f (rI C g)) (h : ∀ a b Q, r a b Q → ∃ i j d, a = .int i ∧ b = .int j ∧ C i j ∧ (∀ G, DR X.K G (g i j) d) ∧ Q d) : VOp X f r := by
  intro pins s σ H x y v u Q I rx ry ⟨G, d1, d2, Q0, sg, r1, r2, q, hq⟩
  obtain ⟨i, j, d, rfl, rfl, c, rd, q⟩ := h _ _ _ q
  cases r1
  cases r2
  exact o pins s σ H _ _ v u Q I rx ry ⟨i, j, rfl, rfl, c, hq d q _ G H (Same.refl _) (Same.refl _) sg New.refl (rd G)⟩
theorem op2I0 {f : Value → Value → Sem Value} {g : Int → Int → V} {r : R2D} (o : OpR X f (rI0 g)) (h : ∀ a b Q, r a b Q → ∃ i j d, a = .int i ∧ b = .int j ∧ (∀ G, DR X.K G (g i j) d) ∧ Q d) : VOp X f r := by
  intro pins s σ H x y v u Q I rx ry ⟨G, d1, d2, Q0, sg, r1, r2, q, hq⟩
  obtain ⟨i, j, d, rfl, rfl, rd, q⟩ := h _ _ _ q
  cases r1
  cases r2
  exact o pins s σ H _ _ v u Q I rx ry ⟨i, j, rfl, rfl, hq d q _ G H (Same.refl _) (Same.refl _) sg New.refl (rd G)⟩
theorem o_sub : VOp X (binaryOp .Sub) dSub := op2I0 op_sub fun a b Q h => by
  cases a <;> cases b <;> first | exact ⟨_, _, _, rfl, rfl, fun _ => .int _, h⟩ | exact h.elim
theorem o_mul : VOp X (binaryOp .Mult) dMul := op2I op_mul fun a b Q h => by
  cases a <;> cases b <;> first | exact ⟨_, _, _, rfl, rfl, h.1, fun _ => .int _, h.2⟩ | exact h.elim
theorem o_div : VOp X (binaryOp .FloorDiv) dDiv := op2I op_fdiv fun a b Q h => by
  cases a <;> cases b <;> first | exact ⟨_, _, _, rfl, rfl, h.1, fun _ => .int _, h.2⟩ | exact h.elim
theorem o_lt : VOp X (compareOp .Lt) dLt := op2I0 op_lt fun a b Q h => by
  cases a <;> cases b <;> first | exact ⟨_, _, _, rfl, rfl, fun _ => .bl _, h⟩ | exact h.elim
theorem o_le : VOp X (compareOp .LtE) dLe := op2I0 op_le fun a b Q h => by
  cases a <;> cases b <;> first | exact ⟨_, _, _, rfl, rfl, fun _ => .bl _, h⟩ | exact h.elim
theorem o_gt : VOp X (compareOp .Gt) dGt := op2I0 op_gt fun a b Q h => by
  cases a <;> cases b <;> first | exact ⟨_, _, _, rfl, rfl, fun _ => .bl _, h⟩ | exact h.elim
theorem o_ge : VOp X (compareOp .GtE) dGe := op2I0 op_ge fun a b Q h => by
  cases a <;> cases b <;> first | exact ⟨_, _, _, rfl, rfl, fun _ => .bl _, h⟩ | exact h.elim
theorem str_eqv (x y : Str) : decide (V.str x = V.str y) = PyData.eqv (.str x) (.str y) := by
  simp only [PyData.eqv]
  by_cases h : x = y
  · subst h; simp
  · have h' : ¬ V.str x = V.str y := fun e => h (V.str.inj e)
    rw [decide_eq_false h']
    exact (beq_eq_false_iff_ne.mpr h).symm
theorem shp_cases {a b : Dt} (h : shp a b) : (∃ x y, a = .str x ∧ b = .str y) ∨ (SeqAt.shaped a = true ∧ SeqAt.shaped b = true) := by
  cases a <;> cases b <;> first | exact .inr h | exact .inl ⟨_, _, rfl, rfl⟩
theorem o_eq (hu : X.A.units + 64 < cLine) : VOp X (compareOp .Eq) dEq := by
  intro pins s σ H x y v u Q I rx ry ⟨G, d1, d2, Q0, sg, r1, r2, q, hq⟩
  rcases shp_cases q.1 with ⟨a, b, rfl, rfl⟩ | ⟨q1, q2⟩
  · cases r1; cases r2
    exact op_eq pins s σ H _ _ v u Q I rx ry ⟨rfl, by rw [str_eqv]; exact hq _ q.2 _ G H (Same.refl _) (Same.refl _) sg New.refl (.bl _)⟩
  · exact op_eqD hu pins s σ H x y v u Q I rx ry ⟨d1, d2, DR.dp (PyData.hasDict_of_canLay _ (SeqAt.canLay_of_shaped q1)) (DR.same sg r1), DR.dp (PyData.hasDict_of_canLay _ (SeqAt.canLay_of_shaped q2)) (DR.same sg r2), q1, q2, hq _ q.2 _ G H (Same.refl _) (Same.refl _) sg New.refl (.bl _)⟩
theorem o_ne (hu : X.A.units + 64 < cLine) : VOp X (compareOp .NotEq) dNe := by
  intro pins s σ H x y v u Q I rx ry ⟨G, d1, d2, Q0, sg, r1, r2, q, hq⟩
  rcases shp_cases q.1 with ⟨a, b, rfl, rfl⟩ | ⟨q1, q2⟩
  · cases r1; cases r2
    exact op_ne pins s σ H _ _ v u Q I rx ry ⟨rfl, by rw [str_eqv]; exact hq _ q.2 _ G H (Same.refl _) (Same.refl _) sg New.refl (.bl _)⟩
  · exact op_neD hu pins s σ H x y v u Q I rx ry ⟨d1, d2, DR.dp (PyData.hasDict_of_canLay _ (SeqAt.canLay_of_shaped q1)) (DR.same sg r1), DR.dp (PyData.hasDict_of_canLay _ (SeqAt.canLay_of_shaped q2)) (DR.same sg r2), q1, q2, hq _ q.2 _ G H (Same.refl _) (Same.refl _) sg New.refl (.bl _)⟩
theorem o_is : VOp X (compareOp .Is) dIs := by
  intro pins s σ H x y v u Q I rx ry ⟨G, d1, d2, Q0, sg, r1, r2, q, hq⟩
  cases d2 with
  | none =>
    cases r2
    exact op_isN pins s σ H x _ v u Q I rx ry ⟨rfl, by rw [r1.none_iff]; exact hq _ q _ G H (Same.refl _) (Same.refl _) sg New.refl (.bl _)⟩
  | _ => exact q.elim
theorem o_isnot : VOp X (compareOp .IsNot) dIsNot := by
  intro pins s σ H x y v u Q I rx ry ⟨G, d1, d2, Q0, sg, r1, r2, q, hq⟩
  cases d2 with
  | none =>
    cases r2
    exact op_notN pins s σ H x _ v u Q I rx ry ⟨rfl, by rw [r1.none_iff]; exact hq _ q _ G H (Same.refl _) (Same.refl _) sg New.refl (.bl _)⟩
  | _ => exact q.elim
theorem gfree {G H : Hp} {p : Addr} (s : Same G H) (h : H p = none) : G p = none := by
  cases q : G p with | none => rfl | some u => rw [s _ _ q] at h; cases h
theorem o_add : VOp X (binaryOp .Add) dAdd := by
  intro pins s σ H x y v u Q I rx ry ⟨G, d1, d2, Q0, sg, r1, r2, q, hq⟩
  cases d1 with
  | int i =>
    cases d2 with
    | int j =>
      cases r1; cases r2
      exact op_add pins s σ H _ _ v u Q I rx ry ⟨i, j, rfl, rfl, hq _ q _ G H (Same.refl _) (Same.refl _) sg New.refl (.int _)⟩
    | _ => exact q.elim
  | str a =>
    cases d2 with
    | str b =>
      cases r1; cases r2
      exact op_add_str pins s σ H _ _ v u Q I rx ry ⟨a, b, rfl, rfl, q.1, hq _ q.2 _ G H (Same.refl _) (Same.refl _) sg New.refl (.str _)⟩
    | _ => exact q.elim
  | tuple xs =>
    cases d2 with
    | tuple ys =>
      cases r1 with
      | tup a1 q1 =>
        cases r2 with
        | tup a2 q2 =>
          refine op_catA pins s σ H _ _ v u Q I rx ry ⟨_, _, _, _, rfl, rfl, sameT sg a1, sameT sg a2, by rw [q1.length, q2.length]; exact q.1, fun e => ?_, fun _ e => ?_, fun _ _ p hp => ?_⟩
          · subst e
            cases xs with
            | nil => exact hq _ q.2 _ G H (Same.refl _) (Same.refl _) sg New.refl (.tup a2 q2)
            | cons => cases q1
          · subst e
            cases ys with
            | nil => exact hq _ q.2 _ G H (Same.refl _) (Same.refl _) sg New.refl (.tup a1 (by rw [List.append_nil]; exact q1))
            | cons => cases q2
          · have n := gfree sg hp
            exact hq _ q.2 _ (L2.upd G p _) _ (same_upd hp) (same_upd n) (same_upd2 sg) (new_upd hp) (.tup (SqT.of upd_same) (DRs.same (same_upd n) (q1.append q2)))
    | _ => exact q.elim
  | list xs =>
    cases d2 with
    | list ys =>
      cases r1 with
      | lst a1 q1 =>
        cases r2 with
        | lst a2 q2 =>
          refine op_cat pins s σ H _ _ v u Q I rx ry ⟨_, _, _, _, rfl, rfl, sg _ _ a1, sg _ _ a2, by rw [q1.length, q2.length]; exact q.1, fun p hp => ?_⟩
          have n := gfree sg hp
          exact hq _ q.2 _ (L2.upd G p _) _ (same_upd hp) (same_upd n) (same_upd2 sg) (new_upd hp) (.lst upd_same (DRs.same (same_upd n) (q1.append q2)))
    | _ => exact q.elim
  | _ => cases d2 <;> exact q.elim
end
/-! ### places -/
def dIx : R2D := fun a b Q => match a, b with
  | .tuple ds, .int i => (match atI ds i with | some d => Q d | none => False)
  | .list ds, .int i => (match atI ds i with | some d => Q d | none => False)
  | .str z, .int i => z.length ≤ sizeLine ∧ (match atI z.cps.toList i with | some c => Q (.str ⟨#[c]⟩) | none => False)
  | _, _ => False
theorem DRs.atI {K : PySem.W.Frag} {G : Hp} {xs : List V} {ds : List Dt} {i : Int} {d : Dt} (r : DRs K G xs ds) (h : L2.atI ds i = some d) : ∃ v, L2.atI xs i = some v ∧ DR K G v d := by
  unfold L2.atI at h ⊢
  rw [r.length]
  cases q : ixN ds.length i with
  | none => rw [q] at h; cases h
  | some j =>
    rw [q] at h
    obtain ⟨v, h1, h2⟩ := r.get (i := j) (d := d) h
    exact ⟨v, h1, h2⟩
section
variable {X : Cx} {U : WX} {a b e : Expr} {es : List Expr} {pos p2 : Pos} {ta tb te : VT} {al : VA}
theorem ix_imp {K : PySem.W.Frag} : ∀ x y H Q, lift2 K dIx x y H Q → rIx K x y H Q := by
  rintro x y H Q ⟨G, d1, d2, Q0, sg, r1, r2, q, hq⟩
  cases d1 with
  | tuple ds =>
    cases d2 with
    | int i =>
      cases r1 with
      | tup a1 q1 =>
        cases r2
        have q' : (match L2.atI ds i with | some d => Q0 d | none => False) := q
        cases hh : L2.atI ds i with
        | none => rw [hh] at q'; exact q'.elim
        | some d =>
          rw [hh] at q'
          obtain ⟨w, h1, h2⟩ := q1.atI hh
          exact .inr (.inl ⟨_, _, i, w, rfl, rfl, sameT sg a1, h1, hq d q' _ G H (Same.refl _) (Same.refl _) sg New.refl h2⟩)
    | _ => exact q.elim
  | list ds =>
    cases d2 with
    | int i =>
      cases r1 with
      | lst a1 q1 =>
        cases r2
        have q' : (match L2.atI ds i with | some d => Q0 d | none => False) := q
        cases hh : L2.atI ds i with
        | none => rw [hh] at q'; exact q'.elim
        | some d =>
          rw [hh] at q'
          obtain ⟨w, h1, h2⟩ := q1.atI hh
          exact .inl ⟨_, _, i, w, rfl, rfl, SqL.of (sg _ _ a1), h1, hq d q' _ G H (Same.refl _) (Same.refl _) sg New.refl h2⟩
    | _ => exact q.elim
  | str z =>
    cases d2 with
    | int i =>
      cases r1
      cases r2
      have q' : z.length ≤ sizeLine ∧ (match L2.atI z.cps.toList i with | some c => Q0 (.str ⟨#[c]⟩) | none => False) := q
      cases hh : L2.atI z.cps.toList i with
      | none => rw [hh] at q'; exact q'.2.elim
      | some c =>
        rw [hh] at q'
        exact .inr (.inr ⟨z, i, c, rfl, rfl, q'.1, hh, hq _ q'.2 _ G H (Same.refl _) (Same.refl _) sg New.refl (.str _)⟩)
    | _ => exact q.elim
  | _ => cases d2 <;> exact q.elim
theorem tOp_imp {K : PySem.W.Frag} {r : R2D} {r' : R2} (w : ∀ x y H Q, lift2 K r x y H Q → r' x y H Q) : ∀ σ H Q, tOp (lift2 K r) (up K U ta) (up K U tb) σ H Q → tOp r' (up K U ta) (up K U tb) σ H Q :=
  fun σ H Q ⟨C, ρ, n, G, O, Q0, E0, I, h, hq, he⟩ => ⟨C, ρ, n, G, O, Q0, E0, I, h, fun d1 n1 h1 v1 G1 O1 H1 I1 s1 r1 => by
    obtain ⟨C, ρ, n, G, O, Q0, E0, I, h, hq, he⟩ := hq d1 n1 h1 v1 G1 O1 H1 I1 s1 r1
    exact ⟨C, ρ, n, G, O, Q0, E0, I, h, fun d2 n2 h2 v2 G2 O2 H2 I2 s2 r2 => w _ _ _ _ (hq d2 n2 h2 v2 G2 O2 H2 I2 s2 r2), he⟩, he⟩
theorem ve_ix (ha : VE X U a ta) (hb : VE X U b tb) (hs : PlainIx b := by exact fun _ _ => rfl) : VE X U (.Subscript a b pos) (vOp dIx ta tb) := pe_imp (pe_ix ix_seq ha hb hs) fun σ H Q h => tOp_imp ix_imp σ H Q (up_op σ H Q h)
/-! ### slices -/
def cutD {α : Type} (xs : List α) (lo hi : Option Int) : List α := (xs.drop (HT.sIx xs.length 0 lo)).take (HT.sIx xs.length xs.length hi - HT.sIx xs.length 0 lo)
end
end VL


set_option maxRecDepth 100000
set_option maxHeartbeats 2000000
namespace VL
open PySem PySem.Spec PyProof.Rows L2
/-! ### built-in functions on data -/
abbrev RCD := List Dt → (Dt → Prop) → Prop
def liftC (K : PySem.W.Frag) (r : RCD) : List V → Hp → VK → Prop := fun xs H Q => ∃ G ds Q0, Same G H ∧ DRs K G xs ds ∧ r ds Q0 ∧ ∀ d, Q0 d → ∀ v G' H', Same H H' → Same G G' → Same G' H' → New G H G' → DR K G' v d → Q v H'
abbrev VCal (X : Cx) (f : Value) (r : RCD) : Prop := CallR X f (liftC X.K r)
def vCB (r : RCD) (al : VA) : VT := fun ρ n Q E => al ρ n (fun ds n' => r ds fun d => Q d n') E
section
variable {X : Cx} {U : WX} {a b e : Expr} {es : List Expr} {pos p : Pos} {ta tb te : VT} {al : VA} {x : Str} {id T : String} {r : RCD}
theorem up_cb : ∀ σ H Q, up X.K U (vCB r al) σ H Q → tCB (liftC X.K r) (upA X.K U al) σ H Q :=
  fun σ H Q ⟨C, ρ, n, G, O, Q0, E0, I, h, hq, he⟩ => ⟨C, ρ, n, G, O, _, E0, I, h, fun ds n1 h1 vs G1 O1 H1 I1 s1 r1 => ⟨G1, ds, _, I1.gH, r1, h1, fun d hd v G' H' sh sg sgh nw rd => hq d n1 hd v G' _ H' (I1.pure sh sg sgh nw) (s1.trans sg) rd⟩, he⟩
theorem ve_callB (hc : VCal X (.builtin id) r) (hg : Gl X x) (hm : X.mg x = none) (hv : bootBuiltins x = some (.builtin id)) (ha : VAa X U (e :: es) al) (hn : x ≠ "__name__" := by decide) (hdb : (x == ("__debug__" : Str)) = false := by decide)
    (he : starEach (e :: es) X.env = (false, eval e X.env) :: starEach es X.env := by rfl) (hpl : (backTo pos (starEach es X.env)).any (·.1) = false := by rfl) : VE X U (.Call (.Name x p) (e :: es) [] pos) (vCB r al) := pe_imp (pe_callB hc hg hm hv ha hn hdb he hpl) up_cb
theorem ve_callTy (hc : VCal X (.type T) r) (hg : Gl X x) (hm : X.mg x = none) (hv : bootBuiltins x = some (.type T)) (ha : VAa X U (e :: es) al) (hn : x ≠ "__name__" := by decide) (hdb : (x == ("__debug__" : Str)) = false := by decide)
    (he : starEach (e :: es) X.env = (false, eval e X.env) :: starEach es X.env := by rfl) (hpl : (backTo pos (starEach es X.env)).any (·.1) = false := by rfl) : VE X U (.Call (.Name x p) (e :: es) [] pos) (vCB r al) := pe_imp (pe_callTy hc hg hm hv ha hn hdb he hpl) up_cb
theorem call_imp {f : Value} {r r' : List V → Hp → VK → Prop} (h : CallR X f r) (w : ∀ xs H Q, r' xs H Q → r xs H Q) : CallR X f r' := fun pins s σ H xs us Q I rv q => h pins s σ H xs us Q I rv (w _ _ _ q)
def bLen : RCD := fun ds Q => match ds with
  | [.tuple xs] => Q (.int (xs.length : Int))
  | [.list xs] => Q (.int (xs.length : Int))
  | [.str z] => z.length ≤ sizeLine ∧ Q (.int (z.length : Int))
  | _ => False
theorem c_len : VCal X (.builtin "len") bLen := call_imp (call_len_seq.or call_len_str) fun xs H Q ⟨G, ds, Q0, sg, r, q, hq⟩ => by
  match ds, r, q with
  | [.tuple ys], .cons (.tup a1 q1) .nil, q => exact .inl ⟨_, _, rfl, .inr (sameT sg a1), by rw [q1.length]; exact hq _ q _ G H (Same.refl _) (Same.refl _) sg New.refl (.int _)⟩
  | [.list ys], .cons (.lst a1 q1) .nil, q => exact .inl ⟨_, _, rfl, .inl (SqL.of (sg _ _ a1)), by rw [q1.length]; exact hq _ q _ G H (Same.refl _) (Same.refl _) sg New.refl (.int _)⟩
  | [.str z], .cons (.str _) .nil, q => exact .inr ⟨z, rfl, q.1, hq _ q.2 _ G H (Same.refl _) (Same.refl _) sg New.refl (.int _)⟩
def bMin2 : RCD := fun ds Q => match ds with
  | [.int i, .int j] => Q (.int (if j < i then j else i))
  | _ => False
def bMax2 : RCD := fun ds Q => match ds with
  | [.int i, .int j] => Q (.int (if j > i then j else i))
  | _ => False
theorem c_min2 (hc : X.calm = true) : VCal X (.builtin "min") bMin2 := call_imp (call_min2 hc) fun xs H Q ⟨G, ds, Q0, sg, r, q, hq⟩ => by
  match ds, r, q with
  | [.int i, .int j], .cons (.int _) (.cons (.int _) .nil), q => exact ⟨i, j, rfl, hq _ q _ G H (Same.refl _) (Same.refl _) sg New.refl (.int _)⟩
theorem c_max2 (hc : X.calm = true) : VCal X (.builtin "max") bMax2 := call_imp (call_max2 hc) fun xs H Q ⟨G, ds, Q0, sg, r, q, hq⟩ => by
  match ds, r, q with
  | [.int i, .int j], .cons (.int _) (.cons (.int _) .nil), q => exact ⟨i, j, rfl, hq _ q _ G H (Same.refl _) (Same.refl _) sg New.refl (.int _)⟩
def bTuple : RCD := fun ds Q => match ds with
  | [.tuple xs] => Q (.tuple xs)
  | [.list xs] => Q (.tuple xs)
  | _ => False
theorem c_tuple : VCal X (.type "tuple") bTuple := call_imp call_tuple_of fun xs H Q ⟨G, ds, Q0, sg, r, q, hq⟩ => by
  match ds, r, q with
  | [.tuple ys], .cons (.tup a1 q1) .nil, q => exact ⟨_, _, rfl, .inr ⟨sameT sg a1, hq _ q _ G H (Same.refl _) (Same.refl _) sg New.refl (.tup a1 q1)⟩⟩
  | [.list ys], .cons (.lst a1 q1) .nil, q => exact ⟨_, _, rfl, .inl ⟨SqL.of (sg _ _ a1), fun p hp => hq _ q _ (L2.upd G p _) _ (same_upd hp) (same_upd (gfree sg hp)) (same_upd2 sg) (new_upd hp) (.tup (SqT.of upd_same) (DRs.same (same_upd (gfree sg hp)) q1))⟩⟩
def intsD : List Dt → Option (List Int)
  | [] => some []
  | .int i :: r => (intsD r).map (i :: ·)
  | _ => none
theorem intsD_map : ∀ ns : List Int, intsD (ns.map PyData.int) = some ns
  | [] => rfl
  | n :: ns => by simp [intsD, intsD_map ns]
theorem DRs.ints_of {K : PySem.W.Frag} {G : Hp} : ∀ {ns : List Int} {vs : List V}, DRs K G vs (ns.map PyData.int) → vs = ns.map V.int
  | [], _, h => by cases h; rfl
  | n :: ns, _, h => by
    cases h with
    | cons a r => cases a; rw [DRs.ints_of r]; rfl
/-! ### repr -/
def bRepr : RCD := fun ds Q => match ds with
  | [d] => d.hasDict = false ∧ d.showable = true ∧ d.shown.length ≤ sizeLine ∧ d.depth ≤ 60 ∧ Q (.str d.shown)
  | _ => False
theorem c_repr (hG : X.A.guards = some []) (hu : X.A.units + 64 < cLine) : VCal X (.builtin "repr") bRepr := by
  intro pins s σ H xs us Q I rv ⟨G, ds, Q0, sg, r, q, hq⟩
  match ds, r, q with
  | [d], .cons r1 .nil, ⟨nd, h1, h2, h3, q⟩ =>
    cases rv with
    | cons rv1 rv2 =>
      cases rv2
      have fin : ∀ h' u tk, (∀ b o, s.heap.get? b = some o → h'.get? b = some o) → EP X pins σ Q (.str d.shown u) { s with heap := h', toks := tk } := fun h' u tk hk =>
        ⟨.str d.shown, H, I.kept hk, ⟨u, rfl⟩, hq _ q _ G H (Same.refl _) (Same.refl _) sg New.refl (.str _)⟩
      obtain ⟨as, rd⟩ := Dp.reads I d _ _ (DR.dp nd (DR.same sg r1)) rv1
      cases d with
      | none => cases r1; cases rv1; exact PySem.P.repr_of_none (fin _ _ _ fun _ _ e => e)
      | bool b => cases r1; cases rv1; exact PySem.P.repr_of_bool (fin _ _ _ fun _ _ e => e)
      | int i =>
        cases r1
        obtain ⟨t, rfl⟩ := rv1
        have h1' : i.natAbs.log2 < 1920 := by simpa [PyData.showable] using h1
        exact PySem.P.repr_of_int h1' (fin _ _ _ fun _ _ e => e)
      | str z =>
        cases r1
        obtain ⟨t, rfl⟩ := rv1
        exact PySem.P.repr_of_str (fin _ _ _ fun _ _ e => e) h2
      | list ds =>
        cases r1
        cases rv1
        exact repr_of_reads' rd h1 (fun z => by rw [nd] at z; cases z) hG (by omega) (fun _ _ e => e) fin h2
      | tuple ds =>
        cases r1
        cases rv1
        exact repr_of_reads' rd h1 (fun z => by rw [nd] at z; cases z) hG (by omega) (fun _ _ e => e) fin h2
      | dict kvs => simp [PyData.hasDict] at nd
/-! ### isinstance -/
def tyN : Dt → String
  | .none => "NoneType"
  | .bool _ => "bool"
  | .int _ => "int"
  | .str _ => "str"
  | .list _ => "list"
  | .tuple _ => "tuple"
  | .dict _ => "dict"
def isiD (T : String) (d : Dt) : Bool := tyN d == T || (T == "int" && tyN d == "bool")
/-- the answers of the written part -/
def KitOk (K : PySem.W.Frag) (T : String) : Prop := ∀ t ∈ ["NoneType", "bool", "int", "str", "list", "tuple", "dict"], PySem.W.kitOne K (.type t) (.type T) = some (t == T || (T == "int" && t == "bool"))
/-- what is known by where it stands is an instance -/
def InsAt (K : PySem.W.Frag) (G H : Hp) : Prop := ∀ dx a, G dx = some (.own a) → ∃ (c : Str) (dx : Addr) (fs : List (Str × V)), ClsOk K c ∧ H a = some (.ins (He.ga K c) dx fs)
theorem In.insAt {K : PySem.W.Frag} {C : Ct} {σ : L2.St} {ρ : Nv} {n : Sn} {G O H : Hp} (I : In K C σ ρ n G O H) : InsAt K G H := fun dx a e => by
  obtain ⟨L, x⟩ := I.sto
  obtain ⟨c, hc⟩ := x.own dx a e
  obtain ⟨k, _, dx, vs, _, h, _⟩ := x.at_ a c hc
  rw [I.ht.2] at k h
  exact ⟨_, dx, vs, k, h⟩
/-- an error's object as it stands -/
theorem DR.errAt {X : Cx} {pins : List (Addr × Obj)} {σ : L2.St} {H : Hp} {s : Shared} {a dd : Addr} {c : Str} {fs : List (Str × V)} (k : XCls X.K c) (ea : H a = some (ErrO (.ref (He.ga X.K c)) (some dd) a)) (eb : H dd = some (.xd fs)) (I : Inv X pins σ H s) :
    ∃ od oe, PySem.W.InstAt s.heap a oe (He.ga X.K c) (some od) := by
  obtain ⟨⟨oe, vs, h1, hz, hd⟩, _⟩ := I.hok a _ ea
  obtain ⟨mA, hns, hr⟩ := (show ObjOk X.prog X.w H s.heap dd (.xd fs) from I.hok dd _ eb)
  obtain ⟨od, ho, _⟩ := lookIn_ns hns
  exact ⟨od, oe, h1, hz.1, by unfold PySem.W.notCls; rw [hd] <;> rfl, by rw [hz.2]; exact ho⟩
theorem DR.isi {T : String} {X : Cx} {pins : List (Addr × Obj)} {σ : L2.St} {G H : Hp} {s : Shared} {v : V} {u : Value} {d : Dt} (r : DR X.K G v d) (sg : Same G H) (so : InsAt X.K G H) (I : Inv X pins σ H s) (rx : L2.RelV v u) (hk : KitOk X.K T) (hT : T ∈ ["bool", "int", "str", "list", "tuple"]) :
    ∃ (t : Value) (P : Heap → Prop), PySem.W.KitX X.K u t P ∧ P s.heap ∧ u ≠ .builtin "__main__.__loader__#opaque" ∧ PySem.W.kitOne X.K t (.type T) = some (isiD T d) := by
  have by_ : ∀ {t : String}, t ∈ ["NoneType", "bool", "int", "str", "list", "tuple", "dict"] → tyN d = t → L2.TyX X.K H v (.type t) → ∃ (t : Value) (P : Heap → Prop), PySem.W.KitX X.K u t P ∧ P s.heap ∧ u ≠ .builtin "__main__.__loader__#opaque" ∧ PySem.W.kitOne X.K t (.type T) = some (isiD T d) := fun {t} ht e ty => by
    obtain ⟨P, Z, p, hx⟩ := kit_of I rx ty
    exact ⟨_, P, Z, p, hx, by rw [hk t ht]; unfold isiD; rw [e]⟩
  cases r with
  | non => exact by_ (t := "NoneType") (by decide) rfl (.base .non)
  | bl b => exact by_ (t := "bool") (by decide) rfl (.base (.bl b))
  | int i => exact by_ (t := "int") (by decide) rfl (.base (.int i))
  | str z => exact by_ (t := "str") (by decide) rfl (.base (.str z))
  | lst a _ => exact by_ (t := "list") (by decide) rfl (.base (.lst (sg _ _ a)))
  | tup a _ =>
    rcases a with (a | ⟨o, a⟩) | ⟨o, its, n, hk, hc, _⟩
    · exact by_ (t := "tuple") (by decide) rfl (.base (.tup (sg _ _ a)))
    · exact by_ (t := "tuple") (by decide) rfl (.fTuple (sg _ _ a))
    · exact by_ (t := "tuple") (by decide) rfl (.kTuple hk hc)
  | dic a => exact by_ (t := "dict") (by decide) rfl (.base (.dK (sg _ _ a)))
  | @dct a es _ kvs ea _ =>
    cases (show u = Value.ref a from rx)
    obtain ⟨⟨_, _, _, xs, _, ents, ep, h1, h2, _⟩, _⟩ := I.hok a _ (sg _ _ ea)
    exact ⟨_, _, PySem.W.kitx_dict, ⟨_, h1, h2.1⟩, (fun z => by cases z), hk "dict" (by decide)⟩
  | @rfc a dx ea =>
    obtain ⟨c, dx, fs, k, ea⟩ := so dx a ea
    obtain ⟨P, Z, p, hx⟩ := kit_of I rx (.base (.ins ea k.cl k.ha k.hn k.htk k.hm))
    refine ⟨_, P, Z, p, hx, (k.ki T hT).trans ?_⟩
    simp only [List.mem_cons, List.not_mem_nil, or_false] at hT
    rcases hT with rfl | rfl | rfl | rfl | rfl <;> rfl
  | @err a dd c fs gs kvs k ea eb hl hr =>
    cases (show u = Value.ref a from rx)
    obtain ⟨od, J⟩ := DR.errAt (X := X) k (sg _ _ ea) (sg _ _ eb) I
    obtain ⟨oe, J⟩ := J
    refine ⟨_, _, PySem.W.kitx_exc (by obtain ⟨cd, hc, _⟩ := PySem.W.any_some k.hd; rw [hc]; rfl) k.hg k.hk k.hs k.ha k.hn k.ht k.hm, J, (fun z => by cases z), (k.ki T hT).trans ?_⟩
    simp only [List.mem_cons, List.not_mem_nil, or_false] at hT
    rcases hT with rfl | rfl | rfl | rfl | rfl <;> rfl
def rIsiD (T : String) (K : PySem.W.Frag) : List V → Hp → VK → Prop := fun xs H Q => ∃ (x : V) (d : Dt) (G : Hp), xs = [x, .ty T] ∧ Same G H ∧ InsAt K G H ∧ DR K G x d ∧ KitOk K T ∧ Q (.bl (isiD T d)) H
theorem call_isiD {T : String} {X : Cx} (hT : T ∈ ["bool", "int", "str", "list", "tuple"]) : CallR X (.builtin "isinstance") (rIsiD T X.K) := by
  intro pins s σ H xs us Q I r h
  obtain ⟨x, d, G, rfl, sg, so, rd, hk, q⟩ := h
  obtain ⟨u1, u2, rfl, r1, r2⟩ := vals2 r
  cases (show u2 = Value.type T from r2)
  obtain ⟨t, P, Z, p, hx, e⟩ := rd.isi sg so I r1 hk hT
  exact PySem.W.kia_one Z I.kIn p e hx fun tk => ⟨.bl _, H, I.tok tk, rfl, q⟩
def vIsi (T : String) (te : VT) : VT := fun ρ n Q E => te ρ n (fun d n' => Q (.bool (isiD T d)) n') E
theorem ve_isi {y : Str} {p2 p3 : Pos} (hg : Gl X "isinstance") (hm : X.mg "isinstance" = none) (hg2 : Gl X y) (hm2 : X.mg y = none) (hv2 : bootBuiltins y = some (.type T)) (hk : KitOk X.K T) (ha : VE X U e te)
    (hv : bootBuiltins "isinstance" = some (.builtin "isinstance") := by decide +kernel) (hn : y ≠ "__name__" := by decide) (hdb : (y == ("__debug__" : Str)) = false := by decide)
    (he : starEach [e, .Name y p2] X.env = (false, eval e X.env) :: starEach [.Name y p2] X.env := by rfl) (he2 : starEach [.Name y p2] X.env = (false, eval (.Name y p2) X.env) :: starEach [] X.env := by rfl) (hpl : (backTo pos (starEach [.Name y p2] X.env)).any (·.1) = false := by rfl) (hT : T ∈ ["bool", "int", "str", "list", "tuple"] := by decide) :
    VE X U (.Call (.Name "isinstance" p3) [e, .Name y p2] [] pos) (vIsi T te) :=
  pe_imp (pe_callB (call_isiD hT) hg hm hv (pa_cons ha (pa_cons (pe_bltn (v := .ty T) hg2 hm2 hv2 rfl hn hdb) pa_nil he2) he) (by decide) (by decide) he hpl) fun σ H Q ⟨C, ρ, n, G, O, Q0, E0, I, h, hq, hE⟩ => ⟨C, ρ, n, G, O, _, E0, I, h, fun d n' q v G' O' H' I' s' r =>
    ⟨v, d, G', rfl, I'.gH, I'.insAt, r, hk, hq _ n' q _ G' O' H' I' s' (.bl _)⟩, hE⟩
end
end VL


set_option maxRecDepth 100000
set_option maxHeartbeats 2000000
namespace VL
open PySem PySem.Spec PyProof.Rows L2
/-! ### enumerate of a tuple -/
def IteT (K : PySem.W.Frag) (a : Addr) : It :=
  ⟨fun i H => ∃ (xs : List V) (x : V), SqT K H a xs ∧ xs[i]? = some x, fun i H v H' => ∃ T x, v = .ref T ∧ H T = none ∧ H' = L2.upd H T (.tup [.int (i : Nat), x]) ∧ ∀ xs, SqT K H a xs → xs[i]? = some x, fun i H => ∃ xs : List V, SqT K H a xs ∧ xs.length = i⟩
def TnT (a e it : Addr) (i : Nat) (h : Heap) : Prop := (∃ old, IsEnum h e it (0 + (i : Int)) old) ∧ h.IsTupleIter it a i ∧ e ≠ it ∧ a ≠ it ∧ e ≠ a
theorem turn_enumT {P : Program} {w : World} {K : PySem.W.Frag} {elts : List Expr} {kk : Nat} {tpos : Pos} (a e it : Addr) : Turn P w K (.Tuple elts kk tpos) (IteT K a) [e, it] e (TnT a e it) where
  mem := by simp
  obj := fun i h st b hb => by
    obtain ⟨⟨old, he⟩, ⟨o, ho, hc, hd⟩, _⟩ := st
    rcases (show b = e ∨ b = it by simpa using hb) with z | z
    · subst z; exact ⟨_, he, fun v q => nomatch q⟩
    · subst z; exact ⟨o, ho, fun v q => by rw [hd] at q; cases q⟩
  keep := fun i h h' st k => by
    obtain ⟨⟨old, he⟩, hi, r⟩ := st
    exact ⟨⟨old, k e (by simp) _ he⟩, hi.at fun o q => k it (by simp) o q, r⟩
  item := by
    intro X hP hw hK hc i pins s σ H E I hf st hg
    subst hP hw hK
    obtain ⟨he, hit, n1, n2, n3⟩ := st
    obtain ⟨xs, x, hq, hx⟩ := hg
    obtain ⟨its, rv, tp, hz⟩ := I.tuple hq
    obtain ⟨u, hu, ru⟩ := rv.get hx
    have hlt : i < its.toArray.size := by
      have := (List.getElem?_eq_some_iff.mp hu).1
      simpa using this
    have hh : X.A.in1.handled = none := I.ok.hd hc
    have W := GoesN.enumFrom (prog := X.prog) (w := X.w) (A := X.A) (elts := elts) (x1 := kk) (pos := tpos) 0 (Draws.tuple hh it a n2 its.toArray) e n1 (by simp [n1, n3]) (by simp)
    refine W.goes i s _ E hlt ⟨he, hit, tp⟩ fun v h' tk hY st' hk htk => ?_
    obtain ⟨T, t, y, rfl, hT, hy, hTup⟩ := hY
    have ey : y = u := by
      have e1 : its.toArray[i]? = some y := hy
      rw [show its.toArray[i]? = its[i]? by simp, hu] at e1
      exact (Option.some.inj e1).symm
    subst ey
    have new : ObjOk X.prog X.w (L2.upd H T (.tup [.int (i : Nat), x])) h' T (.tup [.int (i : Nat), x]) :=
      ⟨by show 2 ≤ sizeLine; decide, [.int (0 + (i : Int)) t, y], .cons ⟨t, by simp⟩ (.cons ru .nil), hTup⟩
    have hlte : e < s.heap.objs.size := by obtain ⟨_, q⟩ := he; exact Heap.lt_size q
    have hlti : it < s.heap.objs.size := by obtain ⟨_, q, _⟩ := hit; exact Heap.lt_size q
    refine ⟨.ref T, _, I.turnedNew (ch := [e, it]) (fun b ob hb q => hk b ob hb q) hf hT new, rfl, ⟨T, x, rfl, I.hok.fresh hT, rfl, fun ys hy => by rw [I.tuple_inj hy hq]; exact hx⟩, ⟨st'.1, st'.2.1, n1, n2, n3⟩, fun b hb => ?_⟩
    have hb' : b < T := by
      rcases (show b = e ∨ b = it by simpa using hb) with z | z
      · subst z; exact Nat.lt_of_lt_of_le hlte hT
      · subst z; exact Nat.lt_of_lt_of_le hlti hT
    rw [upd_ne (Nat.ne_of_lt hb')]
    exact (hf b hb).1
  done := by
    intro X hP hw hK hc i pins s σ H E I hf st hg
    subst hP hw hK
    obtain ⟨he, hit, n1, n2, n3⟩ := st
    obtain ⟨xs, hq, hx⟩ := hg
    obtain ⟨its, rv, tp, hz⟩ := I.tuple hq
    have hh : X.A.in1.handled = none := I.ok.hd hc
    have W := GoesN.enumFrom (prog := X.prog) (w := X.w) (A := X.A) (elts := elts) (x1 := kk) (pos := tpos) 0 (Draws.tuple hh it a n2 its.toArray) e n1 (by simp [n1, n3]) (by simp)
    have ei : its.toArray.size = i := by rw [← hx, rv.length]; simp
    refine W.stops s (fun s1 => Inv X pins σ H s1) E ?_ fun h' tk hk htk => ?_
    · rw [ei]; exact ⟨he, hit, tp⟩
    · exact I.turnedL (ch := [e, it]) (fun b ob hb q => hk b ob hb q) hf
  self := fun A i s Q E st h => by
    obtain ⟨⟨_, he⟩, _⟩ := st
    exact wpAny_pyIter_enum he h
set_option maxHeartbeats 4000000 in
theorem enum_new1 {v : Value} {o : Obj} {B : Heap → Prop} (G : Begins v o B) : Meets (Builtin.«enumerate.__new__» ⟨[.type "enumerate", v], []⟩) (fun _ R s => B s.heap ∧
    R (.ok (.ret (.ref (s.heap.push o).objs.size))) { s with heap := (s.heap.push o).push { cls := .type "enumerate", data := .fields #[.none, .bool false, .ref s.heap.objs.size, rawInt 0, .none, .none] } }) :=
  .of_wp fun prog w A R s h => by
    obtain ⟨hp, g, d, tk, os⟩ := s
    obtain ⟨hb, h⟩ := h
    have hsub := sub_enumerate
    have go : ∀ {A' : Around} {E : Value → Shared → Prop} {Q : Value → Shared → Prop}, Q (.ref hp.objs.size) ⟨hp.push o, g, d, tk, os⟩ → wpAny (model prog w) A' (pyIter v) Q E ⟨hp, g, d, tk, os⟩ := fun q => G.iter prog w _ _ ⟨hp, g, d, tk, os⟩ _ hb q
    wp_walk using go
    refine wpAny_stack_any fun st => wpAny_pure ?_
    split
    · rename_i c _ _ _ _ _
      cases (c == Value.type "enumerate") <;> (wp_walk using go; exact ⟨_, rfl, h⟩)
    · wp_walk using go
      exact ⟨_, rfl, h⟩
theorem call_enum1 {prog : Program} {w : World} {A : Around} {E : Value → Shared → Prop} {s : Shared} {v : Value} {o : Obj} {B : Heap → Prop} {Q : Value → Shared → Prop} (G : Begins v o B) (hb : B s.heap)
    (h : ∀ h', IsEnum h' (s.heap.objs.size + 1) s.heap.objs.size 0 .none → h'.get? s.heap.objs.size = some o → (∀ b u, s.heap.get? b = some u → h'.get? b = some u) → Q (.ref (s.heap.objs.size + 1)) { s with heap := h' }) :
    wpAny (model prog w) A (call (.type "enumerate") [v]) Q E s := by
  refine callType_new F.called_enumerate (by decide) (F.typeCall_enumerate_1 _) (F.newCall_enumerate_1 _) (fun obj => F.args_object_init_2 obj _) F.entry_enumerate_new (enum_new1 G) ⟨hb, ?_⟩
  have sz : (s.heap.push o).objs.size = s.heap.objs.size + 1 := Heap.size_push ..
  have ie : IsEnum ((s.heap.push o).push { cls := .type "enumerate", data := .fields #[.none, .bool false, .ref s.heap.objs.size, rawInt 0, .none, .none] }) (s.heap.objs.size + 1) s.heap.objs.size 0 .none := by
    rw [← sz]
    exact Heap.get?_push_size (s.heap.push o) rfl
  rw [sz]
  exact ⟨⟨_, ie, rfl⟩, h _ ie (Heap.get?_push_of_some _ (Heap.get?_push_size _ G.free)) fun b u q => Heap.get?_push_of_some _ (Heap.get?_push_of_some _ q)⟩
def iEnumT (K : PySem.W.Frag) (ta : TA) : TI := fun σ H R => ta σ H fun vs H1 => ∃ a xs, vs = [.ref a] ∧ SqT K H1 a xs ∧ R (IteT K a) H1
theorem pi_enumT {X : Cx} {e : Expr} {ta : TA} {p pos tpos : Pos} {elts : List Expr} {kk : Nat} (hg : Gl X "enumerate") (hm : X.mg "enumerate" = none) (ha : PA X [e] ta) (hs : starEach [e] X.env = [(false, eval e X.env)] := by rfl) :
    PI X (.Tuple elts kk tpos) (.Call (.Name "enumerate" p) [e] [] pos) (iEnumT X.K ta) := by
  constructor
  intro pins s σ H R I h
  refine Call_ (ld_blt I hg hm boot_enumerate (PyProof.Rows.callWith_type1 (thn (ha.run pos pins s σ H _ I h) fun us s1 z => ?_) hs rfl))
  obtain ⟨vs, H1, I1, r1, a, xs, ex, hq, q⟩ := z
  subst ex
  cases r1 with
  | cons r rr =>
    cases rr
    cases r
    obtain ⟨its, rv, tp, hz⟩ := I1.tuple hq
    have alt : a < s1.heap.objs.size := by obtain ⟨o, ho, _⟩ := tp; exact Heap.lt_size ho
    refine call_enum1 (begins_tuple a its.toArray) tp fun h' he hit hk => wpAny_pyIter_enum he ?_
    have I2 : Inv X pins σ H1 { s1 with heap := h' } := I1.kept (t' := s1.toks) hk
    refine ⟨s1.heap.objs.size + 1, [s1.heap.objs.size + 1, s1.heap.objs.size], _, _, H1, rfl, I2, turn_enumT a (s1.heap.objs.size + 1) s1.heap.objs.size, ⟨⟨.none, he⟩, ⟨_, hit, rfl, rfl⟩, Nat.succ_ne_self _, Nat.ne_of_lt alt, Nat.ne_of_gt (Nat.lt_succ_of_lt alt)⟩, fun b hb => ?_, q⟩
    have hle : s1.heap.objs.size ≤ b := by
      rcases (show b = s1.heap.objs.size + 1 ∨ b = s1.heap.objs.size by simpa using hb) with z | z
      · rw [z]; exact Nat.le_add_right _ _
      · rw [z]; exact Nat.le_refl _
    exact I1.fpOk hle (I1.hok.fresh hle)
/-! ### what is walked, as data -/
structure WalkD (K : PySem.W.Frag) (J : It) (G : Hp) (ds : List Dt) : Prop where
  stop : ∀ H, Same G H → J.stop ds.length H
  go : ∀ i H, Same G H → i < ds.length → J.go i H
  yld : ∀ i H x H' G1 d, Same G G1 → Same G1 H → J.yld i H x H' → ds[i]? = some d → ∃ G2, Same H H' ∧ Same G1 G2 ∧ Same G2 H' ∧ New G1 H G2 ∧ DR K G2 x d
def upI (K : PySem.W.Frag) (U : WX) (t : VA) : TI := fun σ H R => ∃ (C : Ct) (ρ : Nv) (n : Sn) (G O : Hp) (Q0 : List Dt → Sn → Prop) (E0 : XW), In K C σ ρ n G O H ∧ t ρ n Q0 E0 ∧
  (∀ ds n', Q0 ds n' → ∀ J G' O' H', In K C σ ρ n' G' O' H' → Same G G' → WalkD K J G' ds → R J H') ∧ LkX K U C σ ρ E0
abbrev VI (X : Cx) (U : WX) (tg iter : Expr) (t : VA) : Prop := PI X tg iter (upI X.K U t)
theorem pi_imp {X : Cx} {tg iter : Expr} {t t' : TI} (h : PI X tg iter t) (w : ∀ σ H R, t' σ H R → t σ H R) : PI X tg iter t' := by
  obtain ⟨h⟩ := h
  exact ⟨fun pins s σ H R I q => h pins s σ H R I (w _ _ _ q)⟩
section
variable {X : Cx} {U : WX} {tg e : Expr} {pos p tpos : Pos} {te : VT} {al : VA} {elts : List Expr} {kk : Nat}
theorem walkD_lst {K : PySem.W.Frag} {G : Hp} {a : Addr} {xs : List V} {ds : List Dt} (h : G a = some (.lst xs)) (r : DRs K G xs ds) : WalkD K (Itl K a) G ds where
  stop := fun H s => ⟨xs, SqL.of (s _ _ h), Nat.le_of_eq r.length⟩
  go := fun i H s hi => ⟨xs, xs[i]'(by rw [r.length]; exact hi), SqL.of (s _ _ h), by simp⟩
  yld := fun i H x H' G1 d s1 s2 y e => by
    obtain ⟨e1, y⟩ := y
    subst e1
    obtain ⟨v, hv, rv⟩ := r.get e
    have := y xs (SqL.of ((s1.trans s2) _ _ h))
    rw [hv] at this
    cases this
    exact ⟨G1, Same.refl _, Same.refl _, s2, New.refl, DR.same s1 rv⟩
def itemsL (Q : List Dt → Prop) : Dt → Prop
  | .list ds => Q ds
  | _ => False
def iL (te : VT) : VA := fun ρ n Q E => te ρ n (fun d n' => itemsL (fun ds => Q ds n') d) E
theorem vi_lst (h : VE X U e te) : VI X U tg e (iL te) := pi_imp (pi_list h) fun σ H R ⟨C, ρ, n, G, O, Q0, E0, I, h, hq, he⟩ => ⟨C, ρ, n, G, O, _, E0, I, h, fun d n' q v G' O' H' I' s' r => by
  cases d with
  | list ds => cases r with | lst a r => exact ⟨_, rfl, ⟨_, SqL.of (I'.gH _ _ a)⟩, hq ds n' q _ G' O' H' I' s' (walkD_lst a r)⟩
  | _ => exact q.elim, he⟩
/-- range -/
def rngD (lo : Int) (n : Nat) : List Dt := (List.range n).map fun i : Nat => PyData.int (lo + i)
theorem rngD_length (lo : Int) (n : Nat) : (rngD lo n).length = n := by simp [rngD]
theorem rngD_get {lo : Int} {n i : Nat} {d : Dt} (h : (rngD lo n)[i]? = some d) : d = .int (lo + i) := by
  unfold rngD at h
  rw [List.getElem?_map] at h
  cases q : (List.range n)[i]? with
  | none => rw [q] at h; cases h
  | some k =>
    rw [q] at h
    cases h
    rw [(List.getElem?_eq_some_iff.mp q).2.symm]
    simp
theorem walkD_rng {K : PySem.W.Frag} {G : Hp} {lo : Int} {n : Nat} : WalkD K (Itr lo n) G (rngD lo n) where
  stop := fun H s => by rw [rngD_length]; exact Nat.le_refl _
  go := fun i H s hi => by rw [rngD_length] at hi; exact hi
  yld := fun i H x H' G1 d s1 s2 y e => by
    obtain ⟨e1, y⟩ := y
    subst e1
    subst y
    rw [rngD_get e]
    exact ⟨G1, Same.refl _, Same.refl _, s2, New.refl, .int _⟩
def rng1 (Q : List Dt → Prop) (ds : List Dt) : Prop := match ds with
  | [.int j] => -(2 ^ 62) ≤ j ∧ j < 2 ^ 62 ∧ Q (rngD 0 j.toNat)
  | _ => False
def iR1 (al : VA) : VA := fun ρ n Q E => al ρ n (fun ds n' => rng1 (fun r => Q r n') ds) E
theorem vi_range1 {a : Expr} (hg : Gl X "range") (hm : X.mg "range" = none) (ha : VAa X U [a] al) (hs : starEach [a] X.env = [(false, eval a X.env)] := by rfl) : VI X U tg (.Call (.Name "range" p) [a] [] pos) (iR1 al) :=
  pi_imp (pi_range1 hg hm ha hs) fun σ H R ⟨C, ρ, n, G, O, Q0, E0, I, h, hq, he⟩ => ⟨C, ρ, n, G, O, _, E0, I, h, fun ds n' q vs G' O' H' I' s' r => by
    match ds, r, q with
    | [.int j], .cons (.int _) .nil, q => exact ⟨j, rfl, q.1, q.2.1, hq _ n' q.2.2 _ G' O' H' I' s' walkD_rng⟩, he⟩
/-- enumerate -/
def enumD (ds : List Dt) : List Dt := ds.mapIdx fun i d => PyData.tuple [.int (i : Int), d]
theorem enumD_length (ds : List Dt) : (enumD ds).length = ds.length := by simp [enumD]
theorem enumD_get {ds : List Dt} {i : Nat} {d : Dt} (h : (enumD ds)[i]? = some d) : ∃ x, ds[i]? = some x ∧ d = .tuple [.int (i : Int), x] := by
  unfold enumD at h
  rw [List.getElem?_mapIdx] at h
  cases q : ds[i]? with
  | none => rw [q] at h; cases h
  | some x => rw [q] at h; cases h; exact ⟨x, rfl, rfl⟩
theorem walkD_enumT {K : PySem.W.Frag} {G : Hp} {a : Addr} {xs : List V} {ds : List Dt} (h : SqT K G a xs) (r : DRs K G xs ds) : WalkD K (IteT K a) G (enumD ds) where
  stop := fun H s => ⟨xs, sameT s h, by rw [enumD_length]; exact r.length⟩
  go := fun i H s hi => ⟨xs, xs[i]'(by rw [r.length]; rw [enumD_length] at hi; exact hi), sameT s h, by simp⟩
  yld := fun i H x H' G1 d s1 s2 y e => by
    obtain ⟨T, z, e1, hT, e2, y⟩ := y
    subst e1 e2
    obtain ⟨dx, hx, rfl⟩ := enumD_get e
    obtain ⟨v, hv, rv⟩ := r.get hx
    have := y xs (sameT (s1.trans s2) h)
    rw [hv] at this
    cases this
    have n := gfree s2 hT
    exact ⟨L2.upd G1 T _, same_upd hT, same_upd n, same_upd2 s2, new_upd hT, .tup (SqT.of upd_same) (.cons (.int _) (.cons (DR.same (s1.trans (same_upd n)) rv) .nil))⟩
def iET (al : VA) : VA := fun ρ n Q E => al ρ n (fun ds n' => match ds with
  | [.tuple xs] => Q (enumD xs) n'
  | _ => False) E
theorem vi_enumT (hg : Gl X "enumerate") (hm : X.mg "enumerate" = none) (ha : VAa X U [e] al) (hs : starEach [e] X.env = [(false, eval e X.env)] := by rfl) : VI X U (.Tuple elts kk tpos) (.Call (.Name "enumerate" p) [e] [] pos) (iET al) :=
  pi_imp (pi_enumT hg hm ha hs) fun σ H R ⟨C, ρ, n, G, O, Q0, E0, I, h, hq, he⟩ => ⟨C, ρ, n, G, O, _, E0, I, h, fun ds n' q vs G' O' H' I' s' r => by
    match ds, r, q with
    | [.tuple xs], .cons (.tup a r1) .nil, q => exact ⟨_, _, rfl, sameT I'.gH a, hq _ n' q _ G' O' H' I' s' (walkD_enumT a r1)⟩, he⟩
/-! ### for -/
def vLoop (g : VGt) (tb : VST) (V : VN) : List Dt → Nv → Sn → Prop
  | [], ρ, n => V.nx ρ n
  | d :: ds, ρ, n => g d ρ fun ρ1 => tb { V with nx := vLoop g tb V ds, ct := vLoop g tb V ds, bk := V.nx } ρ1 n
abbrev Ct.at (C : Ct) (G : Hp) : Ct := ⟨C.K, C.mo, C.T, C.L, G, C.O0, C.H0⟩
theorem Io.to {C : Ct} {n : Sn} {G1 G O H : Hp} (I : Io C n G O H) (s : Same G1 G) (b : Same C.G0 G1) : Io (C.at G1) n G O H :=
  ⟨I.good, I.go, s, I.o0, I.oh, I.nO, fun a o e => by
    rcases I.nG a o e with q | q
    · exact .inl (b _ _ q)
    · exact .inr q, I.h0, I.tb, I.sto⟩
theorem Io.back {C : Ct} {n : Sn} {G1 G O H : Hp} (I : Io (C.at G1) n G O H) (b : Same C.G0 G1) (nb : NewA C.G0 C.H0 G1) : Io C n G O H :=
  ⟨I.good, I.go, b.trans I.g0, I.o0, I.oh, I.nO, fun a o e => by
    rcases I.nG a o e with q | q
    · exact nb _ _ q
    · exact .inr q, I.h0, I.tb, I.sto⟩
theorem RelW.at' {K : PySem.W.Frag} {C C' : Ct} {G O : Hp} {w : W} {v : V} (r : RelW K C G O w v) (h : C'.H0 = C.H0) (hm : C'.e = C.e) : RelW K C' G O w v := by
  obtain ⟨fp, f⟩ := r.f
  exact (f.see ⟨Same.refl _, fun b hb => by obtain ⟨o, q, _⟩ := f.ow b hb; exact ⟨rfl, q.g, by rw [h]; exact q.h0⟩⟩ hm).w
theorem RelW.back {K : PySem.W.Frag} {C : Ct} {G1 G O : Hp} {w : W} {v : V} (r : RelW K (C.at G1) G O w v) : RelW K C G O w v := r.at' rfl rfl
theorem Sl.at' {K : PySem.W.Frag} {C C' : Ct} {σ : L2.St} {ρ : Nv} {G O : Hp} {F : Nat → List Addr} (S : Sl K C σ ρ G O F) (h : C'.H0 = C.H0) (hm : C'.e = C.e) : Sl K C' σ ρ G O F := S.see (Same.refl _) (fun i w e b hb => by
  obtain ⟨o, q, _⟩ := S.ow e b hb
  exact ⟨rfl, q.g, by rw [h]; exact q.h0⟩) hm
theorem In.to {K : PySem.W.Frag} {C : Ct} {σ : L2.St} {ρ : Nv} {n : Sn} {G1 G O H : Hp} (I : In K C σ ρ n G O H) (s : Same G1 G) (b : Same C.G0 G1) : In K (C.at G1) σ ρ n G O H := by
  obtain ⟨F, S⟩ := I.sep
  exact ⟨I.toIo.to s b, I.ht, I.len, F, S.at' rfl rfl⟩
theorem In.back {K : PySem.W.Frag} {C : Ct} {σ : L2.St} {ρ : Nv} {n : Sn} {G1 G O H : Hp} (I : In K (C.at G1) σ ρ n G O H) (b : Same C.G0 G1) (nb : NewA C.G0 C.H0 G1) : In K C σ ρ n G O H := by
  obtain ⟨F, S⟩ := I.sep
  exact ⟨I.toIo.back b nb, I.ht, I.len, F, S.at' rfl rfl⟩
def vFor (ti : VA) (g : VGt) (tb : VST) : VST := fun V ρ n => ti ρ n (fun ds n' => vLoop g tb V ds ρ n') fun x n' => V.xc x ρ n'
theorem vs_for {iter : Expr} {body : List Stmt} {g : VGt} {tb : VST} {ti : VA} (hp : PassesOwn (model X.prog X.w) X.A X.env X.xe) (hc : X.calm = true) (hi : VI X U tg iter ti) (hg : PG X tg (upG X.K g)) (hb : VSs X U body tb)
    (hs : ∀ x, foldedSetIterable iter X.env x = pure x := by intro _; rfl) :
    VS X U (.For tg iter body [] pos) (vFor ti g tb) := ps_imp (ps_for hp hc hi hg hb hs) fun D σ H ⟨C, ρ, n, G, O, V, I, h, L⟩ => by
  refine ⟨C, ρ, n, G, O, _, _, I, h, fun ds n' q J G1 O1 H1 I1 s1 w => ?_, L.lkx σ ρ⟩
  refine ⟨fun i m σ H => ∃ ρ n G O, In X.K C σ ρ n G O H ∧ Same G1 G ∧ i ≤ ds.length ∧ m = ds.length - i ∧ vLoop g tb V (ds.drop i) ρ n, ⟨_, ρ, n', G1, O1, I1, Same.refl _, Nat.zero_le _, rfl, q⟩, ?_⟩
  rintro i m σ2 H2 ⟨ρ2, n2, G2, O2, I2, s2, hi, rfl, q2⟩
  by_cases hlt : i < ds.length
  · refine .inr ⟨w.go i H2 (s2.trans I2.gH) hlt, fun σ' H' => ∃ ρ n G O, In X.K C σ' ρ n G O H' ∧ Same G1 G ∧ vLoop g tb V (ds.drop (i + 1)) ρ n, ?_, fun x H3 y => ?_⟩
    · rintro σ' H' ⟨ρ', n'', G', O', I', s', q'⟩
      exact ⟨ds.length - (i + 1), by omega, ρ', n'', G', O', I', s', hlt, rfl, q'⟩
    · have ed : ds[i]? = some ds[i] := by simp [hlt]
      obtain ⟨G4, sh, sg, sgh, nw, rd⟩ := w.yld i H2 x H3 G2 ds[i] s2 I2.gH y ed
      have I4 := I2.pure sh sg sgh nw
      rw [List.drop_eq_getElem_cons hlt] at q2
      refine ⟨C, ρ2, n2, G4, _, ds[i], _, I4, rd, q2, fun ρ5 q5 σ5 I5 => ?_⟩
      have b1 : Same C.G0 G1 := I1.g0
      have b2 : NewA C.G0 C.H0 G1 := I1.nG
      refine ⟨C.at G1, ρ5, n2, G4, _, _, I5.to (s2.trans sg) b1, q5, ⟨fun ρ' n' q' σ' G' O' H' I' => ⟨ρ', n', G', O', I'.back b1 b2, I'.g0, q'⟩, fun w' n' q' v G' O' H' J r => L.rt w' n' q' v G' O' H' (J.back b1 b2) r.back, fun ρ' n' q' σ' G' O' H' I' => L.nx ρ' n' q' σ' G' O' H' (I'.back b1 b2),
        fun ρ' n' q' σ' G' O' H' I' => ⟨ρ', n', G', O', I'.back b1 b2, I'.g0, q'⟩, fun x ρ' n' q' cls d σ' G' O' H' I' r => L.xc x ρ' n' q' cls d σ' G' O' H' (I'.back b1 b2) r⟩⟩
  · have e : i = ds.length := by omega
    subst e
    rw [List.drop_length] at q2
    exact .inl ⟨w.stop H2 (s2.trans I2.gH), L.nx _ n2 q2 _ _ _ _ I2⟩
/-! ### while -/
end
end VL


set_option maxRecDepth 100000
set_option maxHeartbeats 400000
namespace VL
open PySem PySem.Spec PyProof.Rows L2
/-! ### list comprehensions -/
def wipeE (ρ : Nv) : List Nat → Nv
  | [] => ρ
  | v :: vs => (wipeE ρ vs).set v none
theorem wipeE_length (ρ : Nv) : ∀ vs, (wipeE ρ vs).length = ρ.length
  | [] => rfl
  | v :: vs => by unfold wipeE; rw [List.length_set, wipeE_length ρ vs]
theorem wipeE_out {ρ : Nv} {i : Nat} : ∀ {vs : List Nat}, i ∉ vs → (wipeE ρ vs)[i]? = ρ[i]?
  | [], _ => rfl
  | v :: vs, h => by
    unfold wipeE
    rw [List.getElem?_set_ne (fun e => h (by simp [e])), wipeE_out fun z => h (List.mem_cons_of_mem _ z)]
theorem wipeE_some {ρ : Nv} {i : Nat} {w : W} : ∀ {vs : List Nat}, (wipeE ρ vs)[i]? = some (some w) → ρ[i]? = some (some w) ∧ i ∉ vs
  | [], h => ⟨h, by simp⟩
  | v :: vs, h => by
    unfold wipeE at h
    by_cases hi : v = i
    · subst hi
      by_cases hv : v < (wipeE ρ vs).length
      · rw [List.getElem?_set_self hv] at h; cases h
      · rw [List.getElem?_eq_none (by simpa using hv)] at h; cases h
    · rw [List.getElem?_set_ne hi] at h
      obtain ⟨h1, h2⟩ := wipeE_some h
      exact ⟨h1, by simp only [List.mem_cons, not_or]; exact ⟨fun e => hi e.symm, h2⟩⟩
theorem wipe_out {σ : L2.St} {i : Nat} : ∀ {vs : List Nat}, i ∉ vs → (wipe σ vs)[i]? = σ[i]?
  | [], _ => rfl
  | v :: vs, h => by
    unfold wipe
    rw [List.getElem?_set_ne (fun e => h (by simp [e])), wipe_out fun z => h (List.mem_cons_of_mem _ z)]
theorem wipe_set {σ : L2.St} {i : Nat} {x : Option V} : ∀ {vs : List Nat}, i ∈ vs → wipe (σ.set i x) vs = wipe σ vs
  | [], h => by cases h
  | v :: vs, h => by
    unfold wipe
    by_cases hv : i ∈ vs
    · rw [wipe_set hv]
    · have e : i = v := by
        rcases List.mem_cons.mp h with z | z
        · exact z
        · exact absurd z hv
      subst e
      have key : ∀ us : List Nat, i ∉ us → wipe (σ.set i x) us = (wipe σ us).set i x := by
        intro us
        induction us with
        | nil => intro _; rfl
        | cons u us ih =>
          intro hn
          unfold wipe
          rw [ih fun z => hn (List.mem_cons_of_mem _ z), List.set_comm _ _ (fun e => hn (by simp [e]))]
      rw [key vs hv, List.set_set]
theorem wipeE_set {σ : Nv} {i : Nat} {x : Option W} : ∀ {vs : List Nat}, i ∈ vs → wipeE (σ.set i x) vs = wipeE σ vs
  | [], h => by cases h
  | v :: vs, h => by
    unfold wipeE
    by_cases hv : i ∈ vs
    · rw [wipeE_set hv]
    · have e : i = v := by
        rcases List.mem_cons.mp h with z | z
        · exact z
        · exact absurd z hv
      subst e
      have key : ∀ us : List Nat, i ∉ us → wipeE (σ.set i x) us = (wipeE σ us).set i x := by
        intro us
        induction us with
        | nil => intro _; rfl
        | cons u us ih =>
          intro hn
          unfold wipeE
          rw [ih fun z => hn (List.mem_cons_of_mem _ z), List.set_comm _ _ (fun e => hn (by simp [e]))]
      rw [key vs hv, List.set_set]
section
variable {K : PySem.W.Frag} {C : Ct} {σ : L2.St} {ρ : Nv} {n n' : Sn} {G O H G' O' H' : Hp}
theorem Sl.wipe {F : Nat → List Addr} (S : Sl K C σ ρ G O F) (vs : List Nat) : Sl K C (L2.wipe σ vs) (wipeE ρ vs) G O F := by
  refine ⟨fun i w e => ?_, fun i j w u ij e1 e2 => S.ap i j w u ij (wipeE_some e1).1 (wipeE_some e2).1⟩
  obtain ⟨e1, h⟩ := wipeE_some e
  obtain ⟨v, h1, h2⟩ := S.at_ i w e1
  exact ⟨v, by rw [wipe_out h]; exact h1, h2⟩
theorem In.wipe (I : In K C σ ρ n G O H) (vs : List Nat) : In K C (L2.wipe σ vs) (wipeE ρ vs) n G O H := by
  obtain ⟨F, S⟩ := I.sep
  exact ⟨I.toIo, I.ht, by rw [wipe_length, wipeE_length]; exact I.len, F, S.wipe vs⟩
/-- it stands for a datum -/
def noFp : W → Bool
  | .own _ => false
  | .dct _ => false
  | _ => true
theorem noFp_nil {w : W} {v : V} {fp : List Addr} (h : noFp w = true) (r : RelF K C G O w v fp) : fp = [] := by
  cases w with
  | own ds => cases h
  | dct kvs => cases h
  | _ => exact r.2
def noOwn (ρ : Nv) : List Nat → Prop
  | [] => True
  | v :: vs => (match ρ[v]? with | some (some w) => noFp w = true | _ => True) ∧ noOwn ρ vs
theorem noOwn.at {i : Nat} {w : W} : ∀ {vs : List Nat}, noOwn ρ vs → i ∈ vs → ρ[i]? = some (some w) → noFp w = true
  | v :: vs, h, hi, e => by
    rcases List.mem_cons.mp hi with z | z
    · subst z
      have := h.1
      rw [e] at this
      exact this
    · exact noOwn.at h.2 z e
open Classical in
theorem Sl.unwipe {F F' : Nat → List Addr} (S : Sl K C σ ρ G O F) {vs : List Nat} (S' : Sl K C (L2.wipe σ vs) (wipeE ρ vs) G' O' F') (sg : Same G G') (no : noOwn ρ vs) : Sl K C σ ρ G' O' (fun i => if i ∈ vs then [] else F' i) := by
  refine ⟨fun i w e => ?_, fun i j w u ij e1 e2 b hb => ?_⟩
  · by_cases hi : i ∈ vs
    · obtain ⟨v, h1, h2⟩ := S.at_ i w e
      have z := noFp_nil (no.at hi e) h2
      refine ⟨v, h1, ?_⟩
      rw [if_pos hi]
      rw [z] at h2
      exact h2.see ⟨sg, fun b hb => by cases hb⟩ rfl
    · obtain ⟨v, h1, h2⟩ := S'.at_ i w (by rw [wipeE_out hi]; exact e)
      exact ⟨v, by rw [wipe_out hi] at h1; exact h1, by rw [if_neg hi]; exact h2⟩
  · by_cases hi : i ∈ vs
    · rw [if_pos hi] at hb; cases hb
    · by_cases hj : j ∈ vs
      · rw [if_pos hj]; intro z; cases z
      · rw [if_neg hi] at hb
        rw [if_neg hj]
        exact S'.ap i j w u ij (by rw [wipeE_out hi]; exact e1) (by rw [wipeE_out hj]; exact e2) b hb
theorem In.unwipe (I : In K C σ ρ n G O H) {vs : List Nat} (J : In K C (L2.wipe σ vs) (wipeE ρ vs) n' G' O' H') (sg : Same G G') (no : noOwn ρ vs) : In K C σ ρ n' G' O' H' := by
  obtain ⟨F, S⟩ := I.sep
  obtain ⟨F', S'⟩ := J.sep
  exact ⟨J.toIo, I.ht, I.len, _, S.unwipe S' sg no⟩
/-- no name has the thing at D -/
def Off (K : PySem.W.Frag) (C : Ct) (σ : L2.St) (ρ : Nv) (G O : Hp) (D : Addr) : Prop := ∃ F, Sl K C σ ρ G O F ∧ ∀ (j : Nat) (u : W), ρ[j]? = some (some u) → D ∉ F j
theorem Off.unwipe {D : Addr} (I : In K C σ ρ n G O H) {vs : List Nat} (f : Off K C (L2.wipe σ vs) (wipeE ρ vs) G' O' D) (sg : Same G G') (no : noOwn ρ vs) : Off K C σ ρ G' O' D := by
  obtain ⟨F, S⟩ := I.sep
  obtain ⟨F', S', h⟩ := f
  refine ⟨_, S.unwipe S' sg no, fun j u e => ?_⟩
  by_cases hj : j ∈ vs
  · rw [if_pos hj]; intro z; cases z
  · rw [if_neg hj]; exact h j u (by rw [wipeE_out hj]; exact e)
theorem Off.wipe {D : Addr} (f : Off K C σ ρ G O D) (vs : List Nat) : Off K C (L2.wipe σ vs) (wipeE ρ vs) G O D := by
  obtain ⟨F, S, h⟩ := f
  exact ⟨F, S.wipe vs, fun j u e => h j u (wipeE_some e).1⟩
theorem Off.pure {D : Addr} (f : Off K C σ ρ G O D) (I : Io C n G O H) (sg : Same G G') (nw : New G H G') : Off K C σ ρ G' (grow O H H') D := by
  obtain ⟨F, S, h⟩ := f
  exact ⟨F, S.pure I sg nw, h⟩
theorem Off.fresh {D : Addr} {xs : List V} {ds : List Dt} (f : Off K C σ ρ G O D) (w : Ow C G O D (.lst xs)) (r : DRs K G xs ds) : Fresh C σ ρ K G O D ds := by
  obtain ⟨F, S, h⟩ := f
  exact ⟨F, [D], S, ⟨D, xs, rfl, rfl, w, r⟩, fun j u e b hb => by rw [List.mem_singleton.mp hb]; exact h j u e⟩
theorem Fresh.off {D : Addr} {ds : List Dt} (f : Fresh C σ ρ K G O D ds) : Off K C σ ρ G O D ∧ ∃ xs, Ow C G O D (.lst xs) ∧ DRs K G xs ds := by
  obtain ⟨F, fp, S, ⟨a, xs, e, e2, w, r⟩, h⟩ := f
  cases e
  exact ⟨⟨F, S, fun j u e => h j u e D (by rw [e2]; exact List.mem_singleton.mpr rfl)⟩, xs, w, r⟩
/-- a list under way, out of sight -/
abbrev Ct.hide (C : Ct) (D : Addr) (xs : List V) : Ct := ⟨C.K, C.mo, C.T, C.L, C.G0, L2.upd C.O0 D (.lst xs), L2.upd C.H0 D (.lst xs)⟩
theorem In.hide {D : Addr} {xs : List V} (I : In K C σ ρ n G O H) (w : Ow C G O D (.lst xs)) (fr : Off K C σ ρ G O D) : In K (C.hide D xs) σ ρ n G O H := by
  obtain ⟨F, S, off⟩ := fr
  refine ⟨⟨I.good, I.go, I.g0, fun a u e => ?_, same_upd2 I.oh, fun a u e => ?_, fun a u e => ?_, fun a e => ?_, I.tb, I.sto⟩, I.ht, I.len, F, S.see (Same.refl _) (fun i u e b hb => ?_) rfl⟩
  · by_cases h : a = D
    · subst h
      have e' : L2.upd C.O0 a (.lst xs) a = some u := e
      rw [upd_same] at e'; cases e'; exact w.o
    · have e' : L2.upd C.O0 D (.lst xs) a = some u := e
      rw [upd_ne h] at e'; exact I.o0 _ _ e'
  · by_cases h : a = D
    · subst h
      rw [w.o] at e; cases e
      exact .inl upd_same
    · rcases I.nO a u e with q | q
      · exact .inl (by show L2.upd C.O0 D _ a = _; rw [upd_ne h]; exact q)
      · exact .inr (by show L2.upd C.H0 D _ a = _; rw [upd_ne h]; exact q)
  · have h : a ≠ D := ne_of_none e w.g
    rcases I.nG a u e with q | q
    · exact .inl q
    · exact .inr (by show L2.upd C.H0 D _ a = _; rw [upd_ne h]; exact q)
  · have h : a ≠ D := fun z => by subst z; rw [I.oH _ _ w.o] at e; cases e
    show L2.upd C.H0 D _ a = _
    rw [upd_ne h]; exact I.h0 a e
  · obtain ⟨o, q, _⟩ := S.ow e b hb
    have h : b ≠ D := fun z => by subst z; exact off i u e hb
    exact ⟨rfl, q.g, by show L2.upd C.H0 D _ b = _; rw [upd_ne h]; exact q.h0⟩
theorem In.show {D : Addr} {xs : List V} (I : In K (C.hide D xs) σ ρ n G O H) (h0 : C.H0 D = none) (oh : Same C.O0 C.H0) (g0 : C.G0 D = none) :
    In K C σ ρ n G O H ∧ O D = some (.lst xs) ∧ G D = none ∧ Off K C σ ρ G O D := by
  have o0 : C.O0 D = none := by
    cases q : C.O0 D with | none => rfl | some u => rw [oh _ _ q] at h0; cases h0
  have oD : O D = some (.lst xs) := I.o0 _ _ upd_same
  have gD : G D = none := by
    cases q : G D with
    | none => rfl
    | some u =>
      rcases I.nG D u q with z | z
      · have z' : C.G0 D = some u := z
        rw [g0] at z'; cases z'
      · have z' : L2.upd C.H0 D (.lst xs) D = none := z
        rw [upd_same] at z'; cases z'
  obtain ⟨F, S⟩ := I.sep
  have nD : ∀ (i : Nat) (u : W), ρ[i]? = some (some u) → ∀ b ∈ F i, b ≠ D ∧ C.H0 b = none := fun i u e b hb => by
    obtain ⟨o, q, _⟩ := S.ow e b hb
    have q' : L2.upd C.H0 D (.lst xs) b = none := q.h0
    by_cases h : b = D
    · subst h; rw [upd_same] at q'; cases q'
    · rw [upd_ne h] at q'; exact ⟨h, q'⟩
  have S' : Sl K C σ ρ G O F := S.see (Same.refl _) (fun i u e b hb => by
    obtain ⟨o, q, _⟩ := S.ow e b hb
    exact ⟨rfl, q.g, (nD i u e b hb).2⟩) rfl
  refine ⟨⟨⟨I.good, I.go, I.g0, fun a u e => ?_, oh, fun a u e => ?_, fun a u e => ?_, fun a e => ?_, I.tb, I.sto⟩, I.ht, I.len, F, S'⟩, oD, gD, F, S', fun j u e z => (nD j u e D z).1 rfl⟩
  · have h : a ≠ D := ne_of_none e o0
    exact I.o0 _ _ (by show L2.upd C.O0 D _ a = _; rw [upd_ne h]; exact e)
  · by_cases h : a = D
    · subst h; exact .inr h0
    · rcases I.nO a u e with q | q
      · have q' : L2.upd C.O0 D (.lst xs) a = some u := q
        rw [upd_ne h] at q'; exact .inl q'
      · have q' : L2.upd C.H0 D (.lst xs) a = none := q
        rw [upd_ne h] at q'; exact .inr q'
  · have h : a ≠ D := ne_of_none e gD
    rcases I.nG a u e with q | q
    · exact .inl q
    · have q' : L2.upd C.H0 D (.lst xs) a = none := q
      rw [upd_ne h] at q'; exact .inr q'
  · by_cases h : a = D
    · subst h; exact h0
    · have q' : L2.upd C.H0 D (.lst xs) a = none := I.h0 a e
      rw [upd_ne h] at q'; exact q'
end
/-- a target in both readings -/
def PairG (K : PySem.W.Frag) (vs : List Nat) (gh : TG) (gv : VGt) : Prop := ∀ v σ H Q C ρ n G O d Q0, In K C σ ρ n G O H → DR K G v d → gv d ρ Q0 → (∀ ρ', Q0 ρ' → wipeE ρ' vs = wipeE ρ vs → ∀ σ', In K C σ' ρ' n G O H → wipe σ' vs = wipe σ vs → Q σ' H) → gh v σ H Q
theorem pair_name {K : PySem.W.Frag} {vs : List Nat} (i : Nat) (hi : i ∈ vs := by decide) : PairG K vs (gName i) (gN i) := fun v σ H Q C ρ n G O d Q0 I r q h => h _ q (wipeE_set hi) _ (I.set i r) (wipe_set hi)
theorem wipe_idem (σ : L2.St) (vs : List Nat) : ∀ us : List Nat, (∀ u ∈ us, u ∈ vs) → wipe (wipe σ vs) us = wipe σ vs
  | [], _ => rfl
  | u :: us, hu => by
    have ih := wipe_idem σ vs us fun z hz => hu z (List.mem_cons_of_mem _ hz)
    show (wipe (wipe σ vs) us).set u none = wipe σ vs
    rw [ih]
    generalize ht : wipe σ vs = τ
    apply List.ext_getElem?
    intro k
    by_cases hk : u = k
    · subst hk
      by_cases hl : u < τ.length
      · rw [List.getElem?_set_self hl]
        cases z : τ[u]? with
        | none => rw [List.getElem?_eq_none_iff] at z; omega
        | some o =>
          cases o with
          | none => rfl
          | some v => rw [← ht] at z; exact absurd (hu u (by simp)) (wipe_some z).2
      · rw [List.getElem?_eq_none (by simpa using hl), List.getElem?_eq_none (by simpa using hl)]
    · rw [List.getElem?_set_ne hk]
theorem wipeE_idem (ρ : Nv) (vs : List Nat) : ∀ us : List Nat, (∀ u ∈ us, u ∈ vs) → wipeE (wipeE ρ vs) us = wipeE ρ vs
  | [], _ => rfl
  | u :: us, hu => by
    have ih := wipeE_idem ρ vs us fun z hz => hu z (List.mem_cons_of_mem _ hz)
    show (wipeE (wipeE ρ vs) us).set u none = wipeE ρ vs
    rw [ih]
    generalize ht : wipeE ρ vs = τ
    apply List.ext_getElem?
    intro k
    by_cases hk : u = k
    · subst hk
      by_cases hl : u < τ.length
      · rw [List.getElem?_set_self hl]
        cases z : τ[u]? with
        | none => rw [List.getElem?_eq_none_iff] at z; omega
        | some o =>
          cases o with
          | none => rfl
          | some v => rw [← ht] at z; exact absurd (hu u (by simp)) (wipeE_some z).2
      · rw [List.getElem?_eq_none (by simpa using hl), List.getElem?_eq_none (by simpa using hl)]
    · rw [List.getElem?_set_ne hk]
theorem In.mutD {K : PySem.W.Frag} {C : Ct} {σ : L2.St} {ρ : Nv} {n : Sn} {G O H : Hp} {D : Addr} {xs ys : List V} (I : In K C σ ρ n G O H) (w : Ow C G O D (.lst xs)) (fr : Off K C σ ρ G O D) :
    In K C σ ρ n G (L2.upd O D (.lst ys)) (L2.upd H D (.lst ys)) ∧ Off K C σ ρ G (L2.upd O D (.lst ys)) D := by
  obtain ⟨F, S, off⟩ := fr
  have o0n : C.O0 D = none := by
    cases q : C.O0 D with | none => rfl | some u => have := I.oh _ _ q; rw [w.h0] at this; cases this
  have S' : Sl K C σ ρ G (L2.upd O D (.lst ys)) F := S.see (Same.refl _) (fun i u e b hb => by
    obtain ⟨o, q, _⟩ := S.ow e b hb
    have h : b ≠ D := fun z => by subst z; exact off i u e hb
    exact ⟨upd_ne h, q.g, q.h0⟩) rfl
  refine ⟨⟨⟨I.good.upd (.inl (by rw [w.o]; simp)), fun b u e => ?_, I.g0, fun b u e => ?_, I.oh, fun b u e => ?_, I.nG, fun b e => ?_, I.tb.upd w.o (I.oH _ _ w.o) plain_lst, I.stoUpd w.o⟩, I.ht, I.len, F, S'⟩, F, S', off⟩
  · rw [upd_ne (ne_of_none e w.g)]; exact I.go _ _ e
  · rw [upd_ne (ne_of_none e o0n)]; exact I.o0 _ _ e
  · by_cases hb : b = D
    · subst hb; exact .inr w.h0
    · rw [upd_ne hb] at e; exact I.nO b u e
  · by_cases hb : b = D
    · subst hb; exact w.h0
    · rw [upd_ne hb] at e; exact I.h0 b e
def vLcL (g : VGt) (xt : VB) (te : VT) (ρ : Nv) (Q : List Dt → Sn → Prop) : List Dt → List Dt → Sn → Prop
  | [], acc, n => Q acc n
  | d :: ds, acc, n => g d ρ fun ρ1 => xt ρ1 n (fun b n1 => if b = true then te ρ1 n1 (fun y n2 => acc.length < sizeLine ∧ vLcL g xt te ρ Q ds (acc ++ [y]) n2) (fun _ _ => False) else vLcL g xt te ρ Q ds acc n1) fun _ _ => False
def vLc (ti : VA) (g : VGt) (xt : VB) (te : VT) (vs : List Nat) : VA := fun ρ n Q E => noOwn ρ vs ∧ ti ρ n (fun ds n' => vLcL g xt te (wipeE ρ vs) Q ds [] n') E
abbrev U0 : WX := fun _ _ _ _ => False
theorem lkx0 {K : PySem.W.Frag} {C : Ct} {σ : L2.St} {ρ : Nv} : LkX K U0 C σ ρ (fun _ _ => False) := fun _ _ h => h.elim
theorem up_lc {K : PySem.W.Frag} {U : WX} {ti : VA} {g : VGt} {gh : TG} {xt : VB} {te : VT} {vs : List Nat} (pg : PairG K vs gh g) :
    ∀ σ H Q, upO K U (vLc ti g xt te vs) σ H Q → tLc (upI K U ti) gh (upB K U0 xt) (up K U0 te) vs σ H Q := fun σ H Q ⟨C, ρ, n, G, O, Q0, E0, I, h, hq, he⟩ => by
  refine ⟨C, ρ, n, G, O, _, E0, I, h.2, fun ds n' q J G1 O1 H1 I1 s1 w D hD => ?_, he⟩
  have I2 := (fresh_new (K := K) (xs := []) (ds := []) I1 hD .nil)
  have gD0 : C.G0 D = none := by
    cases q : C.G0 D with | none => rfl | some u => rw [I1.gH _ _ (I1.g0 _ _ q)] at hD; cases hD
  have hD0 : C.H0 D = none := I1.h0 D hD
  refine ⟨fun i m H' => ∃ acc n2 G2 O2 xs, In K C σ ρ n2 G2 O2 H' ∧ Same G1 G2 ∧ i ≤ ds.length ∧ m = ds.length - i ∧ G2 D = none ∧ O2 D = some (.lst xs) ∧ DRs K G2 xs acc ∧ Off K C σ ρ G2 O2 D ∧ vLcL g xt te (wipeE ρ vs) Q0 (ds.drop i) acc n2,
    ⟨_, [], n', G1, _, [], I2.1, Same.refl _, Nat.zero_le _, rfl, ?_⟩, ?_⟩
  · obtain ⟨off, xs, w2, f4⟩ := I2.2.off
    have e : xs = [] := by cases f4; rfl
    subst e
    exact ⟨w2.g, w2.o, f4, off, q⟩
  rintro i m H2 ⟨acc, n2, G2, O2, xs, J2, s2, hi, rfl, gD, oD, r2, fr, q2⟩
  by_cases hlt : i < ds.length
  · refine .inr ⟨w.go i H2 (s2.trans J2.gH) hlt, fun H' => ∃ acc n2 G2 O2 xs, In K C σ ρ n2 G2 O2 H' ∧ Same G1 G2 ∧ G2 D = none ∧ O2 D = some (.lst xs) ∧ DRs K G2 xs acc ∧ Off K C σ ρ G2 O2 D ∧ vLcL g xt te (wipeE ρ vs) Q0 (ds.drop (i + 1)) acc n2, ?_, fun x H3 y => ?_⟩
    · rintro H' ⟨acc', n3, G3, O3, xs', J3, s3, g3, o3, r3, f3, q3⟩
      exact ⟨ds.length - (i + 1), by omega, acc', n3, G3, O3, xs', J3, s3, hlt, rfl, g3, o3, r3, f3, q3⟩
    · have ed : ds[i]? = some ds[i] := by simp [hlt]
      obtain ⟨G4, sh, sg, sgh, nw, rd⟩ := w.yld i H2 x H3 G2 ds[i] s2 J2.gH y ed
      have J4 := J2.pure sh sg sgh nw
      have g4 : G4 D = none := by
        cases q : G4 D with
        | none => rfl
        | some u =>
          rcases nw D u q with z | z
          · rw [gD] at z; cases z
          · rw [J2.oH _ _ oD] at z; cases z.1
      have o4 : grow O2 H2 H3 D = some (.lst xs) := grow_same J2.oH _ _ oD
      have fr4 := fr.pure (H' := H3) J2.toIo sg nw
      have J5 := ((J4.hide ⟨g4, hD0, o4⟩ fr4).to (G1 := G4) (Same.refl _) (J4.g0)).wipe vs
      rw [List.drop_eq_getElem_cons hlt] at q2
      refine pg x _ H3 _ _ _ _ _ _ ds[i] _ J5 rd q2 fun ρ6 q6 e6 σ6 J6 w6 => ?_
      have eS : wipe σ6 vs = wipe σ vs := w6.trans (wipe_idem σ vs vs fun _ h => h)
      have eW : wipeE ρ6 vs = wipeE ρ vs := e6.trans (wipeE_idem ρ vs vs fun _ h => h)
      refine ⟨eS, ?_⟩
      have fin : ∀ {n' : Sn} {G' O' H' : Hp}, In K ((C.hide D xs).at G4) σ6 ρ6 n' G' O' H' → In K C σ ρ n' G' O' H' ∧ O' D = some (.lst xs) ∧ G' D = none ∧ Same G4 G' ∧ Off K C σ ρ G' O' D := fun {n' G' O' H'} J7 => by
        have nb : NewA C.G0 (L2.upd C.H0 D (.lst xs)) G4 := by
          intro a o e
          have hD' : a ≠ D := ne_of_none e g4
          rcases J4.nG a o e with z | z
          · exact .inl z
          · exact .inr (by rw [upd_ne hD']; exact z)
        obtain ⟨b1, b2, b3, b4⟩ := (J7.back (C := C.hide D xs) J4.g0 nb).show hD0 I.oh gD0
        have v7 := b1.wipe vs
        have v8 := b4.wipe vs
        rw [eW, eS] at v7 v8
        exact ⟨J4.unwipe v7 J7.g0 h.1, b2, b3, J7.g0, v8.unwipe J4 J7.g0 h.1⟩
      refine ⟨_, ρ6, n2, G4, _, _, _, J6, q6, fun b n1 qb G7 O7 H7 J7 s7 => ?_, lkx0⟩
      cases b with
      | true =>
        rw [if_pos rfl] at qb ⊢
        refine ⟨_, ρ6, n1, G7, O7, _, _, J7, qb, fun y n8 qy v G8 O8 H8 J8 s8 ry => ?_, lkx0⟩
        obtain ⟨K8, o8, g8, s48, f8⟩ := fin J8
        obtain ⟨K9, f9⟩ := K8.mutD (ys := xs ++ [v]) ⟨g8, hD0, o8⟩ f8
        have r8 : DRs K G8 (xs ++ [v]) (acc ++ [y]) := (DRs.same (sg.trans s48) r2).append (.cons ry .nil)
        exact ⟨xs, K8.oH _ _ o8, by rw [r2.length]; exact qy.1, acc ++ [y], n8, G8, _, xs ++ [v], K9, (s2.trans sg).trans s48, g8, upd_same, r8, f9, qy.2⟩
      | false =>
        rw [if_neg Bool.false_ne_true] at qb ⊢
        obtain ⟨K7, o7, g7, s47, f7⟩ := fin J7
        exact ⟨acc, n1, G7, O7, xs, K7, (s2.trans sg).trans s47, g7, o7, DRs.same (sg.trans s47) r2, f7, qb⟩
  · have e : i = ds.length := by omega
    subst e
    rw [List.drop_length] at q2
    exact .inl ⟨w.stop H2 (s2.trans J2.gH), hq acc n2 q2 D G2 O2 H2 J2 (s1.trans s2) (fr.fresh ⟨gD, hD0, oD⟩ r2)⟩
end VL


set_option maxRecDepth 100000
set_option maxHeartbeats 400000
namespace VL
open PySem PySem.Spec PyProof.Rows L2
section
variable {X : Cx} {U : WX} {elt tg iter : Expr} {ifs : List Expr} {scope : Scope} {own : List (Str × Nat)} {pos spos : Pos} {ti : VA} {g : VGt} {gh : TG} {xt : VB} {te : VT}
def vYes : VB := fun _ n Q _ => Q true n
theorem vpts_nil : PTs X [] (upB X.K U vYes) := by
  obtain ⟨h⟩ := pts_nil (X := X)
  exact ⟨fun pins s σ H Q I ⟨C, ρ, n, G, O, Q0, E0, J, q, hq, he⟩ => h pins s σ H Q I (hq true n q G O H J (Same.refl _))⟩
theorem vs_setLc {i : Nat} {y : Str} {py : Pos} (hc : X.calm = true) (hN : X.N.Nodup) (hy : X.N[i]? = some y) (hyl : X.env.scope.names.lookup y = some .local)
    (hsw : swapsWith (.ListComp elt [⟨tg, iter, ifs, 0⟩] scope pos) (some (.Name y py)) spos.line X.env = pure true) (hi : VI X U tg iter ti) (ok : BlkOk X.N X.env.scope scope own)
    (hg : ∀ (s : Shared) (H : Hp) (C : Addr) (cl : List (Str × Addr)) (fp : List Addr), PG (X.blk s H scope (compEnvC scope cl C X.env) fp) tg gh) (pg : PairG X.K (own.map (·.2)) gh g)
    (ht : ∀ (s : Shared) (H : Hp) (C : Addr) (cl : List (Str × Addr)) (fp : List Addr), PTs (X.blk s H scope (compEnvC scope cl C X.env) fp) ifs (upB X.K U0 xt))
    (he : ∀ (s : Shared) (H : Hp) (C : Addr) (cl : List (Str × Addr)) (fp : List Addr), PE (X.blk s H scope (compEnvC scope cl C X.env) fp) elt (up X.K U0 te)) (hs : ∀ x, foldedSetIterable iter X.env x = pure x := by intro _; rfl) :
    VS X U (.Assign [.Name y py] (.ListComp elt [⟨tg, iter, ifs, 0⟩] scope pos) spos) (vSet i (vFz (vLc ti g xt te (own.map (·.2))))) := ps_imp (ps_setLc hc hN hy hyl hsw hi ok hg ht he hs) fun D σ H ⟨C, ρ, n, G, O, V, I, h, L⟩ =>
  up_lc pg σ H _ ⟨C, ρ, n, G, O, _, _, I, h, fun ds n' q a G' O' H' I' s' f => by
    obtain ⟨G2, I2, s2, r⟩ := I'.frzFresh f
    exact L.nx _ n' q _ G2 O' H' (I2.set i r), L.lkx σ ρ⟩
/-! ### the machine is made -/
def spBegun (K : PySem.W.Frag) : Sp := fun vs H Q _ => ∃ (a : Addr) (ns : List Int), vs = [.ref a] ∧ SqL K H a (ns.map V.int) ∧ ns.length ≤ 63 ∧
  ∀ m H', Same H H' → Mach m 0 H H' → H m = none → Q (.ref m) H'
end
/-! ### the law's own def -/
def spLaw (K : PySem.W.Frag) : Sp := fun vs H Q _ => ∃ (a : Addr) (ns : List Int), vs = [.ref a] ∧ SqL K H a (ns.map V.int) ∧ ns.length ≤ 63 ∧ LamX.Tabs (tabT K) H ∧ ∀ H', Q (.bl true) H'
def lawEnd : VN := ⟨fun _ _ => False, fun w _ => w = .dat (.bool true), fun _ _ => False, fun _ _ => False, fun _ _ _ => False⟩
open Classical in
/-- without the tables -/
noncomputable def offT (T : List (Addr × Str)) (H : Hp) : Hp := fun a => if a ∈ T.map (·.1) ∨ ∃ b, H a = some (.own b) then none else H a
theorem offT_same {T : List (Addr × Str)} {H : Hp} : Same (offT T H) H := fun a o e => by
  unfold offT at e
  split at e
  · cases e
  · exact e
theorem offT_none {T : List (Addr × Str)} {H : Hp} {a : Addr} (h : H a = none) : offT T H a = none := by
  unfold offT
  split
  · rfl
  · exact h
theorem lawG {P : Program} {w : World} {K : PySem.W.Frag} {mg : Str → Option Value} {base : Heap} {k i : Nat} {x qual : Str} {params : Arguments} {st : Stmt} {rest : List Stmt} {scope : Scope} {dvs : List V} {kws : List (Str × V)} {f : Addr} {fd : FuncData} {N : List Str} {t : VST}
    (F : FunD K x qual params (st :: rest) scope dvs kws f fd) (S : FnScope N ["script"] scope) (hi : i ≠ 0)
    (h1 : ∀ (cdv : Value) (A : Around) (outer : List PySem.Env) (s : Shared) (H : Hp) (E : XK), fd.code = cdv → A.guards = some [] → Room k (A.deeper (envOfC qual scope s.heap.objs.size f cdv)) →
      PS (cxOf (L2.CX P w) P w K mg base N qual scope f cdv A outer s H E) st (tAsg (fun σ H Q => tCons (tVar 0) tNil σ H fun vs H1 => spBegun K (vs ++ []) H1 Q fun cls d H' => E cls d H') (gName i)))
    (h2 : ∀ (cdv : Value) (A : Around) (outer : List PySem.Env) (s : Shared) (H : Hp) (E : XK), fd.code = cdv → A.guards = some [] → Room k (A.deeper (envOfC qual scope s.heap.objs.size f cdv)) →
      VSs (cxOf (L2.CX P w) P w K mg base N qual scope f cdv A outer s H E) (fun cls d _ H' => E cls d H') rest t)
    (ht : ∀ ns : List Int, ns.length ≤ 63 → t lawEnd ((startE N.length [.scr ns]).set i (some .tok)) 0) : FnG P w K mg base (k + 1) f fd ["script"] (spLaw K) := by
  refine fnG_of F S (fun vs H Q E h => ?_) (fun cdv A outer s H vs Q E hcv hg hr h => ⟨_, pss_cons (h1 cdv A outer s H E hcv hg hr) (h2 cdv A outer s H E hcv hg hr), ?_⟩)
  · obtain ⟨a, ns, rfl, _⟩ := h
    rfl
  · obtain ⟨a, ns, rfl, hs, hl, hT, hq⟩ := h
    obtain ⟨T, eT⟩ : ∃ T, T = tabT K := ⟨_, rfl⟩
    rw [← eT] at hT
    have ex : N.length ≠ 0 := fun z => by
      have := S.pre
      rw [List.length_eq_zero_iff.mp z] at this
      cases this
    have s0 : (L2.start N [V.ref a])[0]? = some (some (.ref a)) := rfl
    refine ⟨_, s0, a, ns, rfl, hs, hl, fun m H' sh mach hm => ?_⟩
    have hlen : (L2.start N [V.ref a]).length = (startE N.length [.scr ns]).length := by unfold L2.start startE; simp
    have hn : ∀ b, H' b = none → H b = none := fun b e => by
      cases q : H b with
      | none => rfl
      | some o => rw [sh _ _ q] at e; cases e
    have hs2 : SqL K (offT T H) a (ns.map V.int) := by
      have na : ∀ {u : HO}, H a = some u → (∀ ps, u ≠ .tbl ps) → (∀ b, u ≠ .own b) → offT T H a = some u := fun {u} e z z2 => by
        unfold offT
        split
        · next h =>
          rcases h with h | ⟨b, h⟩
          · obtain ⟨p, hp, ep⟩ := List.mem_map.mp h
            obtain ⟨ps, h1, _⟩ := hT p hp
            rw [ep, e] at h1
            exact absurd (Option.some.inj h1) (z ps)
          · rw [e] at h; exact absurd (Option.some.inj h) (z2 b)
        · exact e
      rcases hs with (h | ⟨o, h⟩) | h
      · exact .inl (.inl (na h (fun _ z => by cases z) fun _ z => by cases z))
      · exact .inl (.inr ⟨o, na h (fun _ z => by cases z) fun _ z => by cases z⟩)
      · exact .inr h
    have mach2 : Mach m 0 (offT T H) H' := by
      obtain ⟨q1, q2, lc, ll, cs, ls, z, a1, a2, a3⟩ := mach
      exact ⟨offT_same.trans q1, offT_none q2, lc, ll, cs, ls, z, offT_none a1, offT_none a2, a3⟩
    have so : StoOk K (some m) (0 : Sn).st (offT T H) (offT T H) H' := by
      refine ⟨fun _ => [], fun _ _ e => (by cases e), fun dx b e => ?_, fun _ _ _ _ _ e => (by cases e), fun _ _ e => (by cases e)⟩
      have h := offT_same _ _ e
      unfold offT at e
      rw [if_pos (.inr ⟨b, h⟩)] at e
      cases e
    refine ⟨⟨K, some m, T, [], offT T H, offT T H, H⟩, (startE N.length [.scr ns]).set i (some .tok), 0, offT T H, offT T H, lawEnd, ⟨⟨mach2, Same.refl _, Same.refl _, Same.refl _, offT_same, NewA.refl, NewA.refl, hn, ⟨hT.ext sh, fun p hp => ?_, fun p hp => by cases hp⟩, so⟩, ⟨eT, rfl⟩, by simpa using hlen, fun _ => [], fun j w e => ?_, fun _ _ _ _ _ _ _ b hb => by cases hb⟩, ht ns hl,
      ⟨fun _ _ z => z.elim, fun w n' z v G' O' H' _ r => ?_, fun _ _ z => z.elim, fun _ _ z => z.elim, fun _ _ _ z => z.elim⟩⟩
    · show offT T H p.1 = none
      unfold offT
      rw [if_pos (.inl (List.mem_map.mpr ⟨p, hp, rfl⟩))]
    · by_cases hj : i = j
      · subst hj
        by_cases hlt : i < (startE N.length [.scr ns]).length
        · rw [List.getElem?_set_self hlt] at e
          cases e
          exact ⟨.ref m, by rw [List.getElem?_set_self (by rw [hlen]; exact hlt)], ⟨m, rfl, rfl⟩, rfl⟩
        · rw [List.getElem?_eq_none (by simpa using hlt)] at e; cases e
      · rw [List.getElem?_set_ne hj] at e
        cases j with
        | zero =>
          have e' : some (some (W.scr ns)) = some (some w) := e
          cases e'
          exact ⟨.ref a, by rw [List.getElem?_set_ne hj]; exact s0, ⟨a, rfl, hs2⟩, rfl⟩
        | succ j =>
          have e' : (List.replicate (N.length - 1) (none : Option W))[j]? = some (some w) := e
          rw [List.getElem?_replicate] at e'
          split at e' <;> cases e'
    · have z' : w = .dat (.bool true) := z
      subst z'
      cases r
      exact hq H'
/-! ### the end of a law -/
/-- what the head tells of the tables: a def's code object, its table, and the name of the lambdas made there -/
structure TabsAt (K : PySem.W.Frag) (h : Heap) (cs : List (Addr × Addr)) : Prop where
  emp : ∀ p ∈ cs, h.get? p.2 = some { cls := .none, data := .fields #[] }
  out : ∀ p ∈ cs, K.lookup p.2 = none
  hd : ∀ p ∈ cs, PySem.W.CodeHd h p.1 p.2
  sub : ∀ q ∈ tabT K, q.1 ∈ cs.map (·.2)
theorem callG {P : Program} {w : World} {K : PySem.W.Frag} {cs : List (Addr × Addr)} {mg mb : Str → Option Value} {k : Nat} {fa a : Addr} {fd : FuncData} {s1 : Shared} {vs : List Value} {ns : List Int}
    (KX : K.In s1.heap) (hns : s1.heap.Ns mainGlobals mg) (hb : s1.heap.Ns builtinsNs mb) (hbb : ∀ x : Str, x ≠ "__name__" → mb x = bootBuiltins x) (hlim : s1.heap.NoLimit) (hg : s1.gens = #[]) (TA : TabsAt K s1.heap cs)
    (hbm : ∃ (bm : Addr) (ob : Obj), mg "__builtins__" = some (.ref bm) ∧ bm ≠ builtinsNs ∧ s1.heap.get? bm = some ob ∧ ob.cls = .type "module" ∧ ob.dict = some builtinsNs ∧ ob.data = .plain)
    (ha : s1.heap.get? a = some { cls := .type "list", data := .seq vs.toArray }) (hi : IntsAre vs ns) (hl : ns.length ≤ 63) (hr : Room k callerA)
    (F : ∀ base : Heap, K.In base → base.Ns mainGlobals mg → (∀ p ∈ cs, LamX.TabB base mg p.1 p.2) → FnG P w K mg base k fa fd ["script"] (spLaw K)) (hbind : ∀ (s : Shared) (u : Value), BindsTo s fd ⟨[u], []⟩ [("script", u)]) :
    codeAny (model P w) callerA (.call (.ref fa) ⟨[.ref a], []⟩) (fun r s' => r = .ok (.ret (.bool true)) ∧ OldK s1.heap s'.heap ∧ s'.os = s1.os ∧ AllBare s'.gens) s1 := by
  have hl2 : ns.length ≤ sizeLine := Nat.le_trans hl (by decide)
  have rv := vals_ints hi
  have lenV := hi.length
  obtain ⟨L, eL⟩ : ∃ L, L = cs.map (·.2) := ⟨_, rfl⟩
  have tabL : ∀ {b : Addr}, b ∈ L → s1.heap.get? b = some { cls := .none, data := .fields #[] } := fun {b} h => by
    rw [eL] at h
    obtain ⟨p, hp, rfl⟩ := List.mem_map.mp h
    exact TA.emp p hp
  have inL : ∀ {p}, p ∈ cs → p.2 ∈ L := fun {p} hp => by rw [eL]; exact List.mem_map.mpr ⟨p, hp, rfl⟩
  have aL : a ∉ L := fun z => by
    have q := tabL z
    rw [ha] at q
    have z' : Data.seq vs.toArray _ = Data.fields #[] := congrArg Obj.data (Option.some.inj q)
    cases z'
  have core : ∀ H : Hp, (∀ b ∈ L, H b = some (.tbl #[])) → (∀ b, b ∉ L → H b = none ∨ ∃ o xs, H b = some (.frz o (.lst xs))) → SqL K H a (ns.map V.int) → HOk P w H s1.heap → (∀ b, b ∉ L → H b ≠ none → b = a) → (H a ≠ none → K.lookup a = none) →
      codeAny (model P w) callerA (.call (.ref fa) ⟨[.ref a], []⟩) (fun r s' => r = .ok (.ret (.bool true)) ∧ OldK s1.heap s'.heap ∧ s'.os = s1.os ∧ AllBare s'.gens) s1 := by
    intro H hH hO hS hok hA hK
    have other : ∀ {b : Addr} {o : Obj}, s1.heap.get? b = some o → (∀ us n, o.data ≠ .seq us n) → o.data ≠ .fields #[] → H b = none := by
      intro b o e d1 d2
      by_cases hb : b ∈ L
      · rw [tabL hb] at e
        cases e
        exact absurd rfl d2
      · cases q : H b with
        | none => rfl
        | some u =>
          have e' : b = a := hA b hb (by rw [q]; simp)
          rw [e', ha] at e
          cases e
          exact absurd rfl (d1 _ _)
    have free : ∀ {b : Addr} {o : Obj} {es : Array DictEntry} {ep : Nat}, s1.heap.get? b = some o → o.data = .dict es ep → H b = none := fun e d =>
      other e (fun us n z => by rw [d] at z; cases z) fun z => by rw [d] at z; cases z
    have ns0 : ∀ {b : Addr} {m : Str → Option Value}, s1.heap.Ns b m → (hidT s1.heap H).Ns b m := by
      rintro b m ⟨o, es, ep, e, d, r⟩
      exact ⟨o, es, ep, hidT_get e (free e d), d, r⟩
    have kin : K.In (hidT s1.heap H) := by
      intro b o e
      refine hidT_get (KX b o e) ?_
      by_cases hb : b ∈ L
      · rw [eL] at hb
        obtain ⟨p, hp, rfl⟩ := List.mem_map.mp hb
        rw [TA.out p hp] at e
        cases e
      · cases q : H b with
        | none => rfl
        | some u =>
          have e' : b = a := hA b hb (by rw [q]; simp)
          subst e'
          rw [hK (by rw [q]; simp)] at e
          cases e
    have mod : Mod K mg (hidT s1.heap H) := by
      refine ⟨kin, ns0 hns, ⟨mb, ns0 hb, hbb⟩, ?_⟩
      obtain ⟨mc, c1, c2⟩ := hlim
      exact ⟨mc, ns0 c1, c2⟩
    have tb : ∀ p ∈ cs, LamX.TabB (hidT s1.heap H) mg p.1 p.2 := fun p hp => by
      have ep := TA.emp p hp
      refine ⟨?_, ?_, fun z => ?_⟩
      · obtain ⟨o, us, fl, tf, fg, tg, iF, tx, tt, e1, r1, r2, r3, r⟩ := TA.hd p hp
        exact ⟨o, us, fl, tf, fg, tg, iF, tx, tt, hidT_get e1 (other e1 (fun vs n z => by rw [r2] at z; cases z) fun z => by rw [r2] at z; cases z; simp at r3), r1, r2, r3, r⟩
      · obtain ⟨bm, ob, b1, b2, b3, b4, b5, b6⟩ := hbm
        have n1 : bm ≠ mainGlobals := fun q => by
          obtain ⟨o, es, ep, e, hd, _⟩ := hns
          rw [← q, b3] at e
          cases e
          rw [b6] at hd
          cases hd
        have n2 : bm ≠ p.2 := fun q => by
          rw [← q, b3] at ep
          cases ep
          cases b6
        exact ⟨bm, ob, b1, b2, n1, n2, hidT_get b3 (other b3 (fun vs n z => by rw [b6] at z; cases z) fun z => by rw [b6] at z; cases z), b4, b5, b6⟩
      · obtain ⟨o, es, ep2, e, hd, _⟩ := hns
        rw [z, ep] at e
        cases e
        cases hd
    have hTs : LamX.Tabs (tabT K) H := fun q hq => LamX.TabS.nil (hH q.1 (by rw [eL]; exact TA.sub q hq))
    have e0 : Env0 P w K mg (hidT s1.heap H) callerA [] s1 H := ⟨rfl, mod, fun b o e => of_hidT e, Nat.le_of_eq (hidT_size _ _), trivial, (fun b z => absurd (show b ∈ ([] : List Addr) from z) (by simp)), hok, .of_eq hg⟩
    have run := (F _ kin (ns0 hns) tb).run callerA [] s1 H ⟨[.ref a], []⟩ [.ref a] [.ref a] (fun v _ => v = .bl true) (fun _ _ _ => False) rfl hr e0 (hbind s1 (.ref a)) (.cons rfl .nil) ⟨a, ns, rfl, hS, hl, hTs, fun _ => rfl⟩
    refine codeAny_mono run fun r s' h => ?_
    match r, h with
    | .error e, h =>
      obtain ⟨_, _, _, _, _, _, _, _, _, _, _, _, z⟩ := h
      exact z.elim
    | .ok (.ret u), h =>
      obtain ⟨v, H', os, bare, un, hok', r', q⟩ := h
      have q' : v = .bl true := q
      subst q'
      obtain rfl : u = Value.bool true := r'
      have keep : ∀ b o, b ∉ L → s1.heap.get? b = some o → s'.heap.get? b = some o := fun b o nb e => by
        rcases hO b nb with z | ⟨ob, xs, z⟩
        · exact un.keep b o e z (fun z => absurd (show b ∈ ([] : List Addr) from z) (by simp)) (by simp)
        · obtain ⟨e1, _⟩ := hok b _ z
          obtain ⟨e2, _⟩ := hok' b _ (un.frzs b ob _ z)
          rw [e] at e1
          cases e1
          exact e2
      have grown : ∀ b ∈ L, ∃ more : Array Value, s'.heap.get? b = some { cls := .none, data := .fields more } := fun b hb => by
        obtain ⟨more, z⟩ := un.tbls b #[] (hH b hb)
        exact ⟨_, hok' b _ z⟩
      refine ⟨rfl, ⟨fun b o e => ?_, fun b o e => ?_⟩, os, bare⟩
      · by_cases hb : b ∈ L
        · obtain ⟨more, hm⟩ := grown b hb
          have hb' := hb
          rw [eL] at hb'
          obtain ⟨p, hp, rfl⟩ := List.mem_map.mp hb'
          rw [TA.emp p hp] at e
          cases e
          refine .inr (.inl ⟨((TA.hd p hp).tab (TA.emp p hp)).isCodeTable, rfl, #[], more, rfl, ?_⟩)
          rw [Array.empty_append]
          exact hm
        · exact .inl (keep b o hb e)
      · by_cases hb : b ∈ L
        · obtain ⟨more, hm⟩ := grown b hb
          exact ⟨_, hm⟩
        · exact ⟨o, keep b o hb e⟩
  obtain ⟨H0, h0L, h0N⟩ : ∃ H0 : Hp, (∀ b ∈ L, H0 b = some (.tbl #[])) ∧ ∀ b, b ∉ L → H0 b = none := by
    classical
    exact ⟨fun b => if b ∈ L then some (.tbl #[]) else none, fun b h => if_pos h, fun b h => if_neg h⟩
  have hok0 : ∀ b u, H0 b = some u → b ∈ L ∧ u = .tbl #[] := fun b u z => by
    by_cases hb : b ∈ L
    · rw [h0L b hb] at z; exact ⟨hb, (Option.some.inj z).symm⟩
    · rw [h0N b hb] at z; cases z
  cases hk : K.lookup a with
  | some o =>
    have e := KX a o hk
    rw [ha] at e
    cases e
    refine core H0 h0L (fun b hb => .inl (h0N b hb)) (.inr ⟨_, vs.toArray, _, hk, rfl, rfl, rfl, by rw [List.size_toArray, lenV]; exact hl2, by simpa using rv⟩) (fun b u z => ?_) (fun b hb z => absurd (h0N b hb) z) fun z => absurd (h0N a aL) z
    obtain ⟨hb, rfl⟩ := hok0 b u z
    exact tabL hb
  | none =>
    have at_ : L2.upd H0 a (.frz { cls := .type "list", data := .seq vs.toArray } (.lst (ns.map V.int))) a = _ := upd_same
    refine core (L2.upd H0 a (.frz { cls := .type "list", data := .seq vs.toArray } (.lst (ns.map V.int)))) (fun b hb => ?_) (fun b hb => ?_) (.inl (.inr ⟨{ cls := .type "list", data := .seq vs.toArray }, upd_same⟩)) (fun b u z => ?_) (fun b hb z => ?_) fun _ => hk
    · rw [upd_ne fun z => aL (by rw [← z]; exact hb)]; exact h0L b hb
    · by_cases hb2 : b = a
      · subst hb2; exact .inr ⟨_, _, upd_same⟩
      · rw [upd_ne hb2]; exact .inl (h0N b hb)
    · by_cases hb2 : b = a
      · subst hb2
        rw [upd_same] at z
        cases z
        exact ⟨ha, by rw [List.length_map]; exact hl2, vs, _, rv, ha⟩
      · rw [upd_ne hb2] at z
        obtain ⟨hb, rfl⟩ := hok0 b u z
        exact tabL hb
    · by_cases hb2 : b = a
      · exact hb2
      · rw [upd_ne hb2] at z; exact absurd (h0N b hb) z
theorem walkG {l : PySem.W.OpenLaw} {k : Nat} {q : Program} {loose : List Str} {XP : (Str → Option Value) → Heap → Prop} {YP : World → Heap → Prop} {d : DefRec}
    (hn : l.most = some 63) (hdf : d.params.defaults = []) (hr : Room k callerA)
    (F : ∀ (w : World) (mg : Str → Option Value) (fa : Addr) (h : Heap), YP w h → h.Ns mainGlobals mg → mg d.name = some (.ref fa) →
      ∃ (K : PySem.W.Frag) (fd : FuncData) (cs : List (Addr × Addr)), K.In h ∧ TabsAt K h cs ∧ (∀ (s : Shared) (u : Value), BindsTo s fd ⟨[u], []⟩ [("script", u)]) ∧ ∀ base : Heap, K.In base → base.Ns mainGlobals mg → (∀ p ∈ cs, LamX.TabB base mg p.1 p.2) → FnG l.prog w K mg base k fa fd ["script"] (spLaw K)) :
    PySem.W.WalkO q loose XP YP l.row.toRowW d [] (fun f vs => PySem.call f vs) := by
  refine Att.attach_call hn hdf fun w s0 s1 mg mb fa o pm cd doc a vs ns G Y ho hd hcd hmg hobj hints hlen hg => ?_
  obtain ⟨K, fd, cs, KX, TA, hb, hF⟩ := F w mg fa _ Y G.T.g hmg
  exact callG KX G.T.g G.T.b G.T.builtins G.T.nolimit hg TA G.T.bmain hobj hints hlen hr hF hb
end VL


set_option maxRecDepth 100000
set_option maxHeartbeats 400000
namespace VL
open PySem PySem.Spec PyProof.Rows L2
/-! ### defs by names -/
def Ok (P : Program) (w : World) (K : PySem.W.Frag) (mg : Str → Option Value) (base : Heap) (k : Nat) (x : Str) (ps : List Str) (c : VFn) : Prop :=
  ∃ fd, FnG P w K mg base k (He.ga K x) fd ps (lift K c) ∧ Binds K fd ps [] ∧ PySem.W.keepIn K (.ref (He.ga K x)) = true ∧ mg x = some (.ref (He.ga K x))
theorem Ok.weak {P : Program} {w : World} {K : PySem.W.Frag} {mg : Str → Option Value} {base : Heap} {k : Nat} {x : Str} {ps : List Str} {c c' : VFn} (h : Ok P w K mg base k x ps c) (i : ∀ ws n Q E, c' ws n Q E → c ws n Q E) : Ok P w K mg base k x ps c' := by
  obtain ⟨fd, F, r⟩ := h
  exact ⟨fd, F.weak i, r⟩
theorem Ok.mono {P : Program} {w : World} {K : PySem.W.Frag} {mg : Str → Option Value} {base : Heap} {j k : Nat} {x : Str} {ps : List Str} {c : VFn} (h : Ok P w K mg base j x ps c) (i : j ≤ k) : Ok P w K mg base k x ps c := by
  obtain ⟨fd, F, r⟩ := h
  exact ⟨fd, F.mono i, r⟩
/-- with one keyword-only parameter, state=(0, 0) -/
abbrev stN : List Str := ["state"]
def start00 : Dt := .tuple [.int 0, .int 0]
def OkS (P : Program) (w : World) (K : PySem.W.Frag) (mg : Str → Option Value) (base : Heap) (k : Nat) (x : Str) (ps : List Str) (c : VFn) : Prop :=
  ∃ fd, FnG P w K mg base k (He.ga K x) fd (ps ++ stN) (lift K c) ∧ (∃ (dv : V) (ds : List Value), Vals [dv] ds ∧ Binds K fd (ps ++ stN) ds ∧ ∀ G, DR K G dv start00) ∧
    (∀ (s : Shared) (us ws : List Value), us.length = ps.length → ws.length = 1 → BindsTo s fd ⟨us, stN.zip ws⟩ ((ps ++ stN).zip (us ++ ws))) ∧ PySem.W.keepIn K (.ref (He.ga K x)) = true ∧ mg x = some (.ref (He.ga K x))
theorem lift_at {K : PySem.W.Frag} {U : WX} {c : VFn} {C : Ct} {σ : L2.St} {ρ : Nv} {n : Sn} {G O H : Hp} {ws : List W} {vs : List V} {Q0 : Dt → Sn → Prop} {E0 : XW} {Q : VK} (I : In K C σ ρ n G O H) (r : RWs K C G ws vs) (h : c ws n (rOf Q0) E0)
    (hq : ∀ d n', Q0 d n' → ∀ v G' O' H', In K C σ ρ n' G' O' H' → Same G G' → DR K G' v d → Q v H') (hE : LkX K U C σ ρ E0) : lift K c vs H Q fun cls d H' => U cls d σ H' :=
  ⟨C.now G O H, n, _, _, E0, ⟨rfl, I.ht⟩, ⟨I.good, I.go, Same.refl _, Same.refl _, I.oH, NewA.refl, NewA.refl, fun _ q => q, I.tb, I.sto⟩, RWs.rel (C := C) (C' := C.now G O H) rfl r, h, fun w n' q v G' O' H' J rw' => by
    obtain ⟨ho, q⟩ := rOf_own q
    obtain ⟨G2, I3, s3, r3⟩ := (I.call J).frzW (I.callW J rw') ho
    exact hq _ n' q _ G2 O' H' I3 (J.g0.trans s3) r3, fun x n' q cls d G' O' H' J r => hE x n' q cls d G' O' H' (I.call J) r⟩
theorem RWs.snoc {K : PySem.W.Frag} {C : Ct} {G : Hp} {d : Dt} {v : V} (r : DR K G v d) : ∀ {ws : List W} {vs : List V}, RWs K C G ws vs → RWs K C G (ws ++ [.dat d]) (vs ++ [v])
  | [], [], _ => ⟨r, trivial⟩
  | _ :: _, _ :: _, h => ⟨h.1, RWs.snoc r h.2⟩
  | [], _ :: _, h => h.elim
  | _ :: _, [], h => h.elim
section
variable {X : Cx} {U : WX} {e e2 : Expr} {es : List Expr} {pos p kpos : Pos} {te : VT} {al : VAW} {x : Str} {k : Nat} {ps : List Str} {c : VFn}
theorem ve_ok (F : Ok X.prog X.w X.K X.mg X.base k x ps c) (hG : X.A.guards = some []) (hr : Room k X.A) (tk : Takes X U) (hg : Gl X x) (ha : VAg X U (e :: es) al) (hdb : (x == ("__debug__" : Str)) = false := by decide)
    (he : starEach (e :: es) X.env = (false, eval e X.env) :: starEach es X.env := by rfl) (hpl : (backTo pos (starEach es X.env)).any (·.1) = false := by rfl) : VE X U (.Call (.Name x p) (e :: es) [] pos) (vCall c [] al) := by
  obtain ⟨fd, F, hb, hk, hm⟩ := F
  exact ve_call F hG hr tk hg hm hk hb .nil (dw := []) (dvs := []) trivial ha hdb he hpl
end
/-! ### a head with one more look -/
def obX (n : Nat) (fa : List He.Fa) (fn : List He.DefD) (ts : List He.Tab) (tf : List He.Defn) (ex : PySem.W.Frag → Bool) (s : PySem.W.SharedT) : He.AlX := He.obsX n fa fn ts tf ex (HandSHeadRun.getT s)
theorem obX_eq {n : Nat} {fa : List He.Fa} {fn : List He.DefD} {ts : List He.Tab} {tf : List He.Defn} {ex : PySem.W.Frag → Bool} (s : PySem.W.SharedT) : obX n fa fn ts tf ex s = (He.hookX n fa fn ts tf ex).obs s.abs := He.obsX_eq (HandSHeadRun.getT_eq s)
theorem saysD_of {fa : List He.Fa} {fn : List He.DefD} {ts : List He.Tab} {tf : List He.Defn} {ex : PySem.W.Frag → Bool} {w : World} {h : Heap} {K : PySem.W.Frag} (c : He.SaysX fa fn ts tf ex w h K) : He.SaysD fa fn K := congrArg Prod.fst c.t
theorem tabsAt_of {fa : List He.Fa} {fn : List He.DefD} {ts : List He.Tab} {tf : List He.Defn} {ex : PySem.W.Frag → Bool} {w : World} {h : Heap} {K : PySem.W.Frag} (X : K.In h) (c : He.SaysX fa fn ts tf ex w h K) (e : tabT K = lamT K tf) : TabsAt K h (tf.map (He.cT K)) := by
  refine ⟨fun p hp => ?_, fun p hp => ?_, fun p hp => ?_, fun q hq => ?_⟩
  · obtain ⟨t, ht, rfl⟩ := List.mem_map.mp hp
    exact c.empty t ht
  · obtain ⟨t, ht, rfl⟩ := List.mem_map.mp hp
    exact c.out t ht
  · obtain ⟨t, ht, rfl⟩ := List.mem_map.mp hp
    exact PySem.W.codeHd_of_K X (c.hd t ht)
  · rw [e] at hq
    obtain ⟨t, ht, rfl⟩ := List.mem_map.mp hq
    rw [List.map_map]
    exact List.mem_map.mpr ⟨t, ht, rfl⟩
/-- the tuple that is the default of a keyword-only parameter -/
def kwAt (f : Str × Option Str) (y : Str) (K : PySem.W.Frag) : Addr := match K.lookup (He.fAd K f) with
  | some ⟨_, _, .func fd, _⟩ => (match fd.kwdefaults with
    | .ref D => (match PySem.W.nsIn K D y with
      | some (some (.ref a)) => a
      | _ => 0)
    | _ => 0)
  | _ => 0
def tupAt (K : PySem.W.Frag) (a : Addr) (vs : List V) : Bool := match K.lookup a with
  | some ⟨.type c, _, .seq its _, _⟩ => decide (c = "tuple") && (decide (its.size ≤ sizeLine) && He.relAll vs its.toList)
  | _ => false
theorem tupAt_ok {K : PySem.W.Frag} {a : Addr} {vs : List V} (h : tupAt K a vs = true) (H : Hp) : SqT K H a vs := by
  unfold tupAt at h
  cases q : K.lookup a with
  | none => rw [q] at h; cases h
  | some o =>
    obtain ⟨oc, od, dt, osl⟩ := o
    rw [q] at h
    cases oc with
    | type c =>
      cases dt with
      | seq its n =>
        obtain ⟨h1, h2⟩ := He.ba (show (decide (c = "tuple") && (decide (its.size ≤ sizeLine) && He.relAll vs its.toList)) = true from h)
        obtain ⟨h3, h4⟩ := He.ba h2
        exact .inr ⟨_, its, n, q, congrArg Value.type (of_decide_eq_true h1), rfl, of_decide_eq_true h3, He.relAll_ok h4⟩
      | _ => cases h
    | _ => cases dt <;> cases h
theorem tup00 {K : PySem.W.Frag} {a : Addr} (h : tupAt K a [.int 0, .int 0] = true) (G : Hp) : DR K G (.ref a) start00 := .tup (tupAt_ok h G) (.cons (.int 0) (.cons (.int 0) .nil))
def kitB (K : PySem.W.Frag) (T : String) : Bool := ["NoneType", "bool", "int", "str", "list", "tuple", "dict"].all fun t => decide (PySem.W.kitOne K (.type t) (.type T) = some (t == T || (T == "int" && t == "bool")))
theorem kitB_ok {K : PySem.W.Frag} {T : String} (h : kitB K T = true) : KitOk K T := fun t ht => of_decide_eq_true (List.all_eq_true.mp h t ht)
/-! ### lengths of what is no datum -/
section
variable {X : Cx} {U : WX} {pos p p2 : Pos} {x : Str}
def vLenS (k : Nat) : VT := fun ρ n Q _ => match ρ[k]? with
  | some (some (.scr ns)) => Q (.int (ns.length : Int)) n
  | _ => False
theorem ve_lenS {k : Nat} (hg : Gl X "len") (hm : X.mg "len" = none) (hv : bootBuiltins "len" = some (.builtin "len")) (hN : X.N[k]? = some x := by rfl) (hvs : Vis X.env.scope x := by first | exact Or.inl rfl | exact Or.inr (Or.inl rfl) | exact Or.inr (Or.inr rfl)) (hd : (x == ("__debug__" : Str)) = false := by decide)
    (hcd : (x == ("__classdict__" : Str)) = false := by decide) (he : starEach [.Name x p2] X.env = (false, eval (.Name x p2) X.env) :: starEach [] X.env := by rfl) (hpl : (backTo pos (starEach [] X.env)).any (·.1) = false := by rfl) :
    VE X U (.Call (.Name "len" p) [.Name x p2] [] pos) (vLenS k) :=
  pe_imp (pe_callB call_len_seq hg hm hv (pa_cons (pe_var hN hvs hd hcd) pa_nil he) (by decide) (by decide) he hpl) fun σ H Q ⟨C, ρ, n, G, O, Q0, E0, I, h, hq, hE⟩ => by
    unfold vLenS at h
    split at h
    · next ns e0 =>
      obtain ⟨v, e1, a, rfl, sq⟩ := I.slot k _ e0
      exact ⟨_, e1, a, _, rfl, .inl (I.gH.seq sq), by rw [List.length_map]; exact hq _ n h _ G O H I (Same.refl _) (.int _)⟩
    · exact h.elim
end
/-! ### the machine's dict -/
theorem key_cl : ¬ (Sum.inr ("cells" : Str) : L2.Key) = Sum.inr ("left" : Str) := fun e => absurd (Sum.inr.inj e) (by decide +kernel)
theorem key_ca : ¬ (Sum.inr ("cells" : Str) : L2.Key) = Sum.inr ("at" : Str) := fun e => absurd (Sum.inr.inj e) (by decide +kernel)
theorem key_la : ¬ (Sum.inr ("left" : Str) : L2.Key) = Sum.inr ("at" : Str) := fun e => absurd (Sum.inr.inj e) (by decide +kernel)
theorem m_cells (lc ll : Addr) (z : Int) : valV (mKvs lc ll z) (.inr "cells") = some (.ref lc) := valV_pos rfl
theorem m_left (lc ll : Addr) (z : Int) : valV (mKvs lc ll z) (.inr "left") = some (.ref ll) := (valV_neg key_cl).trans (valV_pos rfl)
theorem m_at (lc ll : Addr) (z : Int) : valV (mKvs lc ll z) (.inr "at") = some (.int z) := (valV_neg key_ca).trans ((valV_neg key_la).trans (valV_pos rfl))
theorem m_putLeft (lc ll l : Addr) (z : Int) : putK (mKvs lc ll z) (.inr "left") (.ref l) = mKvs lc l z := by
  unfold putK mKvs
  have h1 := key_cl
  have h2 : ¬ (Sum.inr ("at" : Str) : L2.Key) = Sum.inr ("left" : Str) := fun e => key_la e.symm
  simp [h1, h2]
theorem m_putAt (lc ll : Addr) (z y : Int) : putK (mKvs lc ll z) (.inr "at") (.int y) = mKvs lc ll y := by
  unfold putK mKvs
  have h1 := key_ca
  have h2 := key_la
  simp [h1, h2]
theorem m_merge (lc ll : Addr) (z : Int) : mergeK [] (mKvs lc ll z) = mKvs lc ll z := by
  have h1 := key_cl
  have h2 := key_ca
  have h3 := key_la
  simp [mergeK, mKvs, putK, h1, h2, h3]
theorem Mach.garb {m p : Addr} {n : Nat} {O H : Hp} {o : HO} (M : Mach m n O H) (hp : H p = none) : Mach m n O (L2.upd H p o) := by
  obtain ⟨s, om, lc, ll, cs, ls, z, h1, h2, h3, h4, h5, h6, r⟩ := M
  have ne : ∀ {q : Addr} {u : HO}, H q = some u → q ≠ p := fun {q u} e => ne_of_none e hp
  exact ⟨s.trans (same_upd hp), om, lc, ll, cs, ls, z, h1, h2, h3, by rw [upd_ne (ne h4)]; exact h4, by rw [upd_ne (ne h5)]; exact h5, by rw [upd_ne (ne h6)]; exact h6, r⟩
/-- what stood stands, and the tables -/
structure Dm (C : Ct) (H : Hp) : Prop where
  d : ∀ a, H a = none → C.H0 a = none
  t : LamX.Tabs C.T H
  l : ∀ p ∈ C.L, H p.1 = some (LamX.CodeO p.1 p.2)
theorem Dm.upd {C : Ct} {H : Hp} {p : Addr} {o u : HO} (D : Dm C H) (h : H p = some u ∧ Plain u ∨ H p = none) : Dm C (L2.upd H p o) := ⟨fun a e => by
  by_cases h : a = p
  · subst h; rw [upd_same] at e; cases e
  · rw [upd_ne h] at e; exact D.d a e, tabs_upd D.t h, lam_upd D.l h⟩
theorem Dm.new {C : Ct} {H : Hp} {p : Addr} {o : HO} (D : Dm C H) (h : H p = none) : Dm C (L2.upd H p o) := D.upd (u := o) (.inr h)
theorem Dm.old {C : Ct} {H : Hp} {p : Addr} {o u : HO} (D : Dm C H) (h : H p = some u) (pl : Plain u) : Dm C (L2.upd H p o) := D.upd (.inl ⟨h, pl⟩)
/-! ### a if c else b, as a test -/
def vIfT (t ta tb : VB) : VB := fun ρ n Q E => t ρ n (fun c n1 => if c = true then ta ρ n1 Q E else tb ρ n1 Q E) E
theorem vt_if {X : Cx} {U : WX} {a b c : Expr} {pos : Pos} {xa xb xc : VB} (hc : VTt X U c xc) (ha : VTt X U a xa) (hb : VTt X U b xb) : VTt X U (.IfExp c a b pos) (vIfT xc xa xb) := by
  constructor
  intro pins s σ H Q I h
  obtain ⟨C, ρ, n, G, O, Q0, E0, J, h, hq, he⟩ := h
  refine isTrue_IfExp (thn (hc.run pins s σ H (fun d H1 => if d = true then upB X.K U xa σ H1 Q else upB X.K U xb σ H1 Q) I ⟨C, ρ, n, G, O, _, E0, J, h, fun d n1 h1 G1 O1 H1 I1 s1 => ?_, he⟩) fun d s2 z => ?_)
  · cases d with
    | true =>
      rw [if_pos rfl] at h1 ⊢
      exact ⟨C, ρ, n1, G1, O1, _, E0, I1, h1, fun b n' hb G' O' H' I' s' => hq b n' hb G' O' H' I' (s1.trans s'), he⟩
    | false =>
      rw [if_neg Bool.false_ne_true] at h1 ⊢
      exact ⟨C, ρ, n1, G1, O1, _, E0, I1, h1, fun b n' hb G' O' H' I' s' => hq b n' hb G' O' H' I' (s1.trans s'), he⟩
  · obtain ⟨H1, I1, q1⟩ := z
    cases d with
    | true =>
      rw [if_pos rfl] at q1
      exact ha.run pins s2 σ H1 Q I1 q1
    | false =>
      rw [if_neg Bool.false_ne_true] at q1
      exact hb.run pins s2 σ H1 Q I1 q1
end VL


set_option maxRecDepth 100000
set_option maxHeartbeats 400000
namespace VL
open PySem PySem.Spec PyProof.Rows L2
/-! ### shapes of ints -/
theorem lay_ints : ∀ ns : List Int, PyData.canLayAll0 (ns.map PyData.int) = true
  | [] => by simp [PyData.canLayAll0]
  | n :: ns => by simp only [List.map_cons, PyData.canLayAll0, PyData.canLay0, Bool.true_and, lay_ints ns]
theorem depth_ints : ∀ ns : List Int, PyData.depthAll (ns.map PyData.int) = 0
  | [] => by simp [PyData.depthAll]
  | n :: ns => by simp [PyData.depthAll, PyData.depth, depth_ints ns]
theorem shaped_ints (ns : List Int) : SeqAt.shaped (.list (ns.map .int)) = true := by
  unfold SeqAt.shaped
  rw [Bool.and_eq_true]
  refine ⟨by simp only [PyData.canLay0]; exact lay_ints ns, decide_eq_true ?_⟩
  simp only [PyData.depth, depth_ints]
  decide
theorem dp_ints {K : PySem.W.Frag} {H : Hp} : ∀ ns : List Int, DpAll K H (ns.map V.int) (ns.map PyData.int)
  | [] => .nil
  | n :: ns => .cons (.int n) (dp_ints ns)
theorem ne_nil {K : PySem.W.Frag} {H : Hp} {l p : Addr} {ls : List Int} {Q : VK} (h : H l = some (.lst (ls.map V.int))) (hp : H p = some (.lst [])) (h1 : ls ≠ [] → Q (.bl true) H) (h2 : ls = [] → Q (.bl false) H) : rNeD K (.ref l) (.ref p) H Q := by
  refine ⟨.list (ls.map .int), .list [], .lst (SqL.of h) (dp_ints ls), .lst (SqL.of hp) .nil, shaped_ints ls, shaped_ints [], ?_⟩
  cases ls with
  | nil =>
    have e : PyData.eqv (.list (([] : List Int).map PyData.int)) (.list []) = true := by simp [PyData.eqv, PyData.eqvAll]
    rw [e]
    exact h2 rfl
  | cons x xs =>
    have e : PyData.eqv (.list ((x :: xs).map PyData.int)) (.list []) = false := by simp [PyData.eqv, PyData.eqvAll]
    rw [e]
    exact h1 (by simp)
/-! ### the machine, opened -/
structure MK (m : Addr) (n : Nat) (O H : Hp) (lc ll : Addr) (cs ls : List Int) (z : Int) : Prop where
  same : Same O H
  om : O m = none
  oc : O lc = none
  ol : O ll = none
  ne : lc ≠ ll
  hm : H m = some (.dK (mKvs lc ll z))
  hc : H lc = some (.lst (cs.map V.int))
  hl : H ll = some (.lst (ls.map V.int))
  z0 : 0 ≤ z
  z1 : z ≤ n
  nc : cs.length ≤ 63
  nl : ls.length ≤ 63
theorem Mach.mk' {m : Addr} {n : Nat} {O H : Hp} (M : Mach m n O H) : ∃ lc ll cs ls z, MK m n O H lc ll cs ls z := by
  obtain ⟨s, om, lc, ll, cs, ls, z, h1, h2, h3, h4, h5, h6, a, b, c, d⟩ := M
  exact ⟨lc, ll, cs, ls, z, s, om, h1, h2, h3, h4, h5, h6, a, b, c, d⟩
section
variable {m : Addr} {n : Nat} {O H : Hp} {lc ll : Addr} {cs ls : List Int} {z : Int}
theorem MK.mach (M : MK m n O H lc ll cs ls z) : Mach m n O H := ⟨M.same, M.om, lc, ll, cs, ls, z, M.oc, M.ol, M.ne, M.hm, M.hc, M.hl, M.z0, M.z1, M.nc, M.nl⟩
theorem MK.garb {p : Addr} {o : HO} (M : MK m n O H lc ll cs ls z) (hp : H p = none) : MK m n O (L2.upd H p o) lc ll cs ls z :=
  ⟨M.same.trans (same_upd hp), M.om, M.oc, M.ol, M.ne, by rw [upd_ne (ne_of_none M.hm hp)]; exact M.hm, by rw [upd_ne (ne_of_none M.hc hp)]; exact M.hc, by rw [upd_ne (ne_of_none M.hl hp)]; exact M.hl, M.z0, M.z1, M.nc, M.nl⟩
theorem MK.gl (M : MK m n O H lc ll cs ls z) : DGet H m (.str "left") (some (.ref ll)) := by
  have := DGet.k (k := Sum.inr "left") M.hm
  rw [m_left] at this
  exact this
theorem MK.gc (M : MK m n O H lc ll cs ls z) : DGet H m (.str "cells") (some (.ref lc)) := by
  have := DGet.k (k := Sum.inr "cells") M.hm
  rw [m_cells] at this
  exact this
theorem MK.ga (M : MK m n O H lc ll cs ls z) : DGet H m (.str "at") (some (.int z)) := by
  have := DGet.k (k := Sum.inr "at") M.hm
  rw [m_at] at this
  exact this
theorem MK.nm (M : MK m n O H lc ll cs ls z) : lc ≠ m ∧ ll ≠ m := ⟨ne_of M.hc M.hm (by intro q; cases q), ne_of M.hl M.hm (by intro q; cases q)⟩
/-- m['left'] = a new list -/
theorem MK.pl {l : Addr} {ms : List Int} (M : MK m n O H lc ll cs ls z) (hl : H l = some (.lst (ms.map V.int))) (ol : O l = none) (hlc : lc ≠ l) (hs : ms.length ≤ 63) : DPut H m (.str "left") (.ref l) (L2.upd H m (.dK (mKvs lc l z))) ∧ MK m n O (L2.upd H m (.dK (mKvs lc l z))) lc l cs ms z := by
  refine ⟨?_, ?_⟩
  · have := DPut.k (k := Sum.inr "left") (v := .ref l) M.hm (by show 3 < sizeLine; decide)
    rw [m_putLeft] at this
    exact this
  · have nl : l ≠ m := ne_of hl M.hm (by intro q; cases q)
    exact ⟨fun b o e => by rw [upd_ne (ne_of_none e M.om)]; exact M.same _ _ e, M.om, M.oc, ol, hlc, upd_same, by rw [upd_ne M.nm.1]; exact M.hc, by rw [upd_ne nl]; exact hl, M.z0, M.z1, M.nc, hs⟩
theorem MK.pa {y : Int} {n' : Nat} (M : MK m n O H lc ll cs ls z) (y0 : 0 ≤ y) (y1 : y ≤ n') : DPut H m (.str "at") (.int y) (L2.upd H m (.dK (mKvs lc ll y))) ∧ MK m n' O (L2.upd H m (.dK (mKvs lc ll y))) lc ll cs ls y := by
  refine ⟨?_, ?_⟩
  · have := DPut.k (k := Sum.inr "at") (v := .int y) M.hm (by show 3 < sizeLine; decide)
    rw [m_putAt] at this
    exact this
  · exact ⟨fun b o e => by rw [upd_ne (ne_of_none e M.om)]; exact M.same _ _ e, M.om, M.oc, M.ol, M.ne, upd_same, by rw [upd_ne M.nm.1]; exact M.hc, by rw [upd_ne M.nm.2]; exact M.hl, y0, y1, M.nc, M.nl⟩
/-- m['left'][0] = x -/
theorem MK.ph {ms : List Int} (M : MK m n O H lc ll cs ls z) (hs : ms.length ≤ 63) : MK m n O (L2.upd H ll (.lst (ms.map V.int))) lc ll cs ms z :=
  ⟨fun b o e => by rw [upd_ne (ne_of_none e M.ol)]; exact M.same _ _ e, M.om, M.oc, M.ol, M.ne, by rw [upd_ne M.nm.2.symm]; exact M.hm, by rw [upd_ne M.ne]; exact M.hc, upd_same, M.z0, M.z1, M.nc, hs⟩
end
theorem atI_ints {ns : List Int} {j : Nat} {u : Int} (h : ns[j]? = some u) : atI (ns.map V.int) (j : Int) = some (V.int u) := atI_nat (by rw [List.getElem?_map, h]; rfl)
theorem cut1_ints (ns : List Int) : cutV (ns.map V.int) (some 1) none = (ns.drop 1).map V.int := by
  unfold cutV
  have e1 : HT.sIx (ns.map V.int).length 0 (some 1) = min 1 ns.length := by
    rw [show (1 : Int) = ((1 : Nat) : Int) from rfl, HT.sIx_nat, List.length_map]
  rw [e1, HT.sIx_none, List.length_map]
  cases ns with
  | nil => rfl
  | cons x xs =>
    have : min 1 (x :: xs).length = 1 := by simp
    rw [this, List.map_drop]
    exact List.take_of_length_le (by simp)
theorem sealed_ex {α : Type _} (a : α) : ∃ x, x = a := ⟨a, rfl⟩
/-- a, closed to the kernel -/
noncomputable def sealed {α : Type _} (a : α) : α := Classical.choose (sealed_ex a)
theorem sealed_eq {α : Type _} (a : α) : sealed a = a := Classical.choose_spec (sealed_ex a)
theorem ixN0 {n : Nat} (hj : 0 < n) : ixN n 0 = some 0 := by
  unfold ixN
  rw [if_pos (Int.le_refl _), if_pos (by omega)]
  rfl
theorem seq_by {t u : TS} {D : Ends} {σ : L2.St} {H : Hp} (J : L2.St → Hp → Prop) (hu : ∀ σ H, J σ H → u D σ H) (ht : ∀ N : L2.St → Hp → Prop, (∀ σ H, J σ H → N σ H) → t { D with nx := N } σ H) : tSeq t u D σ H := ht _ hu
end VL


set_option maxRecDepth 100000
set_option maxHeartbeats 400000
namespace VL
open PySem PySem.Spec PyProof.Rows L2
/-! ### kinds, places, loops: the plain side -/
section
variable {α β : Type}
theorem at0 {a : α} {l : List α} : atI (a :: l) 0 = some a := atI_nat (j := 0) rfl
theorem at1 {a b : α} {l : List α} : atI (a :: b :: l) 1 = some b := atI_nat (j := 1) rfl
theorem at2 {a b c : α} {l : List α} : atI (a :: b :: c :: l) 2 = some c := atI_nat (j := 2) rfl
theorem at3 {a b c d : α} {l : List α} : atI (a :: b :: c :: d :: l) 3 = some d := atI_nat (j := 3) rfl
theorem at4 {a b c d e : α} {l : List α} : atI (a :: b :: c :: d :: e :: l) 4 = some e := atI_nat (j := 4) rfl
/-- the thing at a place -/
def nth [Inhabited α] (xs : List α) (i : Int) : α := xs.getD i.toNat default
theorem atI_map [Inhabited α] {xs : List α} {f : α → β} {i : Int} (h0 : 0 ≤ i) (h1 : i < xs.length) : atI (xs.map f) i = some (f (nth xs i)) := by
  obtain ⟨j, rfl⟩ : ∃ j : Nat, i = j := ⟨i.toNat, (Int.toNat_of_nonneg h0).symm⟩
  have hj : j < xs.length := by omega
  refine atI_nat ?_
  rw [List.getElem?_map, List.getElem?_eq_getElem hj]
  unfold nth
  simp [hj]
theorem nth_mem [Inhabited α] {xs : List α} {i : Int} (h0 : 0 ≤ i) (h1 : i < xs.length) : nth xs i ∈ xs := by
  have hj : i.toNat < xs.length := by omega
  unfold nth
  simp [hj]
end
/-! ### what repr takes -/
structure Sh (w dp : Nat) (d : Dt) : Prop where
  sh : d.showable = true
  lv : d.leavesShort 13 = true
  wt : d.weight ≤ w
  dp : d.depth ≤ dp
  nd : d.hasDict = false
structure ShA (w dp : Nat) (ds : List Dt) : Prop where
  sh : PyData.showableAll ds = true
  lv : PyData.leavesShortAll 13 ds = true
  wt : PyData.weightAll ds ≤ w
  dp : PyData.depthAll ds ≤ dp
  nd : PyData.hasDictAll ds = false
theorem Sh.int {i : Int} (h : i.natAbs < 10 ^ 12) : Sh 40 0 (.int i) := by
  have hl : i.natAbs.log2 ≤ 39 := by
    by_cases e : i.natAbs = 0
    · rw [e]; decide
    · have := (Nat.log2_lt e (k := 40)).mpr (by omega)
      omega
  refine ⟨?_, ?_, ?_, ?_, by simp only [PyData.hasDict]⟩
  · simp only [PyData.showable]; exact decide_eq_true (by omega)
  · simp only [PyData.leavesShort]; exact decide_eq_true (PyData.shown_int_le h)
  · simp only [PyData.weight]; split <;> omega
  · simp [PyData.depth]
theorem ShA.nil {dp : Nat} : ShA 0 dp [] := ⟨rfl, rfl, Nat.le_refl _, Nat.zero_le _, by simp only [PyData.hasDictAll]⟩
theorem ShA.cons {w1 w2 dp : Nat} {d : Dt} {ds : List Dt} (a : Sh w1 dp d) (b : ShA w2 dp ds) : ShA (w1 + 1 + w2) dp (d :: ds) := by
  refine ⟨?_, ?_, ?_, ?_, by simp only [PyData.hasDictAll, a.nd, b.nd, Bool.or_self]⟩
  · simp only [PyData.showableAll, a.sh, b.sh, Bool.and_self]
  · simp only [PyData.leavesShortAll, a.lv, b.lv, Bool.and_self]
  · simp only [PyData.weightAll]; have := a.wt; have := b.wt; omega
  · simp only [PyData.depthAll]; have := a.dp; have := b.dp; omega
theorem Sh.tup {w dp : Nat} {ds : List Dt} (a : ShA w dp ds) : Sh w (dp + 1) (.tuple ds) := by
  refine ⟨?_, ?_, ?_, ?_, by simp only [PyData.hasDict]; exact a.nd⟩
  · simp only [PyData.showable]; exact a.sh
  · simp only [PyData.leavesShort]; exact a.lv
  · simp only [PyData.weight]; exact a.wt
  · simp only [PyData.depth]; have := a.dp; omega
theorem Sh.lst {w dp : Nat} {ds : List Dt} (a : ShA w dp ds) : Sh w (dp + 1) (.list ds) := by
  refine ⟨?_, ?_, ?_, ?_, by simp only [PyData.hasDict]; exact a.nd⟩
  · simp only [PyData.showable]; exact a.sh
  · simp only [PyData.leavesShort]; exact a.lv
  · simp only [PyData.weight]; exact a.wt
  · simp only [PyData.depth]; have := a.dp; omega
theorem Sh.le {w w' dp dp' : Nat} {d : Dt} (a : Sh w dp d) (h : w ≤ w') (h2 : dp ≤ dp') : Sh w' dp' d := ⟨a.sh, a.lv, Nat.le_trans a.wt h, Nat.le_trans a.dp h2, a.nd⟩
theorem ShA.of {w dp : Nat} : ∀ {ds : List Dt}, (∀ d ∈ ds, Sh w dp d) → ShA ((w + 1) * ds.length) dp ds
  | [], _ => .nil
  | d :: ds, h => by
    have r := ShA.cons (h d (by simp)) (ShA.of (ds := ds) fun x hx => h x (List.mem_cons_of_mem _ hx))
    refine ⟨r.sh, r.lv, Nat.le_trans r.wt ?_, r.dp, r.nd⟩
    rw [List.length_cons, Nat.mul_add]
    omega
theorem ShA.ints {ns : List Int} (h : ∀ i ∈ ns, i.natAbs < 10 ^ 12) : ShA (41 * ns.length) 0 (ns.map PyData.int) := by
  have := ShA.of (w := 40) (dp := 0) (ds := ns.map PyData.int) (fun d hd => by
    obtain ⟨i, hi, rfl⟩ := List.mem_map.mp hd
    exact Sh.int (h i hi))
  rw [List.length_map] at this
  exact this
theorem Sh.repr {w dp : Nat} {d : Dt} (a : Sh w dp d) (h : w ≤ 2 ^ 20) (h2 : dp ≤ 60) {Q : Dt → Prop} (q : Q (.str d.shown)) : bRepr [d] Q :=
  ⟨a.nd, a.sh, PyData.shown_fits (by decide) (by decide) a.lv (Nat.le_trans a.wt h), Nat.le_trans a.dp h2, q⟩
theorem shaped_int {i : Int} : SeqAt.shaped (.int i) = true := by simp [SeqAt.shaped, PyData.canLay0, PyData.depth]
theorem rngD_len (lo : Int) (n : Nat) : (rngD lo n).length = n := by unfold rngD; simp
end VL


set_option maxRecDepth 100000
set_option maxHeartbeats 400000
namespace VL
open PySem PySem.Spec PyProof.Rows L2
section
variable {X : Cx} {U : WX} {a b c e : Expr} {pos : Pos} {te : VT} {al tl : VA}
theorem DRs.app {K : PySem.W.Frag} {G : Hp} {ds es : List Dt} : ∀ {xs ys : List V}, DRs K G xs ds → DRs K G ys es → DRs K G (xs ++ ys) (ds ++ es) := by
  intro xs ys r q
  induction ds generalizing xs with
  | nil => cases r; exact q
  | cons d ds ih => cases r with | cons a r => exact .cons a (ih r)
end
end VL


set_option maxRecDepth 100000
set_option maxHeartbeats 4000000
namespace L2
open PySem PySem.Spec PyProof.Rows
section
variable {X : Cx}
end
end L2
namespace VL
open PySem PySem.Spec PyProof.Rows L2
section
variable {X : Cx}
end
end VL


set_option maxRecDepth 100000
set_option maxHeartbeats 1000000
namespace VL
open PySem PySem.Spec PyProof.Rows L2
/-! ### raise C(x, ..): C a class whose __init__ puts its arguments into fields -/
/-- what such an __init__ does -/
def spInit (K : PySem.W.Frag) (flds : List Str) : Sp := fun vs H Q _ => ∃ (a C : Addr) (ws : List V), vs = .ref a :: ws ∧ ws.length = flds.length ∧ OexC K C ∧ (∀ f ∈ flds, PySem.W.findIn K (.ref C) f = some none) ∧ H a = some (exo a C none) ∧
  ∀ dx, H dx = none → dx ≠ a → Q .non (L2.upd (L2.upd H dx (exd dx (flds.zip ws).reverse)) a (exo a C (some dx)))
/-- what is known of such a class -/
structure RzC (P : Program) (w : World) (K : PySem.W.Frag) (mg : Str → Option Value) (base : Heap) (x : Str) (flds : List Str) : Prop where
  cls : OexC K (He.ga K x)
  g : mg x = some (.ref (He.ga K x))
  no : ∀ f ∈ flds, PySem.W.findIn K (.ref (He.ga K x)) f = some none
  nd : flds.Nodup
  ini : ∃ (fI : Addr) (fd : FuncData) (ps : List Str), PySem.W.findIn K (.ref (He.ga K x)) "__init__" = some (some (.ref fI)) ∧ PySem.W.typeIn K (.ref fI) = some (.type "function") ∧ FnOk P w K mg base (L2.CX P w) 1 fI fd ps (spInit K flds) ∧ Binds K fd ps []
def mkX (x : Str) (flds : List Str) (ds : List Dt) : Exc := ⟨x, (flds.zip ds).reverse⟩
def vRaise (x : Str) (flds : List Str) (al : VA) : VST := fun V ρ n => al ρ n (fun ds n' => ds.length = flds.length ∧ ds.length ≤ 1000 ∧ V.xc (mkX x flds ds) ρ n') fun y n' => V.xc y ρ n'
theorem zip_rel {K : PySem.W.Frag} {G : Hp} : ∀ {vs : List V} {ds : List Dt} (flds : List Str), DRs K G vs ds → ∀ (acc : List (Str × V)) (bcc : List (Str × Dt)), (∀ f dv, bcc.lookup f = some dv → ∃ v, acc.lookup f = some v ∧ DR K G v dv) → (∀ f, bcc.lookup f = none → acc.lookup f = none) →
    ∀ f dv, ((flds.zip ds).reverse ++ bcc).lookup f = some dv → ∃ v, ((flds.zip vs).reverse ++ acc).lookup f = some v ∧ DR K G v dv := by
  intro vs ds flds
  induction flds generalizing vs ds with
  | nil => intro r acc bcc h _ f dv e; exact h f dv (by simpa using e)
  | cons g gs ih =>
    intro r acc bcc h hn f dv e
    cases ds with
    | nil => cases r; exact h f dv (by simpa using e)
    | cons d ds =>
      cases r with
      | cons a r =>
        rw [List.zip_cons_cons, List.reverse_cons, List.append_assoc, List.singleton_append] at e ⊢
        refine ih r _ _ (fun f dv e => ?_) (fun f e => ?_) f dv e
        · rw [List.lookup_cons] at e ⊢
          by_cases q : (f == g) = true
          · rw [q] at e ⊢; cases e; exact ⟨_, rfl, a⟩
          · rw [Bool.not_eq_true] at q; rw [q] at e ⊢; exact h f dv e
        · rw [List.lookup_cons] at e ⊢
          by_cases q : (f == g) = true
          · rw [q] at e; cases e
          · rw [Bool.not_eq_true] at q; rw [q] at e ⊢; exact hn f e
section
variable {X : Cx} {U : WX} {e : Expr} {es : List Expr} {al : VA} {p p2 pos : Pos}
theorem vs_raise {x : Str} {flds : List Str} (hc : X.calm = true) (tk : Takes X U) (R : RzC X.prog X.w X.K X.mg X.base x flds) (hr : Room 2 X.A) (hx : Passes (L2.CX X.prog X.w) X (fun _ _ _ => False)) (hg : Gl X x) (ha : VAa X U (e :: es) al)
    (hdb : (x == ("__debug__" : Str)) = false := by decide) (he : starEach (e :: es) X.env = (false, eval e X.env) :: starEach es X.env := by rfl) (hpl : (backTo p2 (starEach es X.env)).any (·.1) = false := by rfl) :
    VS X U (.Raise (some (.Call (.Name x p) (e :: es) [] p2)) none pos) (vRaise x flds al) := by
  obtain ⟨fI, fd, ps, h1, h2, F, B⟩ := R.ini
  refine ps_imp (ps_raise hc tk (pmk_oex R.cls h1 h2 F hr B .nil hx hg R.g ha hdb he hpl)) fun D σ H ⟨C, ρ, n, G, O, V, I, h, L⟩ => ?_
  refine ⟨C, ρ, n, G, O, _, _, I, h, fun ds n' ⟨q1, q2, q⟩ vs G' O' H' I' s' r => ⟨by rw [DRs.length r]; exact q2, fun a ha => ?_⟩, L.lkx σ ρ⟩
  refine ⟨a, He.ga X.K x, vs, by rw [List.append_nil], by rw [DRs.length r]; exact q1, R.cls, R.no, upd_same, fun dx hdx hne => ⟨rfl, dx, (flds.zip vs).reverse, upd_same, ?_, ?_, ?_⟩⟩
  · rw [upd_ne hne, upd_same]
  · rw [upd_ne hne] at hdx; exact hdx
  · rw [upd_ne hne] at hdx
    have eH : L2.upd (L2.del (L2.upd (L2.upd (L2.upd H' a (exo a (He.ga X.K x) none)) dx (exd dx (flds.zip vs).reverse)) a (exo a (He.ga X.K x) (some dx))) a) dx (.xd (flds.zip vs).reverse) = L2.upd H' dx (.xd (flds.zip vs).reverse) := by
      funext b
      by_cases b1 : b = dx
      · subst b1; rw [upd_same, upd_same]
      · rw [upd_ne b1, upd_ne b1]
        by_cases b2 : b = a
        · subst b2; rw [L2.del_same]; exact ha.symm
        · rw [L2.del_ne b2, upd_ne b2, upd_ne b1, upd_ne b2]
    rw [eH]
    have J := I'.new (o := .xd (flds.zip vs).reverse) hdx
    refine L.lkx σ ρ _ n' q _ _ _ _ _ J ⟨rfl, dx, (flds.zip vs).reverse, rfl, upd_same, fun f dv ef => ?_⟩
    have r' := DRs.same (In.newSame (o := .xd (flds.zip vs).reverse) I'.toIo hdx) r
    have := zip_rel flds r' [] [] (fun f dv z => by cases z) (fun f z => rfl) f dv (by rw [List.append_nil]; exact ef)
    rw [List.append_nil] at this
    exact this
end
/-! ### try: .. except C: .. -/
/-- no known class is under another one -/
def KnX (K : PySem.W.Frag) (known : List Str) : Prop := ∀ x ∈ known, ∀ c ∈ known, PySem.W.exmOne K (.ref (He.ga K x)) (.ref (He.ga K c)) = some (decide (x = c))
def hts (K : PySem.W.Frag) (U : WX) (hs : List (Str × VST)) : List (Value × (Addr → Value → Option Addr → TS)) := hs.map fun h => (.ref (He.ga K h.1), fun _ _ _ => upS K U h.2)
inductive HdsV (X : Cx) (U : WX) : List ExceptHandler → List (Str × VST) → Prop
  | nil : HdsV X U [] []
  | cons {x : Str} {th : VST} {b₀ : Stmt} {suite : List Stmt} {np pos' : Pos} {hds : List ExceptHandler} {l : List (Str × VST)} (hc : Names X x (.ref (He.ga X.K x)))
      (hsu : ∀ (a : Addr) (oe : Obj) (pn : List (Addr × Obj)), VSs (X.suite a ((a, oe) :: pn)) U (b₀ :: suite) th) (r : HdsV X U hds l) : HdsV X U (.ExceptHandler (some (.Name x np)) none (b₀ :: suite) pos' :: hds) ((x, th) :: l)
theorem HdsV.ok {X : Cx} {U : WX} {hds : List ExceptHandler} {l : List (Str × VST)} (h : HdsV X U hds l) : HdsOk X hds (hts X.K U l) := by
  induction h with
  | nil => exact .nil
  | cons hc hsu r ih => exact .cons hc (fun a oe cls d pn _ _ => hsu a oe pn) ih
section
variable {X : Cx} {U : WX} {body : List Stmt} {h₀ : ExceptHandler} {hds : List ExceptHandler} {l : List (Str × VST)} {known : List Str} {tb : VST} {pos : Pos}
end
end VL


set_option maxRecDepth 100000
set_option maxHeartbeats 1000000
namespace VL
open PySem PySem.Spec PyProof.Rows L2
/-! ### what the written part says of an error's class -/
def oexO (K : PySem.W.Frag) (C : Addr) : Bool := match K.lookup C with
  | some ⟨.type "type", _, .cls cd, sl⟩ => (match cd.mro, sl.toList with
    | .ref C' :: bm, [_, _, _, _, some (.builtin n), _] => C' == C && n == "ValueError.__new__" && !cd.hasDel && cd.hasDict && PySem.HandSPX.refsVE bm
    | _, _ => false)
  | _ => false
def oexB (K : PySem.W.Frag) (C : Addr) : Bool := oexO K C && (decide (PySem.W.findIn K (.ref C) "__setattr__" = some (some (.builtin "object.__setattr__"))) && (decide (PySem.W.subIn K (.ref C) (.type "BaseException") = some true) && (decide (PySem.W.typeIn K (.ref C) = some (.type "type")) && PySem.W.keepIn K (.ref C))))
theorem oexB_ok {K : PySem.W.Frag} {C : Addr} (h : oexB K C = true) : OexC K C := by
  unfold oexB at h
  simp only [Bool.and_eq_true, decide_eq_true_eq] at h
  obtain ⟨h0, h1, h2, h3, h4⟩ := h
  refine ⟨?_, h1, h2, h3, h4⟩
  unfold oexO at h0
  split at h0
  · rename_i dd cd sl ho
    split at h0
    · rename_i C' bm k0 k1 k2 k3 n k5 hm hs
      simp only [Bool.and_eq_true, beq_iff_eq, Bool.not_eq_true'] at h0
      obtain ⟨⟨⟨⟨rfl, rfl⟩, hdel⟩, hdct⟩, ht⟩ := h0
      obtain ⟨nm, bs, mro, ns, qn, hd, sn, sub, ab, col, del⟩ := cd
      dsimp only at hm hdel hdct
      subst hm hdel hdct
      have hsl : sl = #[k0, k1, k2, k3, some (.builtin "ValueError.__new__"), k5] := by
        obtain ⟨l⟩ := sl
        simp only at hs
        rw [hs]
      subst hsl
      exact ⟨nm, qn, ns, bs, bm, sn, sub, ab, col, dd, k0, k1, k2, k3, k5, ho, ht⟩
    · cases h0
  · cases h0
abbrev iA (K : PySem.W.Frag) (x : Str) : Addr := He.fAd K (x, some "__init__")
def rzB (K : PySem.W.Frag) (x : Str) (flds : List Str) : Bool := oexB K (He.ga K x) && ((flds.all fun f => decide (PySem.W.findIn K (.ref (He.ga K x)) f = some none)) && (decide (PySem.W.findIn K (.ref (He.ga K x)) "__init__" = some (some (.ref (iA K x)))) && decide (PySem.W.typeIn K (.ref (iA K x)) = some (.type "function"))))
theorem rz_of {P : Program} {w : World} {K : PySem.W.Frag} {mg : Str → Option Value} {base : Heap} {x : Str} {flds : List Str} (h : rzB K x flds = true) (g : mg x = some (.ref (He.ga K x))) (nd : flds.Nodup) {fd : FuncData} {ps : List Str} (F : FnOk P w K mg base (L2.CX P w) 1 (iA K x) fd ps (spInit K flds)) (B : Binds K fd ps []) : RzC P w K mg base x flds := by
  unfold rzB at h
  simp only [Bool.and_eq_true, decide_eq_true_eq, List.all_eq_true] at h
  obtain ⟨h0, h1, h2, h3⟩ := h
  exact ⟨oexB_ok h0, g, h1, nd, _, _, _, h2, h3, F, B⟩
/-- two fields: the heap behind both stores -/
theorem two_eq {H : Hp} {a dx : Addr} {o1 o2 o3 : HO} (hne : dx ≠ a) : L2.upd (L2.upd (L2.upd H dx o1) a o3) dx o2 = L2.upd (L2.upd H dx o2) a o3 := by
  funext b
  by_cases b1 : b = dx
  · subst b1; rw [upd_same, upd_ne hne, upd_same]
  · rw [upd_ne b1]
    by_cases b2 : b = a
    · subst b2; rw [upd_same, upd_same]
    · rw [upd_ne b2, upd_ne b2, upd_ne b1, upd_ne b1]
section
variable {K : PySem.W.Frag} {f g : Str} {H : Hp} {D : Ends} {a C : Addr} {y z : V} {N : List Str}
theorem init1_read {vs : List V} {Q : VK} {E : XK} (h : spInit K [f] vs H Q E) : ∃ a y, vs = [.ref a, y] ∧ ∀ σ : L2.St, σ[0]? = some (some (.ref a)) → σ[1]? = some (some y) → ∀ D : Ends, (∀ σ' H', Q .non H' → D.nx σ' H') → tOst K f (tVar 0) (tVar 1) D σ H := by
  obtain ⟨a, C, ws, rfl, hl, T, no, ha, q⟩ := h
  match ws, hl with
  | [y], _ =>
    exact ⟨a, y, rfl, fun σ e0 e1 D hD => ⟨y, e1, .ref a, e0, a, C, rfl, T, no f (by simp), .inl ⟨ha, fun dx hdx hne => hD _ _ (q dx hdx hne)⟩⟩⟩
theorem init2_read {vs : List V} {Q : VK} {E : XK} (h : spInit K [f, g] vs H Q E) : ∃ a y z, vs = [.ref a, y, z] ∧ ∀ σ : L2.St, σ[0]? = some (some (.ref a)) → σ[1]? = some (some y) → σ[2]? = some (some z) → ∀ D : Ends, (∀ σ' H', Q .non H' → D.nx σ' H') → tSeq (tOst K f (tVar 0) (tVar 1)) (tOst K g (tVar 0) (tVar 2)) D σ H := by
  obtain ⟨a, C, ws, rfl, hl, T, no, ha, q⟩ := h
  match ws, hl with
  | [y, z], _ =>
    refine ⟨a, y, z, rfl, fun σ e0 e1 e2 D hD => ⟨y, e1, .ref a, e0, a, C, rfl, T, no f (by simp), .inl ⟨ha, fun dx hdx hne => ?_⟩⟩⟩
    refine ⟨z, e2, .ref a, e0, a, C, rfl, T, no g (by simp), .inr ⟨dx, [(f, y)], upd_same, by rw [upd_ne hne, upd_same], by show 1 ≤ 900; decide, hD _ _ ?_⟩⟩
    rw [two_eq hne]
    exact q dx hdx hne
end
theorem passes0 {X : Cx} {P : Program} {w : World} : Passes (L2.CX P w) X (fun _ _ _ => False) := fun pins σ H s e s' I ⟨a, B, H', cls, d, h1, h2, h3, h4, h5, h6, h7, f⟩ => f.elim
def knB (K : PySem.W.Frag) (known : List Str) : Bool := known.all fun x => known.all fun c => decide (PySem.W.exmOne K (.ref (He.ga K x)) (.ref (He.ga K c)) = some (decide (x = c)))
theorem knB_ok {K : PySem.W.Frag} {known : List Str} (h : knB K known = true) : KnX K known := by
  unfold knB at h
  simp only [List.all_eq_true, decide_eq_true_eq] at h
  exact h
end VL


set_option maxRecDepth 100000
set_option maxHeartbeats 2000000
namespace VL
open PySem PySem.Spec PyProof.Rows L2
/-! ### trees: what a piece of the text does to values, as a thing that is computed -/
inductive T (α : Type) where
  | ret (a : α)
  | exc (x : Exc)
  | fail
  | draw (many : Int) (k : Int → T α)
  /-- what changes is read, written; a new place -/
  | rd (k : Sto → T α)
  | wr (s : Sto) (t : T α)
  | nw (k : Addr → T α)
def sat {α : Type} : T α → Sn → (α → Sn → Prop) → XW → Prop
  | .ret a, n, Q, _ => Q a n
  | .exc x, n, _, E => E x n
  | .fail, _, _, _ => False
  | .draw many k, n, Q, E => 0 < many ∧ many < 10000000000000000000000000000000 ∧ n.n < 1000000000000 ∧ ∀ r, 0 ≤ r → r < many → sat (k r) ⟨n.n + 1, n.st⟩ Q E
  | .rd k, n, Q, E => sat (k n.st) n Q E
  | .wr s t, n, Q, E => sat t ⟨n.n, s⟩ Q E
  | .nw k, n, Q, E => ∀ a, n.st a = none → sat (k a) n Q E
def bx {α β : Type} : T α → (α → T β) → (Exc → T β) → T β
  | .ret a, f, _ => f a
  | .exc x, _, g => g x
  | .fail, _, _ => .fail
  | .draw m k, f, g => .draw m fun r => bx (k r) f g
  | .rd k, f, g => .rd fun s => bx (k s) f g
  | .wr s t, f, g => .wr s (bx t f g)
  | .nw k, f, g => .nw fun a => bx (k a) f g
def bd {α β : Type} (t : T α) (f : α → T β) : T β := bx t f .exc
theorem sat_bx {α β : Type} {f : α → T β} {g : Exc → T β} {Q : β → Sn → Prop} {E : XW} : ∀ {t : T α} {n : Sn}, sat (bx t f g) n Q E ↔ sat t n (fun a n' => sat (f a) n' Q E) (fun x n' => sat (g x) n' Q E)
  | .ret a, n => Iff.rfl
  | .exc x, n => Iff.rfl
  | .fail, n => Iff.rfl
  | .draw m k, n => and_congr_right fun _ => and_congr_right fun _ => and_congr_right fun _ => forall_congr' fun r => imp_congr_right fun _ => imp_congr_right fun _ => sat_bx (t := k r)
  | .rd k, n => sat_bx (t := k n.st)
  | .wr s t, n => sat_bx (t := t)
  | .nw k, n => forall_congr' fun a => imp_congr_right fun _ => sat_bx (t := k a)
theorem sat_bd {α β : Type} {f : α → T β} {Q : β → Sn → Prop} {E : XW} {t : T α} {n : Sn} : sat (bd t f) n Q E ↔ sat t n (fun a n' => sat (f a) n' Q E) E := sat_bx
theorem sat_mono {α : Type} {Q Q' : α → Sn → Prop} {E E' : XW} (hq : ∀ a n, Q a n → Q' a n) (he : ∀ x n, E x n → E' x n) : ∀ {t : T α} {n : Sn}, sat t n Q E → sat t n Q' E'
  | .ret a, n, h => hq a n h
  | .exc x, n, h => he x n h
  | .fail, n, h => h.elim
  | .draw m k, n, ⟨h1, h2, h3, h⟩ => ⟨h1, h2, h3, fun r r0 r1 => sat_mono hq he (h r r0 r1)⟩
  | .rd k, n, h => sat_mono (t := k n.st) hq he h
  | .wr s t, n, h => sat_mono (t := t) hq he h
  | .nw k, n, h => fun a ha => sat_mono hq he (h a ha)
theorem bx_ret {α β : Type} {a : α} {f : α → T β} {g : Exc → T β} : bx (.ret a) f g = f a := rfl
theorem bx_exc {α β : Type} {x : Exc} {f : α → T β} {g : Exc → T β} : bx (.exc x) f g = g x := rfl
theorem bx_fail {α β : Type} {f : α → T β} {g : Exc → T β} : bx .fail f g = .fail := rfl
theorem bx_draw {α β : Type} {m : Int} {k : Int → T α} {f : α → T β} {g : Exc → T β} : bx (.draw m k) f g = .draw m fun r => bx (k r) f g := rfl
theorem bx_rd {α β : Type} {k : Sto → T α} {f : α → T β} {g : Exc → T β} : bx (.rd k) f g = .rd fun s => bx (k s) f g := rfl
theorem bx_wr {α β : Type} {s : Sto} {t : T α} {f : α → T β} {g : Exc → T β} : bx (.wr s t) f g = .wr s (bx t f g) := rfl
theorem bx_nw {α β : Type} {k : Addr → T α} {f : α → T β} {g : Exc → T β} : bx (.nw k) f g = .nw fun a => bx (k a) f g := rfl
theorem bd_ret {α β : Type} {a : α} {f : α → T β} : bd (.ret a) f = f a := rfl
theorem bd_exc {α β : Type} {x : Exc} {f : α → T β} : bd (.exc x) f = .exc x := rfl
theorem bd_fail {α β : Type} {f : α → T β} : bd .fail f = .fail := rfl
theorem bd_draw {α β : Type} {m : Int} {k : Int → T α} {f : α → T β} : bd (.draw m k) f = .draw m fun r => bd (k r) f := rfl
theorem bd_rd {α β : Type} {k : Sto → T α} {f : α → T β} : bd (.rd k) f = .rd fun s => bd (k s) f := rfl
theorem bd_wr {α β : Type} {s : Sto} {t : T α} {f : α → T β} : bd (.wr s t) f = .wr s (bd t f) := rfl
theorem bd_nw {α β : Type} {k : Addr → T α} {f : α → T β} : bd (.nw k) f = .nw fun a => bd (k a) f := rfl
def ofO {α : Type} : Option α → T α
  | some a => .ret a
  | none => .fail
theorem ofO_some {α : Type} {a : α} : ofO (some a) = .ret a := rfl
theorem ofO_none {α : Type} : ofO (none : Option α) = .fail := rfl
def S {α : Type} (f : Nv → T α) : Nv → Sn → (α → Sn → Prop) → XW → Prop := fun ρ n Q E => sat (f ρ) n Q E
abbrev XT := Nv → T Dt
abbrev XB := Nv → T Bool
abbrev XA := Nv → T (List Dt)
abbrev XAW := Nv → T (List W)
abbrev XP := Nv → T (Option Int)
/-- how a statement ends -/
inductive Fl where
  | nx (ρ : Nv)
  | rt (w : W)
  | bk (ρ : Nv)
  | ct (ρ : Nv)
  | xc (x : Exc) (ρ : Nv)
abbrev XS := Nv → T Fl
abbrev XFn := List W → T W
def flV (V : VN) (f : Fl) (n : Sn) : Prop := match f with
  | .nx ρ => V.nx ρ n
  | .rt w => V.rt w n
  | .bk ρ => V.bk ρ n
  | .ct ρ => V.ct ρ n
  | .xc x ρ => V.xc x ρ n
def SS (f : XS) : VST := fun V ρ n => sat (f ρ) n (flV V) (fun _ _ => False)
def SF (f : XFn) : VFn := fun ws n Q E => sat (f ws) n Q E
section
variable {X : Cx} {U : WX} {e : Expr} {es : List Expr} {st : Stmt} {ss : List Stmt} {tg iter : Expr} {o : Option Expr}
theorem wkE {t t' : VT} (h : VE X U e t) (w : ∀ ρ n Q E, t' ρ n Q E → t ρ n Q E) : VE X U e t' := pe_imp h fun σ H Q ⟨C, ρ, n, G, O, Q0, E0, I, q, r⟩ => ⟨C, ρ, n, G, O, Q0, E0, I, w _ _ _ _ q, r⟩
theorem wkT {t t' : VB} (h : VTt X U e t) (w : ∀ ρ n Q E, t' ρ n Q E → t ρ n Q E) : VTt X U e t' := pt_imp h fun σ H Q ⟨C, ρ, n, G, O, Q0, E0, I, q, r⟩ => ⟨C, ρ, n, G, O, Q0, E0, I, w _ _ _ _ q, r⟩
theorem wkW {t t' : VB} (h : VW X U e t) (w : ∀ ρ n Q E, t' ρ n Q E → t ρ n Q E) : VW X U e t' := pw_imp h fun σ H Q ⟨C, ρ, n, G, O, Q0, E0, I, q, r⟩ => ⟨C, ρ, n, G, O, Q0, E0, I, w _ _ _ _ q, r⟩
theorem wkA {t t' : VA} (h : VAa X U es t) (w : ∀ ρ n Q E, t' ρ n Q E → t ρ n Q E) : VAa X U es t' := pa_imp h fun σ H Q ⟨C, ρ, n, G, O, Q0, E0, I, q, r⟩ => ⟨C, ρ, n, G, O, Q0, E0, I, w _ _ _ _ q, r⟩
theorem wkO {t t' : VA} (h : VO X U e t) (w : ∀ ρ n Q E, t' ρ n Q E → t ρ n Q E) : VO X U e t' := pe_imp h fun σ H Q ⟨C, ρ, n, G, O, Q0, E0, I, q, r⟩ => ⟨C, ρ, n, G, O, Q0, E0, I, w _ _ _ _ q, r⟩
theorem wkG {t t' : VAW} (h : VAg X U es t) (w : ∀ ρ n Q E, t' ρ n Q E → t ρ n Q E) : VAg X U es t' := pa_imp h fun σ H Q ⟨C, ρ, n, G, O, Q0, E0, I, q, r⟩ => ⟨C, ρ, n, G, O, Q0, E0, I, w _ _ _ _ q, r⟩
theorem wkI {t t' : VA} (h : VI X U tg iter t) (w : ∀ ρ n Q E, t' ρ n Q E → t ρ n Q E) : VI X U tg iter t' := pi_imp h fun σ H Q ⟨C, ρ, n, G, O, Q0, E0, I, q, r⟩ => ⟨C, ρ, n, G, O, Q0, E0, I, w _ _ _ _ q, r⟩
theorem wkS {t t' : VST} (h : VS X U st t) (w : ∀ V ρ n, t' V ρ n → t V ρ n) : VS X U st t' := ps_imp h fun D σ H ⟨C, ρ, n, G, O, V, I, q, r⟩ => ⟨C, ρ, n, G, O, V, I, w _ _ _ q, r⟩
theorem wkSs {t t' : VST} (h : VSs X U ss t) (w : ∀ V ρ n, t' V ρ n → t V ρ n) : VSs X U ss t' := pss_imp h fun D σ H ⟨C, ρ, n, G, O, V, I, q, r⟩ => ⟨C, ρ, n, G, O, V, I, w _ _ _ q, r⟩
end
/-! ### operators -/
def RO (r : Dt → Dt → Option Dt) : R2D := fun a b Q => match r a b with
  | some d => Q d
  | none => False
theorem RO.at {r : Dt → Dt → Option Dt} {a b : Dt} {Q : Dt → Prop} (h : RO r a b Q) : ∃ d, r a b = some d ∧ Q d := by
  unfold RO at h
  split at h
  · next d e => exact ⟨d, e, h⟩
  · exact h.elim
theorem wkOp {X : Cx} {f : Value → Value → Sem Value} {r r' : R2D} (h : VOp X f r) (w : ∀ a b Q, r' a b Q → r a b Q) : VOp X f r' := fun pins s σ H x y v u Q I rx ry ⟨G, d1, d2, Q0, sg, r1, r2, q, hq⟩ => h pins s σ H x y v u Q I rx ry ⟨G, d1, d2, Q0, sg, r1, r2, w _ _ _ q, hq⟩
theorem opO {X : Cx} {f : Value → Value → Sem Value} {r : R2D} {p : Dt → Dt → Option Dt} (h : VOp X f r) (w : ∀ a b d, p a b = some d → ∀ Q : Dt → Prop, Q d → r a b Q) : VOp X f (RO p) := wkOp h fun a b Q q => by
  obtain ⟨d, e, q⟩ := q.at
  exact w a b d e Q q
section
open Classical
noncomputable def pAdd (a b : Dt) : Option Dt := match a, b with
  | .int i, .int j => some (.int (i + j))
  | .str x, .str y => if x.length + y.length ≤ sizeLine then some (.str (x ++ y)) else none
  | .tuple xs, .tuple ys => if xs.length + ys.length ≤ sizeLine then some (.tuple (xs ++ ys)) else none
  | .list xs, .list ys => if xs.length + ys.length ≤ sizeLine then some (.list (xs ++ ys)) else none
  | _, _ => none
def pSub (a b : Dt) : Option Dt := match a, b with
  | .int i, .int j => some (.int (i - j))
  | _, _ => none
noncomputable def pMul (a b : Dt) : Option Dt := match a, b with
  | .int i, .int j => if CMul i j then some (.int (i * j)) else none
  | _, _ => none
noncomputable def pDiv (a b : Dt) : Option Dt := match a, b with
  | .int i, .int j => if CDiv i j then some (.int (i / j)) else none
  | _, _ => none
noncomputable def pEq (a b : Dt) : Option Dt := if shp a b then some (.bool (PyData.eqv a b)) else none
noncomputable def pNe (a b : Dt) : Option Dt := if shp a b then some (.bool (!PyData.eqv a b)) else none
def pLt (a b : Dt) : Option Dt := match a, b with
  | .int i, .int j => some (.bool (decide (i < j)))
  | _, _ => none
def pLe (a b : Dt) : Option Dt := match a, b with
  | .int i, .int j => some (.bool (decide (i ≤ j)))
  | _, _ => none
def pGt (a b : Dt) : Option Dt := match a, b with
  | .int i, .int j => some (.bool (decide (j < i)))
  | _, _ => none
def pGe (a b : Dt) : Option Dt := match a, b with
  | .int i, .int j => some (.bool (decide (j ≤ i)))
  | _, _ => none
def pIs (a b : Dt) : Option Dt := match b with
  | .none => some (.bool (isNoneD a))
  | _ => none
def pIsNot (a b : Dt) : Option Dt := match b with
  | .none => some (.bool (!isNoneD a))
  | _ => none
noncomputable def pIx (a b : Dt) : Option Dt := match a, b with
  | .tuple ds, .int i => atI ds i
  | .list ds, .int i => atI ds i
  | .str z, .int i => if z.length ≤ sizeLine then (atI z.cps.toList i).map fun c => .str ⟨#[c]⟩ else none
  | _, _ => none
variable {X : Cx}
theorem ite_at {α : Type} {c : Prop} {_ : Decidable c} {a d : α} (h : (if c then some a else none) = some d) : c ∧ a = d := by
  split at h
  · next q => cases h; exact ⟨q, rfl⟩
  · cases h
theorem p_add : VOp X (binaryOp .Add) (RO pAdd) := opO o_add fun a b d h Q q => by
  unfold pAdd at h
  split at h
  · cases h; exact q
  · obtain ⟨c, rfl⟩ := ite_at h; exact ⟨c, q⟩
  · obtain ⟨c, rfl⟩ := ite_at h; exact ⟨c, q⟩
  · obtain ⟨c, rfl⟩ := ite_at h; exact ⟨c, q⟩
  · cases h
theorem p_sub : VOp X (binaryOp .Sub) (RO pSub) := opO o_sub fun a b d h Q q => by
  unfold pSub at h
  split at h
  · cases h; exact q
  · cases h
theorem p_mul : VOp X (binaryOp .Mult) (RO pMul) := opO o_mul fun a b d h Q q => by
  unfold pMul at h
  split at h
  · obtain ⟨c, rfl⟩ := ite_at h; exact ⟨c, q⟩
  · cases h
theorem p_div : VOp X (binaryOp .FloorDiv) (RO pDiv) := opO o_div fun a b d h Q q => by
  unfold pDiv at h
  split at h
  · obtain ⟨c, rfl⟩ := ite_at h; exact ⟨c, q⟩
  · cases h
theorem p_eq (hu : X.A.units + 64 < cLine) : VOp X (compareOp .Eq) (RO pEq) := opO (o_eq hu) fun a b d h Q q => by
  obtain ⟨c, rfl⟩ := ite_at h; exact ⟨c, q⟩
theorem p_ne (hu : X.A.units + 64 < cLine) : VOp X (compareOp .NotEq) (RO pNe) := opO (o_ne hu) fun a b d h Q q => by
  obtain ⟨c, rfl⟩ := ite_at h; exact ⟨c, q⟩
theorem p_lt : VOp X (compareOp .Lt) (RO pLt) := opO o_lt fun a b d h Q q => by
  unfold pLt at h
  split at h
  · cases h; exact q
  · cases h
theorem p_le : VOp X (compareOp .LtE) (RO pLe) := opO o_le fun a b d h Q q => by
  unfold pLe at h
  split at h
  · cases h; exact q
  · cases h
theorem p_gt : VOp X (compareOp .Gt) (RO pGt) := opO o_gt fun a b d h Q q => by
  unfold pGt at h
  split at h
  · cases h; exact q
  · cases h
theorem p_ge : VOp X (compareOp .GtE) (RO pGe) := opO o_ge fun a b d h Q q => by
  unfold pGe at h
  split at h
  · cases h; exact q
  · cases h
theorem p_is : VOp X (compareOp .Is) (RO pIs) := opO o_is fun a b d h Q q => by
  unfold pIs at h
  split at h
  · cases h; exact q
  · cases h
theorem p_isnot : VOp X (compareOp .IsNot) (RO pIsNot) := opO o_isnot fun a b d h Q q => by
  unfold pIsNot at h
  split at h
  · cases h; exact q
  · cases h
def pIadd (a b : Dt) : Option Dt := match a, b with
  | .int i, .int j => some (.int (i + j))
  | _, _ => none
theorem ixO_imp {a b : Dt} {d : Dt} (h : pIx a b = some d) {Q : Dt → Prop} (q : Q d) : dIx a b Q := by
  unfold pIx at h
  unfold dIx
  split at h
  · simp only [h]; exact q
  · simp only [h]; exact q
  · split at h
    · next z i c =>
      refine ⟨c, ?_⟩
      cases hh : atI z.cps.toList i with
      | none => rw [hh] at h; cases h
      | some c => rw [hh] at h; cases h; exact q
    · cases h
  · cases h
end
end VL


set_option maxRecDepth 100000
set_option maxHeartbeats 2000000
namespace VL
open PySem PySem.Spec PyProof.Rows L2
theorem satO {α : Type} {o : Option α} {n : Sn} {Q : α → Sn → Prop} {E : XW} (h : sat (ofO o) n Q E) : ∃ a, o = some a ∧ Q a n := by
  cases o with
  | none => exact h.elim
  | some a => exact ⟨a, rfl, h⟩
theorem sat2 {α β : Type} {t : T α} {f : α → T β} {n : Sn} {Q : β → Sn → Prop} {E : XW} {Q' : α → Sn → Prop} (h : sat (bd t f) n Q E) (w : ∀ a n', sat (f a) n' Q E → Q' a n') : sat t n Q' E := sat_mono w (fun _ _ q => q) (sat_bd.mp h)
def asB : Dt → T Bool
  | .bool b => .ret b
  | _ => .fail
theorem satB {d : Dt} {n : Sn} {Q : Bool → Sn → Prop} {E : XW} (h : sat (asB d) n Q E) : isB (fun b => Q b n) d := by
  cases d <;> first | exact h | exact h.elim
section
variable {X : Cx} {U : WX} {a b c e : Expr} {es rest : List Expr} {pos p p2 : Pos} {ta tb tc te : XT} {xa xb xc : XB} {al : XA} {x : Str}
/-! ### names, constants -/
def xVar (i : Nat) (ρ : Nv) : T Dt := match ρ[i]? with
  | some (some (.dat d)) => .ret d
  | _ => .fail
theorem xe_var (i : Nat) {x : Str} (hN : X.N[i]? = some x := by rfl) (hv : Vis X.env.scope x := by first | exact Or.inl rfl | exact Or.inr (Or.inl rfl) | exact Or.inr (Or.inr rfl)) (hd : (x == ("__debug__" : Str)) = false := by decide)
    (hcd : (x == ("__classdict__" : Str)) = false := by decide) : VE X U (.Name x pos) (S (xVar i)) := wkE (ve_var i hN hv hd hcd) fun ρ n Q E h => by
  unfold S xVar at h
  unfold vVar
  split at h
  · next d e => (try simp only [e]); exact h
  · exact h.elim
def xC (d : Dt) (_ : Nv) : T Dt := .ret d
theorem xe_int {i j} : VE X U (.Constant (.int i) j pos) (S (xC (.int i))) := wkE ve_int fun _ _ _ _ q => q
theorem xe_bl {i j} : VE X U (.Constant (.bool i) j pos) (S (xC (.bool i))) := wkE ve_bl fun _ _ _ _ q => q
theorem xe_non {j} : VE X U (.Constant .none j pos) (S (xC .none)) := wkE ve_non fun _ _ _ _ q => q
theorem xe_str {x j} : VE X U (.Constant (.str x) j pos) (S (xC (.str x))) := wkE ve_str fun _ _ _ _ q => q
theorem xe_gint {x : Str} {i : Int} (hg : Gl X x) (hm : ∃ t, X.mg x = some (.int i t)) (hd : (x == ("__debug__" : Str)) = false := by decide) : VE X U (.Name x pos) (S (xC (.int i))) := wkE (ve_gint hg hm hd) fun _ _ _ _ q => q
/-! ### operators -/
def opK2 (q : Dt → Dt → Option Dt) (x y : Dt) : T Dt := ofO (q x y)
def opK (q : Dt → Dt → Option Dt) (tb : XT) (ρ : Nv) (x : Dt) : T Dt := bd (tb ρ) (opK2 q x)
def xOp (q : Dt → Dt → Option Dt) (ta tb : XT) (ρ : Nv) : T Dt := bd (ta ρ) (opK q tb ρ)
theorem xOp_ok {q : Dt → Dt → Option Dt} : ∀ ρ n Q E, S (xOp q ta tb) ρ n Q E → vOp (RO q) (S ta) (S tb) ρ n Q E := fun ρ n Q E h =>
  sat2 h fun d1 n1 h1 => sat2 h1 fun d2 n2 h2 => by
    obtain ⟨d, e, q⟩ := satO h2
    unfold RO
    simp only [e]
    exact q
theorem xe_op {op : Operator} {r : Dt → Dt → Option Dt} (ho : VOp X (binaryOp op) (RO r)) (ha : VE X U a (S ta)) (hb : VE X U b (S tb)) : VE X U (.BinOp a op b pos) (S (xOp r ta tb)) := wkE (ve_op ho ha hb) xOp_ok
theorem xe_cmp {op : CmpOp} {r : Dt → Dt → Option Dt} (ho : VOp X (compareOp op) (RO r)) (ha : VE X U a (S ta)) (hb : VE X U b (S tb)) (hm : behindInMarks op b = false := by first | exact nomark _ | rfl) : VE X U (.Compare a [op] [b] pos) (S (xOp r ta tb)) := wkE (ve_cmp ho ha hb hm) xOp_ok
def xTest (t : XT) (ρ : Nv) : T Bool := bd (t ρ) asB
theorem xTest_ok {t : XT} {t' : VT} (w : ∀ ρ n Q E, S t ρ n Q E → t' ρ n Q E) : ∀ ρ n Q E, S (xTest t) ρ n Q E → vTest t' ρ n Q E := fun ρ n Q E h => w _ _ _ _ (sat2 h fun d n1 h1 => satB h1)
theorem xt_cmp {op : CmpOp} {r : Dt → Dt → Option Dt} (ho : VOp X (compareOp op) (RO r)) (ha : VE X U a (S ta)) (hb : VE X U b (S tb)) (hm : behindInMarks op b = false := by first | exact nomark _ | rfl) : VTt X U (.Compare a [op] [b] pos) (S (xTest (xOp r ta tb))) := wkT (vt_cmp ho ha hb hm) (xTest_ok xOp_ok)
theorem xt_val {t : XT} (h : VE X U e (S t)) (he : ∀ whole, isTrue e X.env whole = (do let v ← whole; standAt e.pos; holding [v] (truthy v)) := by intro _; rfl) : VTt X U e (S (xTest t)) := wkT (vt_val h he) (xTest_ok fun _ _ _ _ q => q)
def chK4 (q' : Dt → Dt → Option Dt) (y : Dt) (tc : XT) (ρ : Nv) (k : Bool) : T Dt := if k = true then bd (tc ρ) (opK2 q' y) else .ret (.bool false)
def chK3 (q' : Dt → Dt → Option Dt) (y : Dt) (tc : XT) (ρ : Nv) (k : Dt) : T Dt := bd (asB k) (chK4 q' y tc ρ)
def chK2 (q q' : Dt → Dt → Option Dt) (x : Dt) (tc : XT) (ρ : Nv) (y : Dt) : T Dt := bd (ofO (q x y)) (chK3 q' y tc ρ)
def chK (q q' : Dt → Dt → Option Dt) (tb tc : XT) (ρ : Nv) (x : Dt) : T Dt := bd (tb ρ) (chK2 q q' x tc ρ)
def xChain (q q' : Dt → Dt → Option Dt) (ta tb tc : XT) (ρ : Nv) : T Dt := bd (ta ρ) (chK q q' tb tc ρ)
theorem xChain_ok {q q' : Dt → Dt → Option Dt} : ∀ ρ n Q E, S (xChain q q' ta tb tc) ρ n Q E → vChain (RO q) (RO q') (S ta) (S tb) (S tc) ρ n Q E := fun ρ n Q E h =>
  sat2 h fun d1 n1 h1 => sat2 h1 fun d2 n2 h2 => by
    obtain ⟨d, e, q⟩ := satO (sat2 h2 fun _ _ z => z)
    unfold RO
    simp only [e]
    have z := satB (sat2 q fun _ _ z => z)
    cases d with
    | bool k =>
      show (if k = true then _ else _)
      have z : sat (if k = true then _ else _) _ _ _ := z
      split
      · next hk =>
        rw [if_pos hk] at z
        exact sat2 z fun d3 n3 h3 => by
          obtain ⟨d', e', q'⟩ := satO h3
          simp only [e']
          exact q'
      · next hk => rw [if_neg hk] at z; exact z
    | _ => exact z.elim
theorem xe_chain {op op' : CmpOp} {r r' : Dt → Dt → Option Dt} (ho : VOp X (compareOp op) (RO r)) (ho' : VOp X (compareOp op') (RO r')) (ha : VE X U a (S ta)) (hb : VE X U b (S tb)) (hc : VE X U c (S tc)) (hm : lastMarks [op, op'] [b, c] = false := by with_unfolding_all rfl) :
    VE X U (.Compare a [op, op'] [b, c] pos) (S (xChain r r' ta tb tc)) := wkE (ve_chain ho ho' ha hb hc hm) xChain_ok
theorem xt_chain {op op' : CmpOp} {r r' : Dt → Dt → Option Dt} (ho : VOp X (compareOp op) (RO r)) (ho' : VOp X (compareOp op') (RO r')) (ha : VE X U a (S ta)) (hb : VE X U b (S tb)) (hc : VE X U c (S tc)) (hm : lastMarks [op, op'] [b, c] = false := by with_unfolding_all rfl) :
    VTt X U (.Compare a [op, op'] [b, c] pos) (S (xTest (xChain r r' ta tb tc))) := wkT (vt_chain ho ho' ha hb hc hm) (xTest_ok xChain_ok)
def pNeg (d : Dt) : Option Dt := match d with
  | .int i => some (.int (-i))
  | _ => none
def unK (q : Dt → Option Dt) (x : Dt) : T Dt := ofO (q x)
def xUn (q : Dt → Option Dt) (ta : XT) (ρ : Nv) : T Dt := bd (ta ρ) (unK q)
theorem xe_neg (ha : VE X U a (S ta)) : VE X U (.UnaryOp .USub a pos) (S (xUn pNeg ta)) := wkE (ve_neg ha) fun ρ n Q E h => sat2 h fun d1 n1 h1 => by
  obtain ⟨d, e, q⟩ := satO h1
  unfold pNeg at e
  split at e
  · cases e; exact q
  · cases e
/-! ### and, or, not, if -/
def andK (u : XB) (ρ : Nv) (c : Bool) : T Bool := if c = true then u ρ else .ret false
def xAnd (t u : XB) (ρ : Nv) : T Bool := bd (t ρ) (andK u ρ)
def orK (u : XB) (ρ : Nv) (c : Bool) : T Bool := if c = true then .ret true else u ρ
def xOr (t u : XB) (ρ : Nv) : T Bool := bd (t ρ) (orK u ρ)
def notK (c : Bool) : T Bool := .ret (!c)
def xNot (t : XB) (ρ : Nv) : T Bool := bd (t ρ) notK
theorem sat_ite {α : Type} {c : Prop} {_ : Decidable c} {t u : T α} {n : Sn} {Q : α → Sn → Prop} {E : XW} : sat (if c then t else u) n Q E ↔ if c then sat t n Q E else sat u n Q E := by split <;> exact Iff.rfl
theorem xw_and1 (ha : VTt X U a (S xa)) : VW X U (.BoolOp .And [a] pos) (S xa) := vw_and1 ha
theorem xw_or1 (ha : VTt X U a (S xa)) : VW X U (.BoolOp .Or [a] pos) (S xa) := vw_or1 ha
theorem xw_and (ha : VTt X U a (S xa)) (hb : VW X U (.BoolOp .And (b :: rest) pos) (S xb)) : VW X U (.BoolOp .And (a :: b :: rest) pos) (S (xAnd xa xb)) := wkW (vw_and ha hb) fun ρ n Q E h => sat2 h fun c n1 h1 => sat_ite.mp h1
theorem xw_or (ha : VTt X U a (S xa)) (hb : VW X U (.BoolOp .Or (b :: rest) pos) (S xb)) : VW X U (.BoolOp .Or (a :: b :: rest) pos) (S (xOr xa xb)) := wkW (vw_or ha hb) fun ρ n Q E h => sat2 h fun c n1 h1 => sat_ite.mp h1
theorem xt_w (h : VW X U a (S xa)) : VTt X U a (S xa) := vt_w h
theorem xt_not (ha : VTt X U a (S xa)) : VTt X U (.UnaryOp .Not a pos) (S (xNot xa)) := wkT (vt_not ha) fun ρ n Q E h => sat2 h fun c n1 h1 => h1
def andVK2 (tb : XT) (ρ : Nv) (c : Bool) : T Dt := if c = true then tb ρ else .ret (.bool false)
def andVK (tb : XT) (ρ : Nv) (d : Dt) : T Dt := bd (asB d) (andVK2 tb ρ)
def xAndV (ta tb : XT) (ρ : Nv) : T Dt := bd (ta ρ) (andVK tb ρ)
def notVK2 (c : Bool) : T Dt := .ret (.bool (!c))
def notVK (d : Dt) : T Dt := bd (asB d) notVK2
def xNotV (ta : XT) (ρ : Nv) : T Dt := bd (ta ρ) notVK
theorem isB_mono {Q Q' : Bool → Prop} {d : Dt} (w : ∀ b, Q b → Q' b) (h : isB Q d) : isB Q' d := by
  cases d <;> first | exact w _ h | exact h.elim
theorem xe_one {op} (h : VE X U a (S ta)) : VE X U (.BoolOp op [a] pos) (S ta) := ve_one h
theorem xe_and (ha : VE X U a (S ta)) (hb : VE X U (.BoolOp .And (b :: rest) pos) (S tb)) : VE X U (.BoolOp .And (a :: b :: rest) pos) (S (xAndV ta tb)) := wkE (ve_and ha hb) fun ρ n Q E h => sat2 h fun d n1 h1 => isB_mono (fun b z => sat_ite.mp z) (satB (sat2 h1 fun _ _ z => z))
theorem xe_not (ha : VE X U a (S ta)) : VE X U (.UnaryOp .Not a pos) (S (xNotV ta)) := wkE (ve_not ha) fun ρ n Q E h => sat2 h fun d n1 h1 => isB_mono (fun b z => z) (satB (sat2 h1 fun _ _ z => z))
def ifVK (ta tb : XT) (ρ : Nv) (c : Bool) : T Dt := if c = true then ta ρ else tb ρ
def xIf (t : XB) (ta tb : XT) (ρ : Nv) : T Dt := bd (t ρ) (ifVK ta tb ρ)
theorem xe_if (hc : VTt X U c (S xa)) (ha : VE X U a (S ta)) (hb : VE X U b (S tb)) : VE X U (.IfExp c a b pos) (S (xIf xa ta tb)) := wkE (ve_if hc ha hb) fun ρ n Q E h => sat2 h fun c n1 h1 => sat_ite.mp h1
def ifTK (ta tb : XB) (ρ : Nv) (c : Bool) : T Bool := if c = true then ta ρ else tb ρ
def xIfT (t ta tb : XB) (ρ : Nv) : T Bool := bd (t ρ) (ifTK ta tb ρ)
theorem xt_if (hc : VTt X U c (S xc)) (ha : VTt X U a (S xa)) (hb : VTt X U b (S xb)) : VTt X U (.IfExp c a b pos) (S (xIfT xc xa xb)) := wkT (vt_if hc ha hb) fun ρ n Q E h => sat2 h fun c n1 h1 => sat_ite.mp h1
/-! ### argument lists, displays -/
def xNil (_ : Nv) : T (List Dt) := .ret []
def consK2 (d : Dt) (ds : List Dt) : T (List Dt) := .ret (d :: ds)
def consK (tr : XA) (ρ : Nv) (d : Dt) : T (List Dt) := bd (tr ρ) (consK2 d)
def xCons (ta : XT) (tr : XA) (ρ : Nv) : T (List Dt) := bd (ta ρ) (consK tr ρ)
theorem xa_nil : VAa X U [] (S xNil) := wkA va_nil fun _ _ _ _ q => q
theorem xa_cons (ha : VE X U e (S ta)) (hr : VAa X U es (S al)) (hs : starEach (e :: es) X.env = (false, eval e X.env) :: starEach es X.env := by rfl) : VAa X U (e :: es) (S (xCons ta al)) := wkA (va_cons ha hr hs) fun ρ n Q E h => sat2 h fun d n1 h1 => sat2 h1 fun ds n2 h2 => h2
def tupK (ds : List Dt) : T Dt := if ds.length ≤ sizeLine then .ret (.tuple ds) else .fail
def xTup (t : XA) (ρ : Nv) : T Dt := bd (t ρ) tupK
theorem sat_guard {α : Type} {c : Prop} {_ : Decidable c} {a : α} {n : Sn} {Q : α → Sn → Prop} {E : XW} (h : sat (if c then .ret a else .fail) n Q E) : c ∧ Q a n := by
  split at h
  · next hc => exact ⟨hc, h⟩
  · exact h.elim
theorem xe_tup {x1} (h : VAa X U es (S al)) : VE X U (.Tuple es x1 pos) (S (xTup al)) := wkE (ve_tup h) fun ρ n Q E h => sat2 h fun ds n1 h1 => sat_guard h1
def lstK (ds : List Dt) : T (List Dt) := if ds.length ≤ sizeLine then .ret ds else .fail
def xLst (t : XA) (ρ : Nv) : T (List Dt) := bd (t ρ) lstK
theorem xo_lst (h : VAa X U es (S al)) : VO X U (.List es pos) (S (xLst al)) := wkO (vo_lst h) fun ρ n Q E h => sat2 h fun ds n1 h1 => sat_guard h1
def fzK (ds : List Dt) : T Dt := .ret (.list ds)
def xFz (t : XA) (ρ : Nv) : T Dt := bd (t ρ) fzK
theorem xe_fz (h : VO X U e (S al)) : VE X U e (S (xFz al)) := wkE (ve_fz h) fun ρ n Q E h => sat2 h fun ds n1 h1 => h1
/-! ### places, slices -/
theorem xe_ix (ha : VE X U a (S ta)) (hb : VE X U b (S tb)) (hs : PlainIx b := by exact fun _ _ => rfl) : VE X U (.Subscript a b pos) (S (xOp pIx ta tb)) := wkE (ve_ix ha hb hs) fun ρ n Q E h => sat2 h fun d1 n1 h1 => sat2 h1 fun d2 n2 h2 => by
  obtain ⟨d, e, q⟩ := satO h2
  exact ixO_imp e q
def asI : Dt → T (Option Int)
  | .int i => .ret (some i)
  | _ => .fail
open Classical in
noncomputable def pSl (d : Dt) (lo hi : Option Int) : Option Dt := match d with
  | .tuple ds => some (.tuple (cutD ds lo hi))
  | .list ds => some (.list (cutD ds lo hi))
  | .str z => if z.length ≤ sizeLine then some (.str (cutS z lo hi)) else none
  | _ => none
/-! ### built-in functions -/
def RC (q : List Dt → Option Dt) : RCD := fun ds Q => match q ds with
  | some d => Q d
  | none => False
theorem callO {f : Value} {r : RCD} {q : List Dt → Option Dt} (h : VCal X f r) (w : ∀ ds d, q ds = some d → ∀ Q : Dt → Prop, Q d → r ds Q) : VCal X f (RC q) := call_imp h fun xs H Q ⟨G, ds, Q0, sg, r, z, hq⟩ => ⟨G, ds, Q0, sg, r, by
  unfold RC at z
  split at z
  · next d e => exact w ds d e Q0 z
  · exact z.elim, hq⟩
def cbK (q : List Dt → Option Dt) (ds : List Dt) : T Dt := ofO (q ds)
def xCB (q : List Dt → Option Dt) (al : XA) (ρ : Nv) : T Dt := bd (al ρ) (cbK q)
theorem xCB_ok {q : List Dt → Option Dt} : ∀ ρ n Q E, S (xCB q al) ρ n Q E → vCB (RC q) (S al) ρ n Q E := fun ρ n Q E h => sat2 h fun ds n1 h1 => by
  obtain ⟨d, e, q⟩ := satO h1
  unfold RC
  simp only [e]
  exact q
theorem xe_callB {id : String} {q : List Dt → Option Dt} (hc : VCal X (.builtin id) (RC q)) (hg : Gl X x) (hm : X.mg x = none) (hv : bootBuiltins x = some (.builtin id)) (ha : VAa X U (e :: es) (S al)) (hn : x ≠ "__name__" := by decide) (hdb : (x == ("__debug__" : Str)) = false := by decide)
    (he : starEach (e :: es) X.env = (false, eval e X.env) :: starEach es X.env := by rfl) (hpl : (backTo pos (starEach es X.env)).any (·.1) = false := by rfl) : VE X U (.Call (.Name x p) (e :: es) [] pos) (S (xCB q al)) := wkE (ve_callB hc hg hm hv ha hn hdb he hpl) xCB_ok
theorem xe_callTy {id : String} {q : List Dt → Option Dt} (hc : VCal X (.type id) (RC q)) (hg : Gl X x) (hm : X.mg x = none) (hv : bootBuiltins x = some (.type id)) (ha : VAa X U (e :: es) (S al)) (hn : x ≠ "__name__" := by decide) (hdb : (x == ("__debug__" : Str)) = false := by decide)
    (he : starEach (e :: es) X.env = (false, eval e X.env) :: starEach es X.env := by rfl) (hpl : (backTo pos (starEach es X.env)).any (·.1) = false := by rfl) : VE X U (.Call (.Name x p) (e :: es) [] pos) (S (xCB q al)) := wkE (ve_callTy hc hg hm hv ha hn hdb he hpl) xCB_ok
open Classical in
noncomputable def pLen (ds : List Dt) : Option Dt := match ds with
  | [.tuple xs] => some (.int (xs.length : Int))
  | [.list xs] => some (.int (xs.length : Int))
  | [.str z] => if z.length ≤ sizeLine then some (.int (z.length : Int)) else none
  | _ => none
theorem pc_len : VCal X (.builtin "len") (RC pLen) := callO c_len fun ds d h Q q => by
  unfold pLen at h
  split at h
  · cases h; exact q
  · cases h; exact q
  · obtain ⟨c, rfl⟩ := ite_at h; exact ⟨c, q⟩
  · cases h
def pMin2 (ds : List Dt) : Option Dt := match ds with
  | [.int i, .int j] => some (.int (if j < i then j else i))
  | _ => none
def pMax2 (ds : List Dt) : Option Dt := match ds with
  | [.int i, .int j] => some (.int (if j > i then j else i))
  | _ => none
theorem pc_min2 (hc : X.calm = true) : VCal X (.builtin "min") (RC pMin2) := callO (c_min2 hc) fun ds d h Q q => by
  unfold pMin2 at h
  split at h
  · cases h; exact q
  · cases h
theorem pc_max2 (hc : X.calm = true) : VCal X (.builtin "max") (RC pMax2) := callO (c_max2 hc) fun ds d h Q q => by
  unfold pMax2 at h
  split at h
  · cases h; exact q
  · cases h
def pAbs (ds : List Dt) : Option Dt := match ds with
  | [.int i] => some (.int (if i < 0 then -i else i))
  | _ => none
def pInt (ds : List Dt) : Option Dt := match ds with
  | [.int i] => some (.int i)
  | _ => none
def pTuple (ds : List Dt) : Option Dt := match ds with
  | [.tuple xs] => some (.tuple xs)
  | [.list xs] => some (.tuple xs)
  | _ => none
theorem pc_tuple : VCal X (.type "tuple") (RC pTuple) := callO c_tuple fun ds d h Q q => by
  unfold pTuple at h
  split at h
  · cases h; exact q
  · cases h; exact q
  · cases h
def pList (ds : List Dt) : Option (List Dt) := match ds with
  | [.tuple xs] => some xs
  | [.list xs] => some xs
  | _ => none
open Classical in
noncomputable def pRepr (ds : List Dt) : Option Dt := match ds with
  | [d] => if d.hasDict = false ∧ d.showable = true ∧ d.shown.length ≤ sizeLine ∧ d.depth ≤ 60 then some (.str d.shown) else none
  | _ => none
theorem pc_repr (hG : X.A.guards = some []) (hu : X.A.units + 64 < cLine) : VCal X (.builtin "repr") (RC pRepr) := callO (c_repr hG hu) fun ds d h Q q => by
  unfold pRepr at h
  split at h
  · obtain ⟨c, rfl⟩ := ite_at h; exact ⟨c.1, c.2.1, c.2.2.1, c.2.2.2, q⟩
  · cases h
def isiK (Tn : String) (d : Dt) : T Dt := .ret (.bool (isiD Tn d))
def xIsi (Tn : String) (te : XT) (ρ : Nv) : T Dt := bd (te ρ) (isiK Tn)
theorem xe_isi {T : String} {y : Str} {p2 p3 : Pos} (hg : Gl X "isinstance") (hm : X.mg "isinstance" = none) (hg2 : Gl X y) (hm2 : X.mg y = none) (hv2 : bootBuiltins y = some (.type T)) (hk : KitOk X.K T) (ha : VE X U e (S te))
    (hv : bootBuiltins "isinstance" = some (.builtin "isinstance") := by decide +kernel) (hn : y ≠ "__name__" := by decide) (hdb : (y == ("__debug__" : Str)) = false := by decide)
    (he : starEach [e, .Name y p2] X.env = (false, eval e X.env) :: starEach [.Name y p2] X.env := by rfl) (he2 : starEach [.Name y p2] X.env = (false, eval (.Name y p2) X.env) :: starEach [] X.env := by rfl) (hpl : (backTo pos (starEach [.Name y p2] X.env)).any (·.1) = false := by rfl) (hT : T ∈ ["bool", "int", "str", "list", "tuple"] := by decide) :
    VE X U (.Call (.Name "isinstance" p3) [e, .Name y p2] [] pos) (S (xIsi T te)) := wkE (ve_isi hg hm hg2 hm2 hv2 hk ha hv hn hdb he he2 hpl hT) fun ρ n Q E h => sat2 h fun d n1 h1 => h1
def xLenS (k : Nat) (ρ : Nv) : T Dt := match ρ[k]? with
  | some (some (.scr ns)) => .ret (.int (ns.length : Int))
  | _ => .fail
theorem xe_lenS {k : Nat} {p : Pos} {x : Str} {p' : Pos} (hg : Gl X "len") (hm : X.mg "len" = none) (hv : bootBuiltins "len" = some (.builtin "len")) (hN : X.N[k]? = some x := by rfl) (hvs : Vis X.env.scope x := by first | exact Or.inl rfl | exact Or.inr (Or.inl rfl) | exact Or.inr (Or.inr rfl)) (hd : (x == ("__debug__" : Str)) = false := by decide)
    (hcd : (x == ("__classdict__" : Str)) = false := by decide) (he : starEach [.Name x p'] X.env = (false, eval (.Name x p') X.env) :: starEach [] X.env := by rfl) (hpl : (backTo pos (starEach [] X.env)).any (·.1) = false := by rfl) : VE X U (.Call (.Name "len" p) [.Name x p'] [] pos) (S (xLenS k)) := wkE (ve_lenS hg hm hv hN hvs hd hcd he hpl) fun ρ n Q E h => by
  unfold S xLenS at h
  unfold vLenS
  split at h
  · next d e => (try simp only [e]); exact h
  · exact h.elim
end
end VL


set_option maxRecDepth 100000
set_option maxHeartbeats 2000000
namespace VL
open PySem PySem.Spec PyProof.Rows L2
abbrev noX : XW := fun _ _ => False
/-- an expression within a statement: what it raises leaves with the names as they are -/
def exS {α : Type} (t : T α) (ρ : Nv) (f : α → T Fl) : T Fl := bx t f fun x => .ret (.xc x ρ)
theorem exS_ret {α : Type} {a : α} {ρ : Nv} {f : α → T Fl} : exS (.ret a) ρ f = f a := rfl
theorem exS_exc {α : Type} {x : Exc} {ρ : Nv} {f : α → T Fl} : exS (.exc x) ρ f = .ret (.xc x ρ) := rfl
theorem exS_fail {α : Type} {ρ : Nv} {f : α → T Fl} : exS .fail ρ f = .fail := rfl
theorem exS_draw {α : Type} {m : Int} {k : Int → T α} {ρ : Nv} {f : α → T Fl} : exS (.draw m k) ρ f = .draw m fun r => exS (k r) ρ f := rfl
theorem satX {α : Type} {t : T α} {ρ : Nv} {f : α → T Fl} {V : VN} {n : Sn} {Q' : α → Sn → Prop} (h : sat (exS t ρ f) n (flV V) noX) (w : ∀ a n', sat (f a) n' (flV V) noX → Q' a n') : sat t n Q' (fun x n' => V.xc x ρ n') := sat_mono w (fun x n' q => q) (sat_bx.mp h)
section
variable {X : Cx} {U : WX} {e : Expr} {st : Stmt} {rest : List Stmt} {pos : Pos} {te : XT} {al : XA} {xb : XB} {t u : XS}
/-! ### statements -/
def sqF (u : XS) : Fl → T Fl
  | .nx ρ => u ρ
  | .rt w => .ret (.rt w)
  | .bk ρ => .ret (.bk ρ)
  | .ct ρ => .ret (.ct ρ)
  | .xc x ρ => .ret (.xc x ρ)
def xSeq (t u : XS) (ρ : Nv) : T Fl := bd (t ρ) (sqF u)
def xNext (ρ : Nv) : T Fl := .ret (.nx ρ)
theorem xs_nil : VSs X U [] (SS xNext) := wkSs vs_nil fun _ _ _ q => q
theorem xs_cons (h1 : VS X U st (SS t)) (h2 : VSs X U rest (SS u)) : VSs X U (st :: rest) (SS (xSeq t u)) := wkSs (vs_cons h1 h2) fun V ρ n h => sat2 h fun f n' h' => by
  cases f <;> exact h'
theorem xs_one (h1 : VS X U st (SS t)) : VSs X U [st] (SS t) := vs_one h1
def drpK (ρ : Nv) (_ : Dt) : T Fl := .ret (.nx ρ)
def xDrop (te : XT) (ρ : Nv) : T Fl := exS (te ρ) ρ (drpK ρ)
theorem xs_expr (he : VE X U e (S te)) (hs : swapsWith e none pos.line X.env = pure false := by rfl) : VS X U (.Expr e pos) (SS (xDrop te)) := wkS (vs_expr he hs) fun V ρ n h => satX h fun _ _ q => q
def retK (d : Dt) : T Fl := .ret (.rt (.dat d))
def xRet (te : XT) (ρ : Nv) : T Fl := exS (te ρ) ρ retK
theorem xs_ret (he : VE X U e (S te)) : VS X U (.Return (some e) pos) (SS (xRet te)) := wkS (vs_ret he) fun V ρ n h => satX h fun _ _ q => q
def ifSK (t u : XS) (ρ : Nv) (b : Bool) : T Fl := if b = true then t ρ else u ρ
def xIfS (c : XB) (t u : XS) (ρ : Nv) : T Fl := exS (c ρ) ρ (ifSK t u ρ)
theorem xs_if {c : Expr} {a b : List Stmt} (hc : VTt X U c (S xb)) (ha : VSs X U a (SS t)) (hb : VSs X U b (SS u)) : VS X U (.If c a b pos) (SS (xIfS xb t u)) := wkS (vs_if hc ha hb) fun V ρ n h => satX h fun b n' q => sat_ite.mp q
def setK (i : Nat) (ρ : Nv) (d : Dt) : T Fl := .ret (.nx (ρ.set i (some (.dat d))))
def xSet (i : Nat) (te : XT) (ρ : Nv) : T Fl := exS (te ρ) ρ (setK i ρ)
theorem xs_set {i : Nat} {x : Str} {pos' : Pos} (hN : X.N.Nodup) (hi : X.N[i]? = some x) (hx : Loc X.env.scope x) (he : VE X U e (S te)) (hs : swapsWith e (some (.Name x pos')) pos.line X.env = pure false := by rfl) (hf : X.fn x = true ∨ X.env.scope.names.lookup x = some .local := by first | exact .inl rfl | exact .inr rfl | assumption) :
    VS X U (.Assign [.Name x pos'] e pos) (SS (xSet i te)) := wkS (vs_set hN hi hx he hs hf) fun V ρ n h => satX h fun _ _ q => q
def setOK (i : Nat) (ρ : Nv) (d : List Dt) : T Fl := .ret (.nx (ρ.set i (some (.own d))))
def xSetO (i : Nat) (te : XA) (ρ : Nv) : T Fl := exS (te ρ) ρ (setOK i ρ)
theorem xs_setO {i : Nat} {x : Str} {pos' : Pos} (hN : X.N.Nodup) (hi : X.N[i]? = some x) (hx : Loc X.env.scope x) (he : VO X U e (S al)) (hs : swapsWith e (some (.Name x pos')) pos.line X.env = pure false := by rfl) (hf : X.fn x = true ∨ X.env.scope.names.lookup x = some .local := by first | exact .inl rfl | exact .inr rfl | assumption) :
    VS X U (.Assign [.Name x pos'] e pos) (SS (xSetO i al)) := wkS (vs_setO hN hi hx he hs hf) fun V ρ n h => satX h fun _ _ q => q
def xFrz (i : Nat) (t : XS) (ρ : Nv) : T Fl := match ρ[i]? with
  | some (some (.own ds)) => t (ρ.set i (some (.dat (.list ds))))
  | _ => .fail
theorem xs_frz (i : Nat) (h : VS X U st (SS t)) : VS X U st (SS (xFrz i t)) := wkS (vs_frz i h) fun V ρ n h => by
  unfold SS xFrz at h
  unfold vFrz
  split at h
  · next d e => (try simp only [e]); exact h
  · exact h.elim
/-! targets -/
abbrev XG := Dt → Nv → Option Nv
abbrev XGs := List Dt → Nv → Option Nv
def RG (g : XG) : VGt := fun d ρ Q => match g d ρ with
  | some ρ' => Q ρ'
  | none => False
def RGs (g : XGs) : VGs := fun d ρ Q => match g d ρ with
  | some ρ' => Q ρ'
  | none => False
theorem RG.at {g : XG} {d : Dt} {ρ : Nv} {Q : Nv → Prop} (h : RG g d ρ Q) : ∃ ρ', g d ρ = some ρ' ∧ Q ρ' := by
  unfold RG at h
  split at h
  · next d e => exact ⟨d, e, h⟩
  · exact h.elim
theorem RGs.at {g : XGs} {d : List Dt} {ρ : Nv} {Q : Nv → Prop} (h : RGs g d ρ Q) : ∃ ρ', g d ρ = some ρ' ∧ Q ρ' := by
  unfold RGs at h
  split at h
  · next d e => exact ⟨d, e, h⟩
  · exact h.elim
theorem RG.of {g : XG} {d : Dt} {ρ ρ' : Nv} {Q : Nv → Prop} (e : g d ρ = some ρ') (q : Q ρ') : RG g d ρ Q := by
  unfold RG
  simp only [e]
  exact q
theorem RGs.of {g : XGs} {d : List Dt} {ρ ρ' : Nv} {Q : Nv → Prop} (e : g d ρ = some ρ') (q : Q ρ') : RGs g d ρ Q := by
  unfold RGs
  simp only [e]
  exact q
def ygN (i : Nat) : XG := fun d ρ => some (ρ.set i (some (.dat d)))
def ygsN : XGs := fun ds ρ => match ds with
  | [] => some ρ
  | _ => none
def ygsC (g : XG) (r : XGs) : XGs := fun ds ρ => match ds with
  | d :: ds => (g d ρ).bind (r ds)
  | [] => none
def ygT (k : Nat) (r : XGs) : XG := fun d ρ => match d with
  | .tuple ds => if ds.length = k then r ds ρ else none
  | _ => none
theorem wkGt {tg : Expr} {g g' : VGt} (h : PG X tg (upG X.K g)) (w : ∀ d ρ Q, g' d ρ Q → g d ρ Q) : PG X tg (upG X.K g') := pg_imp h fun v σ H Q ⟨C, ρ, n, G, O, d, Q0, I, r, q, hq⟩ => ⟨C, ρ, n, G, O, d, Q0, I, r, w _ _ _ q, hq⟩
theorem wkGs {tg : List Expr} {g g' : VGs} (h : PGs X tg (upGs X.K g)) (w : ∀ d ρ Q, g' d ρ Q → g d ρ Q) : PGs X tg (upGs X.K g') := pgs_imp h fun v σ H Q ⟨C, ρ, n, G, O, d, Q0, I, r, q, hq⟩ => ⟨C, ρ, n, G, O, d, Q0, I, r, w _ _ _ q, hq⟩
theorem yg_name {i : Nat} {x : Str} (hN : X.N.Nodup) (hi : X.N[i]? = some x) (hx : Loc X.env.scope x) (hf : X.fn x = true ∨ X.env.scope.names.lookup x = some .local := by first | exact .inl rfl | exact .inr rfl | assumption) : PG X (.Name x pos) (upG X.K (RG (ygN i))) :=
  wkGt (vg_name hN hi hx hf) fun d ρ Q q => q
theorem ygs_nil : PGs X [] (upGs X.K (RGs ygsN)) := wkGs vgs_nil fun d ρ Q q => by
  cases d <;> first | exact q | exact q.elim
theorem ygs_cons {e : Expr} {es : List Expr} {g : XG} {r : XGs} (h1 : PG X e (upG X.K (RG g))) (h2 : PGs X es (upGs X.K (RGs r))) (hs : (assignEach (e :: es) X.env).map (·.2) = assign e X.env :: (assignEach es X.env).map (·.2) := by rfl) : PGs X (e :: es) (upGs X.K (RGs (ygsC g r))) :=
  wkGs (vgs_cons h1 h2 hs) fun ds ρ Q q => by
    obtain ⟨ρ', e, q'⟩ := q.at
    cases ds with
    | nil => cases e
    | cons d ds =>
      simp only [ygsC, Option.bind_eq_some_iff] at e
      obtain ⟨ρ1, e1, e2⟩ := e
      exact RG.of e1 (RGs.of e2 q')
theorem yg_tup {es : List Expr} {k : Nat} {r : XGs} {n : Nat} (hc : X.calm = true) (h : PGs X es (upGs X.K (RGs r))) (hn : (assignEach es X.env).length = n := by rfl) (hst : (assignEach es X.env).findIdx? (·.1) = none := by rfl) : PG X (.Tuple es k pos) (upG X.K (RG (ygT n r))) :=
  wkGt (vg_tup hc h hn hst) fun d ρ Q q => by
    obtain ⟨ρ', e, q'⟩ := q.at
    unfold ygT at e
    split at e
    · split at e
      · next hl => exact ⟨hl, RGs.of e q'⟩
      · cases e
    · cases e
def nxK (ρ : Nv) : T Fl := .ret (.nx ρ)
def asgK (g : XG) (ρ : Nv) (d : Dt) : T Fl := bd (ofO (g d ρ)) nxK
def xAsg (te : XT) (g : XG) (ρ : Nv) : T Fl := exS (te ρ) ρ (asgK g ρ)
theorem satG {g : XG} {d : Dt} {ρ : Nv} {f : Nv → T Fl} {n : Sn} {Q : Fl → Sn → Prop} {E : XW} {Q' : Nv → Prop} (h : sat (bd (ofO (g d ρ)) f) n Q E) (w : ∀ ρ', sat (f ρ') n Q E → Q' ρ') : RG g d ρ Q' := by
  obtain ⟨ρ', e, q⟩ := satO (sat2 h fun _ _ z => z)
  exact RG.of e (w _ q)
theorem xs_asg {tg : Expr} {g : XG} (he : VE X U e (S te)) (hg : PG X tg (upG X.K (RG g))) (hs : swapsWithSole [tg] e pos.line X.env = pure false := by rfl) (hw : swappedStores [tg] e X.env = pure none := by rfl) (h1 : (assignEach [tg] X.env).map (·.2) = [assign tg X.env] := by rfl) :
    VS X U (.Assign [tg] e pos) (SS (xAsg te g)) := wkS (vs_asg he hg hs hw h1) fun V ρ n h => satX h fun d n' q => satG q fun _ z => z
def parK (i j : Nat) (ρ : Nv) (ds : List Dt) : T Fl := match ds with
  | [d1, d2] => .ret (.nx ((ρ.set i (some (.dat d1))).set j (some (.dat d2))))
  | _ => .fail
def xPar (i j : Nat) (al : XA) (ρ : Nv) : T Fl := exS (al ρ) ρ (parK i j ρ)
theorem xs_par {i j : Nat} {x y : Str} {a b : Expr} {px py pt : Pos} {kt k2 pt2} (hc : X.calm = true) (hN : X.N.Nodup) (hi : X.N[i]? = some x) (hj : X.N[j]? = some y) (hij : i ≠ j)
    (hx : X.env.scope.names.lookup x = some .local) (hy : X.env.scope.names.lookup y = some .local) (ha : VAa X U [a, b] (S al))
    (hw : swappedStores [.Tuple [.Name x px, .Name y py] kt pt] (.Tuple [a, b] k2 pt2) X.env = pure (some [x, y]) := by rfl) :
    VS X U (.Assign [.Tuple [.Name x px, .Name y py] kt pt] (.Tuple [a, b] k2 pt2) pos) (SS (xPar i j al)) := wkS (vs_par hc hN hi hj hij hx hy ha hw) fun V ρ n h => satX h fun ds n' q => by
  match ds, q with
  | [d1, d2], q => exact q
  | [], q => exact q.elim
  | [_], q => exact q.elim
  | _ :: _ :: _ :: _, q => exact q.elim
def appK (i : Nat) (ds : List Dt) (ρ : Nv) (d : Dt) : T Fl := if ds.length < sizeLine then .ret (.nx (ρ.set i (some (.own (ds ++ [d]))))) else .fail
def xAppend (i : Nat) (te : XT) (ρ : Nv) : T Fl := match ρ[i]? with
  | some (some (.own ds)) => exS (te ρ) ρ (appK i ds ρ)
  | _ => .fail
theorem xs_append {i : Nat} (h : PE X e (tBM X.K "list" rAppend (tVar i) (tCons (up X.K U (S te)) tNil))) (hs : swapsWith e none pos.line X.env = pure false := by rfl) :
    VS X U (.Expr e pos) (SS (xAppend i te)) := wkS (vs_append h hs) fun V ρ n h => by
  unfold SS xAppend at h
  unfold vAppend
  split at h
  · next d0 e0 =>
    try simp only [e0]
    exact satX h fun d n' q => sat_guard (Q := flV V) q
  · exact h.elim
end
/-! ### calls -/
def fnE : Fl → T W
  | .nx _ => .ret (.dat .none)
  | .rt w => .ret w
  | .bk _ => .fail
  | .ct _ => .fail
  | .xc x _ => .exc x
def bodyX (m k : Nat) (t : XS) : XFn := fun ws => if ws.length = k then bx (t (startE m ws)) fnE fun _ => .fail else .fail
theorem bodyX_ok {m k : Nat} {t : XS} : ∀ ws n Q E, SF (bodyX m k t) ws n Q E → bodyV m k (SS t) ws n Q E := fun ws n Q E h => by
  unfold SF bodyX at h
  split at h
  · next hl =>
    refine ⟨hl, sat_mono (fun f n' q => ?_) (fun x n' q => q) (sat_bx.mp h)⟩
    cases f <;> first | exact q | exact q.elim
  · exact h.elim
theorem Ok.ofX {P : Program} {w : World} {K : PySem.W.Frag} {mg : Str → Option Value} {base : Heap} {k m j : Nat} {x : Str} {ps : List Str} {t : XS} (h : Ok P w K mg base k x ps (bodyV m j (SS t))) : Ok P w K mg base k x ps (SF (bodyX m j t)) := h.weak bodyX_ok
theorem OkS.ofX {P : Program} {w : World} {K : PySem.W.Frag} {mg : Str → Option Value} {base : Heap} {k m j : Nat} {x : Str} {ps : List Str} {t : XS} (h : OkS P w K mg base k x ps (bodyV m j (SS t))) : OkS P w K mg base k x ps (SF (bodyX m j t)) := by
  obtain ⟨fd, F, r⟩ := h
  exact ⟨fd, F.weak bodyX_ok, r⟩
def rOfT : W → T Dt
  | .dat d => .ret d
  | .own ds => .ret (.list ds)
  | .dct kvs => .ret (fzW (.dct kvs))
  | _ => .fail
def rOwT : W → T (List Dt)
  | .own ds => .ret ds
  | _ => .fail
theorem satR {w : W} {n : Sn} {Q : Dt → Sn → Prop} {E : XW} (h : sat (rOfT w) n Q E) : rOf Q w n := by
  cases w <;> first | exact h | exact h.elim
section
variable {X : Cx} {U : WX} {e e2 : Expr} {es : List Expr} {pos p kpos : Pos} {te : XT} {al : XAW} {x : Str} {k : Nat} {ps : List Str} {c : XFn}
def ywNil (_ : Nv) : T (List W) := .ret []
def wcK (w : W) (ws : List W) : T (List W) := .ret (w :: ws)
def wdK (r : XAW) (ρ : Nv) (d : Dt) : T (List W) := bd (r ρ) (wcK (.dat d))
def ywDat (te : XT) (r : XAW) (ρ : Nv) : T (List W) := bd (te ρ) (wdK r ρ)
def ywVar (i : Nat) (r : XAW) (ρ : Nv) : T (List W) := match ρ[i]? with
  | some (some .tok) => bd (r ρ) (wcK .tok)
  | some (some (.scr ns)) => bd (r ρ) (wcK (.scr ns))
  | _ => .fail
theorem yw_nil : VAg X U [] (S ywNil) := wkG wa_nil fun _ _ _ _ q => q
theorem yw_dat (ha : VE X U e (S te)) (hr : VAg X U es (S al)) (hs : starEach (e :: es) X.env = (false, eval e X.env) :: starEach es X.env := by rfl) : VAg X U (e :: es) (S (ywDat te al)) := wkG (wa_dat ha hr hs) fun ρ n Q E h => sat2 h fun d n1 h1 => sat2 h1 fun _ _ z => z
theorem yw_var (i : Nat) (hr : VAg X U es (S al)) (hN : X.N[i]? = some x := by rfl) (hv : Vis X.env.scope x := by first | exact Or.inl rfl | exact Or.inr (Or.inl rfl) | exact Or.inr (Or.inr rfl)) (hd : (x == ("__debug__" : Str)) = false := by decide)
    (hcd : (x == ("__classdict__" : Str)) = false := by decide) (hs : starEach (.Name x pos :: es) X.env = (false, eval (.Name x pos) X.env) :: starEach es X.env := by rfl) : VAg X U (.Name x pos :: es) (S (ywVar i al)) := wkG (wa_var i hr hN hv hd hcd hs) fun ρ n Q E h => by
  unfold S ywVar at h
  unfold wVar
  split at h
  · next e0 => (try simp only [e0]); exact sat2 h fun _ _ z => z
  · next ns e0 => (try simp only [e0]); exact sat2 h fun _ _ z => z
  · exact h.elim
def callK (c : XFn) (dw ws : List W) : T Dt := bd (c (ws ++ dw)) rOfT
def xCall (c : XFn) (dw : List W) (al : XAW) (ρ : Nv) : T Dt := bd (al ρ) (callK c dw)
theorem xCall_ok {dw : List W} : ∀ ρ n Q E, S (xCall c dw al) ρ n Q E → vCall (SF c) dw (S al) ρ n Q E := fun ρ n Q E h => sat2 h fun ws n1 h1 => sat2 h1 fun w n2 h2 => satR h2
theorem xe_ok (F : Ok X.prog X.w X.K X.mg X.base k x ps (SF c)) (hG : X.A.guards = some []) (hr : Room k X.A) (tk : Takes X U) (hg : Gl X x) (ha : VAg X U (e :: es) (S al)) (hdb : (x == ("__debug__" : Str)) = false := by decide)
    (he : starEach (e :: es) X.env = (false, eval e X.env) :: starEach es X.env := by rfl) (hpl : (backTo pos (starEach es X.env)).any (·.1) = false := by rfl) : VE X U (.Call (.Name x p) (e :: es) [] pos) (S (xCall c [] al)) := wkE (ve_ok F hG hr tk hg ha hdb he hpl) xCall_ok
end
/-! ### what is walked, loops -/
def lpF (L : XS) : Fl → T Fl
  | .nx ρ => L ρ
  | .rt w => .ret (.rt w)
  | .bk ρ => .ret (.nx ρ)
  | .ct ρ => L ρ
  | .xc x ρ => .ret (.xc x ρ)
def forT (g : XG) (tb : XS) : List Dt → XS
  | [] => fun ρ => .ret (.nx ρ)
  | d :: ds => fun ρ => bd (ofO (g d ρ)) fun ρ1 => bd (tb ρ1) (lpF (forT g tb ds))
theorem forT_ok {g : XG} {tb : XS} {V : VN} : ∀ (ds : List Dt) (ρ : Nv) (n : Sn), SS (forT g tb ds) V ρ n → vLoop (RG g) (SS tb) V ds ρ n
  | [], ρ, n, h => h
  | d :: ds, ρ, n, h => satG h fun ρ1 z => sat2 z fun f n' q => by
    cases f <;> first | exact forT_ok ds _ _ q | exact q
def forK (g : XG) (tb : XS) (ρ : Nv) (ds : List Dt) : T Fl := forT g tb ds ρ
def xFor (ti : XA) (g : XG) (tb : XS) (ρ : Nv) : T Fl := exS (ti ρ) ρ (forK g tb ρ)
def whN (xb : XB) (tb : XS) : Nat → XS
  | 0 => fun _ => .fail
  | k + 1 => fun ρ => exS (xb ρ) ρ fun b => if b = true then bd (tb ρ) (lpF (whN xb tb k)) else .ret (.nx ρ)
section
variable {X : Cx} {U : WX} {e iter tg : Expr} {es : List Expr} {pos p : Pos} {te : XT} {al ti : XA}
theorem xs_for {body : List Stmt} {g : XG} {tb : XS} (hp : PassesOwn (model X.prog X.w) X.A X.env X.xe) (hc : X.calm = true) (hi : VI X U tg iter (S ti)) (hg : PG X tg (upG X.K (RG g))) (hb : VSs X U body (SS tb)) (hs : ∀ x, foldedSetIterable iter X.env x = pure x := by intro _; rfl) : VS X U (.For tg iter body [] pos) (SS (xFor ti g tb)) :=
  wkS (vs_for hp hc hi hg hb hs) fun V ρ n h => satX h fun ds n' q => forT_ok ds ρ n' q
def itT : Dt → T (List Dt)
  | .tuple ds => .ret ds
  | _ => .fail
def itL : Dt → T (List Dt)
  | .list ds => .ret ds
  | _ => .fail
def ziL (te : XT) (ρ : Nv) : T (List Dt) := bd (te ρ) itL
theorem zi_lst (h : VE X U e (S te)) : VI X U tg e (S (ziL te)) := wkI (vi_lst h) fun ρ n Q E h => sat2 h fun d n1 h1 => by
  cases d <;> first | exact h1 | exact h1.elim
noncomputable def rgT1 (ds : List Dt) : T (List Dt) := match ds with
  | [.int j] => @ite _ (-(2 ^ 62) ≤ j ∧ j < 2 ^ 62) (Classical.propDecidable _) (.ret (rngD 0 j.toNat)) .fail
  | _ => .fail
noncomputable def ziR1 (al : XA) (ρ : Nv) : T (List Dt) := bd (al ρ) rgT1
theorem zi_range1 {a : Expr} (hg : Gl X "range") (hm : X.mg "range" = none) (ha : VAa X U [a] (S al)) (hs : starEach [a] X.env = [(false, eval a X.env)] := by rfl) : VI X U tg (.Call (.Name "range" p) [a] [] pos) (S (ziR1 al)) :=
  wkI (vi_range1 hg hm ha hs) fun ρ n Q E h => sat2 h fun ds n1 h1 => by
    unfold rgT1 at h1
    split at h1
    · have := sat_guard h1; exact ⟨this.1.1, this.1.2, this.2⟩
    · exact h1.elim
def enT : List Dt → T (List Dt)
  | [.tuple xs] => .ret (enumD xs)
  | _ => .fail
def enL : List Dt → T (List Dt)
  | [.list xs] => .ret (enumD xs)
  | _ => .fail
def ziET (al : XA) (ρ : Nv) : T (List Dt) := bd (al ρ) enT
theorem zi_enumT {elts : List Expr} {kk : Nat} {tpos : Pos} (hg : Gl X "enumerate") (hm : X.mg "enumerate" = none) (ha : VAa X U [e] (S al)) (hs : starEach [e] X.env = [(false, eval e X.env)] := by rfl) : VI X U (.Tuple elts kk tpos) (.Call (.Name "enumerate" p) [e] [] pos) (S (ziET al)) :=
  wkI (vi_enumT hg hm ha hs) fun ρ n Q E h => sat2 h fun ds n1 h1 => by
    unfold enT at h1
    split at h1
    · exact h1
    · exact h1.elim
/-! ### list displays by a for -/
def lcT (g : XG) (xt : XB) (te : XT) (ρ : Nv) : List Dt → List Dt → T (List Dt)
  | [], acc => .ret acc
  | d :: ds, acc => bd (ofO (g d ρ)) fun ρ1 => bx (xt ρ1) (fun b => if b = true then bx (te ρ1) (fun y => if acc.length < sizeLine then lcT g xt te ρ ds (acc ++ [y]) else .fail) fun _ => .fail else lcT g xt te ρ ds acc) fun _ => .fail
def noOwnB (ρ : Nv) : List Nat → Bool
  | [] => true
  | v :: vs => (match ρ[v]? with | some (some (.own _)) => false | some (some (.dct _)) => false | _ => true) && noOwnB ρ vs
theorem noOwnB_ok {ρ : Nv} : ∀ {vs : List Nat}, noOwnB ρ vs = true → noOwn ρ vs
  | [], _ => trivial
  | v :: vs, h => by
    unfold noOwnB at h
    obtain ⟨h1, h2⟩ := Bool.and_eq_true_iff.mp h
    refine ⟨?_, noOwnB_ok h2⟩
    generalize ρ[v]? = o at h1
    match o, h1 with
    | none, _ => trivial
    | some none, _ => trivial
    | some (some (.dat _)), _ => rfl
    | some (some .tok), _ => rfl
    | some (some (.scr _)), _ => rfl
    | some (some (.err _ _)), _ => rfl
    | some (some (.lam _ _ _ _ _)), _ => rfl
    | some (some (.own _)), h1 => cases h1
    | some (some (.dct _)), h1 => cases h1
def lcK (g : XG) (xt : XB) (te : XT) (ρ : Nv) (ds : List Dt) : T (List Dt) := lcT g xt te ρ ds []
def xLc (ti : XA) (g : XG) (xt : XB) (te : XT) (vs : List Nat) (ρ : Nv) : T (List Dt) := if noOwnB ρ vs = true then bd (ti ρ) (lcK g xt te (wipeE ρ vs)) else .fail
theorem lcT_ok {g : XG} {xt : XB} {te : XT} {ρ : Nv} {Q : List Dt → Sn → Prop} {E : XW} : ∀ (ds acc : List Dt) (n : Sn), sat (lcT g xt te ρ ds acc) n Q E → vLcL (RG g) (S xt) (S te) ρ Q ds acc n
  | [], acc, n, h => h
  | d :: ds, acc, n, h => by
    obtain ⟨ρ1, e, q⟩ := satO (sat2 h fun _ _ z => z)
    refine RG.of e (sat_mono (fun b n1 z => ?_) (fun _ _ z => z) (sat_bx.mp q))
    split at z
    · next hb =>
      rw [if_pos hb]
      refine sat_mono (fun y n2 z => ?_) (fun _ _ z => z) (sat_bx.mp z)
      split at z
      · next hl => exact ⟨hl, lcT_ok ds _ n2 z⟩
      · exact z.elim
    · next hb => rw [if_neg hb]; exact lcT_ok ds _ n1 z
theorem xLc_ok {g : XG} {xt : XB} {vs : List Nat} : ∀ ρ n Q E, S (xLc ti g xt te vs) ρ n Q E → vLc (S ti) (RG g) (S xt) (S te) vs ρ n Q E := fun ρ n Q E h => by
  unfold S xLc at h
  split at h
  · next hb => exact ⟨noOwnB_ok hb, sat2 h fun ds n1 h1 => lcT_ok ds [] n1 h1⟩
  · exact h.elim
def xYes (_ : Nv) : T Bool := .ret true
theorem PairG.wk {K : PySem.W.Frag} {vs : List Nat} {gh : TG} {gv gv' : VGt} (h : PairG K vs gh gv) (w : ∀ d ρ Q, gv' d ρ Q → gv d ρ Q) : PairG K vs gh gv' := fun v σ H Q C ρ n G O d Q0 I r q k => h v σ H Q C ρ n G O d Q0 I r (w _ _ _ q) k
theorem ypair_name {K : PySem.W.Frag} {vs : List Nat} (i : Nat) (hi : i ∈ vs := by decide) : PairG K vs (gName i) (RG (ygN i)) := (pair_name i hi).wk fun _ _ _ q => q
end
section
variable {X : Cx} {U : WX} {elt tg iter : Expr} {ifs : List Expr} {scope : Scope} {own : List (Str × Nat)} {pos spos : Pos} {ti : XA} {g : XG} {gh : TG} {xt : XB} {te : XT}
theorem xpts_nil : PTs X [] (upB X.K U (S xYes)) := vpts_nil
theorem xs_setLc {i : Nat} {y : Str} {py : Pos} (hc : X.calm = true) (hN : X.N.Nodup) (hy : X.N[i]? = some y) (hyl : X.env.scope.names.lookup y = some .local)
    (hsw : swapsWith (.ListComp elt [⟨tg, iter, ifs, 0⟩] scope pos) (some (.Name y py)) spos.line X.env = pure true) (hi : VI X U tg iter (S ti)) (ok : BlkOk X.N X.env.scope scope own)
    (hg : ∀ (s : Shared) (H : Hp) (C : Addr) (cl : List (Str × Addr)) (fp : List Addr), PG (X.blk s H scope (compEnvC scope cl C X.env) fp) tg gh) (pg : PairG X.K (own.map (·.2)) gh (RG g))
    (ht : ∀ (s : Shared) (H : Hp) (C : Addr) (cl : List (Str × Addr)) (fp : List Addr), PTs (X.blk s H scope (compEnvC scope cl C X.env) fp) ifs (upB X.K U0 (S xt)))
    (he : ∀ (s : Shared) (H : Hp) (C : Addr) (cl : List (Str × Addr)) (fp : List Addr), PE (X.blk s H scope (compEnvC scope cl C X.env) fp) elt (up X.K U0 (S te))) (hs : ∀ x, foldedSetIterable iter X.env x = pure x := by intro _; rfl) :
    VS X U (.Assign [.Name y py] (.ListComp elt [⟨tg, iter, ifs, 0⟩] scope pos) spos) (SS (xSet i (xFz (xLc ti g xt te (own.map (·.2)))))) := wkS (vs_setLc hc hN hy hyl hsw hi ok hg pg ht he hs) fun V ρ n h => xLc_ok _ _ _ _ (sat2 (satX h fun _ _ q => q) fun _ _ z => z)
end
end VL


set_option maxRecDepth 100000
set_option maxHeartbeats 2000000
namespace VL
open PySem PySem.Spec PyProof.Rows L2
/-! ### a try with several clauses, each with a name or without -/
abbrev Tsu := Addr → Value → Option Addr → TS
/-- the ends of a suite whose name goes behind it -/
abbrev gone (i : Nat) (D : Ends) : Ends := ⟨fun z Z => D.nx (z.set i none) Z, D.rt, fun z Z => D.bk (z.set i none) Z, fun z Z => D.ct (z.set i none) Z⟩
def asT (i : Nat) (ts : Tsu) : Tsu := fun a cls d D σ H => ts a cls d (gone i D) (σ.set i (some (.ref a))) H
inductive HdsM (X : Cx) : List ExceptHandler → List (Value × Tsu) → Prop
  | nil : HdsM X [] []
  | cons {x : Str} {c : Value} {ts : Tsu} {b₀ : Stmt} {su : List Stmt} {np p' : Pos} {hr : List ExceptHandler} {l : List (Value × Tsu)} (hc : Names X x c)
      (hsu : ∀ (a : Addr) (oe : Obj) (cls : Value) (d : Option Addr) (pn : List (Addr × Obj)), Zc cls d oe → (∃ vs, oe.data = .fields vs) → PSs (X.suite a ((a, oe) :: pn)) (b₀ :: su) (ts a cls d)) (r : HdsM X hr l) :
      HdsM X (.ExceptHandler (some (.Name x np)) none (b₀ :: su) p' :: hr) ((c, ts) :: l)
  | as {x n : Str} {i : Nat} {c : Value} {ts : Tsu} {b₀ : Stmt} {su : List Stmt} {np p' : Pos} {hr : List ExceptHandler} {l : List (Value × Tsu)} (hc : Names X x c) (hi : X.N[i]? = some n) (hl : X.env.kindOf n = some .local)
      (hsu : ∀ (a : Addr) (oe : Obj) (cls : Value) (d : Option Addr) (pn : List (Addr × Obj)), Zc cls d oe → (∃ vs, oe.data = .fields vs) → PSs (X.suite a ((a, oe) :: pn)) (b₀ :: su) (ts a cls d)) (r : HdsM X hr l) :
      HdsM X (.ExceptHandler (some (.Name x np)) (some n) (b₀ :: su) p' :: hr) ((c, asT i ts) :: l)
section
variable {X : Cx} {body : List Stmt} {e0 : ExceptHandler} {er : List ExceptHandler} {l : List (Value × Tsu)} {pos : Pos} {tb : WX → TS} {Wo : WX}
end
end VL


set_option maxRecDepth 100000
set_option maxHeartbeats 2000000
namespace VL
open PySem PySem.Spec PyProof.Rows L2
/-! ### raise and try as trees -/
abbrev Pt := Addr × Value × Option Addr
inductive Hd where
  | pl (c : Str) (t : XS)
  | nm (c : Str) (i : Nat) (t : Pt → XS)
section
variable {K : PySem.W.Frag} {C : Ct} {σ : L2.St} {ρ : Nv} {n : Sn} {G O H : Hp}
def htX (K : PySem.W.Frag) (U : WX) : Hd → Value × Tsu
  | .pl c t => (.ref (He.ga K c), fun _ _ _ => upS K U (SS t))
  | .nm c i t => (.ref (He.ga K c), asT i fun a cls d => upS K U (SS (t (a, cls, d))))
def Hd.cls : Hd → Str
  | .pl c _ => c
  | .nm c _ _ => c
end
inductive HdsX (X : Cx) (U : WX) : List ExceptHandler → List Hd → Prop
  | nil : HdsX X U [] []
  | cons {x : Str} {t : XS} {b₀ : Stmt} {su : List Stmt} {np p' : Pos} {hr : List ExceptHandler} {l : List Hd} (hc : Names X x (.ref (He.ga X.K x)))
      (hsu : ∀ (a : Addr) (oe : Obj) (pn : List (Addr × Obj)), VSs (X.suite a ((a, oe) :: pn)) U (b₀ :: su) (SS t)) (r : HdsX X U hr l) : HdsX X U (.ExceptHandler (some (.Name x np)) none (b₀ :: su) p' :: hr) (.pl x t :: l)
  | as {x n : Str} {i : Nat} {t : Pt → XS} {b₀ : Stmt} {su : List Stmt} {np p' : Pos} {hr : List ExceptHandler} {l : List Hd} (hc : Names X x (.ref (He.ga X.K x))) (hi : X.N[i]? = some n) (hl : X.env.kindOf n = some .local)
      (hsu : ∀ (a : Addr) (oe : Obj) (cls : Value) (d : Option Addr) (pn : List (Addr × Obj)), Zc cls d oe → (∃ vs, oe.data = .fields vs) → VSs (X.suite a ((a, oe) :: pn)) U (b₀ :: su) (SS (t (a, cls, d)))) (r : HdsX X U hr l) :
      HdsX X U (.ExceptHandler (some (.Name x np)) (some n) (b₀ :: su) p' :: hr) (.nm x i t :: l)
theorem HdsX.ok {X : Cx} {U : WX} {hds : List ExceptHandler} {l : List Hd} (h : HdsX X U hds l) : HdsM X hds (l.map (htX X.K U)) := by
  induction h with
  | nil => exact .nil
  | cons hc hsu r ih => exact .cons hc (fun a oe cls d pn _ _ => hsu a oe pn) ih
  | as hc hi hl hsu r ih => exact .as hc hi hl (fun a oe cls d pn z f => hsu a oe cls d pn z f) ih
section
variable {X : Cx} {U : WX} {body : List Stmt} {e : Expr} {es : List Expr} {e0 : ExceptHandler} {er : List ExceptHandler} {l : List Hd} {known : List Str} {tb : XS} {pos p p2 : Pos} {al : XA}
def raiseK (x : Str) (flds : List Str) (ρ : Nv) (ds : List Dt) : T Fl := if ds.length = flds.length ∧ ds.length ≤ 1000 then .ret (.xc (mkX x flds ds) ρ) else .fail
def xRaise (x : Str) (flds : List Str) (al : XA) (ρ : Nv) : T Fl := exS (al ρ) ρ (raiseK x flds ρ)
theorem xs_raise {x : Str} {flds : List Str} (hc : X.calm = true) (tk : Takes X U) (R : RzC X.prog X.w X.K X.mg X.base x flds) (hr : Room 2 X.A) (hx : Passes (L2.CX X.prog X.w) X (fun _ _ _ => False)) (hg : Gl X x) (ha : VAa X U (e :: es) (S al))
    (hdb : (x == ("__debug__" : Str)) = false := by decide) (he : starEach (e :: es) X.env = (false, eval e X.env) :: starEach es X.env := by rfl) (hpl : (backTo p2 (starEach es X.env)).any (·.1) = false := by rfl) :
    VS X U (.Raise (some (.Call (.Name x p) (e :: es) [] p2)) none pos) (SS (xRaise x flds al)) := wkS (vs_raise hc tk R hr hx hg ha hdb he hpl) fun V ρ n h => satX h fun ds n' q => by
  obtain ⟨c, z⟩ := sat_guard (Q := flV V) q
  exact ⟨c.1, c.2, z⟩
end
end VL


set_option maxRecDepth 100000
set_option maxHeartbeats 2000000
namespace VL
open PySem PySem.Spec PyProof.Rows L2
section
variable {X : Cx} {U : WX} {pos : Pos}
end
/-! ### facts for the plain side -/
theorem isi_T (d : Dt) : isiD "tuple" d = match d with | .tuple _ => true | _ => false := by cases d <;> rfl
theorem isi_B (d : Dt) : isiD "bool" d = match d with | .bool _ => true | _ => false := by cases d <;> rfl
theorem isi_I (d : Dt) : isiD "int" d = match d with | .int _ => true | .bool _ => true | _ => false := by cases d <;> rfl
theorem isi_S (d : Dt) : isiD "str" d = match d with | .str _ => true | _ => false := by cases d <;> rfl
theorem isi_L (d : Dt) : isiD "list" d = match d with | .list _ => true | _ => false := by cases d <;> rfl
theorem sizeL : sizeLine = 16777216 := rfl
def mn (i j : Int) : Int := if j < i then j else i
def mx (i j : Int) : Int := if j > i then j else i
theorem pMin2_i {i j : Int} : pMin2 [.int i, .int j] = some (.int (mn i j)) := rfl
theorem pMax2_i {i j : Int} : pMax2 [.int i, .int j] = some (.int (mx i j)) := rfl
theorem pEqS {x y : Str} : pEq (.str x) (.str y) = some (.bool (x == y)) := by exact (if_pos (show shp (.str x) (.str y) from trivial)).trans (by simp [PyData.eqv])
theorem pNeS {x y : Str} : pNe (.str x) (.str y) = some (.bool (!(x == y))) := by exact (if_pos (show shp (.str x) (.str y) from trivial)).trans (by simp [PyData.eqv])
theorem pEqI {i j : Int} : pEq (.int i) (.int j) = some (.bool (decide (i = j))) := by
  unfold pEq
  rw [if_pos ⟨shaped_int, shaped_int⟩]
  simp only [PyData.eqv]
  by_cases h : i = j <;> simp [h]
theorem pNeI {i j : Int} : pNe (.int i) (.int j) = some (.bool (!decide (i = j))) := by
  unfold pNe
  rw [if_pos ⟨shaped_int, shaped_int⟩]
  simp only [PyData.eqv]
  by_cases h : i = j <;> simp [h]
theorem pRepr_of {w dp : Nat} {d : Dt} (a : Sh w dp d) (h : w ≤ 2 ^ 20) (h2 : dp ≤ 60) : pRepr [d] = some (.str d.shown) := by
  unfold pRepr
  exact if_pos ⟨a.nd, a.sh, PyData.shown_fits (by decide) (by decide) a.lv (Nat.le_trans a.wt h), Nat.le_trans a.dp h2⟩
/-! what is computed, by forms -/
theorem pIx_t {ds : List Dt} {i : Int} : pIx (.tuple ds) (.int i) = atI ds i := rfl
theorem pIx_l {ds : List Dt} {i : Int} : pIx (.list ds) (.int i) = atI ds i := rfl
theorem pLen_t {ds : List Dt} : pLen [.tuple ds] = some (.int (ds.length : Int)) := rfl
theorem pLen_l {ds : List Dt} : pLen [.list ds] = some (.int (ds.length : Int)) := rfl
theorem pAdd_i {i j : Int} : pAdd (.int i) (.int j) = some (.int (i + j)) := rfl
theorem pAdd_t {xs ys : List Dt} : pAdd (.tuple xs) (.tuple ys) = if xs.length + ys.length ≤ sizeLine then some (.tuple (xs ++ ys)) else none := by simp only [pAdd]
theorem pAdd_l {xs ys : List Dt} : pAdd (.list xs) (.list ys) = if xs.length + ys.length ≤ sizeLine then some (.list (xs ++ ys)) else none := by simp only [pAdd]
theorem pSub_i {i j : Int} : pSub (.int i) (.int j) = some (.int (i - j)) := rfl
theorem pMul_i {i j : Int} (h : CMul i j) : pMul (.int i) (.int j) = some (.int (i * j)) := if_pos h
theorem pDiv_i {i j : Int} (h0 : 0 < j) (h1 : j < 1073741824) : pDiv (.int i) (.int j) = some (.int (i / j)) := if_pos ⟨h0, h1⟩
theorem pNeg_i {i : Int} : pNeg (.int i) = some (.int (-i)) := rfl
theorem pLt_i {i j : Int} : pLt (.int i) (.int j) = some (.bool (decide (i < j))) := rfl
theorem pLe_i {i j : Int} : pLe (.int i) (.int j) = some (.bool (decide (i ≤ j))) := rfl
theorem pGt_i {i j : Int} : pGt (.int i) (.int j) = some (.bool (decide (j < i))) := rfl
theorem pGe_i {i j : Int} : pGe (.int i) (.int j) = some (.bool (decide (j ≤ i))) := rfl
theorem pIs_n {d : Dt} : pIs d .none = some (.bool (isNoneD d)) := rfl
theorem pIsNot_n {d : Dt} : pIsNot d .none = some (.bool (!isNoneD d)) := rfl
theorem pIadd_i {i j : Int} : pIadd (.int i) (.int j) = some (.int (i + j)) := rfl
theorem pAbs_i {i : Int} : pAbs [.int i] = some (.int (if i < 0 then -i else i)) := rfl
theorem pInt_i {i : Int} : pInt [.int i] = some (.int i) := rfl
theorem pTuple_t {ds : List Dt} : pTuple [.tuple ds] = some (.tuple ds) := rfl
theorem pTuple_l {ds : List Dt} : pTuple [.list ds] = some (.tuple ds) := rfl
theorem pList_t {ds : List Dt} : pList [.tuple ds] = some ds := rfl
theorem pList_l {ds : List Dt} : pList [.list ds] = some ds := rfl
theorem pSl_t {ds : List Dt} {lo hi : Option Int} : pSl (.tuple ds) lo hi = some (.tuple (cutD ds lo hi)) := rfl
theorem pSl_l {ds : List Dt} {lo hi : Option Int} : pSl (.list ds) lo hi = some (.list (cutD ds lo hi)) := rfl
theorem asB_b {b : Bool} : asB (.bool b) = .ret b := rfl
theorem asI_i {i : Int} : asI (.int i) = .ret (some i) := rfl
theorem itT_t {ds : List Dt} : itT (.tuple ds) = .ret ds := rfl
theorem itL_l {ds : List Dt} : itL (.list ds) = .ret ds := rfl
theorem enT_t {ds : List Dt} : enT [.tuple ds] = .ret (enumD ds) := rfl
theorem enL_l {ds : List Dt} : enL [.list ds] = .ret (enumD ds) := rfl
theorem rgT1_i {j : Int} (h0 : -(2 ^ 62) ≤ j) (h1 : j < 2 ^ 62) : rgT1 [.int j] = .ret (rngD 0 j.toNat) := if_pos ⟨h0, h1⟩
theorem ygT_t {k : Nat} {r : XGs} {ds : List Dt} {ρ : Nv} : ygT k r (.tuple ds) ρ = if ds.length = k then r ds ρ else none := rfl
theorem rOfT_d {d : Dt} : rOfT (.dat d) = .ret d := rfl
theorem rOfT_o {ds : List Dt} : rOfT (.own ds) = .ret (.list ds) := rfl
theorem rOwT_o {ds : List Dt} : rOwT (.own ds) = .ret ds := rfl
theorem isN_n : isNoneD .none = true := rfl
theorem isN_b {b : Bool} : isNoneD (.bool b) = false := rfl
theorem isN_i {b : Int} : isNoneD (.int b) = false := rfl
theorem isN_s {b : Str} : isNoneD (.str b) = false := rfl
theorem isN_t {b : List Dt} : isNoneD (.tuple b) = false := rfl
theorem isN_l {b : List Dt} : isNoneD (.list b) = false := rfl
/-! plain data: ints, texts, None, and tuples and lists of them; no truth values -/
mutual
def plainD : Dt → Bool
  | .none => true
  | .bool _ => false
  | .int _ => true
  | .str _ => true
  | .list ds => plainA ds
  | .tuple ds => plainA ds
  | .dict _ => false
def plainA : List Dt → Bool
  | [] => true
  | d :: ds => plainD d && plainA ds
end
mutual
theorem eqv_iff : ∀ {a b : Dt}, plainD a = true → plainD b = true → (PyData.eqv a b = true ↔ a = b)
  | .none, b, _, hb => by cases b <;> simp [PyData.eqv, plainD] at hb ⊢
  | .bool _, b, ha, _ => by simp [plainD] at ha
  | .int _, b, _, hb => by cases b <;> simp [PyData.eqv, plainD] at hb ⊢
  | .str x, b, _, hb => by cases b <;> simp [PyData.eqv]
  | .list xs, b, ha, hb => by
    cases b with
    | list ys => simp only [plainD] at ha hb; simp only [PyData.eqv, eqvA_iff ha hb, PyData.list.injEq]
    | _ => simp [PyData.eqv]
  | .tuple xs, b, ha, hb => by
    cases b with
    | tuple ys => simp only [plainD] at ha hb; simp only [PyData.eqv, eqvA_iff ha hb, PyData.tuple.injEq]
    | _ => simp [PyData.eqv]
  | .dict _, b, ha, _ => by simp [plainD] at ha
theorem eqvA_iff : ∀ {a b : List Dt}, plainA a = true → plainA b = true → (PyData.eqvAll a b = true ↔ a = b)
  | [], b, _, _ => by cases b <;> simp [PyData.eqvAll]
  | x :: xs, b, ha, hb => by
    cases b with
    | nil => simp [PyData.eqvAll]
    | cons y ys =>
      simp only [plainA, Bool.and_eq_true] at ha hb
      simp only [PyData.eqvAll, Bool.and_eq_true, eqv_iff ha.1 hb.1, eqvA_iff ha.2 hb.2, List.cons.injEq]
end
/-- shaped, by parts -/
structure Shp (dp : Nat) (d : Dt) : Prop where
  lay : d.canLay0 = true
  dep : d.depth ≤ dp
structure ShpA (dp : Nat) (ds : List Dt) : Prop where
  lay : PyData.canLayAll0 ds = true
  dep : PyData.depthAll ds ≤ dp
theorem Shp.shaped {dp : Nat} {d : Dt} (h : Shp dp d) (hd : dp ≤ 64) : SeqAt.shaped d = true := by
  unfold SeqAt.shaped
  rw [h.lay, decide_eq_true (Nat.le_trans h.dep hd)]
  rfl
theorem Shp.int {dp : Nat} (i : Int) : Shp dp (.int i) := ⟨by simp [PyData.canLay0], by simp [PyData.depth]⟩
theorem Shp.none {dp : Nat} : Shp dp .none := ⟨by simp [PyData.canLay0], by simp [PyData.depth]⟩
theorem Shp.bool {dp : Nat} (b : Bool) : Shp dp (.bool b) := ⟨by simp [PyData.canLay0], by simp [PyData.depth]⟩
theorem ShpA.nil {dp : Nat} : ShpA dp [] := ⟨by simp [PyData.canLayAll0], by simp [PyData.depthAll]⟩
theorem ShpA.cons {dp : Nat} {d : Dt} {ds : List Dt} (a : Shp dp d) (b : ShpA dp ds) : ShpA dp (d :: ds) := ⟨by simp [PyData.canLayAll0, a.lay, b.lay], by simp only [PyData.depthAll]; have := a.dep; have := b.dep; omega⟩
theorem ShpA.of {dp : Nat} : ∀ {ds : List Dt}, (∀ d ∈ ds, Shp dp d) → ShpA dp ds
  | [], _ => .nil
  | d :: ds, h => .cons (h d (by simp)) (ShpA.of fun x hx => h x (List.mem_cons_of_mem _ hx))
theorem Shp.tup {dp : Nat} {ds : List Dt} (a : ShpA dp ds) : Shp (dp + 1) (.tuple ds) := ⟨by simp only [PyData.canLay0, a.lay], by simp only [PyData.depth]; have := a.dep; omega⟩
theorem Shp.lst {dp : Nat} {ds : List Dt} (a : ShpA dp ds) : Shp (dp + 1) (.list ds) := ⟨by simp only [PyData.canLay0, a.lay], by simp only [PyData.depth]; have := a.dep; omega⟩
theorem Shp.le {dp dp' : Nat} {d : Dt} (a : Shp dp d) (h : dp ≤ dp') : Shp dp' d := ⟨a.lay, Nat.le_trans a.dep h⟩
theorem ShpA.ints {dp : Nat} (ns : List Int) : ShpA dp (ns.map PyData.int) := .of fun d hd => by
  obtain ⟨i, _, rfl⟩ := List.mem_map.mp hd
  exact .int i
/-! loops -/
theorem forT_cons {g : XG} {tb : XS} {d : Dt} {ds : List Dt} {ρ : Nv} : forT g tb (d :: ds) ρ = bd (ofO (g d ρ)) fun ρ1 => bd (tb ρ1) (lpF (forT g tb ds)) := rfl
/-- one turn; ct: the loop goes on -/
def turnT (g : XG) (tb : XS) (d : Dt) (ρ : Nv) : T Fl := bd (ofO (g d ρ)) fun ρ1 => bd (tb ρ1) (lpF fun ρ => .ret (.ct ρ))
theorem for_turn {g : XG} {tb : XS} {d : Dt} {ds : List Dt} {ρ : Nv} : forT g tb (d :: ds) ρ = bd (turnT g tb d ρ) fun f => match f with | .ct ρ => forT g tb ds ρ | f => .ret f := by
  rw [forT_cons]
  unfold turnT
  generalize forT g tb ds = L
  cases g d ρ with
  | none => rfl
  | some ρ1 =>
    simp only [ofO_some, bd_ret]
    generalize tb ρ1 = t
    induction t with
    | ret f => cases f <;> rfl
    | exc x => rfl
    | fail => rfl
    | draw m k ih => simp only [bd_draw]; exact congrArg (T.draw m) (funext fun r => ih r)
    | rd k ih => simp only [bd_rd]; exact congrArg T.rd (funext fun r => ih r)
    | wr s t ih => simp only [bd_wr]; exact congrArg (T.wr s) ih
    | nw k ih => simp only [bd_nw]; exact congrArg T.nw (funext fun r => ih r)
/-- a loop that looks for the first item that ends it -/
theorem for_first {δ ι : Type} {g : XG} {tb : XS} (env : δ → Nv) (enc : ι → Dt) (bad : ι → Option Fl) : ∀ (ds : List ι) (v : δ), (∀ v d, d ∈ ds → (∃ f, bad d = some f ∧ (∀ ρ, f ≠ .ct ρ) ∧ turnT g tb (enc d) (env v) = .ret f) ∨ (bad d = none ∧ ∃ v', turnT g tb (enc d) (env v) = .ret (.ct (env v')))) →
    (∃ f, ds.findSome? bad = some f ∧ forT g tb (ds.map enc) (env v) = .ret f) ∨ (ds.findSome? bad = none ∧ ∃ v', forT g tb (ds.map enc) (env v) = .ret (.nx (env v')))
  | [], v, _ => .inr ⟨rfl, v, rfl⟩
  | d :: ds, v, h => by
    rw [List.map_cons, for_turn, List.findSome?_cons]
    rcases h v d (by simp) with ⟨f, e1, e2, e3⟩ | ⟨e1, v', e3⟩
    · refine .inl ⟨f, by rw [e1], ?_⟩
      rw [e3, bd_ret]
      cases f with
      | ct ρ => exact absurd rfl (e2 ρ)
      | _ => rfl
    · rw [e1, e3]
      exact for_first env enc bad ds v' fun v d hd => h v d (List.mem_cons_of_mem _ hd)
theorem findSome_zip {α β : Type} (p : α → Bool) (f : Nat → β) : ∀ (xs : List α) (k : Nat), (xs.zipIdx k).findSome? (fun q => if p q.1 = true then some (f q.2) else none) = (xs.findIdx? p).map (fun i => f (k + i))
  | [], k => rfl
  | x :: xs, k => by
    rw [List.zipIdx_cons, List.findSome?_cons, List.findIdx?_cons]
    cases e : p x with
    | true => simp
    | false =>
      simp only [Bool.false_eq_true, if_false]
      rw [findSome_zip p f xs (k + 1), Option.map_map]
      congr 1
      funext i
      simp only [Function.comp]
      congr 1
      omega
theorem enumD_zip (xs : List Dt) : enumD xs = xs.zipIdx.map fun q => PyData.tuple [.int (q.2 : Int), q.1] := by
  unfold enumD
  rw [List.mapIdx_eq_zipIdx_map]
theorem lcT_cons {g : XG} {xt : XB} {te : XT} {ρ : Nv} {d : Dt} {ds acc : List Dt} : lcT g xt te ρ (d :: ds) acc = bd (ofO (g d ρ)) fun ρ1 => bx (xt ρ1) (fun b => if b = true then bx (te ρ1) (fun y => if acc.length < sizeLine then lcT g xt te ρ ds (acc ++ [y]) else .fail) fun _ => .fail else lcT g xt te ρ ds acc) fun _ => .fail := rfl
end VL


set_option maxRecDepth 100000
set_option maxHeartbeats 2000000
namespace VL
open PySem PySem.Spec PyProof.Rows L2
/-! ### drawn things: at most k draws, then P -/
def Ds {α : Type} (k : Nat) (t : T α) (s : Sto) (P : α → Sto → Prop) : Prop := ∀ (n : Sn) Q E, n.st = s → n.n + k ≤ 1000000000000 → (∀ a (n' : Sn), P a n'.st → n'.n ≤ n.n + k → Q a n') → sat t n Q E
def Dr {α : Type} (k : Nat) (t : T α) (P : α → Prop) : Prop := ∀ s, Ds k t s fun a s' => P a ∧ s' = s
section
variable {α β : Type} {k j : Nat} {P : α → Prop} {R : β → Prop}
theorem Dr.ret {a : α} (h : P a) : Dr k (.ret a) P := fun s n Q E hs _ hq => hq a n ⟨h, hs⟩ (by omega)
theorem Dr.mono {t : T α} {P' : α → Prop} (h : Dr k t P) (hk : k ≤ j) (hp : ∀ a, P a → P' a) : Dr j t P' := fun s n Q E hs hn hq => h s n Q E hs (by omega) fun a n' ha hn' => hq a n' ⟨hp a ha.1, ha.2⟩ (by omega)
theorem Dr.le {t : T α} (h : Dr k t P) (hk : k ≤ j) : Dr j t P := h.mono hk fun _ q => q
theorem Dr.draw {m : Int} {f : Int → T α} (h0 : 0 < m) (h1 : m < 10000000000000000000000000000000) (h : ∀ r, 0 ≤ r → r < m → Dr k (f r) P) : Dr (k + 1) (.draw m f) P := fun s n Q E hs hn hq => ⟨h0, h1, by omega, fun r r0 r1 => h r r0 r1 s ⟨n.n + 1, n.st⟩ Q E hs (by show n.n + 1 + k ≤ _; omega) fun a n' ha hn' => hq a n' ha (by have : n'.n ≤ n.n + 1 + k := hn'; omega)⟩
theorem Dr.bx {t : T α} {f : α → T β} {g : Exc → T β} (h : Dr k t P) (hf : ∀ a, P a → Dr j (f a) R) : Dr (k + j) (VL.bx t f g) R := fun s n Q E hs hn hq => sat_bx.mpr (h s n _ _ hs (by omega) fun a n' ha hn' => hf a ha.1 s n' Q E ha.2 (by omega) fun b n2 hb hn2 => hq b n2 hb (by omega))
theorem Dr.bd {t : T α} {f : α → T β} (h : Dr k t P) (hf : ∀ a, P a → Dr j (f a) R) : Dr (k + j) (VL.bd t f) R := h.bx hf
theorem Dr.exS {t : T α} {ρ : Nv} {f : α → T Fl} {R : Fl → Prop} (h : Dr k t P) (hf : ∀ a, P a → Dr j (f a) R) : Dr (k + j) (VL.exS t ρ f) R := h.bx hf
/-- a statement, then the others -/
theorem Dr.seq {t u : XS} {ρ : Nv} {J : Nv → Prop} {R : Fl → Prop} (k j : Nat) (h : Dr k (t ρ) (fun f => ∃ ρ', f = .nx ρ' ∧ J ρ')) (hu : ∀ ρ', J ρ' → Dr j (u ρ') R) : Dr (k + j) (xSeq t u ρ) R := by
  unfold xSeq
  refine Dr.bd h fun f hf => ?_
  obtain ⟨ρ', rfl, hJ⟩ := hf
  exact hu ρ' hJ
/-- a statement whose end is known -/
theorem Dr.step {t u : XS} {ρ ρ' : Nv} {R : Fl → Prop} (e : t ρ = .ret (.nx ρ')) (hu : Dr k (u ρ') R) : Dr k (xSeq t u ρ) R := by
  unfold xSeq
  rw [e, bd_ret]
  exact hu
/-- a loop -/
theorem Dr.forT {g : XG} {tb : XS} {R : Fl → Prop} (J : List Dt → Nv → Prop) (h0 : ∀ ρ, J [] ρ → R (.nx ρ)) (h : ∀ d ds ρ, J (d :: ds) ρ → ∃ ρ1, g d ρ = some ρ1 ∧ Dr k (tb ρ1) (fun f => (∃ ρ', (f = .nx ρ' ∨ f = .ct ρ') ∧ J ds ρ') ∨ (∃ w, f = .rt w ∧ R (.rt w)) ∨ (∃ ρ', f = .bk ρ' ∧ R (.nx ρ')))) :
    ∀ (ds : List Dt) (ρ : Nv), J ds ρ → Dr (k * ds.length) (VL.forT g tb ds ρ) R
  | [], ρ, hJ => Dr.ret (h0 ρ hJ)
  | d :: ds, ρ, hJ => by
    obtain ⟨ρ1, e, q⟩ := h d ds ρ hJ
    rw [forT_cons, e, ofO_some, bd_ret, List.length_cons, Nat.mul_add, Nat.mul_one, Nat.add_comm]
    refine Dr.bd q fun f hf => ?_
    rcases hf with ⟨ρ', rfl | rfl, hJ'⟩ | ⟨w, rfl, hw⟩ | ⟨ρ', rfl, hw⟩
    · exact Dr.forT J h0 h ds ρ' hJ'
    · exact Dr.forT J h0 h ds ρ' hJ'
    · exact Dr.ret hw
    · exact Dr.ret hw
/-- a list that is drawn item by item -/
theorem Dr.lcT {g : XG} {te : XT} {ρ : Nv} {R : Dt → Prop} : ∀ (ds acc : List Dt), acc.length + ds.length ≤ sizeLine → (∀ d ∈ ds, ∃ ρ1, g d ρ = some ρ1 ∧ Dr k (te ρ1) R) → Dr (k * ds.length) (VL.lcT g xYes te ρ ds acc) (fun ys => ∃ zs, ys = acc ++ zs ∧ zs.length = ds.length ∧ ∀ z ∈ zs, R z)
  | [], acc, _, _ => Dr.ret ⟨[], by simp, rfl, by simp⟩
  | d :: ds, acc, hl, h => by
    obtain ⟨ρ1, e, q⟩ := h d (by simp)
    rw [List.length_cons] at hl
    rw [lcT_cons, e, ofO_some, bd_ret, List.length_cons, Nat.mul_add, Nat.mul_one, Nat.add_comm]
    simp only [xYes, bx_ret, if_true]
    refine Dr.bx q fun y hy => ?_
    rw [if_pos (by omega)]
    refine (Dr.lcT ds (acc ++ [y]) (by simp only [List.length_append, List.length_cons, List.length_nil]; omega) fun d hd => h d (List.mem_cons_of_mem _ hd)).mono (Nat.le_refl _) fun ys hys => ?_
    obtain ⟨zs, rfl, h1, h2⟩ := hys
    exact ⟨y :: zs, by simp, by simp [h1], fun z hz => by
      rcases List.mem_cons.mp hz with rfl | hz
      · exact hy
      · exact h2 z hz⟩
/-- a list of what is drawn, as such -/
theorem ints_of {R : Int → Prop} : ∀ {zs : List Dt}, (∀ z ∈ zs, ∃ i, z = .int i ∧ R i) → ∃ ns : List Int, zs = ns.map .int ∧ ∀ i ∈ ns, R i
  | [], _ => ⟨[], rfl, by simp⟩
  | z :: zs, h => by
    obtain ⟨i, rfl, hi⟩ := h z (by simp)
    obtain ⟨ns, rfl, hn⟩ := ints_of (zs := zs) fun z hz => h z (List.mem_cons_of_mem _ hz)
    exact ⟨i :: ns, rfl, fun j hj => by
      rcases List.mem_cons.mp hj with rfl | hj
      · exact hi
      · exact hn j hj⟩
/-- a call of a def that draws -/
theorem Dr.call {c : XFn} {ws : List W} {R : Dt → Prop} (h : Dr k (c ws) (fun w => ∃ d, w = .dat d ∧ R d)) : Dr k (VL.bd (c ws) rOfT) R := by
  have := Dr.bd (j := 0) (R := R) h (f := rOfT) fun w hw => by
    obtain ⟨d, rfl, hd⟩ := hw
    exact Dr.ret hd
  exact this
/-- a def's body -/
theorem Dr.body {m a : Nat} {t : XS} {ws : List W} {R : W → Prop} (hl : ws.length = a) (h : Dr k (t (startE m ws)) (fun f => ∃ w, f = .rt w ∧ R w)) : Dr k (bodyX m a t ws) R := by
  unfold bodyX
  rw [if_pos hl]
  have := Dr.bx (j := 0) (R := R) h (f := fnE) (g := fun _ => .fail) fun f hf => by
    obtain ⟨w, rfl, hw⟩ := hf
    exact Dr.ret hw
  exact this
/-- the law -/
theorem Dr.law {t : XS} {ρ : Nv} (h : Dr k (t ρ) (fun f => f = .rt (.dat (.bool true)))) (hk : k ≤ 1000000000000) : SS t lawEnd ρ 0 := h (0 : Sn).st 0 _ _ rfl (by show 0 + k ≤ _; omega) fun f n' hf _ => by obtain ⟨hf, _⟩ := hf; subst hf; rfl
end
/-! small facts -/
theorem Shp.str {dp : Nat} {s : Str} (h : PyData.canLay0 (.str s) = true) : Shp dp (.str s) := ⟨h, by simp [PyData.depth]⟩
theorem at5 {α : Type} {a b c d e f : α} {l : List α} : atI (a :: b :: c :: d :: e :: f :: l) 5 = some f := atI_nat (j := 5) rfl
theorem at6 {α : Type} {a b c d e f g : α} {l : List α} : atI (a :: b :: c :: d :: e :: f :: g :: l) 6 = some g := atI_nat (j := 6) rfl
theorem at7 {α : Type} {a b c d e f g h : α} {l : List α} : atI (a :: b :: c :: d :: e :: f :: g :: h :: l) 7 = some h := atI_nat (j := 7) rfl
end VL


set_option maxRecDepth 100000
set_option maxHeartbeats 4000000
/-! ### errors straight under OverflowError or LookupError, with one field -/
namespace PySem.OEG
open PySem PySem.W PySem.Calls PyProof.Rows PySem.HandSPX
section
open Builtin Builtin.ObjectAttr
variable {prog : Program} {w : World} {A : Around} {R : Result → Shared → Prop} {hp : Heap} {g : Array GenState} {d : Drawn} {t : Nat} {os : OsState}
end
end PySem.OEG
namespace VL
open PySem PySem.Spec PyProof.Rows L2
/-- what the written part says of such a class -/
structure OexG (K : PySem.W.Frag) (C : Addr) (B newId initId : String) (bmB : List Value) : Prop where
  fb : ExcBaseFacts B newId initId bmB
  sf : StoreFacts B bmB "object.__setattr__" "object"
  ini : PySem.W.excInitIn K C bmB newId = true
  ovr : PySem.W.excOver K C bmB = true
  hd : PySem.W.hasDictIn K C = true
  sa : PySem.W.findIn K (.ref C) "__setattr__" = some (some (.builtin "object.__setattr__"))
  exC : PySem.W.subIn K (.ref C) (.type "BaseException") = some true
  tyC : PySem.W.typeIn K (.ref C) = some (.type "type")
  kC : PySem.W.keepIn K (.ref C) = true
section
variable {X : Cx} {pins : List (Addr × Obj)} {σ : L2.St} {H : Hp} {s : Shared} {a C : Addr} {f : Str} {y : V} {u : Value} {Q : Unit → Shared → Prop} {E : Value → Shared → Prop} {A : Around} {B newId initId : String} {bmB : List Value}
end
section
variable {X : Cx} {U : WX} {o e : Expr} {es : List Expr} {to te : TE} {ta : TA} {f : Str} {p p' p1 p2 pos : Pos} {B newId initId : String} {bmB : List Value}
end
/-- what such an __init__ does -/
def spOne (K : PySem.W.Frag) (B newId initId : String) (bmB : List Value) (f : Str) : Sp := fun vs H Q _ => ∃ (a C : Addr) (y : V), vs = [.ref a, y] ∧ OexG K C B newId initId bmB ∧ PySem.W.findIn K (.ref C) f = some none ∧ H a = some (exo a C none) ∧
  ∀ dx, H dx = none → dx ≠ a → Q .non (L2.upd (L2.upd H dx (exd dx [(f, y)])) a (exo a C (some dx)))
structure RzG (P : Program) (w : World) (K : PySem.W.Frag) (mg : Str → Option Value) (base : Heap) (B newId initId : String) (bmB : List Value) (x f : Str) : Prop where
  cls : OexG K (He.ga K x) B newId initId bmB
  g : mg x = some (.ref (He.ga K x))
  no1 : PySem.W.findIn K (.ref (He.ga K x)) f = some none
  ini : ∃ (fI : Addr) (fd : FuncData) (ps : List Str), PySem.W.findIn K (.ref (He.ga K x)) "__init__" = some (some (.ref fI)) ∧ PySem.W.typeIn K (.ref fI) = some (.type "function") ∧ FnOk P w K mg base (L2.CX P w) 1 fI fd ps (spOne K B newId initId bmB f) ∧ Binds K fd ps []
theorem RzG.no {P : Program} {w : World} {K : PySem.W.Frag} {mg : Str → Option Value} {base : Heap} {B newId initId : String} {bmB : List Value} {x f : Str} (R : RzG P w K mg base B newId initId bmB x f) : ∀ g ∈ [f], PySem.W.findIn K (.ref (He.ga K x)) g = some none := fun g hg => by
  rw [List.mem_singleton] at hg
  subst hg
  exact R.no1
section
variable {X : Cx} {U : WX} {e : Expr} {es : List Expr} {al : XA} {p p2 pos : Pos} {B newId initId : String} {bmB : List Value}
end
end VL


set_option maxRecDepth 100000
set_option maxHeartbeats 2000000
namespace VL
open PySem PySem.Spec PyProof.Rows L2
/-! ### list displays by two fors -/
/-! as a tree -/
section
variable {X : Cx} {U : WX} {elt tg iter tg1 iter1 : Expr} {ifs ifs1 : List Expr} {scope : Scope} {own : List (Str × Nat)} {pos spos : Pos} {ti ti1 : XA} {g g1 : XG} {gh gh1 : TG} {xt xt1 : XB} {te : XT} {vs1 : List Nat}
end
end VL


set_option maxRecDepth 100000
set_option maxHeartbeats 2000000
namespace VL
open PySem PySem.Spec PyProof.Rows L2
/-- a run of numbers -/
def ixs (lo : Int) (n : Nat) : List Int := (List.range n).map fun i : Nat => lo + (i : Int)
theorem Sh.str {s : Str} (h : PyData.leavesShort 13 (.str s) = true) (h2 : PyData.weight (.str s) ≤ 40) (h3 : PyData.showable (.str s) = true) : Sh 40 0 (.str s) := ⟨h3, h, h2, by simp [PyData.depth], by simp only [PyData.hasDict]⟩
end VL


set_option maxRecDepth 100000
set_option maxHeartbeats 2000000
namespace VL
open PySem PySem.Spec PyProof.Rows L2
/-! ### in, not in -/
theorem units5 {k : Nat} {A : Around} (r : Room k A) : A.units + 65 < cLine := by have := r.un; omega
section
variable {X : Cx}
end
/-! ### zip -/
section
variable {X : Cx} {U : WX} {a b e e2 : Expr} {pos p p2 pos2 : Pos} {al : XA} {ta tb : XT} {elts : List Expr} {kk : Nat} {tpos : Pos}
/-! ### list(range(..)) -/
end
end VL


set_option maxRecDepth 100000
set_option maxHeartbeats 2000000
namespace VL
open PySem PySem.Spec PyProof.Rows L2
/-! ### t[::-1] -/
section
variable {prog : Program} {w : World} {A : Around} {E : Value → Shared → Prop} {s : Shared}
end
section
variable {X : Cx} {U : WX} {e : Expr} {te : XT}
theorem DRs.reverse {K : PySem.W.Frag} {G : Hp} : ∀ {ds : List Dt} {xs : List V}, DRs K G xs ds → DRs K G xs.reverse ds.reverse
  | [], _, .nil => .nil
  | d :: ds, x :: xs, .cons a r => by
    rw [List.reverse_cons, List.reverse_cons]
    exact (DRs.reverse r).append (.cons a .nil)
/-! ### is, is not of bools -/
def pIsB (a b : Dt) : Option Dt := match a, b with
  | .bool a, .bool b => some (.bool (decide (a = b)))
  | _, _ => none
def pNotB (a b : Dt) : Option Dt := match a, b with
  | .bool a, .bool b => some (.bool (!decide (a = b)))
  | _, _ => none
theorem pIsB_b {a b : Bool} : pIsB (.bool a) (.bool b) = some (.bool (decide (a = b))) := rfl
theorem pNotB_b {a b : Bool} : pNotB (.bool a) (.bool b) = some (.bool (!decide (a = b))) := rfl
end
end VL


set_option maxRecDepth 100000
set_option maxHeartbeats 2000000
namespace VL
open PySem PySem.Spec PyProof.Rows L2
/-! ### x in xs, xs a list of one's own -/
section
variable {X : Cx} {U : WX} {a : Expr} {ta : XT} {pos : Pos}
end
end VL


set_option maxRecDepth 100000
set_option maxHeartbeats 2000000
namespace VL
open PySem PySem.Spec PyProof.Rows L2
/-! ### except (A, B, ..) as e: kept = e -/
theorem Flying.push {B : Heap} {l : List Env} {e : Addr} {Z : Obj → Prop} {h : Heap} {o : Obj} (f : HandSPX.FlyingZ B l e Z h) : HandSPX.FlyingZ B l e Z (h.push o) := by
  obtain ⟨h1, h2, h3, oe, vs, T, oT, ts, a1, a2, a3, a4, a5, a6, a7, a8⟩ := f
  exact ⟨fun b u q => Heap.get?_push_of_some _ (h1 b u q), h2, h3.of_keeps fun b u q _ => ⟨u, Heap.get?_push_of_some _ q, rfl⟩, oe, vs, T, oT, ts, Heap.get?_push_of_some _ a1, a2, a3, a4, a5, a6, Heap.get?_push_of_some _ a7, a8⟩
section
variable {X : Cx} {pins : List (Addr × Obj)} {σ : L2.St} {H : Hp} {s : Shared}
end
/-- the classes of a clause -/
inductive NamesL (X : Cx) : List Expr → List Value → Prop
  | nil : NamesL X [] []
  | cons {x : Str} {c : Value} {np : Pos} {r : List Expr} {cs : List Value} (h : Names X x c) (hs : starEach (.Name x np :: r) X.env = (false, eval (.Name x np) X.env) :: starEach r X.env) (t : NamesL X r cs) : NamesL X (.Name x np :: r) (c :: cs)
section
variable {X : Cx} {body : List Stmt} {pos : Pos} {tb : WX → TS} {Wo : WX}
end
end VL


set_option maxRecDepth 100000
set_option maxHeartbeats 2000000
namespace VL
open PySem PySem.Spec PyProof.Rows L2
/-! ### a lambda without parameters, handed to a def that calls it -/
section
variable {X : Cx} {pins : List (Addr × Obj)} {σ : L2.St} {H : Hp} {s : Shared}
end
end VL


set_option maxRecDepth 100000
set_option maxHeartbeats 2000000
namespace VL
open PySem PySem.Spec PyProof.Rows L2
/-! ### errors as data -/
theorem DFs.get {K : PySem.W.Frag} {G : Hp} {f : Str} {d : Dt} : ∀ {gs : List (Str × V)} {kvs : List (Dt × Dt)}, DFs K G gs kvs → (∃ i : Nat, kvs[i]? = some (PyData.str f, d)) → ∃ v, (f, v) ∈ gs ∧ DR K G v d
  | _, _, .nil, ⟨i, e⟩ => by simp at e
  | _, _, .cons a r, ⟨i, e⟩ => by
    cases i with
    | zero =>
      simp only [List.getElem?_cons_zero, Option.some.injEq, Prod.mk.injEq, PyData.str.injEq] at e
      obtain ⟨rfl, rfl⟩ := e
      exact ⟨_, List.mem_cons_self, a⟩
    | succ i =>
      obtain ⟨v, h1, h2⟩ := DFs.get r ⟨i, by simpa using e⟩
      exact ⟨v, List.mem_cons_of_mem _ h1, h2⟩
structure KfOk (K : PySem.W.Frag) (kf : List (Str × List Str)) : Prop where
  kx : KnX K (kf.map (·.1))
  xc : ∀ c ∈ kf.map (·.1), XCls K c
  ki : ∀ x ∈ kf.map (·.1), ∀ c ∈ kf.map (·.1), PySem.W.kitOne K (.ref (He.ga K x)) (.ref (He.ga K c)) = some (decide (x = c))
  at_ : ∀ c ∈ kf.map (·.1), XfC K (He.ga K c)
  nf : ∀ p ∈ kf, ∀ f ∈ p.2, PySem.W.findIn K (.ref (He.ga K p.1)) f = some none
/-! ### try: .. except (A, B, ..) as e: kept = e -/
section
variable {X : Cx} {U : WX} {body : List Stmt} {pos : Pos} {tb : XS}
end
/-! ### isinstance(e, C), C an own class of errors; e.f -/
section
variable {X : Cx} {U : WX} {e : Expr} {te : XT} {pos : Pos}
end
end VL


set_option maxRecDepth 100000
set_option maxHeartbeats 2000000
namespace VL
open PySem PySem.Spec PyProof.Rows L2
/-! ### x(lambda: e): x calls it -/
def capW : W → Bool
  | .dat _ => true
  | .tok => true
  | .scr _ => true
  | .err _ _ => true
  | _ => false
/-- what a lambda sees -/
def capR : Nv → Nv
  | [] => []
  | none :: r => none :: capR r
  | some w :: r => (if capW w = true then some w else none) :: capR r
section
variable {K : PySem.W.Frag} {C C' : Ct} {σ : L2.St} {ρ : Nv} {n : Sn} {G O H G' O' H' : Hp}
/-- a table has grown -/
theorem In.table {P : Addr} {ps : Array Value} (I : In K C σ ρ n G O H) (hP : H P = some (.tbl ps)) (oP : O P = none) (old : ∀ b o, b ≠ P → H b = some o → H' b = some o) (dom : ∀ b, H' b = none → H b = none) (T : LamX.Tabs C.T H') : In K C σ ρ n G O H' := by
  have ne : ∀ {b : Addr} {u : HO}, H b = some u → (∀ qs, u ≠ .tbl qs) → H' b = some u := fun {b u} e h => old b u (fun z => by rw [z, hP] at e; exact h _ (Option.some.inj e).symm) e
  have so : Same O H' := fun b u e => old b u (fun z => by rw [z, oP] at e; cases e) (I.oH _ _ e)
  have good : Good C.mo n O H' := by
    have g := I.good
    cases hm : C.mo with
    | none => exact so
    | some m =>
      rw [hm] at g
      obtain ⟨_, om, lc, ll, cs, ls, z, h1, h2, h3, h4, h5, h6, r⟩ := g
      exact ⟨so, om, lc, ll, cs, ls, z, h1, h2, h3, ne h4 fun _ q => (by cases q), ne h5 fun _ q => (by cases q), ne h6 fun _ q => (by cases q), r⟩
  exact ⟨⟨good, I.go, I.g0, I.o0, I.oh, I.nO, I.nG, fun a e => I.h0 a (dom a e), ⟨T, I.tb.out, fun p hp => ne (I.tb.lam p hp) fun qs z => by unfold LamX.CodeO at z; cases z⟩, I.sto.move' I.good (Same.refl _) (fun _ _ e => e) fun b u e z q => ⟨z, ne e q⟩⟩, I.ht, I.len, I.sep⟩
end
open Classical in
/-- the lambda's name, called -/
noncomputable def actX (i : Nat) (f c : Addr) (q : Str) (mo : Option Addr) (G : Hp) (t : T Dt) : XT := fun ρ => if ρ[i]? = some (some (.lam f c q mo G)) then t else .fail
/-- a def that calls what it gets; tg: what it makes of the call -/
structure LamFn (P : Program) (w : World) (K : PySem.W.Frag) (mg : Str → Option Value) (base : Heap) (k m : Nat) (x a : Str) (tg : XT → XS) : Prop where
  ex : ∃ (fd : FuncData) (pg : Arguments) (bg : List Stmt) (sg : Scope) (Ng : List Str), FunD K x x pg bg sg [] [] (He.ga K x) fd ∧ FnScope Ng [a] sg ∧ Ng.length = m ∧ Binds K fd [a] [] ∧ PySem.W.keepIn K (.ref (He.ga K x)) = true ∧ mg x = some (.ref (He.ga K x)) ∧ Vis sg a ∧ Ng[0]? = some a ∧
    ∀ (cdv : Value) (A : Around) (outer : List PySem.Env) (s : Shared) (H : Hp) (E : XK) (f c : Addr) (q : Str) (mo : Option Addr) (G : Hp) (t : T Dt), A.guards = some [] → Room k (A.deeper (envOfC x sg s.heap.objs.size (He.ga K x) cdv)) →
      (∀ (W : WX) (pn : List (Addr × Obj)) (xe : Value → Shared → Prop) (p1 p2 : Pos), Takes ((cxOf (L2.CX P w) P w K mg base Ng x sg (He.ga K x) cdv A outer s H E).tr pn xe) W →
        VE ((cxOf (L2.CX P w) P w K mg base Ng x sg (He.ga K x) cdv A outer s H E).tr pn xe) W (.Call (.Name a p1) [] [] p2) (S (actX 0 f c q mo G t))) →
      VSs (cxOf (L2.CX P w) P w K mg base Ng x sg (He.ga K x) cdv A outer s H E) (fun cls d _ H' => E cls d H') bg (SS (tg (actX 0 f c q mo G t)))
section
variable {X : Cx} {U : WX}
end
end VL


set_option maxRecDepth 100000
set_option maxHeartbeats 2000000
namespace VL
open PySem PySem.Spec PyProof.Rows L2
/-! ### what the head tells of errors and of tables -/
/-- the tables are those of tf, and stand apart -/
def ttB (tf : List He.Defn) (K : PySem.W.Frag) : Bool := decide (tabT K = lamT K tf) && decide ((tabT K).map (·.1)).Nodup
/-- a def whose lambdas are told -/
structure TabF (K : PySem.W.Frag) (x : Str) : Prop where
  mem : ((He.cT K (x, none)).2, lamNm (x, none)) ∈ tabT K
  only : ∀ p ∈ tabT K, p.1 = (He.cT K (x, none)).2 → p.2 = lamNm (x, none)
theorem ttB_eq {K : PySem.W.Frag} {tf : List He.Defn} (h : ttB tf K = true) : tabT K = lamT K tf := by
  unfold ttB at h
  simp only [Bool.and_eq_true, decide_eq_true_eq] at h
  exact h.1
end VL


set_option maxRecDepth 100000
set_option maxHeartbeats 2000000
namespace VL
open PySem PySem.Spec PyProof.Rows L2
/-! ### bits, sums, the least of a list, places -/
section
variable {X : Cx}
/-- sum of a tuple or a list of ints -/
def pSumA (ds : List Dt) : Option Dt := match ds with
  | [.list xs] => (intsD xs).map fun ns => .int ns.sum
  | [.tuple xs] => (intsD xs).map fun ns => .int ns.sum
  | _ => none
end
section
variable {X : Cx} {U : WX} {e : Expr} {ta tb : XT}
end
/-! ### range with a step -/
section
variable {X : Cx} {U : WX} {a b c tg : Expr} {al : XA} {p pos : Pos}
end
/-! ### a global name of a tuple of ints -/
section
variable {X : Cx} {U : WX} {pos : Pos}
end
/-! ### things of one's own as what an expression gives -/
abbrev XW' := Nv → T W
def upX (K : PySem.W.Frag) (U : WX) (t : XW') : TE := fun σ H Q => ∃ (C : Ct) (ρ : Nv) (n : Sn) (G O : Hp) (Q0 : W → Sn → Prop) (E0 : XW), In K C σ ρ n G O H ∧ sat (t ρ) n Q0 E0 ∧
  (∀ w n', Q0 w n' → ∀ v G' O' H', In K C σ ρ n' G' O' H' → Same G G' → FrW K C σ ρ G' O' w v → Q v H') ∧ LkX K U C σ ρ E0
abbrev VX (X : Cx) (U : WX) (e : Expr) (t : XW') : Prop := PE X e (upX X.K U t)
def datK (d : Dt) : T W := .ret (.dat d)
def ownK (ds : List Dt) : T W := .ret (.own ds)
def xwD (te : XT) (ρ : Nv) : T W := bd (te ρ) datK
def xwO (tl : XA) (ρ : Nv) : T W := bd (tl ρ) ownK
section
variable {X : Cx} {U : WX} {e a b c : Expr} {te : XT} {tl : XA} {t ta tb tc : XW'} {pos : Pos}
theorem xw_dat (h : VE X U e (S te)) : VX X U e (xwD te) := pe_imp h fun σ H Q ⟨C, ρ, n, G, O, Q0, E0, I, h, hq, he⟩ => ⟨C, ρ, n, G, O, _, E0, I, sat2 h fun _ _ z => z, fun d n' q v G' O' H' I' s' r => hq _ n' q v G' O' H' I' s' (I'.dat r), he⟩
theorem xw_own (h : VO X U e (S tl)) : VX X U e (xwO tl) := pe_imp h fun σ H Q ⟨C, ρ, n, G, O, Q0, E0, I, h, hq, he⟩ => ⟨C, ρ, n, G, O, _, E0, I, sat2 h fun _ _ z => z, fun ds n' q v G' O' H' I' s' f => hq _ n' q _ G' O' H' I' s' f, he⟩
end
/-! two things of one's own at a time: the first one is out of sight while the second one is made -/
open Classical in
noncomputable def hidH (Z O : Hp) (fp : List Addr) : Hp := fun a => if a ∈ fp then O a else Z a
theorem hidH_in {Z O : Hp} {fp : List Addr} {a : Addr} (h : a ∈ fp) : hidH Z O fp a = O a := if_pos h
theorem hidH_out {Z O : Hp} {fp : List Addr} {a : Addr} (h : a ∉ fp) : hidH Z O fp a = Z a := if_neg h
noncomputable abbrev Ct.hideF (C : Ct) (O : Hp) (fp : List Addr) : Ct := ⟨C.K, C.mo, C.T, C.L, C.G0, hidH C.O0 O fp, hidH C.H0 O fp⟩
section
variable {K : PySem.W.Frag} {C : Ct} {σ : L2.St} {ρ : Nv} {n n' : Sn} {G O H G' O' H' : Hp} {F : Nat → List Addr} {fp : List Addr} {w : W} {v : V}
theorem In.hideF (I : In K C σ ρ n G O H) (S : Sl K C σ ρ G O F) (r : RelF K C G O w v fp) (ap : ∀ (j : Nat) (u : W), ρ[j]? = some (some u) → ∀ b ∈ fp, b ∉ F j) : In K (C.hideF O fp) σ ρ n G O H := by
  have hw : ∀ b ∈ fp, ∃ o, Ow C G O b o ∧ Plain o := r.ow
  refine ⟨⟨I.good, I.go, I.g0, fun a u e => ?_, fun a u e => ?_, fun a u e => ?_, fun a u e => ?_, fun a e => ?_, I.tb, I.sto⟩, I.ht, I.len, F, S.see (Same.refl _) (fun i u e b hb => ?_) rfl⟩
  · by_cases h : a ∈ fp
    · have e' : hidH C.O0 O fp a = some u := e
      rw [hidH_in h] at e'; exact e'
    · have e' : hidH C.O0 O fp a = some u := e
      rw [hidH_out h] at e'; exact I.o0 _ _ e'
  · by_cases h : a ∈ fp
    · have e' : hidH C.O0 O fp a = some u := e
      rw [hidH_in h] at e'
      show hidH C.H0 O fp a = some u
      rw [hidH_in h]; exact e'
    · have e' : hidH C.O0 O fp a = some u := e
      rw [hidH_out h] at e'
      show hidH C.H0 O fp a = some u
      rw [hidH_out h]; exact I.oh _ _ e'
  · by_cases h : a ∈ fp
    · exact .inl (by show hidH C.O0 O fp a = _; rw [hidH_in h]; exact e)
    · rcases I.nO a u e with q | q
      · exact .inl (by show hidH C.O0 O fp a = _; rw [hidH_out h]; exact q)
      · exact .inr (by show hidH C.H0 O fp a = _; rw [hidH_out h]; exact q)
  · have h : a ∉ fp := fun z => by obtain ⟨o, q, _⟩ := hw a z; rw [q.g] at e; cases e
    rcases I.nG a u e with q | q
    · exact .inl q
    · exact .inr (by show hidH C.H0 O fp a = _; rw [hidH_out h]; exact q)
  · have h : a ∉ fp := fun z => by obtain ⟨o, q, _⟩ := hw a z; rw [I.oH _ _ q.o] at e; cases e
    show hidH C.H0 O fp a = _
    rw [hidH_out h]; exact I.h0 a e
  · obtain ⟨o, q, _⟩ := S.ow e b hb
    exact ⟨rfl, q.g, by show hidH C.H0 O fp b = _; rw [hidH_out fun z => ap i u e b z hb]; exact q.h0⟩
theorem In.showF (I : In K (C.hideF O fp) σ ρ n' G' O' H') (oh : Same C.O0 C.H0) (r : RelF K C G O w v fp) (g0 : ∀ b ∈ fp, C.G0 b = none) : In K C σ ρ n' G' O' H' ∧ (Same G G' → FrW K C σ ρ G' O' w v) := by
  have hw : ∀ b ∈ fp, ∃ o, Ow C G O b o ∧ Plain o := r.ow
  obtain ⟨F, S⟩ := I.sep
  have oE : ∀ b ∈ fp, O' b = O b := fun b hb => by
    obtain ⟨o, q, _⟩ := hw b hb
    have : O' b = some o := I.o0 _ _ (by show hidH C.O0 O fp b = _; rw [hidH_in hb]; exact q.o)
    rw [this, q.o]
  have gE : ∀ b ∈ fp, G' b = none := fun b hb => by
    cases e : G' b with
    | none => rfl
    | some u =>
      obtain ⟨o, q, _⟩ := hw b hb
      rcases I.nG b u e with z | z
      · have z' : C.G0 b = some u := z
        rw [g0 b hb] at z'; cases z'
      · have z' : hidH C.H0 O fp b = none := z
        rw [hidH_in hb, q.o] at z'; cases z'
  have nF : ∀ (i : Nat) (u : W), ρ[i]? = some (some u) → ∀ b ∈ F i, b ∉ fp ∧ C.H0 b = none := fun i u e b hb => by
    obtain ⟨o, q, _⟩ := S.ow e b hb
    have q' : hidH C.H0 O fp b = none := q.h0
    by_cases h : b ∈ fp
    · obtain ⟨o2, q2, _⟩ := hw b h
      rw [hidH_in h, q2.o] at q'; cases q'
    · rw [hidH_out h] at q'; exact ⟨h, q'⟩
  have S' : Sl K C σ ρ G' O' F := S.see (Same.refl _) (fun i u e b hb => by
    obtain ⟨o, q, _⟩ := S.ow e b hb
    exact ⟨rfl, q.g, (nF i u e b hb).2⟩) rfl
  have rr : Same G G' → RelF K C G' O' w v fp := fun sg => r.see ⟨sg, fun b hb => ⟨oE b hb, gE b hb, by obtain ⟨o, q, _⟩ := hw b hb; exact q.h0⟩⟩ rfl
  refine ⟨⟨⟨I.good, I.go, I.g0, fun a u e => ?_, oh, fun a u e => ?_, fun a u e => ?_, fun a e => ?_, I.tb, I.sto⟩, I.ht, I.len, F, S'⟩, fun sg => ⟨F, fp, S', rr sg, fun j u e b hb z => (nF j u e b z).1 hb⟩⟩
  · have h : a ∉ fp := fun z => by obtain ⟨o, q, _⟩ := hw a z; have := oh _ _ e; rw [q.h0] at this; cases this
    exact I.o0 _ _ (by show hidH C.O0 O fp a = _; rw [hidH_out h]; exact e)
  · by_cases h : a ∈ fp
    · obtain ⟨o, q, _⟩ := hw a h; exact .inr q.h0
    · rcases I.nO a u e with q | q
      · have q' : hidH C.O0 O fp a = some u := q
        rw [hidH_out h] at q'; exact .inl q'
      · have q' : hidH C.H0 O fp a = none := q
        rw [hidH_out h] at q'; exact .inr q'
  · have h : a ∉ fp := fun z => by rw [gE a z] at e; cases e
    rcases I.nG a u e with q | q
    · exact .inl q
    · have q' : hidH C.H0 O fp a = none := q
      rw [hidH_out h] at q'; exact .inr q'
  · by_cases h : a ∈ fp
    · obtain ⟨o, q, _⟩ := hw a h; exact q.h0
    · have q' : hidH C.H0 O fp a = none := I.h0 a e
      rw [hidH_out h] at q'; exact q'
theorem In.g0n (I : In K C σ ρ n G O H) (r : RelF K C G O w v fp) : ∀ b ∈ fp, C.G0 b = none := fun b hb => by
  obtain ⟨o, q, _⟩ := r.ow b hb
  cases e : C.G0 b with
  | none => rfl
  | some u => have := I.g0 _ _ e; rw [q.g] at this; cases this
/-- two new things get two names -/
theorem In.set2 (I : In K (C.hideF O fp) σ ρ n' G' O' H') {u : W} {x : V} (f : FrW K (C.hideF O fp) σ ρ G' O' u x) (oh : Same C.O0 C.H0) (r : RelF K C G O w v fp) (sg : Same G G') (g0 : ∀ b ∈ fp, C.G0 b = none) {i j : Nat} (ij : i ≠ j) : In K C ((σ.set i (some v)).set j (some x)) ((ρ.set i (some w)).set j (some u)) n' G' O' H' := by
  have I2 := I.setW j f
  obtain ⟨J, f2⟩ := I2.showF oh r g0
  have J2 := J.setW i (f2 sg)
  rw [List.set_comm _ _ (Ne.symm ij), List.set_comm _ _ (Ne.symm ij)] at J2
  exact J2
end
section
variable {X : Cx} {U : WX} {a b : Expr} {ta tb : XW'} {pos : Pos}
end
end VL


set_option maxRecDepth 100000
set_option maxHeartbeats 2000000
namespace VL
open PySem PySem.Spec PyProof.Rows L2
/-! ### small facts for the plain side -/
theorem pSumT {ns : List Int} : pSumA [.tuple (ns.map .int)] = some (.int ns.sum) := by simp only [pSumA, intsD_map, Option.map_some]
theorem pSumL {ns : List Int} : pSumA [.list (ns.map .int)] = some (.int ns.sum) := by simp only [pSumA, intsD_map, Option.map_some]
theorem ygT3c {r : XGs} {a b c : Dt} {ρ : Nv} : ygT 3 r (.tuple [a, b, c]) ρ = r [a, b, c] ρ := rfl
end VL


set_option maxRecDepth 100000
set_option maxHeartbeats 2000000
namespace VL
open PySem PySem.Spec PyProof.Rows L2
/-! ### zip of a tuple with a list -/
section
variable {X : Cx} {U : WX} {e e2 : Expr} {pos p : Pos} {al : XA} {elts : List Expr} {kk : Nat} {tpos : Pos}
end
end VL


set_option maxRecDepth 100000
set_option maxHeartbeats 2000000
namespace VL
open PySem PySem.Spec PyProof.Rows L2
/-! ### dicts: the facts below the rules -/
section
variable {X : Cx} {pins : List (Addr × Obj)} {σ : L2.St} {H G : Hp} {s : Shared}
mutual
theorem key_is (I : Inv X pins σ H s) (sg : Same G H) : ∀ {d : Dt} {v : V} {u : Value} {k : NestedKey}, DR X.K G v d → keyOf d = some k → RelV v u → NestedIs s.heap k u
  | .none, v, u, k, r, e, rv => by
    cases r
    simp only [keyOf, Option.some.injEq] at e
    subst e
    cases rv
    exact .none
  | .bool b, v, u, k, r, e, rv => by
    cases r
    simp only [keyOf, Option.some.injEq] at e
    subst e
    cases rv
    exact .bool rfl
  | .int i, v, u, k, r, e, rv => by
    cases r
    simp only [keyOf, Option.some.injEq] at e
    subst e
    obtain ⟨t, rfl⟩ := rv
    exact .int i t
  | .tuple ds, v, u, k, r, e, rv => by
    cases r with
    | tup a q =>
      simp only [keyOf, Option.map_eq_some_iff] at e
      obtain ⟨ks, e1, rfl⟩ := e
      cases rv
      obtain ⟨its, rv, ⟨o, ho, hc, n, hd⟩, _⟩ := I.tuple (sameT sg a)
      exact .tup ho hc hd (by simpa using keys_are I sg q e1 rv)
  | .str _, _, _, _, _, e, _ => by simp [keyOf] at e
  | .list _, _, _, _, _, e, _ => by simp [keyOf] at e
  | .dict _, _, _, _, _, e, _ => by simp [keyOf] at e
theorem keys_are (I : Inv X pins σ H s) (sg : Same G H) : ∀ {ds : List Dt} {vs : List V} {us : List Value} {ks : List NestedKey}, DRs X.K G vs ds → keysOf ds = some ks → Vals vs us → NestedAll s.heap ks us
  | [], vs, us, ks, r, e, rv => by
    cases r
    simp only [keysOf, Option.some.injEq] at e
    subst e
    cases rv
    exact .nil
  | d :: ds, vs, us, ks, r, e, rv => by
    cases r with
    | cons r1 r2 =>
      simp only [keysOf, Option.bind_eq_some_iff, Option.map_eq_some_iff] at e
      obtain ⟨k, e1, ks', e2, rfl⟩ := e
      cases rv with
      | cons q1 q2 => exact .cons (key_is I sg r1 e1 q1) (keys_are I sg r2 e2 q2)
end
/-- entries: the abstract ones and the heap's -/
abbrev Ents (es : List (NestedKey × Addr × V)) (xs : List (NestedKey × Addr × Value)) : Prop := Paired (fun p q => p.1 = q.1 ∧ p.2.1 = q.2.1 ∧ RelV p.2.2 q.2.2) es xs
theorem Ents.mem {es : List (NestedKey × Addr × V)} {xs : List (NestedKey × Addr × Value)} (r : Ents es xs) : ∀ x ∈ xs, ∃ e ∈ es, e.1 = x.1 ∧ e.2.1 = x.2.1 ∧ RelV e.2.2 x.2.2 := by
  induction r with
  | nil => intro x hx; cases hx
  | cons h t ih =>
    intro x hx
    rcases List.mem_cons.mp hx with rfl | hx
    · exact ⟨_, List.mem_cons_self, h⟩
    · obtain ⟨e, he, q⟩ := ih x hx
      exact ⟨e, List.mem_cons_of_mem _ he, q⟩
/-- the keys stand -/
def KeysIn (K : PySem.W.Frag) (G : Hp) (es : List (NestedKey × Addr × V)) : Prop := ∀ e ∈ es, ∃ kd, DR K G (.ref e.2.1) kd ∧ keyOf kd = some e.1
/-- the entry of a key -/
def atE (es : List (NestedKey × Addr × V)) (k : NestedKey) : Option (Addr × V) := (es.find? fun x => decide (x.1 = k)).map (·.2)
def putE (es : List (NestedKey × Addr × V)) (k : NestedKey) (b : Addr) (v : V) : List (NestedKey × Addr × V) := if (atE es k).isSome then es.map (fun x => if x.1 = k then (x.1, x.2.1, v) else x) else es ++ [(k, b, v)]
theorem Ents.at {es : List (NestedKey × Addr × V)} {xs : List (NestedKey × Addr × Value)} (r : Ents es xs) (k : NestedKey) : (atE es k = none ∧ atKey xs k = none) ∨ ∃ b v u, atE es k = some (b, v) ∧ atKey xs k = some (b, u) ∧ RelV v u := by
  induction r with
  | nil => exact .inl ⟨rfl, rfl⟩
  | @cons p q ps qs h t ih =>
    obtain ⟨h1, h2, h3⟩ := h
    unfold atE atKey
    rw [List.find?_cons, List.find?_cons, ← h1]
    by_cases hk : p.1 = k
    · simp only [hk, decide_true, Option.map_some]
      exact .inr ⟨p.2.1, p.2.2, q.2.2, rfl, by rw [h2], h3⟩
    · simp only [hk, decide_false]
      exact ih
theorem Ents.len {es : List (NestedKey × Addr × V)} {xs : List (NestedKey × Addr × Value)} (r : Ents es xs) : es.length = xs.length := by
  induction r with
  | nil => rfl
  | cons h t ih => simp [ih]
theorem Ents.put {es : List (NestedKey × Addr × V)} {xs : List (NestedKey × Addr × Value)} (r : Ents es xs) (k : NestedKey) (b : Addr) {v : V} {u : Value} (rv : RelV v u) : Ents (putE es k b v) (storedH xs k b u) := by
  have hmap : Ents (es.map fun x => if x.1 = k then (x.1, x.2.1, v) else x) (xs.map (putAt k u)) := by
    induction r with
    | nil => exact .nil
    | @cons p q ps qs h t ih =>
      refine .cons ?_ ih
      obtain ⟨h1, h2, h3⟩ := h
      show (if p.1 = k then (p.1, p.2.1, v) else p).1 = (if q.1 = k then (q.1, q.2.1, u) else q).1 ∧ (if p.1 = k then (p.1, p.2.1, v) else p).2.1 = (if q.1 = k then (q.1, q.2.1, u) else q).2.1 ∧ RelV (if p.1 = k then (p.1, p.2.1, v) else p).2.2 (if q.1 = k then (q.1, q.2.1, u) else q).2.2
      rw [← h1]
      by_cases hk : p.1 = k
      · rw [if_pos hk, if_pos hk]; exact ⟨rfl, h2, rv⟩
      · rw [if_neg hk, if_neg hk]; exact ⟨h1, h2, h3⟩
  have happ : Ents (es ++ [(k, b, v)]) (xs ++ [(k, b, u)]) := by
    clear hmap
    induction r with
    | nil => exact .cons ⟨rfl, rfl, rv⟩ .nil
    | cons h t ih => exact .cons h ih
  unfold putE storedH
  rcases r.at k with ⟨e1, e2⟩ | ⟨_, _, _, e1, e2, _⟩
  · rw [e1, e2]; exact happ
  · rw [e1, e2]; exact hmap
end
/-! ### a dict, one's own or a datum -/
def dictW : W → Option (List (Dt × Cl))
  | .dct kvs => some kvs
  | .dat (.dict ((.none, .none) :: kvs)) => some (kvs.map fun p => (p.1, .d p.2))
  | _ => none
inductive EK (K : PySem.W.Frag) (G : Hp) : List (NestedKey × Addr × V) → List (Dt × Cl) → Prop
  | nil : EK K G [] []
  | cons {k : NestedKey} {b : Addr} {v : V} {kd : Dt} {c : Cl} {es : List (NestedKey × Addr × V)} {kvs : List (Dt × Cl)} : DR K G (.ref b) kd → keyOf kd = some k → (∀ x, c = .d x → DR K G v x) → EK K G es kvs → EK K G ((k, b, v) :: es) ((kd, c) :: kvs)
section
variable {K : PySem.W.Frag} {C : Ct} {G O H : Hp}
theorem EK.of_own {es : List (NestedKey × Addr × V)} {kvs : List (Dt × Cl)} {fp : List Addr} (r : DCs K C G O es kvs fp) : EK K G es kvs := by
  induction r with
  | nil => exact .nil
  | cons a b c _ _ ih => exact .cons a b (fun x e => by subst e; exact c.1) ih
theorem EK.keys {es : List (NestedKey × Addr × V)} {kvs : List (Dt × Cl)} (r : EK K G es kvs) : KeysIn K G es := by
  induction r with
  | nil => intro e he; cases he
  | cons a b c _ ih =>
    intro e he
    rcases List.mem_cons.mp he with rfl | he
    · exact ⟨_, a, b⟩
    · exact ih e he
/-- what stands at a key -/
def lkC (kvs : List (Dt × Cl)) (k : NestedKey) : Option Cl := (kvs.find? fun p => decide (keyOf p.1 = some k)).map (·.2)
theorem EK.at {es : List (NestedKey × Addr × V)} {kvs : List (Dt × Cl)} (r : EK K G es kvs) (k : NestedKey) : (lkC kvs k = none ∧ atE es k = none) ∨ ∃ c b v, lkC kvs k = some c ∧ atE es k = some (b, v) ∧ ∀ x, c = .d x → DR K G v x := by
  induction r with
  | nil => exact .inl ⟨rfl, rfl⟩
  | @cons k' b v kd c es kvs a h1 h2 _ ih =>
    unfold lkC atE
    rw [List.find?_cons, List.find?_cons, h1]
    by_cases hk : k' = k
    · simp only [hk, decide_true, Option.map_some]
      exact .inr ⟨c, b, v, rfl, rfl, h2⟩
    · have : ¬ (some k' = some k) := fun e => hk (Option.some.inj e)
      simp only [hk, this, decide_false]
      exact ih
theorem EK.len {es : List (NestedKey × Addr × V)} {kvs : List (Dt × Cl)} (r : EK K G es kvs) : es.length = kvs.length := by
  induction r with
  | nil => rfl
  | cons _ _ _ _ ih => simp [ih]
end
/-- a key that may stand in a dict -/
def kOk (d : Dt) : Option NestedKey := match d with
  | .tuple ds => (keyOf (.tuple ds)).bind fun k => if k.depth ≤ 8 then some k else none
  | _ => none
theorem kOk_ok {d : Dt} {k : NestedKey} (h : kOk d = some k) : (∃ ds, d = .tuple ds) ∧ keyOf d = some k ∧ k.depth ≤ 8 := by
  unfold kOk at h
  split at h
  · next ds =>
    simp only [Option.bind_eq_some_iff] at h
    obtain ⟨k', h1, h2⟩ := h
    split at h2
    · next hd => cases h2; exact ⟨⟨ds, rfl⟩, h1, hd⟩
    · cases h2
  · cases h
end VL


set_option maxRecDepth 100000
set_option maxHeartbeats 2000000
namespace VL
open PySem PySem.Spec PyProof.Rows L2
/-! ### k in d, d[k], d[k] = v -/
/-- a dict at a, a key's tuple at b -/
structure DkAt (K : PySem.W.Frag) (H : Hp) (a b : Addr) (es : List (NestedKey × Addr × V)) (k : NestedKey) : Prop where
  at_ : ∃ o, H a = some (DictO a es o)
  dr : ∃ G, Same G H ∧ KeysIn K G es ∧ ∃ kd, DR K G (.ref b) kd ∧ keyOf kd = some k ∧ k.depth ≤ 8
section
variable {X : Cx}
end
end VL


set_option maxRecDepth 100000
set_option maxHeartbeats 2000000
namespace VL
open PySem PySem.Spec PyProof.Rows L2
/-! ### k in d, d[k]: d a name -/
section
variable {X : Cx} {U : WX} {a b : Expr} {ta tb : XT} {pos : Pos}
end
/-! ### d[k] = v: d one's own -/
def putC (kvs : List (Dt × Cl)) (q : NestedKey) (kd x : Dt) : List (Dt × Cl) := if (lkC kvs q).isSome then kvs.map (fun p => if keyOf p.1 = some q then (p.1, .d x) else p) else kvs ++ [(kd, .d x)]
/-- all that stands in it are data -/
def allD (kvs : List (Dt × Cl)) : Bool := kvs.all fun p => match p.2 with | .d _ => true | .l _ => false
section
variable {K : PySem.W.Frag} {C : Ct} {G O : Hp}
theorem DCs.put {es : List (NestedKey × Addr × V)} {kvs : List (Dt × Cl)} (r : DCs K C G O es kvs []) {q : NestedKey} {b : Addr} {v : V} {kd x : Dt} (rk : DR K G (.ref b) kd) (hk : keyOf kd = some q) (rv : DR K G v x) : DCs K C G O (putE es q b v) (putC kvs q kd x) [] := by
  have ek : EK K G es kvs := .of_own r
  have hmap : ∀ {es : List (NestedKey × Addr × V)} {kvs : List (Dt × Cl)} {fp : List Addr}, DCs K C G O es kvs fp → fp = [] → DCs K C G O (es.map fun x => if x.1 = q then (x.1, x.2.1, v) else x) (kvs.map fun p => if keyOf p.1 = some q then (p.1, .d x) else p) [] := by
    intro es kvs fp r
    induction r with
    | nil => intro _; exact .nil
    | @cons k b' v' kd' c fp fps es kvs a h1 h2 h3 r ih =>
      intro e
      obtain ⟨rfl, rfl⟩ := List.append_eq_nil_iff.mp e
      rw [List.map_cons, List.map_cons]
      by_cases hq : k = q
      · have e1 : keyOf kd' = some q := by rw [h1, hq]
        rw [if_pos (show (k, b', v').1 = q from hq), if_pos (show keyOf (kd', c).1 = some q from e1)]
        exact DCs.cons (fp := []) (fps := []) a h1 ⟨rv, rfl⟩ (fun x hx => by cases hx) (ih rfl)
      · have e1 : ¬ keyOf kd' = some q := fun z => hq (by rw [h1] at z; exact Option.some.inj z)
        rw [if_neg (show ¬ (k, b', v').1 = q from hq), if_neg (show ¬ keyOf (kd', c).1 = some q from e1)]
        exact DCs.cons (fp := []) (fps := []) a h1 h2 (fun x hx => by cases hx) (ih rfl)
  have happ : ∀ {es : List (NestedKey × Addr × V)} {kvs : List (Dt × Cl)} {fp : List Addr}, DCs K C G O es kvs fp → DCs K C G O (es ++ [(q, b, v)]) (kvs ++ [(kd, .d x)]) fp := by
    intro es kvs fp r
    induction r with
    | nil => exact DCs.cons (fp := []) (fps := []) rk hk ⟨rv, rfl⟩ (fun x hx => by cases hx) .nil
    | cons a h1 h2 h3 r ih => exact DCs.cons a h1 h2 h3 ih
  unfold putE putC
  rcases ek.at q with ⟨e1, e2⟩ | ⟨_, _, _, e1, e2, _⟩
  · rw [e1, e2]; exact happ r
  · rw [e1, e2]; exact hmap r rfl
theorem DCs.same {O' : Hp} {es : List (NestedKey × Addr × V)} {kvs : List (Dt × Cl)} (r : DCs K C G O es kvs []) : DCs K C G O' es kvs [] := by
  have key : ∀ {es : List (NestedKey × Addr × V)} {kvs : List (Dt × Cl)} {fp : List Addr}, DCs K C G O es kvs fp → fp = [] → DCs K C G O' es kvs [] := by
    intro es kvs fp r
    induction r with
    | nil => intro _; exact .nil
    | @cons k b' v' kd' c fp fps es kvs a h1 h2 h3 r ih =>
      intro e
      obtain ⟨rfl, rfl⟩ := List.append_eq_nil_iff.mp e
      refine DCs.cons (fp := []) (fps := []) a h1 ?_ (fun x hx => by cases hx) (ih rfl)
      cases c with
      | d x => exact h2
      | l ds => obtain ⟨_, _, _, e, _⟩ := h2; cases e
  exact key r rfl
end
end VL


set_option maxRecDepth 100000
set_option maxHeartbeats 2000000
namespace VL
open PySem PySem.Spec PyProof.Rows L2
/-! ### d[k] = v -/
def setKK2 (k : Nat) (kvs : List (Dt × Cl)) (ρ : Nv) (x d : Dt) : T Fl := match kOk d with
  | some q => if allD kvs = true ∧ kvs.length < sizeLine then .ret (.nx (ρ.set k (some (.dct (putC kvs q d x))))) else .fail
  | none => .fail
section
variable {X : Cx} {U : WX} {o i value : Expr} {tk tv : XT} {pos pos' : Pos}
end
end VL


set_option maxRecDepth 100000
set_option maxHeartbeats 2000000
namespace VL
open PySem PySem.Spec PyProof.Rows L2
/-! ### {k: v} -/
section
variable {K : PySem.W.Frag} {C : Ct} {σ : L2.St} {ρ : Nv} {n : Sn} {G O H : Hp} {F : Nat → List Addr}
end
section
variable {X : Cx} {U : WX} {k v : Expr} {tk tv : XT} {pos : Pos}
end
end VL


set_option maxRecDepth 100000
set_option maxHeartbeats 2000000
namespace VL
open PySem PySem.Spec PyProof.Rows L2
/-! ### for k, v in d.items(); for k in d -/
section
variable {X : Cx} {pins : List (Addr × Obj)} {σ : L2.St} {H : Hp} {s : Shared}
end
end VL


set_option maxRecDepth 100000
set_option maxHeartbeats 2000000
namespace VL
open PySem PySem.Spec PyProof.Rows L2
/-! ### a dict of the module: texts to ints -/
def SdAt (o : Option Int) (r : Option Value) : Prop := match o with
  | some i => ∃ t, r = some (.int i t)
  | none => r = none
structure SD (K : PySem.W.Frag) (w : World) (a : Addr) (kvs : List (Str × Int)) : Prop where
  kd : ∃ es n, KDict K w a es n ∧ ∀ z, SdAt (kvs.lookup z) (findBy Value.isStrOf es z)
section
variable {X : Cx} {U : WX} {e f : Expr} {apos cpos gpos : Pos} {te tf : XT} {a : Addr} {kvs : List (Str × Int)}
end
/-! ### k in G, G[k] -/
section
variable {X : Cx} {U : WX} {e : Expr} {gpos pos : Pos} {te : XT} {a : Addr} {kvs : List (Str × Int)}
end
/-! ### {'a': e1, 'b': e2}.get(k, f) -/
section
variable {X : Cx} {U : WX} {e1 e2 k f : Expr} {apos cpos dpos p1 p2 : Pos} {a b : Str} {j1 j2 : Nat} {t1 t2 tk tf : XT}
end
end VL


set_option maxRecDepth 100000
set_option maxHeartbeats 2000000
namespace VL
open PySem PySem.Spec PyProof.Rows L2
/-! ### what a lambda sees, name by name -/
def capX : Option W → Option W
  | none => none
  | some w => if capW w = true then some w else none
theorem capN : capR [] = [] := rfl
theorem capC {x : Option W} {r : Nv} : capR (x :: r) = capX x :: capR r := by cases x <;> rfl
end VL


set_option maxRecDepth 100000
set_option maxHeartbeats 2000000
namespace VL
open PySem PySem.Spec PyProof.Rows L2
section
variable {X : Cx} {U : WX} {e b : Expr} {pos : Pos} {tb : XT} {al : XA}
/-! ### y = x.pop() -/
theorem DRs.dropLast {K : PySem.W.Frag} {G : Hp} {ds : List Dt} {vs : List V} (r : DRs K G vs ds) : DRs K G vs.dropLast ds.dropLast := by
  rw [List.dropLast_eq_take, List.dropLast_eq_take, r.length]
  exact r.take _
/-! ### x.extend(l) -/
/-! ### one's own list compared -/
end
end VL


set_option maxRecDepth 100000
set_option maxHeartbeats 2000000
namespace VL
open PySem PySem.Spec PyProof.Rows L2
/-! ### d.get(k), d.get(k, x) -/
section
variable {X : Cx} {U : WX} {o e f : Expr} {to te tf : XT} {apos cpos : Pos}
/-- what d.get(k, x) gives -/
def dgOr (w : W) (d x : Dt) : T Dt := match dictW w, kOk d with
  | some kvs, some q => match lkC kvs q with
    | some (.d y) => .ret y
    | some (.l _) => .fail
    | none => .ret x
  | _, _ => .fail
end
end VL


set_option maxRecDepth 100000
set_option maxHeartbeats 2000000
namespace VL
open PySem PySem.Spec PyProof.Rows L2
/-! ### for k, v in d.items(); for k in d -/
section
variable {X : Cx} {U : WX} {tg e : Expr} {apos cpos : Pos} {td : TE} {te : XT}
end
theorem DKs.get {K : PySem.W.Frag} {G : Hp} : ∀ {es : List (NestedKey × Addr × V)} {kvs : List (Dt × Dt)} {i : Nat} {p : Dt × Dt}, DKs K G es kvs → kvs[i]? = some p → ∃ k b v, es[i]? = some (k, b, v) ∧ DR K G (.ref b) p.1 ∧ DR K G v p.2
  | _, _, i, p, .nil, e => by simp at e
  | _, _, i, p, .cons a _ b r, e => by
    cases i with
    | zero => simp at e; subst e; exact ⟨_, _, _, rfl, a, b⟩
    | succ i => exact DKs.get r (i := i) (by simpa using e)
theorem DKs.length {K : PySem.W.Frag} {G : Hp} : ∀ {es : List (NestedKey × Addr × V)} {kvs : List (Dt × Dt)}, DKs K G es kvs → es.length = kvs.length
  | _, _, .nil => rfl
  | _, _, .cons _ _ _ r => by simp [DKs.length r]
section
variable {X : Cx} {U : WX} {tg e : Expr} {apos cpos : Pos} {te : XT}
end
end VL


set_option maxRecDepth 100000
set_option maxHeartbeats 2000000
namespace VL
open PySem PySem.Spec PyProof.Rows L2
/-! ### a < b of data -/
section
open Classical
noncomputable def pLtA (a b : Dt) : Option Dt := match a, b with
  | .int i, .int j => some (.bool (decide (i < j)))
  | .tuple xs, .tuple ys => if PySem.W.alike (.tuple xs) (.tuple ys) = true ∧ (PyData.tuple xs).hasDict = false ∧ (PyData.tuple ys).hasDict = false ∧ (PyData.tuple xs).depth ≤ 60 then some (.bool (PySem.W.dataLt (.tuple xs) (.tuple ys))) else none
  | _, _ => none
variable {X : Cx}
theorem pLtA_i {i j : Int} : pLtA (.int i) (.int j) = some (.bool (decide (i < j))) := rfl
theorem op_ltD (hu : X.A.units + 65 < cLine) : VOp X (compareOp .Lt) (RO fun a b => match a, b with | .tuple xs, .tuple ys => if PySem.W.alike (.tuple xs) (.tuple ys) = true ∧ (PyData.tuple xs).hasDict = false ∧ (PyData.tuple ys).hasDict = false ∧ (PyData.tuple xs).depth ≤ 60 then some (.bool (PySem.W.dataLt (.tuple xs) (.tuple ys))) else none | _, _ => none) := by
  intro pins s σ H x y v u Q I rx ry ⟨G, d1, d2, Q0, sg, r1, r2, q, hq⟩
  obtain ⟨d, e, q⟩ := q.at
  split at e
  · next xs ys =>
    obtain ⟨⟨h1, h2, h3, h4⟩, rfl⟩ := ite_at e
    obtain ⟨as, ra⟩ := Dp.reads I _ _ _ (DR.dp h2 (DR.same sg r1)) rx
    obtain ⟨bs, rb⟩ := Dp.reads I _ _ _ (DR.dp h3 (DR.same sg r2)) ry
    exact PySem.W.rcLt_alike (.tuple xs) (.tuple ys) X.A s v u as bs ra rb h1 (by simp) (by omega) X.prog X.w X.xe _ ⟨.bl _, H, I, rfl, hq _ q _ G H (Same.refl _) (Same.refl _) sg New.refl (.bl _)⟩
  · cases e
theorem p_ltA (hu : X.A.units + 65 < cLine) : VOp X (compareOp .Lt) (RO pLtA) := by
  intro pins s σ H x y v u Q I rx ry ⟨G, d1, d2, Q0, sg, r1, r2, q, hq⟩
  obtain ⟨d, e, q2⟩ := q.at
  unfold pLtA at e
  split at e
  · next i j => exact p_lt pins s σ H x y v u Q I rx ry ⟨G, .int i, .int j, Q0, sg, r1, r2, by unfold RO pLt; cases e; exact q2, hq⟩
  · next xs ys => exact op_ltD hu pins s σ H x y v u Q I rx ry ⟨G, .tuple xs, .tuple ys, Q0, sg, r1, r2, by unfold RO; simp only [e]; exact q2, hq⟩
  · cases e
/-! ### sorted -/
end
end VL


set_option maxRecDepth 100000
set_option maxHeartbeats 2000000
namespace VL
open PySem PySem.Spec PyProof.Rows L2
section
open Classical
variable {X : Cx}
end
end VL


set_option maxRecDepth 100000
set_option maxHeartbeats 2000000
namespace VL
open PySem PySem.Spec PyProof.Rows L2
/-! ### sorted(d.items()) -/
section
open Classical
variable {X : Cx} {U : WX} {e : Expr} {apos cpos p pos : Pos} {td : TE} {te : XT}
end
end VL


set_option maxRecDepth 100000
set_option maxHeartbeats 2000000
namespace VL
open PySem PySem.Spec PyProof.Rows L2
/-! ### dicts on the plain side: keys of a type α, as data by en -/
theorem dictW_c {kvs : List (Dt × Cl)} : dictW (.dct kvs) = some kvs := rfl
theorem dictW_d {kvs : List (Dt × Dt)} : dictW (.dat (.dict ((.none, .none) :: kvs))) = some (kvs.map fun p => (p.1, .d p.2)) := rfl
structure Enc (α : Type) where
  en : α → Dt
  ke : α → NestedKey
  ok : ∀ a, kOk (en a) = some (ke a)
  inj : ∀ a b, ke a = ke b → a = b
section
variable {α : Type} [DecidableEq α] (E : Enc α)
def Enc.dc (m : List (α × Dt)) : List (Dt × Cl) := m.map fun p => (E.en p.1, .d p.2)
def Enc.dd (m : List (α × Dt)) : Dt := .dict ((.none, .none) :: m.map fun p => (E.en p.1, p.2))
def lkA (m : List (α × Dt)) (a : α) : Option Dt := (m.find? fun p => decide (p.1 = a)).map (·.2)
def putA (m : List (α × Dt)) (a : α) (x : Dt) : List (α × Dt) := if (lkA m a).isSome then m.map (fun p => if p.1 = a then (p.1, x) else p) else m ++ [(a, x)]
theorem Enc.keyE (a b : α) : decide (keyOf (E.en a) = some (E.ke b)) = decide (a = b) := by
  obtain ⟨_, h, _⟩ := kOk_ok (E.ok a)
  rw [h]
  by_cases e : a = b
  · subst e; simp
  · rw [decide_eq_false e, decide_eq_false]
    intro q
    exact e (E.inj _ _ (Option.some.inj q))
theorem Enc.lk (m : List (α × Dt)) (a : α) : lkC (E.dc m) (E.ke a) = (lkA m a).map .d := by
  unfold lkC lkA Enc.dc
  rw [List.find?_map, Option.map_map, Option.map_map]
  have : ((fun p : Dt × Cl => decide (keyOf p.1 = some (E.ke a))) ∘ fun p : α × Dt => (E.en p.1, Cl.d p.2)) = fun p : α × Dt => decide (p.1 = a) := by
    funext p
    exact E.keyE p.1 a
  rw [this]
  rfl
theorem Enc.put (m : List (α × Dt)) (a : α) (x : Dt) : putC (E.dc m) (E.ke a) (E.en a) x = E.dc (putA m a x) := by
  unfold putC putA
  rw [E.lk, Option.isSome_map]
  split
  · unfold Enc.dc
    rw [List.map_map, List.map_map]
    refine List.map_congr_left fun p _ => ?_
    have := E.keyE p.1 a
    simp only [Function.comp]
    by_cases e : p.1 = a
    · rw [decide_eq_true e, decide_eq_true_eq] at this
      rw [if_pos this, if_pos e]
    · rw [decide_eq_false e, decide_eq_false_iff_not] at this
      rw [if_neg this, if_neg e]
  · unfold Enc.dc
    rw [List.map_append]
    rfl
theorem Enc.all (m : List (α × Dt)) : allD (E.dc m) = true := by
  unfold allD Enc.dc
  rw [List.all_map, List.all_eq_true]
  intro p _
  rfl
theorem Enc.len (m : List (α × Dt)) : (E.dc m).length = m.length := by unfold Enc.dc; rw [List.length_map]
theorem Enc.fz (m : List (α × Dt)) : fzW (.dct (E.dc m)) = E.dd m := by
  simp only [fzW, Enc.dc, Enc.dd, List.map_map]
  rfl
theorem Enc.dw (m : List (α × Dt)) : dictW (.dat (E.dd m)) = some (E.dc m) := by
  unfold Enc.dd Enc.dc
  rw [dictW_d, List.map_map]
  rfl
theorem Enc.nil : E.dc [] = [] := rfl
theorem Enc.one (a : α) (x : Dt) : [(E.en a, Cl.d x)] = E.dc [(a, x)] := rfl
end
/-! ### the rules of the mirrors on such dicts -/
section
variable {α : Type} [DecidableEq α] (E : Enc α)
theorem Enc.setK {k : Nat} {ρ : Nv} {m : List (α × Dt)} {a : α} {x : Dt} (h : m.length < 16777216) : setKK2 k (E.dc m) ρ x (E.en a) = .ret (.nx (ρ.set k (some (.dct (E.dc (putA m a x)))))) := by
  unfold setKK2
  simp only [E.ok, E.all, E.len, E.put, sizeL, h, and_self, if_true]
theorem Enc.orK {w : W} {m : List (α × Dt)} {a : α} {x : Dt} (hw : dictW w = some (E.dc m)) : dgOr w (E.en a) x = .ret ((lkA m a).getD x) := by
  unfold dgOr
  simp only [hw, E.ok, E.lk]
  cases lkA m a <;> rfl
end
/-- two numbers as a key -/
def en2 (s : Int × Int) : Dt := .tuple [.int s.1, .int s.2]
def ke2 (s : Int × Int) : NestedKey := .tup [.num s.1, .num s.2]
def E2 : Enc (Int × Int) := ⟨en2, ke2, fun s => by
  unfold kOk en2
  simp only [keyOf, keysOf, Option.bind_some, Option.map_some]
  rw [if_pos (by simp [NestedKey.depth, NestedKey.depthAll])]
  rfl, fun a b h => by
  simp only [ke2, NestedKey.tup.injEq, List.cons.injEq, NestedKey.num.injEq, and_true] at h
  exact Prod.ext h.1 h.2⟩
/-- two such keys as one -/
def EP {α : Type} (E : Enc α) (hd : ∀ a, (E.ke a).depth ≤ 7) : Enc (α × α) := ⟨fun p => .tuple [E.en p.1, E.en p.2], fun p => .tup [E.ke p.1, E.ke p.2], fun p => by
  obtain ⟨_, h1, _⟩ := kOk_ok (E.ok p.1)
  obtain ⟨_, h2, _⟩ := kOk_ok (E.ok p.2)
  unfold kOk
  simp only [keyOf, keysOf, h1, h2, Option.bind_some, Option.map_some]
  rw [if_pos]
  have a1 := hd p.1
  have a2 := hd p.2
  simp only [NestedKey.depth, NestedKey.depthAll]
  omega, fun a b h => by
  simp only [NestedKey.tup.injEq, List.cons.injEq, and_true] at h
  exact Prod.ext (E.inj _ _ h.1) (E.inj _ _ h.2)⟩
end VL


set_option maxRecDepth 100000
set_option maxHeartbeats 2000000
namespace VL
/-! ### plain: what rows lead to -/
section
variable {S : Type} [DecidableEq S] (nx : S → Int → S) (cs : List Int)
/-- a row of codes leads from a to b -/
def Led (a b : S) : Prop := ∃ r : List Int, (∀ k ∈ r, k ∈ cs) ∧ r.foldl nx a = b
/-- closed under the codes -/
def Clo (ks : List S) : Prop := ∀ s ∈ ks, ∀ k ∈ cs, nx s k ∈ ks
theorem Led.snoc {nx : S → Int → S} {cs : List Int} {a b : S} {k : Int} (h : Led nx cs a b) (hk : k ∈ cs) : Led nx cs a (nx b k) := by
  obtain ⟨r, hr, rfl⟩ := h
  refine ⟨r ++ [k], fun j hj => ?_, by rw [List.foldl_append]; rfl⟩
  rcases List.mem_append.mp hj with q | q
  · exact hr j q
  · rw [List.mem_singleton.mp q]; exact hk
/-! ### the queue -/
/-- the row of a state -/
def rowA (F : List (S × List Int)) (s : S) : Option (List Int) := (F.find? fun p => decide (p.1 = s)).map (·.2)
/-- the shorter row, or the lesser one -/
def slt (a b : List Int) : Prop := a.length < b.length ∨ a.length = b.length ∧ a < b
def sle (a b : List Int) : Prop := slt a b ∨ a = b
theorem lex_snoc {a b : List Int} {x y : Int} (hl : a.length = b.length) (h : a < b) : a ++ [x] < b ++ [y] := by
  induction a generalizing b with
  | nil =>
    cases b with
    | nil => exact absurd h (List.lt_irrefl _)
    | cons => simp at hl
  | cons c a ih =>
    cases b with
    | nil => simp at hl
    | cons d b =>
      rw [List.cons_append, List.cons_append]
      rw [List.cons_lt_cons_iff] at h ⊢
      rcases h with h | ⟨rfl, h⟩
      · exact .inl h
      · exact .inr ⟨rfl, ih (by simpa using hl) h⟩
theorem lex_last {a : List Int} {x y : Int} (h : x < y) : a ++ [x] < a ++ [y] := by
  induction a with
  | nil => rw [List.nil_append, List.nil_append, List.cons_lt_cons_iff]; exact .inl h
  | cons c a ih => rw [List.cons_append, List.cons_append, List.cons_lt_cons_iff]; exact .inr ⟨rfl, ih⟩
theorem slt_snoc {a b : List Int} {x y : Int} (h : slt a b) : slt (a ++ [x]) (b ++ [y]) := by
  rcases h with h | ⟨hl, h⟩
  · exact .inl (by simpa using h)
  · exact .inr ⟨by simpa using hl, lex_snoc hl h⟩
theorem slt_last {a : List Int} {x y : Int} (h : x < y) : slt (a ++ [x]) (a ++ [y]) := .inr ⟨by simp, lex_last h⟩
theorem slt_trans {a b c : List Int} (h : slt a b) (h' : slt b c) : slt a c := by
  rcases h with h | ⟨hl, h⟩ <;> rcases h' with h' | ⟨hl', h'⟩
  · exact .inl (by omega)
  · exact .inl (by omega)
  · exact .inl (by omega)
  · exact .inr ⟨by omega, List.lt_trans h h'⟩
theorem sle_trans {a b c : List Int} (h : sle a b) (h' : sle b c) : sle a c := by
  rcases h with h | rfl
  · rcases h' with h' | rfl
    · exact .inl (slt_trans h h')
    · exact .inl h
  · exact h'
theorem slt_sle {a b c : List Int} (h : slt a b) (h' : sle b c) : slt a c := by
  rcases h' with h' | rfl
  · exact slt_trans h h'
  · exact h
theorem sle_slt {a b c : List Int} (h : sle a b) (h' : slt b c) : slt a c := by
  rcases h with h | rfl
  · exact slt_trans h h'
  · exact h'
theorem slt_irrefl {a : List Int} : ¬ slt a a := fun h => by
  rcases h with h | ⟨_, h⟩
  · omega
  · exact List.lt_irrefl _ h
theorem sle_anti {a b : List Int} (h : sle a b) (h' : sle b a) : a = b := by
  rcases h with h | h
  · exact absurd (slt_sle h h') slt_irrefl
  · exact h
theorem sle_snoc {a b : List Int} {x : Int} (h : sle a b) : sle (a ++ [x]) (b ++ [x]) := by
  rcases h with h | rfl
  · exact .inl (slt_snoc h)
  · exact .inr rfl
/-- what stands while the queue is worked on: p is worked on, with some codes done -/
structure Prt (one : S) (F : List (S × List Int)) (at_ : Nat) (p : S × List Int) (dn : List Int) : Prop where
  nd : (F.map (·.1)).Nodup
  hd : F[0]? = some (one, [])
  ok : ∀ q ∈ F, (∀ k ∈ q.2, k ∈ cs) ∧ q.2.foldl nx one = q.1
  ln : ∀ q ∈ F, q.2.length < F.length
  up : F.Pairwise fun p q => slt p.2 q.2
  hp : F[at_]? = some p
  od : ∀ i q, i < at_ → F[i]? = some q → ∀ k ∈ cs, ∃ u ∈ F, u.1 = nx q.1 k ∧ sle u.2 (q.2 ++ [k])
  nw : ∀ k ∈ dn, ∃ u ∈ F, u.1 = nx p.1 k ∧ sle u.2 (p.2 ++ [k])
  lo : ∀ q ∈ F, q.2 = [] ∨ ∃ r k, q.2 = r ++ [k] ∧ (slt r p.2 ∨ r = p.2 ∧ k ∈ dn)
structure Que (one : S) (F : List (S × List Int)) (at_ : Nat) : Prop where
  nd : (F.map (·.1)).Nodup
  hd : F[0]? = some (one, [])
  ok : ∀ q ∈ F, (∀ k ∈ q.2, k ∈ cs) ∧ q.2.foldl nx one = q.1
  ln : ∀ q ∈ F, q.2.length < F.length
  up : F.Pairwise fun p q => slt p.2 q.2
  od : ∀ i q, i < at_ → F[i]? = some q → ∀ k ∈ cs, ∃ u ∈ F, u.1 = nx q.1 k ∧ sle u.2 (q.2 ++ [k])
  lo : ∀ p, F[at_]? = some p → ∀ q ∈ F, q.2 = [] ∨ ∃ r k, q.2 = r ++ [k] ∧ slt r p.2
variable {nx cs}
theorem Que.one (a : S) : Que nx cs a [(a, [])] 0 := ⟨by simp, rfl, fun q hq => by rw [List.mem_singleton.mp hq]; exact ⟨(fun k hk => by cases hk), rfl⟩, fun q hq => by rw [List.mem_singleton.mp hq]; exact Nat.one_pos, List.pairwise_singleton _ _, fun i q hi => absurd hi (Nat.not_lt_zero _), fun p _ q hq => by rw [List.mem_singleton.mp hq]; exact .inl rfl⟩
theorem Que.prt {one : S} {F : List (S × List Int)} {at_ : Nat} {p : S × List Int} (h : Que nx cs one F at_) (hp : F[at_]? = some p) : Prt nx cs one F at_ p [] := ⟨h.nd, h.hd, h.ok, h.ln, h.up, hp, h.od, (fun k hk => by cases hk), fun q hq => by
  rcases h.lo p hp q hq with z | ⟨r, k, e, z⟩
  · exact .inl z
  · exact .inr ⟨r, k, e, .inl z⟩⟩
theorem Prt.old {one : S} {F : List (S × List Int)} {at_ : Nat} {p : S × List Int} {dn : List Int} (h : Prt nx cs one F at_ p dn) {k : Int} (hk : nx p.1 k ∈ F.map (·.1)) (hs : ∀ j ∈ dn, j < k) : Prt nx cs one F at_ p (dn ++ [k]) := by
  refine ⟨h.nd, h.hd, h.ok, h.ln, h.up, h.hp, h.od, fun j hj => ?_, fun q hq => ?_⟩
  · rcases List.mem_append.mp hj with z | z
    · exact h.nw j z
    · rw [List.mem_singleton.mp z]
      obtain ⟨u, hu, e⟩ := List.mem_map.mp hk
      refine ⟨u, hu, e, .inl ?_⟩
      rcases h.lo u hu with z | ⟨r, j, e', z | ⟨rfl, z⟩⟩
      · rw [z]; exact .inl (by simp)
      · rw [e']; exact slt_snoc z
      · rw [e']; exact slt_last (hs j z)
  · rcases h.lo q hq with z | ⟨r, j, e, z | ⟨rfl, z⟩⟩
    · exact .inl z
    · exact .inr ⟨r, j, e, .inl z⟩
    · exact .inr ⟨_, j, e, .inr ⟨rfl, List.mem_append_left _ z⟩⟩
theorem Prt.new {one : S} {F : List (S × List Int)} {at_ : Nat} {p : S × List Int} {dn : List Int} (h : Prt nx cs one F at_ p dn) {k : Int} (hc : k ∈ cs) (hk : nx p.1 k ∉ F.map (·.1)) (hs : ∀ j ∈ dn, j < k) : Prt nx cs one (F ++ [(nx p.1 k, p.2 ++ [k])]) at_ p (dn ++ [k]) := by
  have hpm : p ∈ F := List.mem_of_getElem? h.hp
  have lf : ∀ (i : Nat) (q : S × List Int), F[i]? = some q → (F ++ [(nx p.1 k, p.2 ++ [k])])[i]? = some q := fun i q e => by
    rw [List.getElem?_append_left (List.getElem?_eq_some_iff.mp e).1]; exact e
  have lt : ∀ q ∈ F, slt q.2 (p.2 ++ [k]) := fun u hu => by
    rcases h.lo u hu with z | ⟨r, j, e', z | ⟨rfl, z⟩⟩
    · rw [z]; exact .inl (by simp)
    · rw [e']; exact slt_snoc z
    · rw [e']; exact slt_last (hs j z)
  refine ⟨?_, lf _ _ h.hd, fun q hq => ?_, fun q hq => ?_, ?_, lf _ _ h.hp, fun i q hi hq j hj => ?_, fun j hj => ?_, fun q hq => ?_⟩
  · rw [List.map_append, List.nodup_append]
    exact ⟨h.nd, by simp, fun a ha b hb => by rw [List.map_singleton, List.mem_singleton] at hb; rw [hb]; exact fun e => hk (by have e' : a = nx p.1 k := e; rw [← e']; exact ha)⟩
  · rcases List.mem_append.mp hq with z | z
    · exact h.ok q z
    · rw [List.mem_singleton.mp z]
      refine ⟨fun j hj => ?_, by rw [List.foldl_append, (h.ok p hpm).2]; rfl⟩
      rcases List.mem_append.mp hj with y | y
      · exact (h.ok p hpm).1 j y
      · rw [List.mem_singleton.mp y]; exact hc
  · rw [List.length_append, List.length_singleton]
    rcases List.mem_append.mp hq with z | z
    · have := h.ln q z; omega
    · rw [List.mem_singleton.mp z, List.length_append, List.length_singleton]; have := h.ln p hpm; omega
  · rw [List.pairwise_append]
    exact ⟨h.up, List.pairwise_singleton _ _, fun q hq u hu => by rw [List.mem_singleton.mp hu]; exact lt q hq⟩
  · have hi' : i < F.length := Nat.lt_trans hi (List.getElem?_eq_some_iff.mp h.hp).1
    rw [List.getElem?_append_left hi'] at hq
    obtain ⟨u, hu, e⟩ := h.od i q hi hq j hj
    exact ⟨u, List.mem_append_left _ hu, e⟩
  · rcases List.mem_append.mp hj with z | z
    · obtain ⟨u, hu, e⟩ := h.nw j z
      exact ⟨u, List.mem_append_left _ hu, e⟩
    · rw [List.mem_singleton.mp z]
      exact ⟨_, List.mem_append_right _ (List.mem_singleton.mpr rfl), rfl, .inr rfl⟩
  · rcases List.mem_append.mp hq with z | z
    · rcases h.lo q z with y | ⟨r, j, e, y | ⟨rfl, y⟩⟩
      · exact .inl y
      · exact .inr ⟨r, j, e, .inl y⟩
      · exact .inr ⟨_, j, e, .inr ⟨rfl, List.mem_append_left _ y⟩⟩
    · rw [List.mem_singleton.mp z]
      exact .inr ⟨p.2, k, rfl, .inr ⟨rfl, by simp⟩⟩
theorem Prt.done {one : S} {F : List (S × List Int)} {at_ : Nat} {p : S × List Int} (h : Prt nx cs one F at_ p cs) : Que nx cs one F (at_ + 1) := by
  refine ⟨h.nd, h.hd, h.ok, h.ln, h.up, fun i q hi hq k hk => ?_, fun p' hp' q hq => ?_⟩
  · by_cases e : i = at_
    · subst e
      rw [h.hp] at hq
      cases hq
      exact h.nw k hk
    · exact h.od i q (by omega) hq k hk
  · have a1 := List.getElem?_eq_some_iff.mp h.hp
    have a2 := List.getElem?_eq_some_iff.mp hp'
    have lt : slt p.2 p'.2 := by
      have := List.pairwise_iff_getElem.mp h.up at_ (at_ + 1) a1.1 a2.1 (Nat.lt_succ_self _)
      rw [a1.2, a2.2] at this
      exact this
    rcases h.lo q hq with y | ⟨r, j, e, y | ⟨rfl, y⟩⟩
    · exact .inl y
    · exact .inr ⟨r, j, e, slt_trans y lt⟩
    · exact .inr ⟨_, j, e, lt⟩
/-- all that rows lead to stands there, each with the first of its shortest rows -/
theorem Que.min {one : S} {F : List (S × List Int)} (h : Que nx cs one F F.length) : ∀ (n : Nat) (r : List Int), r.length = n → (∀ k ∈ r, k ∈ cs) → ∃ q ∈ F, q.1 = r.foldl nx one ∧ sle q.2 r
  | 0, r, hl, _ => by
    have : r = [] := List.length_eq_zero_iff.mp hl
    subst this
    exact ⟨_, List.mem_of_getElem? h.hd, rfl, .inr rfl⟩
  | n + 1, r, hl, hr => by
    have hne : r ≠ [] := fun e => by rw [e] at hl; cases hl
    obtain ⟨r', k, rfl⟩ : ∃ r' k, r = r' ++ [k] := ⟨r.dropLast, r.getLast hne, (List.dropLast_concat_getLast hne).symm⟩
    obtain ⟨q, hq, e1, e2⟩ := Que.min h n r' (by simpa using hl) fun j hj => hr j (List.mem_append_left _ hj)
    obtain ⟨i, hi⟩ := List.mem_iff_getElem?.mp hq
    obtain ⟨u, hu, e3, e4⟩ := h.od i q (List.getElem?_eq_some_iff.mp hi).1 hi k (hr k (by simp))
    exact ⟨u, hu, by rw [e3, e1, List.foldl_append]; rfl, sle_trans e4 (sle_snoc e2)⟩
theorem Que.clo {one : S} {F : List (S × List Int)} (h : Que nx cs one F F.length) : Clo nx cs (F.map (·.1)) := fun s hs k hk => by
  obtain ⟨q, hq, rfl⟩ := List.mem_map.mp hs
  obtain ⟨i, hi⟩ := List.mem_iff_getElem?.mp hq
  obtain ⟨u, hu, e, _⟩ := h.od i q (List.getElem?_eq_some_iff.mp hi).1 hi k hk
  rw [← e]
  exact List.mem_map.mpr ⟨u, hu, rfl⟩
theorem Que.at0 {one : S} {F : List (S × List Int)} {at_ : Nat} (h : Que nx cs one F at_) : one ∈ F.map (·.1) := List.mem_map.mpr ⟨_, List.mem_of_getElem? h.hd, rfl⟩
theorem rowA_some {F : List (S × List Int)} {s : S} {r : List Int} (nd : (F.map (·.1)).Nodup) : rowA F s = some r ↔ (s, r) ∈ F := by
  induction F with
  | nil => simp [rowA]
  | cons p m ih =>
    rw [List.map_cons, List.nodup_cons] at nd
    unfold rowA at ih ⊢
    rw [List.find?_cons]
    by_cases e : p.1 = s
    · simp only [e, decide_true, Option.map_some, Option.some.injEq, List.mem_cons]
      constructor
      · rintro rfl; exact .inl (by rw [← e])
      · rintro (q | q)
        · rw [← q]
        · exact absurd (List.mem_map.mpr ⟨_, q, rfl⟩) (by rw [e] at nd; exact nd.1)
    · simp only [e, decide_false, List.mem_cons]
      rw [ih nd.2]
      constructor
      · exact .inr
      · rintro (q | q)
        · exact absurd (by rw [← q]) e
        · exact q
/-- the rows are told: the least of all that lead there -/
theorem Que.row {one : S} {F : List (S × List Int)} (h : Que nx cs one F F.length) {s : S} {r : List Int} : rowA F s = some r ↔ ((∀ k ∈ r, k ∈ cs) ∧ r.foldl nx one = s ∧ ∀ r', (∀ k ∈ r', k ∈ cs) → r'.foldl nx one = s → sle r r') := by
  rw [rowA_some h.nd]
  constructor
  · intro hm
    refine ⟨(h.ok _ hm).1, (h.ok _ hm).2, fun r' hr' e => ?_⟩
    obtain ⟨q, hq, e1, e2⟩ := h.min r'.length r' rfl hr'
    have : rowA F s = some q.2 := (rowA_some h.nd).mpr (by rw [← e, ← e1]; exact hq)
    rw [(rowA_some h.nd).mpr hm] at this
    cases this
    exact e2
  · rintro ⟨h1, h2, h3⟩
    obtain ⟨q, hq, e1, e2⟩ := h.min r.length r rfl h1
    have := h3 q.2 (h.ok q hq).1 (by rw [(h.ok q hq).2, e1, h2])
    have e := sle_anti this e2
    rw [e, ← h2, ← e1]
    exact hq
theorem Que.same {one : S} {F F' : List (S × List Int)} (h : Que nx cs one F F.length) (h' : Que nx cs one F' F'.length) (s : S) : rowA F s = rowA F' s := by
  cases e : rowA F s with
  | some r => exact (h'.row.mpr (h.row.mp e)).symm
  | none =>
    cases e' : rowA F' s with
    | none => rfl
    | some r => rw [h.row.mpr (h'.row.mp e')] at e; cases e
end
end VL


set_option maxRecDepth 100000
set_option maxHeartbeats 2000000
namespace VL
open PySem PySem.Spec PyProof.Rows L2
theorem rOfT_c {kvs : List (Dt × Cl)} : rOfT (.dct kvs) = .ret (fzW (.dct kvs)) := rfl
/-! ### sorted on the plain side -/
/-! ### a stack of states -/
section
variable {S : Type} [DecidableEq S] (nx : S → Int → S) (cs : List Int)
/-- what stands while a stack is worked on -/
structure Stk (one : S) (F todo : List S) : Prop where
  nd : F.Nodup
  hd : one ∈ F
  ok : ∀ s ∈ F, Led nx cs one s
  sub : ∀ s ∈ todo, s ∈ F
  dn : ∀ s ∈ F, s ∉ todo → ∀ k ∈ cs, nx s k ∈ F
/-- p is worked on, with some codes done -/
structure StP (one : S) (F todo : List S) (p : S) (dn : List Int) : Prop where
  nd : F.Nodup
  hd : one ∈ F
  ok : ∀ s ∈ F, Led nx cs one s
  sub : ∀ s ∈ todo, s ∈ F
  hp : p ∈ F
  od : ∀ s ∈ F, s ∉ todo → s ≠ p → ∀ k ∈ cs, nx s k ∈ F
  nw : ∀ k ∈ dn, nx p k ∈ F
variable {nx cs}
theorem Stk.one (a : S) : Stk nx cs a [a] [a] := ⟨by simp, by simp, fun s hs => by rw [List.mem_singleton.mp hs]; exact ⟨[], (fun k hk => by cases hk), rfl⟩, fun s hs => hs, fun s hs hn => absurd hs hn⟩
theorem Stk.prt {one : S} {F : List S} {q : List S} {p : S} (h : Stk nx cs one F (q ++ [p])) : StP nx cs one F q p [] := ⟨h.nd, h.hd, h.ok, fun s hs => h.sub s (List.mem_append_left _ hs), h.sub p (by simp), fun s hs hn hne k hk => h.dn s hs (fun hm => by
  rcases List.mem_append.mp hm with z | z
  · exact hn z
  · exact hne (List.mem_singleton.mp z)) k hk, (fun k hk => by cases hk)⟩
theorem StP.old {one : S} {F todo : List S} {p : S} {dn : List Int} (h : StP nx cs one F todo p dn) {k : Int} (hk : nx p k ∈ F) : StP nx cs one F todo p (dn ++ [k]) := ⟨h.nd, h.hd, h.ok, h.sub, h.hp, h.od, fun j hj => by
  rcases List.mem_append.mp hj with z | z
  · exact h.nw j z
  · rw [List.mem_singleton.mp z]; exact hk⟩
theorem StP.new {one : S} {F todo : List S} {p : S} {dn : List Int} (h : StP nx cs one F todo p dn) {k : Int} (hc : k ∈ cs) (hk : nx p k ∉ F) : StP nx cs one (F ++ [nx p k]) (todo ++ [nx p k]) p (dn ++ [k]) := by
  refine ⟨?_, List.mem_append_left _ h.hd, fun s hs => ?_, fun s hs => ?_, List.mem_append_left _ h.hp, fun s hs hn hne j hj => ?_, fun j hj => ?_⟩
  · rw [List.nodup_append]
    exact ⟨h.nd, by simp, fun a ha b hb => by rw [List.mem_singleton.mp hb]; exact fun e => hk (e ▸ ha)⟩
  · rcases List.mem_append.mp hs with z | z
    · exact h.ok s z
    · rw [List.mem_singleton.mp z]; exact (h.ok p h.hp).snoc hc
  · rcases List.mem_append.mp hs with z | z
    · exact List.mem_append_left _ (h.sub s z)
    · exact List.mem_append_right _ z
  · rcases List.mem_append.mp hs with z | z
    · exact List.mem_append_left _ (h.od s z (fun q => hn (List.mem_append_left _ q)) hne j hj)
    · exact absurd (List.mem_append_right _ z) hn
  · rcases List.mem_append.mp hj with z | z
    · exact List.mem_append_left _ (h.nw j z)
    · rw [List.mem_singleton.mp z]; simp
theorem StP.done {one : S} {F todo : List S} {p : S} (h : StP nx cs one F todo p cs) : Stk nx cs one F todo := ⟨h.nd, h.hd, h.ok, h.sub, fun s hs hn k hk => by
  by_cases e : s = p
  · rw [e]; exact h.nw k hk
  · exact h.od s hs hn e k hk⟩
theorem Stk.clo {one : S} {F : List S} (h : Stk nx cs one F []) : Clo nx cs F := fun s hs k hk => h.dn s hs (by simp) k hk
end
end VL


set_option maxRecDepth 100000
set_option maxHeartbeats 2000000
namespace VL
open PySem PySem.Spec PyProof.Rows L2
/-! ### rows sorted -/
end VL


set_option maxRecDepth 100000
set_option maxHeartbeats 2000000
namespace VL
section
variable {S : Type} [DecidableEq S] {nx : S → Int → S} {cs : List Int}
theorem slt_more {a : List Int} {k : Int} : slt a (a ++ [k]) := .inl (by simp)
theorem Que.idx {one : S} {F : List (S × List Int)} {at_ : Nat} (h : Que nx cs one F at_) {i j : Nat} {p q : S × List Int} (hi : F[i]? = some p) (hj : F[j]? = some q) (hij : i ≤ j) : sle p.2 q.2 := by
  by_cases e : i = j
  · subst e
    rw [hi] at hj
    cases hj
    exact .inr rfl
  · have a1 := List.getElem?_eq_some_iff.mp hi
    have a2 := List.getElem?_eq_some_iff.mp hj
    have := List.pairwise_iff_getElem.mp h.up i j a1.1 a2.1 (by omega)
    rw [a1.2, a2.2] at this
    exact .inl this
/-- what is told while the queue is worked on -/
theorem Que.part {one : S} {F : List (S × List Int)} {at_ : Nat} (h : Que nx cs one F at_) : ∀ (n : Nat) (r : List Int), r.length = n → (∀ k ∈ r, k ∈ cs) → (∃ q ∈ F, q.1 = r.foldl nx one ∧ sle q.2 r) ∨ ∃ p, F[at_]? = some p ∧ slt p.2 r
  | 0, r, hl, _ => by
    have : r = [] := List.length_eq_zero_iff.mp hl
    subst this
    exact .inl ⟨_, List.mem_of_getElem? h.hd, rfl, .inr rfl⟩
  | n + 1, r, hl, hr => by
    have hne : r ≠ [] := fun e => by rw [e] at hl; cases hl
    obtain ⟨r', k, rfl⟩ : ∃ r' k, r = r' ++ [k] := ⟨r.dropLast, r.getLast hne, (List.dropLast_concat_getLast hne).symm⟩
    rcases Que.part h n r' (by simpa using hl) fun j hj => hr j (List.mem_append_left _ hj) with ⟨q, hq, e1, e2⟩ | ⟨p, hp, e⟩
    · obtain ⟨i, hi⟩ := List.mem_iff_getElem?.mp hq
      by_cases hlt : i < at_
      · obtain ⟨u, hu, e3, e4⟩ := h.od i q hlt hi k (hr k (by simp))
        exact .inl ⟨u, hu, by rw [e3, e1, List.foldl_append]; rfl, sle_trans e4 (sle_snoc e2)⟩
      · have hl2 : at_ < F.length := by have := (List.getElem?_eq_some_iff.mp hi).1; omega
        have hp := List.getElem?_eq_getElem hl2
        exact .inr ⟨_, hp, sle_slt (h.idx hp hi (by omega)) (slt_sle slt_more (sle_snoc e2))⟩
    · exact .inr ⟨p, hp, slt_trans e slt_more⟩
/-- the first of the shortest rows to a state as wanted -/
def Fst (nx : S → Int → S) (cs : List Int) (one : S) (T : S → Bool) (o : Option (List Int)) : Prop := match o with
  | some r => (∀ k ∈ r, k ∈ cs) ∧ T (r.foldl nx one) = true ∧ ∀ r' : List Int, (∀ k ∈ r', k ∈ cs) → T (r'.foldl nx one) = true → sle r r'
  | none => ∀ r' : List Int, (∀ k ∈ r', k ∈ cs) → T (r'.foldl nx one) = false
theorem Fst.same {one : S} {T : S → Bool} {o o' : Option (List Int)} (h : Fst nx cs one T o) (h' : Fst nx cs one T o') : o = o' := by
  cases o with
  | none =>
    cases o' with
    | none => rfl
    | some r => have := h r h'.1; rw [h'.2.1] at this; cases this
  | some r =>
    cases o' with
    | none => have := h' r h.1; rw [h.2.1] at this; cases this
    | some r' => rw [sle_anti (h.2.2 r' h'.1 h'.2.1) (h'.2.2 r h.1 h.2.1)]
/-- all ahead of p fail, p does not -/
theorem Que.fst {one : S} {F : List (S × List Int)} {at_ : Nat} {p : S × List Int} (h : Que nx cs one F at_) {T : S → Bool} (hp : F[at_]? = some p) (ht : T p.1 = true) (hf : ∀ i q, i < at_ → F[i]? = some q → T q.1 = false) : Fst nx cs one T (some p.2) := by
  have hpm := List.mem_of_getElem? hp
  refine ⟨(h.ok p hpm).1, by rw [(h.ok p hpm).2]; exact ht, fun r' hr' ht' => ?_⟩
  rcases h.part r'.length r' rfl hr' with ⟨q, hq, e1, e2⟩ | ⟨p', hp', e⟩
  · obtain ⟨i, hi⟩ := List.mem_iff_getElem?.mp hq
    by_cases hlt : i < at_
    · have := hf i q hlt hi
      rw [e1, ht'] at this
      cases this
    · exact sle_trans (h.idx hp hi (by omega)) e2
  · rw [hp] at hp'
    cases hp'
    exact .inl e
theorem Que.non {one : S} {F : List (S × List Int)} (h : Que nx cs one F F.length) {T : S → Bool} (hf : ∀ q ∈ F, T q.1 = false) : Fst nx cs one T none := fun r' hr' => by
  obtain ⟨q, hq, e1, _⟩ := h.min r'.length r' rfl hr'
  rw [← e1]
  exact hf q hq
end
end VL


set_option maxRecDepth 100000
set_option maxHeartbeats 2000000
namespace VL
section
variable {S : Type} [DecidableEq S] {nx : S → Int → S} {cs : List Int}
theorem part_of {one : S} {F : List (S × List Int)} {at_ : Nat} (hd : F[0]? = some (one, [])) (up : F.Pairwise fun p q => slt p.2 q.2) (od : ∀ i q, i < at_ → F[i]? = some q → ∀ k ∈ cs, ∃ u ∈ F, u.1 = nx q.1 k ∧ sle u.2 (q.2 ++ [k])) : ∀ (n : Nat) (r : List Int), r.length = n → (∀ k ∈ r, k ∈ cs) → (∃ q ∈ F, q.1 = r.foldl nx one ∧ sle q.2 r) ∨ ∃ p, F[at_]? = some p ∧ slt p.2 r
  | 0, r, hl, _ => by
    have : r = [] := List.length_eq_zero_iff.mp hl
    subst this
    exact .inl ⟨_, List.mem_of_getElem? hd, rfl, .inr rfl⟩
  | n + 1, r, hl, hr => by
    have hne : r ≠ [] := fun e => by rw [e] at hl; cases hl
    obtain ⟨r', k, rfl⟩ : ∃ r' k, r = r' ++ [k] := ⟨r.dropLast, r.getLast hne, (List.dropLast_concat_getLast hne).symm⟩
    rcases part_of hd up od n r' (by simpa using hl) fun j hj => hr j (List.mem_append_left _ hj) with ⟨q, hq, e1, e2⟩ | ⟨p, hp, e⟩
    · obtain ⟨i, hi⟩ := List.mem_iff_getElem?.mp hq
      by_cases hlt : i < at_
      · obtain ⟨u, hu, e3, e4⟩ := od i q hlt hi k (hr k (by simp))
        exact .inl ⟨u, hu, by rw [e3, e1, List.foldl_append]; rfl, sle_trans e4 (sle_snoc e2)⟩
      · have hl2 : at_ < F.length := by have := (List.getElem?_eq_some_iff.mp hi).1; omega
        have hp := List.getElem?_eq_getElem hl2
        refine .inr ⟨_, hp, sle_slt ?_ (slt_sle slt_more (sle_snoc e2))⟩
        by_cases e : at_ = i
        · subst e
          rw [hp] at hi
          cases hi
          exact .inr rfl
        · have a2 := List.getElem?_eq_some_iff.mp hi
          have := List.pairwise_iff_getElem.mp up at_ i hl2 a2.1 (by omega)
          rw [a2.2] at this
          exact .inl this
    · exact .inr ⟨p, hp, slt_trans e slt_more⟩
/-- the first of the shortest rows of a code or more, to a state as wanted -/
def Fst1 (nx : S → Int → S) (cs : List Int) (one : S) (T : S → Bool) (o : Option (List Int)) : Prop := match o with
  | some r => r ≠ [] ∧ (∀ k ∈ r, k ∈ cs) ∧ T (r.foldl nx one) = true ∧ ∀ r' : List Int, r' ≠ [] → (∀ k ∈ r', k ∈ cs) → T (r'.foldl nx one) = true → sle r r'
  | none => ∀ r' : List Int, r' ≠ [] → (∀ k ∈ r', k ∈ cs) → T (r'.foldl nx one) = false
theorem Fst1.same {one : S} {T : S → Bool} {o o' : Option (List Int)} (h : Fst1 nx cs one T o) (h' : Fst1 nx cs one T o') : o = o' := by
  cases o with
  | none =>
    cases o' with
    | none => rfl
    | some r => have := h r h'.1 h'.2.1; rw [h'.2.2.1] at this; cases this
  | some r =>
    cases o' with
    | none => have := h' r h.1 h.2.1; rw [h.2.2.1] at this; cases this
    | some r' => rw [sle_anti (h.2.2.2 r' h'.1 h'.2.1 h'.2.2.1) (h'.2.2.2 r h.1 h.2.1 h.2.2.1)]
theorem Prt.fst1 {one : S} {F : List (S × List Int)} {at_ : Nat} {p : S × List Int} {dn ks : List Int} {k : Int} (h : Prt nx cs one F at_ p dn) (hc : cs = dn ++ k :: ks) (hu : cs.Pairwise (· < ·)) {T : S → Bool} (n1 : ∀ i q, i < at_ → F[i]? = some q → ∀ j ∈ cs, T (nx q.1 j) = false) (n2 : ∀ j ∈ dn, T (nx p.1 j) = false) (ht : T (nx p.1 k) = true) : Fst1 nx cs one T (some (p.2 ++ [k])) := by
  have hpm := List.mem_of_getElem? h.hp
  have hkc : k ∈ cs := by rw [hc]; simp
  refine ⟨by simp, fun j hj => ?_, by rw [List.foldl_append, (h.ok p hpm).2]; exact ht, fun r' hne hr' ht' => ?_⟩
  · rcases List.mem_append.mp hj with z | z
    · exact (h.ok p hpm).1 j z
    · rw [List.mem_singleton.mp z]; exact hkc
  · obtain ⟨r'', k', rfl⟩ : ∃ r'' k', r' = r'' ++ [k'] := ⟨r'.dropLast, r'.getLast hne, (List.dropLast_concat_getLast hne).symm⟩
    have hk' : k' ∈ cs := hr' k' (by simp)
    have et : T (nx (r''.foldl nx one) k') = true := by rw [List.foldl_append] at ht'; exact ht'
    rcases part_of h.hd h.up h.od r''.length r'' rfl fun j hj => hr' j (List.mem_append_left _ hj) with ⟨u, hu', e1, e2⟩ | ⟨q, hq, e⟩
    · obtain ⟨i, hi⟩ := List.mem_iff_getElem?.mp hu'
      rcases Nat.lt_trichotomy i at_ with z | z | z
      · have := n1 i u z hi k' hk'
        rw [e1, et] at this
        cases this
      · subst z
        rw [h.hp] at hi
        cases hi
        have hk2 : k' ∈ dn ++ k :: ks := hc ▸ hk'
        rcases List.mem_append.mp hk2 with y | y
        · have := n2 k' y
          rw [e1, et] at this
          cases this
        · rcases List.mem_cons.mp y with rfl | y
          · exact sle_snoc e2
          · rw [hc, List.pairwise_append] at hu
            exact sle_trans (.inl (slt_last ((List.pairwise_cons.mp hu.2.1).1 k' y))) (sle_snoc e2)
      · have a1 := List.getElem?_eq_some_iff.mp h.hp
        have a2 := List.getElem?_eq_some_iff.mp hi
        have := List.pairwise_iff_getElem.mp h.up at_ i a1.1 a2.1 z
        rw [a1.2, a2.2] at this
        exact sle_trans (.inl (slt_snoc this)) (sle_snoc e2)
    · rw [h.hp] at hq
      cases hq
      exact .inl (slt_snoc e)
end
section
open PySem PySem.Spec PyProof.Rows L2
/-! ### sorted is the same for the same members -/
end
end VL


set_option maxRecDepth 100000
set_option maxHeartbeats 2000000
namespace VL
open PySem PySem.Spec PyProof.Rows L2
section
variable {X : Cx} {U : WX} {pos p : Pos} {x : Str} {k : Nat} {ps : List Str}
end
end VL


set_option maxRecDepth 100000
set_option maxHeartbeats 2000000
namespace VL
open PySem PySem.Spec PyProof.Rows L2
/-! ### a search layer by layer, in general -/
section
variable {S : Type} [DecidableEq S]
/-- what is known while p is worked on -/
structure Bg (nx : S → Int → S) (cs : List Int) (one : S) (St : S → Prop) (N : Nat) (F more : List (S × List Int)) (p : S × List Int) : Prop where
  pm : p ∈ F
  nd : (F.map (·.1)).Nodup
  row : rowA F p.1 = some p.2
  st : ∀ q ∈ F, St q.1
  len : F.length ≤ N
  ln : p.2.length < F.length
  ml : more.length ≤ F.length
  ok : (∀ k ∈ p.2, k ∈ cs) ∧ p.2.foldl nx one = p.1
structure Bfs (nx : S → Int → S) (cs : List Int) (one : S) (St : S → Prop) (N : Nat) (tc tp : S → Bool) {J1 J2 J3 : Type} (gi go : XG) (tbi tbo : XS) (cb : XB) (tb : XS) (it : S × List Int → Int → Dt) (itp : S × List Int → Dt)
    (E1 : List (S × List Int) → List (S × List Int) → S × List Int → J1 → Nv) (E2 : List (S × List Int) → List (S × List Int) → J2 → Nv) (E3 : List (S × List Int) → List (S × List Int) → J3 → Nv) (rc rp : List Int → VL.W) : Prop where
  up : cs.Pairwise (· < ·)
  st0 : St one
  st : ∀ s k, St s → tp s = false → k ∈ cs → tc (nx s k) = false → St (nx s k)
  fin : ∀ ks : List S, ks.Nodup → (∀ s ∈ ks, St s) → ks.length ≤ N
  hit : ∀ F more p k j, Bg nx cs one St N F more p → k ∈ cs → tc (nx p.1 k) = true → turnT gi tbi (it p k) (E1 F more p j) = .ret (.rt (rc (p.2 ++ [k])))
  old : ∀ F more p k j, Bg nx cs one St N F more p → k ∈ cs → tc (nx p.1 k) = false → nx p.1 k ∈ F.map (·.1) → ∃ j', turnT gi tbi (it p k) (E1 F more p j) = .ret (.ct (E1 F more p j'))
  new : ∀ F more p k j, Bg nx cs one St N F more p → k ∈ cs → tc (nx p.1 k) = false → nx p.1 k ∉ F.map (·.1) → ∃ j', turnT gi tbi (it p k) (E1 F more p j) = .ret (.ct (E1 (F ++ [(nx p.1 k, p.2 ++ [k])]) (more ++ [(nx p.1 k, p.2 ++ [k])]) p j'))
  pop : ∀ F more p j, Bg nx cs one St N F more p → tp p.1 = true → turnT go tbo (itp p) (E2 F more j) = .ret (.rt (rp p.2))
  lay : ∀ F more p j, Bg nx cs one St N F more p → tp p.1 = false → ∃ j1, (∀ w, forT gi tbi (cs.map (it p)) (E1 F more p j1) = .ret (.rt w) → turnT go tbo (itp p) (E2 F more j) = .ret (.rt w)) ∧ (∀ F' more' j2, forT gi tbi (cs.map (it p)) (E1 F more p j1) = .ret (.nx (E1 F' more' p j2)) → ∃ j', turnT go tbo (itp p) (E2 F more j) = .ret (.ct (E2 F' more' j')))
  out0 : ∀ F j f, whN cb tb (f + 1) (E3 F [] j) = .ret (.nx (E3 F [] j))
  out1 : ∀ F ps j f, ps ≠ [] → ps.length ≤ N → ∃ j1, (∀ w, forT go tbo (ps.map itp) (E2 F [] j1) = .ret (.rt w) → whN cb tb (f + 1) (E3 F ps j) = .ret (.rt w)) ∧ (∀ F' more' j2, more'.length ≤ N → forT go tbo (ps.map itp) (E2 F [] j1) = .ret (.nx (E2 F' more' j2)) → ∃ j', whN cb tb (f + 1) (E3 F ps j) = whN cb tb f (E3 F' more' j'))
variable {nx : S → Int → S} {cs : List Int} {one : S} {St : S → Prop} {N : Nat} {tc tp : S → Bool} {J1 J2 J3 : Type} {gi go : XG} {tbi tbo : XS} {cb : XB} {tb : XS} {it : S × List Int → Int → Dt} {itp : S × List Int → Dt} {E1 : List (S × List Int) → List (S × List Int) → S × List Int → J1 → Nv} {E2 : List (S × List Int) → List (S × List Int) → J2 → Nv} {E3 : List (S × List Int) → List (S × List Int) → J3 → Nv} {rc rp : List Int → VL.W}
theorem up_split {cs dn ks : List Int} {k : Int} (hu : cs.Pairwise (· < ·)) (h : cs = dn ++ k :: ks) : (∀ j ∈ dn, j < k) ∧ k ∈ cs := by
  subst h
  rw [List.pairwise_append] at hu
  exact ⟨fun j hj => hu.2.2 j hj k (by simp), by simp⟩
theorem Bfs.small (B : Bfs nx cs one St N tc tp gi go tbi tbo cb tb it itp E1 E2 E3 rc rp) {F : List (S × List Int)} (nd : (F.map (·.1)).Nodup) (st : ∀ q ∈ F, St q.1) : F.length ≤ N := by
  have := B.fin _ nd fun s hs => by obtain ⟨q, hq, rfl⟩ := List.mem_map.mp hs; exact st q hq
  rwa [List.length_map] at this
theorem Prt.bg (B : Bfs nx cs one St N tc tp gi go tbi tbo cb tb it itp E1 E2 E3 rc rp) {F more : List (S × List Int)} {at_ : Nat} {p : S × List Int} {dn : List Int} (h : Prt nx cs one F at_ p dn) (st : ∀ q ∈ F, St q.1) (ml : more.length ≤ F.length) : Bg nx cs one St N F more p :=
  have hpm : p ∈ F := List.mem_of_getElem? h.hp
  ⟨hpm, h.nd, (rowA_some h.nd).mpr hpm, st, B.small h.nd st, h.ln p hpm, ml, h.ok p hpm⟩
theorem Bfs.inner (B : Bfs nx cs one St N tc tp gi go tbi tbo cb tb it itp E1 E2 E3 rc rp) : ∀ (ks dn : List Int) (F more : List (S × List Int)) (at_ : Nat) (p : S × List Int) (j : J1), Prt nx cs one F at_ p dn → (∀ q ∈ F, St q.1) → more.length ≤ F.length → cs = dn ++ ks → tp p.1 = false → (∀ i q, i < at_ → F[i]? = some q → ∀ j ∈ cs, tc (nx q.1 j) = false) → (∀ j ∈ dn, tc (nx p.1 j) = false) →
    (∃ r, Fst1 nx cs one tc (some r) ∧ r.length ≤ N ∧ forT gi tbi (ks.map (it p)) (E1 F more p j) = .ret (.rt (rc r))) ∨
    ∃ new j', Prt nx cs one (F ++ new) at_ p cs ∧ (∀ q ∈ F ++ new, St q.1) ∧ (more ++ new).length ≤ (F ++ new).length ∧ (∀ j ∈ cs, tc (nx p.1 j) = false) ∧ forT gi tbi (ks.map (it p)) (E1 F more p j) = .ret (.nx (E1 (F ++ new) (more ++ new) p j')) := by
  intro ks
  induction ks with
  | nil => intro dn F more at_ p j hp hq hml hc htp n1 n2; rw [List.append_nil] at hc; exact .inr ⟨[], j, by rw [List.append_nil]; exact hc ▸ hp, by rw [List.append_nil]; exact hq, by rw [List.append_nil, List.append_nil]; exact hml, hc ▸ n2, by rw [List.append_nil, List.append_nil]; rfl⟩
  | cons k ks ih =>
    intro dn F more at_ p j hp hq hml hc htp n1 n2
    obtain ⟨hlt, hkc⟩ := up_split B.up hc
    have hb := hp.bg B hq hml
    rw [List.map_cons, for_turn]
    cases hap : tc (nx p.1 k) with
    | true =>
      rw [B.hit F more p k j hb hkc hap, bd_ret]
      exact .inl ⟨p.2 ++ [k], hp.fst1 hc B.up n1 n2 hap, by have := hb.ln; have := hb.len; rw [List.length_append, List.length_singleton]; omega, rfl⟩
    | false =>
      have n2' : ∀ j ∈ dn ++ [k], tc (nx p.1 j) = false := fun j hj => by
        rcases List.mem_append.mp hj with z | z
        · exact n2 j z
        · rw [List.mem_singleton.mp z]; exact hap
      by_cases hin : nx p.1 k ∈ F.map (·.1)
      · obtain ⟨j', e⟩ := B.old F more p k j hb hkc hap hin
        rw [e, bd_ret]
        exact ih (dn ++ [k]) F more at_ p j' (hp.old hin hlt) hq hml (by rw [hc, List.append_assoc]; rfl) htp n1 n2'
      · obtain ⟨j', e⟩ := B.new F more p k j hb hkc hap hin
        rw [e, bd_ret]
        have lst : ∀ (i : Nat) (q : S × List Int), i < at_ → (F ++ [(nx p.1 k, p.2 ++ [k])])[i]? = some q → F[i]? = some q := fun i q hi e => by
          rw [List.getElem?_append_left (Nat.lt_trans hi (List.getElem?_eq_some_iff.mp hp.hp).1)] at e; exact e
        rcases ih (dn ++ [k]) (F ++ [(nx p.1 k, p.2 ++ [k])]) (more ++ [(nx p.1 k, p.2 ++ [k])]) at_ p j' (hp.new hkc hin hlt) (fun q hq' => by
          rcases List.mem_append.mp hq' with z | z
          · exact hq q z
          · rw [List.mem_singleton.mp z]; exact B.st _ _ (hq p hb.pm) htp hkc hap) (by simp only [List.length_append, List.length_singleton]; omega) (by rw [hc, List.append_assoc]; rfl) htp (fun i q hi e => n1 i q hi (lst i q hi e)) n2' with ⟨r, a1, a2, a3⟩ | ⟨new, j2, a1, a2, a3, a4, a5⟩
        · exact .inl ⟨r, a1, a2, a3⟩
        · have e1 : F ++ [(nx p.1 k, p.2 ++ [k])] ++ new = F ++ ((nx p.1 k, p.2 ++ [k]) :: new) := by rw [List.append_assoc]; rfl
          have e2 : more ++ [(nx p.1 k, p.2 ++ [k])] ++ new = more ++ ((nx p.1 k, p.2 ++ [k]) :: new) := by rw [List.append_assoc]; rfl
          rw [e1] at a1 a2 a3 a5
          rw [e2] at a3 a5
          exact .inr ⟨_, j2, a1, a2, a3, a4, a5⟩
theorem Bfs.layer (B : Bfs nx cs one St N tc tp gi go tbi tbo cb tb it itp E1 E2 E3 rc rp) : ∀ (ps pre more : List (S × List Int)) (j : J2), Que nx cs one (pre ++ ps ++ more) pre.length → (∀ q ∈ pre ++ ps ++ more, St q.1) → (∀ q ∈ pre, ∀ j ∈ cs, tc (nx q.1 j) = false) → (∀ q ∈ pre, tp q.1 = false) →
    (∃ r, Fst1 nx cs one tc (some r) ∧ r.length ≤ N ∧ forT go tbo (ps.map itp) (E2 (pre ++ ps ++ more) more j) = .ret (.rt (rc r))) ∨
    (∃ r, Fst nx cs one tp (some r) ∧ r.length ≤ N ∧ forT go tbo (ps.map itp) (E2 (pre ++ ps ++ more) more j) = .ret (.rt (rp r))) ∨
    ∃ new j', Que nx cs one (pre ++ ps ++ new) (pre ++ ps).length ∧ (∀ q ∈ pre ++ ps ++ new, St q.1) ∧ (∀ q ∈ pre ++ ps, ∀ j ∈ cs, tc (nx q.1 j) = false) ∧ (∀ q ∈ pre ++ ps, tp q.1 = false) ∧ forT go tbo (ps.map itp) (E2 (pre ++ ps ++ more) more j) = .ret (.nx (E2 (pre ++ ps ++ new) new j')) := by
  intro ps
  induction ps with
  | nil => intro pre more j hQ hq hf hg; exact .inr (.inr ⟨more, j, by rw [List.append_nil] at hQ ⊢; exact hQ, hq, by rw [List.append_nil]; exact hf, by rw [List.append_nil]; exact hg, rfl⟩)
  | cons p ps ih =>
    intro pre more j hQ hq hf hg
    have hp : (pre ++ p :: ps ++ more)[pre.length]? = some p := by simp
    have hml : more.length ≤ (pre ++ p :: ps ++ more).length := by simp only [List.length_append]; omega
    have n0 : ∀ (i : Nat) (q : S × List Int), i < pre.length → (pre ++ p :: ps ++ more)[i]? = some q → q ∈ pre := fun i q hi e => by
      rw [List.append_assoc, List.getElem?_append_left hi] at e
      exact List.mem_of_getElem? e
    have hP := hQ.prt hp
    have hb := hP.bg B hq hml
    rw [List.map_cons, for_turn]
    cases htp : tp p.1 with
    | true =>
      rw [B.pop _ _ _ j hb htp, bd_ret]
      exact .inr (.inl ⟨p.2, hQ.fst hp htp fun i q hi e => hg q (n0 i q hi e), by have := hb.ln; have := hb.len; omega, rfl⟩)
    | false =>
      obtain ⟨j1, l1, l2⟩ := B.lay _ _ _ j hb htp
      rcases B.inner cs [] _ more pre.length p j1 hP hq hml rfl htp (fun i q hi e => hf q (n0 i q hi e)) (fun j hj => by cases hj) with ⟨r, a1, a2, a3⟩ | ⟨new, j2, a1, a2, a3, a4, a5⟩
      · rw [l1 _ a3, bd_ret]
        exact .inl ⟨r, a1, a2, rfl⟩
      · obtain ⟨j3, e⟩ := l2 _ _ _ a5
        rw [e, bd_ret]
        have eF : pre ++ p :: ps ++ more ++ new = (pre ++ [p]) ++ ps ++ (more ++ new) := by simp
        have eG : (pre ++ [p]) ++ ps = pre ++ p :: ps := by simp
        have hQ' := a1.done
        rw [eF] at hQ' a2
        have ihh := ih (pre ++ [p]) (more ++ new) j3 (by rw [List.length_append, List.length_singleton]; exact hQ') a2 (fun q hq' => by
          rcases List.mem_append.mp hq' with z | z
          · exact hf q z
          · rw [List.mem_singleton.mp z]; exact a4) (fun q hq' => by
          rcases List.mem_append.mp hq' with z | z
          · exact hg q z
          · rw [List.mem_singleton.mp z]; exact htp)
        rw [eG] at ihh
        rw [eF, eG]
        exact ihh
theorem Bfs.outer (B : Bfs nx cs one St N tc tp gi go tbi tbo cb tb it itp E1 E2 E3 rc rp) : ∀ (m f : Nat) (pre ps : List (S × List Int)) (j : J3), Que nx cs one (pre ++ ps) pre.length → (∀ q ∈ pre ++ ps, St q.1) → (∀ q ∈ pre, ∀ j ∈ cs, tc (nx q.1 j) = false) → (∀ q ∈ pre, tp q.1 = false) → N - pre.length ≤ m → m < f →
    (∃ r, Fst1 nx cs one tc (some r) ∧ r.length ≤ N ∧ whN cb tb f (E3 (pre ++ ps) ps j) = .ret (.rt (rc r))) ∨
    (∃ r, Fst nx cs one tp (some r) ∧ r.length ≤ N ∧ whN cb tb f (E3 (pre ++ ps) ps j) = .ret (.rt (rp r))) ∨
    ∃ F j', Que nx cs one F F.length ∧ (∀ q ∈ F, St q.1) ∧ (∀ q ∈ F, ∀ j ∈ cs, tc (nx q.1 j) = false) ∧ (∀ q ∈ F, tp q.1 = false) ∧ F.length ≤ N ∧ whN cb tb f (E3 (pre ++ ps) ps j) = .ret (.nx (E3 F [] j')) := by
  intro m
  induction m with
  | zero =>
    intro f pre ps j hQ hq hf hg hm0 hff
    obtain ⟨f, rfl⟩ : ∃ g, f = g + 1 := ⟨f - 1, by omega⟩
    have hl2 := B.small hQ.nd hq
    have e : ps = [] := List.length_eq_zero_iff.mp (by rw [List.length_append] at hl2; omega)
    subst e
    rw [List.append_nil] at hQ hq hl2 ⊢
    exact .inr (.inr ⟨pre, j, hQ, hq, hf, hg, hl2, B.out0 pre j f⟩)
  | succ m ih =>
    intro f pre ps j hQ hq hf hg hm0 hff
    obtain ⟨f, rfl⟩ : ∃ g, f = g + 1 := ⟨f - 1, by omega⟩
    have hl2 := B.small hQ.nd hq
    by_cases e : ps = []
    · subst e
      rw [List.append_nil] at hQ hq hl2 ⊢
      exact .inr (.inr ⟨pre, j, hQ, hq, hf, hg, hl2, B.out0 pre j f⟩)
    · have pp : 1 ≤ ps.length := by
        cases ps with
        | nil => exact absurd rfl e
        | cons a b => simp
      obtain ⟨j1, o1, o2⟩ := B.out1 (pre ++ ps) ps j f e (by rw [List.length_append] at hl2; omega)
      have ly := B.layer ps pre [] j1 (by rw [List.append_nil]; exact hQ) (by rw [List.append_nil]; exact hq) hf hg
      rw [List.append_nil] at ly
      rcases ly with ⟨r, a1, a2, a3⟩ | ⟨r, a1, a2, a3⟩ | ⟨new, j2, a1, a2, a3, a4, a5⟩
      · exact .inl ⟨r, a1, a2, o1 _ a3⟩
      · exact .inr (.inl ⟨r, a1, a2, o1 _ a3⟩)
      · have hn := B.small a1.nd a2
        obtain ⟨j3, e3⟩ := o2 _ _ _ (by rw [List.length_append] at hn; omega) a5
        rw [e3]
        exact ih f (pre ++ ps) new j3 a1 a2 a3 a4 (by rw [List.length_append]; omega) (by omega)
theorem Bfs.run (B : Bfs nx cs one St N tc tp gi go tbi tbo cb tb it itp E1 E2 E3 rc rp) {f : Nat} (hf : N < f) (j : J3) :
    (∃ r, Fst1 nx cs one tc (some r) ∧ r.length ≤ N ∧ whN cb tb f (E3 [(one, [])] [(one, [])] j) = .ret (.rt (rc r))) ∨
    (∃ r, Fst nx cs one tp (some r) ∧ r.length ≤ N ∧ whN cb tb f (E3 [(one, [])] [(one, [])] j) = .ret (.rt (rp r))) ∨
    ∃ F j', Que nx cs one F F.length ∧ (∀ q ∈ F, St q.1) ∧ (∀ q ∈ F, ∀ j ∈ cs, tc (nx q.1 j) = false) ∧ (∀ q ∈ F, tp q.1 = false) ∧ F.length ≤ N ∧ whN cb tb f (E3 [(one, [])] [(one, [])] j) = .ret (.nx (E3 F [] j')) :=
  B.outer N f [] [(one, [])] j (Que.one one) (fun q hq => by rw [List.nil_append, List.mem_singleton] at hq; rw [hq]; exact B.st0) (fun q hq => by cases hq) (fun q hq => by cases hq) (by simp) hf
end
/-! ### the first of the shortest rows, seen otherwise -/
section
variable {S S' : Type} [DecidableEq S] [DecidableEq S'] {nx : S → Int → S} {nx' : S' → Int → S'} {cs : List Int} {one : S} {one' : S'} {T : S → Bool} {T' : S' → Bool}
theorem Fst.conv {o : Option (List Int)} (h : Fst nx cs one T o) (e : ∀ r : List Int, (∀ k ∈ r, k ∈ cs) → T (r.foldl nx one) = T' (r.foldl nx' one')) : Fst nx' cs one' T' o := by
  cases o with
  | none => exact fun r hr => by rw [← e r hr]; exact h r hr
  | some r => exact ⟨h.1, by rw [← e r h.1]; exact h.2.1, fun r' hr' ht => h.2.2 r' hr' (by rw [e r' hr']; exact ht)⟩
theorem Fst1.fst {o : Option (List Int)} (h : Fst1 nx cs one T o) (h0 : T one = false) : Fst nx cs one T o := by
  have ne : ∀ r : List Int, T (r.foldl nx one) = true → r ≠ [] := fun r hr e => by
    subst e
    rw [List.foldl_nil, h0] at hr
    cases hr
  cases o with
  | none =>
    intro r hr
    by_cases e : r = []
    · subst e; exact h0
    · exact h r e hr
  | some r => exact ⟨h.2.1, h.2.2.1, fun r' hr' ht => h.2.2.2 r' (ne r' ht) hr' ht⟩
end
end VL


set_option maxRecDepth 100000
set_option maxHeartbeats 2000000
namespace VL
open PySem PySem.Spec PyProof.Rows L2
/-! ### two targets of which a name is shared: the tuple is made -/
section
variable {K : PySem.W.Frag} {C : Ct} {σ : L2.St} {ρ : Nv} {n : Sn} {G O H G' H' : Hp}
theorem FrW.pure {w : W} {v : V} (f : FrW K C σ ρ G O w v) (I : Io C n G O H) (sg : Same G G') (nw : New G H G') : FrW K C σ ρ G' (grow O H H') w v := by
  obtain ⟨F, fp, S, r, ap⟩ := f
  refine ⟨F, fp, S.pure I sg nw, r.see ⟨sg, fun b hb => ?_⟩ rfl, ap⟩
  obtain ⟨o, w, _⟩ := r.ow b hb
  have hh := I.oH _ _ w.o
  refine ⟨grow_old hh, ?_, w.h0⟩
  cases z : G' b with
  | none => rfl
  | some u =>
    rcases nw b u z with y | y
    · rw [w.g] at y; cases y
    · rw [hh] at y; cases y.1
end
section
variable {X : Cx} {U : WX} {a b : Expr} {ta tb : XW'} {pos : Pos}
end
end VL


set_option maxRecDepth 100000
set_option maxHeartbeats 2000000
namespace VL
open PySem PySem.Spec PyProof.Rows L2
/-! ### {k: v for ..} with keys of any kind -/
section
variable {X : Cx}
end
end VL


set_option maxRecDepth 100000
set_option maxHeartbeats 2000000
namespace VL
open PySem PySem.Spec PyProof.Rows L2
/-! ### a new entry in a dict of one's own that no name has -/
section
variable {K : PySem.W.Frag} {C : Ct} {σ : L2.St} {ρ : Nv} {n n' : Sn} {G O H G' O' H' : Hp} {F : Nat → List Addr} {fp : List Addr} {w : W} {v : V}
theorem DCs.snoc {es : List (NestedKey × Addr × V)} {kvs : List (Dt × Cl)} {fps : List Addr} {k : NestedKey} {b : Addr} {kd : Dt} {c : Cl} {f2 : List Addr} (rk : DR K G (.ref b) kd) (hk : keyOf kd = some k) (rc : RelC K C G O c v f2) : DCs K C G O es kvs fps → (∀ x ∈ fps, x ∉ f2) → DCs K C G O (es ++ [(k, b, v)]) (kvs ++ [(kd, c)]) (fps ++ f2) := by
  intro r
  induction r with
  | nil =>
    intro _
    have := DCs.cons (fps := []) rk hk rc (fun x _ q => by cases q) .nil
    rw [List.append_nil] at this
    exact this
  | @cons k' b' v' kd' c' fp fps es kvs a h1 h2 h3 r ih =>
    intro ap
    rw [List.append_assoc]
    exact DCs.cons a h1 h2 (fun x hx q => by
      rcases List.mem_append.mp q with q | q
      · exact h3 x hx q
      · exact ap x (List.mem_append_left _ hx) q) (ih fun x hx => ap x (List.mem_append_right _ hx))
end
section
variable {K : PySem.W.Frag} {C : Ct} {σ : L2.St} {ρ : Nv} {n : Sn} {G O H : Hp}
end
section
variable {K : PySem.W.Frag} {U : WX} {ti : XA} {g : XG} {gh : TG} {xt : XB} {tk : XT} {tv : XW'} {vs : List Nat}
end
section
variable {X : Cx} {U : WX} {ek ev tg src : Expr} {conds : List Expr} {sc : Scope} {mine : List (Str × Nat)} {p1 p3 : Pos} {ti : XA} {g : XG} {gh : TG} {xt : XB} {tk : XT} {tv : XW'}
end
end VL


set_option maxRecDepth 100000
set_option maxHeartbeats 2000000
namespace VL
open PySem PySem.Spec PyProof.Rows L2
/-! ### lists that a dict of one's own holds -/
def fzC1 (kvs : List (Dt × Cl)) : List (Dt × Cl) := kvs.map fun p => (p.1, .d (fzC p.2))
section
variable {K : PySem.W.Frag} {C : Ct} {σ : L2.St} {ρ : Nv} {n : Sn} {G O H : Hp}
theorem DCs.fz {es : List (NestedKey × Addr × V)} {kvs : List (Dt × Cl)} {fp fp' : List Addr} (r : DCs K C G O es kvs fp) (h : ∀ b ∈ fp, b ∈ fp') (s : Same G (VL.frz G O fp')) : DCs K C (VL.frz G O fp') O es (fzC1 kvs) [] := by
  induction r with
  | nil => exact .nil
  | @cons k b v kd c f fs es kvs a h1 h2 h3 r ih =>
    exact DCs.cons (fp := []) (fps := []) (DR.same s a) h1 ⟨h2.frz (fun b hb => h b (List.mem_append_left _ hb)) s, rfl⟩ (fun x hx => by cases hx) (ih fun b hb => h b (List.mem_append_right _ hb))
end
/-- the list of a key -/
def putL (q : NestedKey) (ds : List Dt) : List (Dt × Cl) → List (Dt × Cl)
  | [] => []
  | p :: r => if keyOf p.1 = some q then (p.1, .l ds) :: r else p :: putL q ds r
section
variable {K : PySem.W.Frag} {C : Ct} {G O : Hp}
theorem DCs.cell {es : List (NestedKey × Addr × V)} {kvs : List (Dt × Cl)} {fps : List Addr} (r : DCs K C G O es kvs fps) {q : NestedKey} {ds : List Dt} : lkC kvs q = some (.l ds) →
    ∃ b a xs, atE es q = some (b, .ref a) ∧ a ∈ fps ∧ Ow C G O a (.lst xs) ∧ DRs K G xs ds ∧ ∀ (ys : List V) (ds' : List Dt), DRs K G ys ds' → DCs K C G (upd O a (.lst ys)) es (putL q ds' kvs) fps := by
  induction r with
  | nil => intro h; cases h
  | @cons k b v kd c f fs es kvs a h1 h2 h3 r ih =>
    intro h
    by_cases hq : k = q
    · subst hq
      have e1 : lkC ((kd, c) :: kvs) k = some c := by unfold lkC; rw [List.find?_cons]; simp [h1]
      rw [e1] at h
      cases h
      obtain ⟨a2, xs, rfl, rfl, ow, rs⟩ := h2
      refine ⟨b, a2, xs, by unfold atE; rw [List.find?_cons]; simp, by simp, ow, rs, fun ys ds' ry => ?_⟩
      have e2 : putL k ds' ((kd, .l ds) :: kvs) = (kd, .l ds') :: kvs := by unfold putL; rw [if_pos h1]
      rw [e2]
      refine DCs.cons (fp := [a2]) a h1 ⟨a2, ys, rfl, rfl, ⟨ow.g, ow.h0, upd_same⟩, ry⟩ h3 (r.see ⟨Same.refl _, fun x hx => ?_⟩)
      obtain ⟨o, w, _⟩ := r.ow x hx
      exact ⟨upd_ne fun z => h3 a2 (by simp) (z ▸ hx), w.g, w.h0⟩
    · have n1 : ¬ keyOf kd = some q := fun z => hq (by rw [h1] at z; exact Option.some.inj z)
      have e1 : lkC ((kd, c) :: kvs) q = lkC kvs q := by unfold lkC; rw [List.find?_cons]; simp [n1]
      rw [e1] at h
      obtain ⟨b2, a2, xs, i1, i2, i3, i4, i5⟩ := ih h
      refine ⟨b2, a2, xs, by unfold atE at i1 ⊢; rw [List.find?_cons]; simp [hq, i1], List.mem_append_right _ i2, i3, i4, fun ys ds' ry => ?_⟩
      have e2 : putL q ds' ((kd, c) :: kvs) = (kd, c) :: putL q ds' kvs := by
        conv => lhs; unfold putL
        rw [if_neg n1]
      rw [e2]
      refine DCs.cons a h1 (h2.see ⟨Same.refl _, fun x hx => ?_⟩) h3 (i5 ys ds' ry)
      obtain ⟨o, w, _⟩ := h2.ow x hx
      exact ⟨upd_ne fun z => h3 x hx (z ▸ i2), w.g, w.h0⟩
end
section
variable {X : Cx} {U : WX} {pos : Pos} {e : Expr}
end
end VL


set_option maxRecDepth 100000
set_option maxHeartbeats 2000000
namespace VL
open PySem PySem.Spec PyProof.Rows L2
section
variable {X : Cx} {U : WX} {a b c : Expr} {ta tb tc : XW'} {pos : Pos}
/-! ### three targets, the tuple made -/
def parW3c (i j l : Nat) (ρ : Nv) (w u t : W) : T Fl := .ret (.nx (((ρ.set i (some w)).set j (some u)).set l (some t)))
def parW3b (i j l : Nat) (tc : XW') (ρ : Nv) (w u : W) : T Fl := exS (tc ρ) ρ (parW3c i j l ρ w u)
def parW3a (i j l : Nat) (tb tc : XW') (ρ : Nv) (w : W) : T Fl := exS (tb ρ) ρ (parW3b i j l tc ρ w)
def xParW3 (i j l : Nat) (ta tb tc : XW') (ρ : Nv) : T Fl := exS (ta ρ) ρ (parW3a i j l tb tc ρ)
end
/-! ### a list and a list, as a list of one's own -/
section
variable {X : Cx} {U : WX} {a b : Expr} {ta tb : XT} {pos : Pos}
end
/-! ### d[k] -= e -/
section
variable {X : Cx} {U : WX} {k e : Expr} {tk te : XT} {pos : Pos}
end
/-! ### a call that looks into a dict of one's own; what it tells is an integer -/
end VL


set_option maxRecDepth 100000
set_option maxHeartbeats 2000000
namespace VL
open PySem PySem.Spec PyProof.Rows L2
/-! ### len(d) of a dict -/
section
variable {prog : Program} {w : World} {A : Around} {E : Value → Shared → Prop} {s : Shared}
end
section
variable {X : Cx} {U : WX} {pos p p2 : Pos} {x : Str}
end
/-! ### `k in d` as a value -/
section
variable {X : Cx} {U : WX} {a : Expr} {ta : XT} {pos : Pos}
end
end VL


set_option maxRecDepth 100000
set_option maxHeartbeats 2000000
namespace VL
/-! ### ranks: the least length of which all rows lead to `e` -/
section
variable {σ : Type} [DecidableEq σ] (nx : σ → Int → σ) (cs : List Int) (e : σ → Bool)
def topB : Nat → σ → Bool
  | 0, _ => false
  | n + 1, p => cs.all fun k => e (nx p k) || topB n (nx p k)
structure Rank (p : σ) (n : Nat) : Prop where
  top : topB nx cs e n p = true
  un : ∀ m, m < n → topB nx cs e m p = false
variable {nx cs e}
theorem topB_succ {n : Nat} {p : σ} (h : topB nx cs e n p = true) : topB nx cs e (n + 1) p = true := by
  induction n generalizing p with
  | zero => cases h
  | succ n ih =>
    refine List.all_eq_true.mpr fun k hk => ?_
    have := List.all_eq_true.mp h k hk
    cases z : e (nx p k) with
    | true => rfl
    | false =>
      rw [z, Bool.false_or] at this
      rw [Bool.false_or]
      exact ih this
theorem topB_le {n m : Nat} {p : σ} (h : topB nx cs e n p = true) (l : n ≤ m) : topB nx cs e m p = true := by
  induction l with
  | refl => exact h
  | step _ ih => exact topB_succ ih
theorem Rank.same {p : σ} {n m : Nat} (h : Rank nx cs e p n) (h' : Rank nx cs e p m) : n = m := by
  rcases Nat.lt_trichotomy n m with z | z | z
  · have := h'.un n z; rw [h.top] at this; cases this
  · exact z
  · have := h.un m z; rw [h'.top] at this; cases this
theorem Rank.of {n : Nat} {p : σ} (h : topB nx cs e n p = true) : ∃ m, m ≤ n ∧ Rank nx cs e p m := by
  induction n with
  | zero => cases h
  | succ n ih =>
    cases z : topB nx cs e n p with
    | true =>
      obtain ⟨m, l, r⟩ := ih z
      exact ⟨m, by omega, r⟩
    | false =>
      refine ⟨n + 1, Nat.le_refl _, h, fun m hm => ?_⟩
      cases y : topB nx cs e m p with
      | false => rfl
      | true =>
        rw [topB_le y (by omega)] at z
        cases z
theorem Rank.pos {p : σ} {n : Nat} (h : Rank nx cs e p n) : 1 ≤ n := by
  cases n with
  | zero => exact absurd h.top (by simp [topB])
  | succ n => omega
theorem Rank.le {p : σ} {n m : Nat} (h : Rank nx cs e p n) (t : topB nx cs e m p = true) : n ≤ m := by
  rcases Nat.lt_or_ge m n with z | z
  · rw [h.un m z] at t; cases t
  · exact z
/-- the rank of one of which the next are known -/
theorem Rank.next {p : σ} {f : σ → Nat} {M : Nat} (hf : ∀ k ∈ cs, e (nx p k) = false → Rank nx cs e (nx p k) (f (nx p k))) (hM : ∀ k ∈ cs, (if e (nx p k) = true then 0 else f (nx p k)) ≤ M)
    (hm : ∃ k ∈ cs, (if e (nx p k) = true then 0 else f (nx p k)) = M) : Rank nx cs e p (M + 1) := by
  refine ⟨List.all_eq_true.mpr fun k hk => ?_, fun m hm1 => ?_⟩
  · cases z : e (nx p k) with
    | true => rfl
    | false =>
      have l := hM k hk
      rw [z, if_neg (by simp)] at l
      rw [Bool.false_or]
      exact topB_le (hf k hk z).top l
  · cases m with
    | zero => rfl
    | succ m =>
      obtain ⟨k, hk, ek⟩ := hm
      cases z : e (nx p k) with
      | true =>
        rw [z, if_pos rfl] at ek
        omega
      | false =>
        rw [z, if_neg (by simp)] at ek
        have u := (hf k hk z).un m (by omega)
        cases y : topB nx cs e (m + 1) p with
        | false => rfl
        | true =>
          have := List.all_eq_true.mp y k hk
          rw [z, u] at this
          cases this
/-- what has always one of its own kind next has no rank -/
theorem no_rank {U : σ → Prop} (h : ∀ p, U p → ∃ k ∈ cs, e (nx p k) = false ∧ U (nx p k)) : ∀ (n : Nat) (p : σ), U p → topB nx cs e n p = false
  | 0, _, _ => rfl
  | n + 1, p, hp => by
    obtain ⟨k, hk, z, u⟩ := h p hp
    have := no_rank h n _ u
    cases y : topB nx cs e (n + 1) p with
    | false => rfl
    | true =>
      have w := List.all_eq_true.mp y k hk
      rw [z, this] at w
      cases w
end
/-! ### the search for ranks: from those all of whose next are ranked -/
section
variable {σ : Type} [DecidableEq σ] (nx : σ → Int → σ) (cs : List Int) (e : σ → Bool)
/-- the next that are not `e`, as often as they come -/
def nxt (p : σ) : List σ := (cs.filter fun k => !e (nx p k)).map (nx p)
/-- those behind which one stands, as often -/
def bhd : List σ → σ → List σ
  | [], _ => []
  | q :: ks, p => List.replicate ((nxt nx cs e q).count p) q ++ bhd ks p
/-- the next that have no rank yet -/
def wtg (R : List σ) (q : σ) : Nat := ((nxt nx cs e q).filter fun s => !decide (s ∈ R)).length
variable {nx cs e}
theorem mem_nxt {p q : σ} : q ∈ nxt nx cs e p ↔ ∃ k ∈ cs, nx p k = q ∧ e q = false := by
  unfold nxt
  rw [List.mem_map]
  constructor
  · rintro ⟨k, hk, rfl⟩
    obtain ⟨a, b⟩ := List.mem_filter.mp hk
    exact ⟨k, a, rfl, by simpa using b⟩
  · rintro ⟨k, hk, rfl, h⟩
    exact ⟨k, List.mem_filter.mpr ⟨hk, by simp [h]⟩, rfl⟩
theorem bhd_mem {ks : List σ} {p q : σ} (h : q ∈ bhd nx cs e ks p) : q ∈ ks ∧ p ∈ nxt nx cs e q := by
  induction ks with
  | nil => cases h
  | cons a ks ih =>
    rcases List.mem_append.mp h with z | z
    · obtain ⟨y, rfl⟩ := List.mem_replicate.mp z
      exact ⟨by simp, List.count_pos_iff.mp (by omega)⟩
    · obtain ⟨x, y⟩ := ih z
      exact ⟨List.mem_cons_of_mem _ x, y⟩
theorem bhd_count {ks : List σ} (nd : ks.Nodup) {p q : σ} (hq : q ∈ ks) : (bhd nx cs e ks p).count q = (nxt nx cs e q).count p := by
  induction ks with
  | nil => cases hq
  | cons a ks ih =>
    rw [List.nodup_cons] at nd
    rw [bhd, List.count_append, List.count_replicate]
    by_cases z : a = q
    · subst z
      have : (bhd nx cs e ks p).count a = 0 := List.count_eq_zero.mpr fun h => nd.1 (bhd_mem h).1
      simp [this]
    · have hq' : q ∈ ks := by
        rcases List.mem_cons.mp hq with y | y
        · exact absurd y.symm z
        · exact y
      rw [ih nd.2 hq']
      simp [z]
theorem filt_one {L R : List σ} {p : σ} (hp : p ∉ R) : (L.filter fun s => !decide (s ∈ R)).length = (L.filter fun s => !decide (s ∈ R ++ [p])).length + L.count p := by
  induction L with
  | nil => rfl
  | cons a L ih =>
    by_cases z : a = p
    · subst z
      have h1 : (!decide (a ∈ R)) = true := by simp [hp]
      have h2 : (!decide (a ∈ R ++ [a])) = false := by simp
      simp only [List.filter_cons, h1, h2, if_true, Bool.false_eq_true, if_false, List.length_cons, ih, List.count_cons_self]
      omega
    · rw [List.count_cons_of_ne z]
      by_cases y : a ∈ R
      · have h1 : (!decide (a ∈ R)) = false := by simp [y]
        have h2 : (!decide (a ∈ R ++ [p])) = false := by simp [y]
        simp only [List.filter_cons, h1, h2, Bool.false_eq_true, if_false, ih]
      · have h1 : (!decide (a ∈ R)) = true := by simp [y]
        have h2 : (!decide (a ∈ R ++ [p])) = true := by simp [y, z]
        simp only [List.filter_cons, h1, h2, if_true, List.length_cons, ih]
        omega
theorem wtg_one {R : List σ} {p : σ} (hp : p ∉ R) (q : σ) : wtg nx cs e R q = wtg nx cs e (R ++ [p]) q + (nxt nx cs e q).count p := filt_one hp
theorem wtg_zero {R : List σ} {q : σ} : wtg nx cs e R q = 0 ↔ ∀ s ∈ nxt nx cs e q, s ∈ R := by
  unfold wtg
  rw [List.length_eq_zero_iff, List.filter_eq_nil_iff]
  constructor
  · intro h s hs
    simpa using h s hs
  · intro h s hs
    simpa using h s hs
theorem wtg_nil (q : σ) : wtg nx cs e [] q = (nxt nx cs e q).length := by
  unfold wtg
  rw [List.filter_eq_self.mpr (by simp)]
variable (nx cs e)
/-- ahead of a turn: all that can be ranked is in the list -/
structure RkI (ks R td : List σ) : Prop where
  nd : R.Nodup
  sub : ∀ p ∈ R, p ∈ ks
  cl : ∀ p ∈ R, ∀ s ∈ nxt nx cs e p, s ∈ R
  td1 : td.Nodup
  td2 : ∀ q, q ∈ td ↔ q ∈ ks ∧ q ∉ R ∧ wtg nx cs e R q = 0
/-- within a turn: `done` of those behind p are counted off -/
structure RkJ (ks R td0 td dn : List σ) : Prop where
  nd : td.Nodup
  mem : ∀ q, q ∈ td ↔ q ∈ td0 ∨ (0 < wtg nx cs e R q ∧ wtg nx cs e R q = dn.count q)
variable {nx cs e}
theorem RkI.init {ks td : List σ} (h1 : td.Nodup) (h2 : ∀ q, q ∈ td ↔ q ∈ ks ∧ nxt nx cs e q = []) : RkI nx cs e ks [] td :=
  ⟨List.nodup_nil, fun _ h => (by cases h), fun _ h => (by cases h), h1, fun q => by rw [h2, wtg_nil, List.length_eq_zero_iff]; simp⟩
/-- the rest after one more is counted off -/
theorem RkJ.step {ks R td0 td dn : List σ} {q : σ} (J : RkJ nx cs e ks R td0 td dn) (h0 : ∀ s ∈ td0, wtg nx cs e R s = 0) (hc : dn.count q < wtg nx cs e R q) :
    RkJ nx cs e ks R td0 (if wtg nx cs e R q - (dn ++ [q]).count q = 0 then td ++ [q] else td) (dn ++ [q]) := by
  have cq : (dn ++ [q]).count q = dn.count q + 1 := by rw [List.count_append]; simp
  have co : ∀ s, s ≠ q → (dn ++ [q]).count s = dn.count s := fun s hs => by
    rw [List.count_append, List.count_singleton]
    have : (q == s) = false := by simpa using fun z => hs z.symm
    rw [this]; simp
  have nq : q ∉ td := fun h => by
    rcases (J.mem q).mp h with z | ⟨_, z⟩
    · have := h0 q z; omega
    · omega
  rw [cq]
  by_cases z : wtg nx cs e R q - (dn.count q + 1) = 0
  · rw [if_pos z]
    refine ⟨?_, fun s => ?_⟩
    · rw [List.nodup_append]
      exact ⟨J.nd, by simp, fun a ha b hb => by rw [List.mem_singleton.mp hb]; exact fun y => nq (y ▸ ha)⟩
    · rw [List.mem_append, List.mem_singleton, J.mem s]
      by_cases y : s = q
      · subst y
        rw [cq]
        exact ⟨fun _ => .inr ⟨by omega, by omega⟩, fun _ => .inr rfl⟩
      · rw [co s y]
        exact ⟨fun h => h.elim id fun u => absurd u y, .inl⟩
  · rw [if_neg z]
    refine ⟨J.nd, fun s => ?_⟩
    rw [J.mem s]
    by_cases y : s = q
    · subst y
      rw [cq]
      constructor
      · rintro (u | u)
        · exact .inl u
        · omega
      · rintro (u | u)
        · exact .inl u
        · omega
    · rw [co s y]
/-- the end of a turn -/
theorem RkJ.done {ks R td0 td : List σ} {p : σ} (nk : ks.Nodup) (I : RkI nx cs e ks R (td0 ++ [p])) (J : RkJ nx cs e ks R td0 td (bhd nx cs e ks p)) : RkI nx cs e ks (R ++ [p]) td := by
  have hp := (I.td2 p).mp (by simp)
  have n := I.td1
  rw [List.nodup_append] at n
  have pn : p ∉ td0 := fun h => n.2.2 p h p (by simp) rfl
  refine ⟨?_, fun q hq => ?_, fun q hq s hs => ?_, J.nd, fun q => ?_⟩
  · rw [List.nodup_append]
    exact ⟨I.nd, by simp, fun a ha b hb => by rw [List.mem_singleton.mp hb]; exact fun y => hp.2.1 (y ▸ ha)⟩
  · rcases List.mem_append.mp hq with z | z
    · exact I.sub q z
    · rw [List.mem_singleton.mp z]; exact hp.1
  · rcases List.mem_append.mp hq with z | z
    · exact List.mem_append_left _ (I.cl q z s hs)
    · rw [List.mem_singleton.mp z] at hs
      exact List.mem_append_left _ (wtg_zero.mp hp.2.2 s hs)
  · have w := wtg_one (nx := nx) (cs := cs) (e := e) hp.2.1 q
    rw [J.mem q]
    constructor
    · rintro (h | ⟨h1, h2⟩)
      · have a := (I.td2 q).mp (List.mem_append_left _ h)
        refine ⟨a.1, fun y => ?_, by omega⟩
        rcases List.mem_append.mp y with y | y
        · exact a.2.1 y
        · rw [List.mem_singleton.mp y] at h
          exact pn h
      · have hb : q ∈ bhd nx cs e ks p := List.count_pos_iff.mp (by omega)
        have a := bhd_mem hb
        rw [bhd_count nk a.1] at h2
        refine ⟨a.1, fun y => ?_, by omega⟩
        rcases List.mem_append.mp y with y | y
        · have := wtg_zero.mpr (I.cl q y); omega
        · rw [List.mem_singleton.mp y] at h1; omega
    · rintro ⟨a, b, c⟩
      have b1 : q ∉ R := fun z => b (List.mem_append_left _ z)
      have b2 : q ≠ p := fun z => b (by rw [z]; simp)
      rcases Nat.eq_zero_or_pos (wtg nx cs e R q) with z | z
      · have := (I.td2 q).mpr ⟨a, b1, z⟩
        rcases List.mem_append.mp this with y | y
        · exact .inl y
        · exact absurd (List.mem_singleton.mp y) b2
      · exact .inr ⟨z, by rw [bhd_count nk a]; omega⟩
/-- at the end: what is not ranked has no rank -/
theorem RkI.rest {ks R : List σ} (I : RkI nx cs e ks R []) (clo : ∀ p ∈ ks, ∀ k ∈ cs, e (nx p k) = false → nx p k ∈ ks) : ∀ (n : Nat) (p : σ), p ∈ ks ∧ p ∉ R → topB nx cs e n p = false :=
  no_rank fun p ⟨h1, h2⟩ => by
    have : wtg nx cs e R p ≠ 0 := fun z => by
      have := (I.td2 p).mpr ⟨h1, h2, z⟩
      cases this
    have : ¬ ∀ s ∈ nxt nx cs e p, s ∈ R := fun z => this (wtg_zero.mpr z)
    obtain ⟨s, hs, ns⟩ : ∃ s, s ∈ nxt nx cs e p ∧ s ∉ R := Classical.byContradiction fun no => this fun s hs => Classical.byContradiction fun y => no ⟨s, hs, y⟩
    obtain ⟨k, hk, rfl, z⟩ := mem_nxt.mp hs
    exact ⟨k, hk, z, clo p h1 k hk z, ns⟩
end
end VL


set_option maxRecDepth 100000
set_option maxHeartbeats 2000000
namespace VL
open PySem PySem.Spec PyProof.Rows L2
/-! ### x + e: x a list of one's own, and so is what comes -/
section
variable {X : Cx} {U : WX} {b : Expr} {tb : XT} {pos : Pos}
end
end VL


set_option maxRecDepth 100000
set_option maxHeartbeats 2000000
namespace VL
open PySem PySem.Spec PyProof.Rows L2
/-! ### a comprehension's target of three names -/
end VL


set_option maxRecDepth 100000
set_option maxHeartbeats 2000000
namespace VL
open PySem PySem.Spec PyProof.Rows L2
/-! ### in, not in of a tuple of data of any depth -/
section
variable {X : Cx}
end
/-! ### int of a bool -/
def pIntB (ds : List Dt) : Option Dt := match ds with
  | [.bool b] => some (.int (if b then 1 else 0))
  | _ => none
theorem pIntB_b {b : Bool} : pIntB [.bool b] = some (.int (if b then 1 else 0)) := rfl
end VL


set_option maxRecDepth 100000
set_option maxHeartbeats 2000000
namespace VL
open PySem PySem.Spec PyProof.Rows L2
/-! ### repr of data in which empty dicts stand -/
mutual
def emD : Dt → Bool
  | .list ds => emDs ds
  | .tuple ds => emDs ds
  | .dict kvs => kvs.isEmpty
  | _ => true
def emDs : List Dt → Bool
  | [] => true
  | d :: ds => emD d && emDs ds
end
section
variable {X : Cx} {pins : List (Addr × Obj)} {σ : L2.St} {H : Hp} {s : Shared}
theorem dic_at (I : Inv X pins σ H s) {a : Addr} (h : H a = some (.dK [])) : ∃ o ep, s.heap.get? a = some o ∧ o.cls = .type "dict" ∧ o.data = .dict #[] ep ∧ (a == sysModules) = false := by
  obtain ⟨_, e, vs, kv, o, es, ep, h1, h2, h3, _, h4, _⟩ := (show ObjOk X.prog X.w H s.heap a (.dK []) from I.hok a _ h)
  cases kv
  have e0 : es.toList = [] := by
    cases z : es.toList with
    | nil => rfl
    | cons x l => rw [z] at h4; cases h4
  have e1 : es = #[] := by simpa using e0
  subst e1
  exact ⟨o, ep, h1, h2.1, h3, e⟩
mutual
theorem rk_of (I : Inv X pins σ H s) : ∀ (d : Dt) (v : V) (u : Value), DR X.K H v d → RelV v u → emD d = true → d.showable = true → d.shown.length ≤ sizeLine → ∃ as bs, Reads s.heap u d as ∧ ReadAtMost s.heap d.depth bs ∧ ReprK X.prog X.w bs s.heap d.depth u d.shown
  | .none, _, _, r, rv, _, _, _ => by
    cases r; cases rv
    exact ⟨[], [], .none, (fun _ h => nomatch h), by simp only [PyData.shown]; exact .of_is ReprIs.none _ _ _⟩
  | .bool b, _, _, r, rv, _, _, _ => by
    cases r; cases rv
    exact ⟨[], [], .bool b, (fun _ h => nomatch h), by simp only [PyData.shown]; exact .of_is (ReprIs.bool b) _ _ _⟩
  | .int i, _, _, r, rv, _, hs, _ => by
    cases r; obtain ⟨t, rfl⟩ := rv
    exact ⟨[], [], .int i t, (fun _ h => nomatch h), by simp only [PyData.shown]; exact .of_is (ReprIs.int t (by simpa [PyData.showable] using hs)) _ _ _⟩
  | .str x, _, _, r, rv, _, _, hz => by
    cases r; obtain ⟨t, rfl⟩ := rv
    exact ⟨[], [], .str x t, (fun _ h => nomatch h), by simp only [PyData.shown]; exact .of_is (ReprIs.str x t (by simpa only [PyData.shown] using hz)) _ _ _⟩
  | .list ds, _, _, r, rv, hem, hs, hz => by
    cases r with
    | lst ga rs =>
      cases rv
      obtain ⟨its, rv, ⟨o, n, h1, h2, _, h3⟩, _⟩ := I.list (SqL.of ga)
      have hz' : (listText (PyData.shownAll ds)).length ≤ sizeLine := by simpa only [PyData.shown] using hz
      obtain ⟨as, bs, ra, hb, hk⟩ := rka_of I ds _ its rs rv (by simpa [emD] using hem) (by simpa [PyData.showable] using hs) (fun t ht => Nat.le_trans (listText_mem_le ht) hz')
      have r : Reads s.heap (.ref _) (.list ds) _ := .list h1 h2 h3 (show ReadsAll s.heap its.toArray.toList ds as from ra)
      have hna : _ ∉ bs := not_mem_of_deeper r (by simp only [PyData.depth]; omega) hb
      refine ⟨_, _ :: bs, r, ReadAtMost.cons r (by simp only [PyData.depth]; omega) hb, ?_⟩
      simp only [PyData.depth, PyData.shown]
      cases its with
      | nil =>
        cases ra
        simp only [PyData.shownAll, listText_nil]
        exact ReprK.listEmpty h1 h2 h3
      | cons x l => exact ReprK.list h1 h2 h3 hna (by simpa using hk.length_eq) (fun i y e => hk.item i y (by simpa using e))
  | .tuple ds, _, _, r, rv, hem, hs, hz => by
    cases r with
    | tup ga rs =>
      cases rv
      obtain ⟨its, rv, ⟨o, h1, h2, n, h3⟩, _⟩ := I.tuple ga
      have hz' : (tupleText (PyData.shownAll ds)).length ≤ sizeLine := by simpa only [PyData.shown] using hz
      obtain ⟨as, bs, ra, hb, hk⟩ := rka_of I ds _ its rs rv (by simpa [emD] using hem) (by simpa [PyData.showable] using hs) (fun t ht => Nat.le_trans (tupleText_mem_le ht) hz')
      have r : Reads s.heap (.ref _) (.tuple ds) _ := .tuple h1 h2 h3 (show ReadsAll s.heap its.toArray.toList ds as from ra)
      have hna : _ ∉ bs := not_mem_of_deeper r (by simp only [PyData.depth]; omega) hb
      refine ⟨_, _ :: bs, r, ReadAtMost.cons r (by simp only [PyData.depth]; omega) hb, ?_⟩
      simp only [PyData.depth, PyData.shown]
      exact ReprK.tuple h1 h2 h3 hna (show ReprAllK X.prog X.w bs s.heap (PyData.depthAll ds) its.toArray.toList _ from hk)
  | .dict [], _, _, r, rv, _, hs, hz => by
    cases r with
    | dic ga =>
      cases rv
      obtain ⟨o, ep, h1, h2, h3, hsys⟩ := dic_at I ga
      have r : Reads s.heap (.ref _) (.dict []) _ := .dict h1 h2 h3 (show ReadsAll s.heap ((#[] : Array DictEntry).toList.map (·.key)) (([] : List (PyData × PyData)).map (·.1)) [] from .nil) (show ReadsAll s.heap ((#[] : Array DictEntry).toList.map (·.val)) (([] : List (PyData × PyData)).map (·.2)) [] from .nil)
      refine ⟨_, [_], r, ReadAtMost.cons r (Nat.le_refl _) (fun _ h => nomatch h), ?_⟩
      simp only [PyData.depth, PyData.shown, PyData.shownKv_eq]
      exact ReprK.dict h1 h2 h3 hsys (by simp) (ReprEntriesK.of_two [] _ _ .nil .nil)
  | .dict (_ :: _), _, _, _, _, hem, _, _ => by simp [emD] at hem
theorem rka_of (I : Inv X pins σ H s) : ∀ (ds : List Dt) (vs : List V) (us : List Value), DRs X.K H vs ds → Vals vs us → emDs ds = true → PyData.showableAll ds = true → (∀ t ∈ PyData.shownAll ds, t.length ≤ sizeLine) → ∃ as bs, ReadsAll s.heap us ds as ∧ ReadAtMost s.heap (PyData.depthAll ds) bs ∧ ReprAllK X.prog X.w bs s.heap (PyData.depthAll ds) us (PyData.shownAll ds)
  | [], _, _, r, rv, _, _, _ => by
    cases r; cases rv
    exact ⟨[], [], .nil, (fun _ h => nomatch h), by simp only [PyData.shownAll]; exact .nil⟩
  | d :: ds, _, _, r, rv, hem, hs, hz => by
    cases r with
    | cons r1 r2 =>
      cases rv with
      | cons v1 v2 =>
        have hem' : emD d = true ∧ emDs ds = true := by simpa [emDs] using hem
        have hs' : d.showable = true ∧ PyData.showableAll ds = true := by simpa [PyData.showableAll] using hs
        obtain ⟨a1, b1, ra1, hb1, k1⟩ := rk_of I d _ _ r1 v1 hem'.1 hs'.1 (hz _ (by simp only [PyData.shownAll]; exact List.mem_cons_self ..))
        obtain ⟨a2, b2, ra2, hb2, k2⟩ := rka_of I ds _ _ r2 v2 hem'.2 hs'.2 (fun t ht => hz t (by simp only [PyData.shownAll]; exact List.mem_cons_of_mem _ ht))
        refine ⟨a1 ++ a2, b1 ++ b2, .cons ra1 ra2, ?_, ?_⟩
        · intro b hm
          simp only [PyData.depthAll]
          rcases List.mem_append.mp hm with hm | hm
          · obtain ⟨d', as', r', hd'⟩ := hb1 b hm
            exact ⟨d', as', r', Nat.le_trans hd' (Nat.le_max_left _ _)⟩
          · obtain ⟨d', as', r', hd'⟩ := hb2 b hm
            exact ⟨d', as', r', Nat.le_trans hd' (Nat.le_max_right _ _)⟩
        · simp only [PyData.depthAll, PyData.shownAll]
          exact .cons ((k1.more fun b hb => List.mem_append_left _ hb).level_le (Nat.le_max_left _ _)) (k2.more_le (fun b hb => List.mem_append_right _ hb) (Nat.le_max_right _ _))
end
end
end VL


set_option maxRecDepth 100000
set_option maxHeartbeats 2000000
namespace VL
open PySem PySem.Spec PyProof.Rows L2
/-! ### repr of a list of one's own, which stays one's own -/
section
variable {X : Cx} {U : WX}
end
end VL


set_option maxRecDepth 100000
set_option maxHeartbeats 2000000
namespace VL
open PySem PySem.Spec PyProof.Rows L2
/-! ### a bool or a whole number, and a whole number -/
section
variable {X : Cx}
end
end VL


set_option maxRecDepth 100000
set_option maxHeartbeats 2000000
namespace VL
open PySem PySem.Spec PyProof.Rows L2
/-! ### texts: split, join, signs, numbers -/
section
variable {X : Cx} {U : WX} {o e : Expr} {to te : XT} {apos pos : Pos}
end
section
variable {X : Cx} {U : WX} {e tg : Expr} {te : XT}
end
/-! ### a text in a list of texts, a sign in a text -/
section
variable {X : Cx}
/-! ### int of a text, a text again and again -/
end
end VL


set_option maxRecDepth 100000
set_option maxHeartbeats 2000000
namespace VL
open PySem PySem.Spec PyProof.Rows L2
/-! ### f-strings -/
section
variable {X : Cx} {U : WX} {e : Expr} {te : XT} {pos : Pos}
inductive VJ (X : Cx) (U : WX) : List Expr → List XT → Prop where
  | nil : VJ X U [] []
  | cons {e : Expr} {t : XT} {es : List Expr} {ts : List XT} (h : VE X U e (S t)) (r : VJ X U es ts) : VJ X U (e :: es) (t :: ts)
end
/-! ### the last name takes what is left of a list -/
section
variable {prog : Program} {w : World} {A : Around} {E : Value → Shared → Prop} {s : Shared}
end
section
variable {X : Cx} {pos : Pos}
variable {U : WX} {e : Expr} {te : XT}
end
end VL


set_option maxRecDepth 100000
set_option maxHeartbeats 2000000
namespace VL
open PySem PySem.Spec PyProof.Rows L2
/-! ### instances: what changes, known by where it stands -/
def asRf : Dt → Option Addr
  | .dict [(.list [.bool true], .int i)] => if 0 ≤ i then some i.toNat else none
  | _ => none
theorem asRf_rf (a : Addr) : asRf (rf a) = some a := by
  unfold rf asRf
  dsimp only
  rw [if_pos (Int.natCast_nonneg a), Int.toNat_natCast]
theorem asRf_inv {d : Dt} {a : Addr} (h : asRf d = some a) : d = rf a := by
  unfold asRf at h
  split at h
  · next i =>
    split at h
    · next hi => cases h; unfold rf; rw [Int.toNat_of_nonneg hi]
    · cases h
  · cases h
def Sto.put (s : Sto) (a : Addr) (c : Cell) : Sto := fun b => if b = a then some c else s b
theorem put_same {s : Sto} {a : Addr} {c : Cell} : s.put a c a = some c := if_pos rfl
theorem put_ne {s : Sto} {a b : Addr} {c : Cell} (h : b ≠ a) : s.put a c b = s b := if_neg h
theorem put_put {s : Sto} {a : Addr} {c e : Cell} : (s.put a c).put a e = s.put a e := funext fun b => by
  unfold Sto.put
  by_cases h : b = a
  · rw [if_pos h, if_pos h]
  · rw [if_neg h, if_neg h, if_neg h]
def putG {α : Type} (f : Str) (v : α) : List (Str × α) → List (Str × α)
  | [] => [(f, v)]
  | (g, x) :: r => if g = f then (g, v) :: r else (g, x) :: putG f v r
theorem putG_len {α : Type} (f : Str) (v : α) : ∀ fs : List (Str × α), (putG f v fs).length ≤ fs.length + 1
  | [] => Nat.le_refl _
  | (g, x) :: r => by
    have := putG_len f v r
    unfold putG
    split <;> simp only [List.length_cons] <;> omega
theorem putF_G (f : Str) (v : V) : ∀ fs : List (Str × V), putF f v fs = putG f v fs
  | [] => rfl
  | (g, x) :: r => by rw [putF, putG, putF_G f v r]
section
variable {K : PySem.W.Frag} {C : Ct} {σ : L2.St} {ρ : Nv} {n : Sn} {G O H : Hp} {vs : List (Str × V)} {fs : List (Str × Cl)} {ls : List Addr}
theorem FdOk.length (x : FdOk K G O H vs fs ls) : vs.length = fs.length := by
  induction x with
  | nil => rfl
  | dat _ _ ih => simp [ih]
  | lst _ _ _ _ _ ih => simp [ih]
/-- what a field holds -/
def ClAt (K : PySem.W.Frag) (G O H : Hp) (ls : List Addr) : Cl → V → Prop
  | .d d, v => DR K G v d
  | .l ds, v => ∃ l xs, v = .ref l ∧ l ∈ ls ∧ O l = none ∧ H l = some (.lst xs) ∧ DRs K G xs ds
theorem ClAt.mono {ls' : List Addr} {c : Cl} {v : V} (h : ClAt K G O H ls c v) (s : ∀ b ∈ ls, b ∈ ls') : ClAt K G O H ls' c v := by
  cases c with
  | d d => exact h
  | l ds => obtain ⟨l, xs, e, m, r⟩ := h; exact ⟨l, xs, e, s _ m, r⟩
theorem FdOk.look (x : FdOk K G O H vs fs ls) {f : Str} {c : Cl} (h : fs.lookup f = some c) : ∃ v, vs.lookup f = some v ∧ ClAt K G O H ls c v := by
  induction x with
  | nil => cases h
  | @dat g v d es kvs ls r _ ih =>
    rw [List.lookup_cons] at h ⊢
    cases e : f == g with
    | true => rw [e] at h; cases h; exact ⟨v, rfl, r⟩
    | false => rw [e] at h; exact ih h
  | @lst g l xs ds es kvs ls o hh r nn _ ih =>
    rw [List.lookup_cons] at h ⊢
    cases e : f == g with
    | true => rw [e] at h; cases h; exact ⟨_, rfl, l, xs, rfl, List.mem_cons_self, o, hh, r⟩
    | false =>
      rw [e] at h
      obtain ⟨v, h1, h2⟩ := ih h
      exact ⟨v, h1, h2.mono fun b hb => List.mem_cons_of_mem _ hb⟩
theorem FdOk.no (x : FdOk K G O H vs fs ls) {f : Str} (h : fs.lookup f = none) : vs.lookup f = none := by
  induction x with
  | nil => rfl
  | @dat g v d es kvs ls r _ ih =>
    rw [List.lookup_cons] at h ⊢
    cases e : f == g with
    | true => rw [e] at h; cases h
    | false => rw [e] at h; exact ih h
  | @lst g l xs ds es kvs ls o hh r nn _ ih =>
    rw [List.lookup_cons] at h ⊢
    cases e : f == g with
    | true => rw [e] at h; cases h
    | false => rw [e] at h; exact ih h
/-- a datum into a field -/
theorem FdOk.put {f : Str} {v : V} {d : Dt} (x : FdOk K G O H vs fs ls) (r : DR K G v d) : ∃ ls', FdOk K G O H (putG f v vs) (putG f (.d d) fs) ls' ∧ ∀ b ∈ ls', b ∈ ls := by
  induction x with
  | nil => exact ⟨[], .dat r .nil, fun _ h => h⟩
  | @dat g u e es kvs ls q t ih =>
    unfold putG
    by_cases h : g = f
    · rw [if_pos h, if_pos h]; exact ⟨ls, .dat r t, fun _ h => h⟩
    · rw [if_neg h, if_neg h]
      obtain ⟨ls', y, s⟩ := ih
      exact ⟨ls', .dat q y, s⟩
  | @lst g l xs ds es kvs ls o hh q nn t ih =>
    unfold putG
    by_cases h : g = f
    · rw [if_pos h, if_pos h]; exact ⟨ls, .dat r t, fun _ h => List.mem_cons_of_mem _ h⟩
    · rw [if_neg h, if_neg h]
      obtain ⟨ls', y, s⟩ := ih
      exact ⟨l :: ls', .lst o hh q (fun z => nn (s _ z)) y, fun b hb => by
        rcases List.mem_cons.mp hb with rfl | hb
        · exact List.mem_cons_self
        · exact List.mem_cons_of_mem _ (s _ hb)⟩
theorem plain_ins {C dx fs} : Plain (.ins C dx fs) := ⟨fun _ e => (by cases e), fun _ _ e => (by unfold LamX.CodeO at e; cases e), fun _ e => (by cases e)⟩
/-- an instance's own object is written -/
theorem Io.poke {a dx dy : Addr} {A B : Addr} {xs ys : List (Str × V)} {st : Sto} (I : Io C n G O H) (oa : O a = none) (ha : H a = some (.ins A dx xs)) (s : StoOk C.K C.mo st G O (upd H a (.ins B dy ys))) : Io C ⟨n.n, st⟩ G O (upd H a (.ins B dy ys)) := by
  have ne : ∀ {b : Addr} {u : HO}, H b = some u → (∀ A dx xs, u ≠ .ins A dx xs) → b ≠ a := fun {b u} e h z => by
    rw [z, ha] at e
    exact h _ _ _ (Option.some.inj e).symm
  have so : Same O (upd H a (.ins B dy ys)) := fun b u e => by
    rw [upd_ne (ne_of_none e oa)]
    exact I.oH _ _ e
  refine ⟨?_, I.go, I.g0, I.o0, I.oh, I.nO, I.nG, fun b e => ?_, ⟨tabs_upd I.tb.at_ (.inl ⟨ha, plain_ins⟩), I.tb.out, lam_upd I.tb.lam (.inl ⟨ha, plain_ins⟩)⟩, s⟩
  · have g := I.good
    cases hm : C.mo with
    | none => exact so
    | some m =>
      rw [hm] at g
      obtain ⟨_, om, lc, ll, cs, l2, z, h1, h2, h3, h4, h5, h6, r⟩ := g
      refine ⟨so, om, lc, ll, cs, l2, z, h1, h2, h3, ?_, ?_, ?_, r⟩
      · rw [upd_ne (ne h4 fun _ _ _ q => by cases q)]; exact h4
      · rw [upd_ne (ne h5 fun _ _ _ q => by cases q)]; exact h5
      · rw [upd_ne (ne h6 fun _ _ _ q => by cases q)]; exact h6
  · by_cases hb : b = a
    · subst hb; rw [upd_same] at e; cases e
    · rw [upd_ne hb] at e; exact I.h0 b e
theorem FdOk.poke {a : Addr} {o : HO} (x : FdOk K G O H vs fs ls) (h : a ∉ ls) : FdOk K G O (upd H a o) vs fs ls := x.move (Same.refl _) fun b hb u e z _ => ⟨z, by rw [upd_ne fun q => h (by rw [← q]; exact hb)]; exact e⟩
theorem FdOk.ne {a : Addr} {A dx : Addr} {xs : List (Str × V)} (x : FdOk K G O H vs fs ls) (ha : H a = some (.ins A dx xs)) : a ∉ ls := by
  induction x with
  | nil => intro h; cases h
  | dat _ _ ih => exact ih
  | @lst g l ys ds es kvs ls o hh r nn _ ih =>
    intro h
    rcases List.mem_cons.mp h with rfl | h
    · rw [hh] at ha; cases ha
    · exact ih h
/-- the store behind such a writing -/
theorem StoOk.set {mo : Option Addr} {st : Sto} {a dx : Addr} {c : Cell} {ys : List (Str × V)} {gs : List (Str × Cl)} {m : Sn} (x : StoOk K mo st G O H) (g : Good mo m O H) (e : st a = some c) (hd : G dx = some (.own a)) (hl : gs.length ≤ 1000)
    (y : ∀ ls, CellOk K G O H a c ls → ∃ ls', FdOk K G O H ys gs ls' ∧ ∀ b ∈ ls', b ∈ ls) : StoOk K mo (st.put a ⟨c.c, gs⟩) G O (upd H a (.ins (He.ga K c.c) dx ys)) := by
  obtain ⟨L, x⟩ := x
  have ca := x.at_ a c e
  obtain ⟨ls', f, sub⟩ := y _ ca
  obtain ⟨cl, _, dx0, vs0, oa, ha, _, fd⟩ := ca
  have na : a ∉ L a := fd.ne ha
  refine ⟨fun b => if b = a then ls' else L b, fun b k hb => ?_, fun d b hb => ?_, fun b d k k2 hbd hb hd2 z hz => ?_, fun b k hb m2 lc ll z em hm => ?_⟩
  · by_cases h : b = a
    · subst h
      rw [put_same] at hb
      cases hb
      try dsimp only
      rw [if_pos rfl]
      exact ⟨cl, hl, dx, ys, oa, upd_same, hd, f.poke fun z => na (sub _ z)⟩
    · rw [put_ne h] at hb
      try dsimp only
      rw [if_neg h]
      refine (x.at_ b k hb).move (Same.refl _) fun y hy u eu zu _ => ⟨zu, ?_⟩
      have : y ≠ a := fun q => by
        rcases hy with hy | hy
        · exact h (hy.symm.trans q)
        · obtain ⟨_, _, _, _, _, _, _, fd2⟩ := x.at_ b k hb
          exact fd2.ne ha (by rw [← q]; exact hy)
      rw [upd_ne this]
      exact eu
  · obtain ⟨k, hk⟩ := x.own d b hb
    by_cases h : b = a
    · subst h; exact ⟨_, put_same⟩
    · exact ⟨k, by rw [put_ne h]; exact hk⟩
  · have get : ∀ b k, st.put a ⟨c.c, gs⟩ b = some k → ∃ k', st b = some k' := fun b k hb => by
      by_cases h : b = a
      · subst h; exact ⟨_, e⟩
      · rw [put_ne h] at hb; exact ⟨k, hb⟩
    obtain ⟨k', hk'⟩ := get b k hb
    obtain ⟨k2', hk2'⟩ := get d k2 hd2
    have s1 : ∀ b, ∀ z, z ∈ (if b = a then ls' else L b) → z ∈ L b := fun b z hz => by
      by_cases h : b = a
      · rw [if_pos h] at hz; rw [h]; exact sub _ hz
      · rw [if_neg h] at hz; exact hz
    exact fun q => x.dis b d k' k2' hbd hk' hk2' z (s1 b z hz) (s1 d z q)
  · subst em
    obtain ⟨_, om, lc', ll', cs, l2, z', _, _, _, h4, _⟩ := g
    have nm : m2 ≠ a := fun q => by rw [q, ha] at h4; cases h4
    rw [upd_ne nm] at hm
    have s1 : ∀ z, z ∈ (if b = a then ls' else L b) → z ∈ L b := fun z hz => by
      by_cases h : b = a
      · rw [if_pos h] at hz; rw [h]; exact sub _ hz
      · rw [if_neg h] at hz; exact hz
    have key : ∃ k', st b = some k' := by
      by_cases h : b = a
      · subst h; exact ⟨_, e⟩
      · rw [put_ne h] at hb; exact ⟨k, hb⟩
    obtain ⟨k', hk'⟩ := key
    obtain ⟨q1, q2⟩ := x.ap b k' hk' m2 lc ll z rfl hm
    exact ⟨fun z => q1 (s1 _ z), fun z => q2 (s1 _ z)⟩
/-- an instance at a place -/
theorem In.cellAt {a : Addr} {c : Cell} (I : In K C σ ρ n G O H) (h : n.st a = some c) : ∃ ls, CellOk K G O H a c ls := by
  obtain ⟨L, x⟩ := I.sto
  have := x.at_ a c h
  rw [I.ht.2] at this
  exact ⟨_, this⟩
theorem In.poke {a dx dy : Addr} {A B : Addr} {xs ys : List (Str × V)} {st : Sto} (I : In K C σ ρ n G O H) (oa : O a = none) (ha : H a = some (.ins A dx xs)) (s : StoOk K C.mo st G O (upd H a (.ins B dy ys))) : In K C σ ρ ⟨n.n, st⟩ G O (upd H a (.ins B dy ys)) :=
  ⟨I.toIo.poke oa ha (by rw [I.ht.2]; exact s), I.ht, I.len, I.sep⟩
/-- a datum into a field of an instance -/
theorem In.setFld {a dx : Addr} {c : Cell} {f : Str} {v : V} {d : Dt} {A : Addr} {xs : List (Str × V)} (I : In K C σ ρ n G O H) (h : n.st a = some c) (ha : H a = some (.ins A dx xs)) (r : DR K G v d) (hl : c.fs.length < 1000) :
    A = He.ga K c.c ∧ In K C σ ρ ⟨n.n, n.st.put a ⟨c.c, putG f (.d d) c.fs⟩⟩ G O (upd H a (.ins A dx (putF f v xs))) := by
  obtain ⟨ls, cl, _, dx0, vs0, oa, ha', gd, fd⟩ := I.cellAt h
  rw [ha] at ha'
  cases ha'
  refine ⟨rfl, I.poke oa ha ?_⟩
  have st := I.sto
  rw [I.ht.2] at st
  refine st.set I.good h gd (by have := putG_len f (Cl.d d) c.fs; omega) fun ls2 q => ?_
  obtain ⟨_, _, dx2, vs2, _, h2, _, f2⟩ := q
  rw [ha] at h2
  cases h2
  rw [putF_G]
  exact f2.put r
end
end VL


set_option maxRecDepth 100000
set_option maxHeartbeats 2000000
namespace VL
open PySem PySem.Spec PyProof.Rows L2
theorem DR.rfi {K : PySem.W.Frag} {G : Hp} {v : V} {a : Addr} (r : DR K G v (rf a)) : ∃ dx, v = .ref a ∧ G dx = some (.own a) := by
  generalize e : rf a = d at r
  cases r with
  | @rfc b dx h =>
    have : a = b := by
      have := congrArg asRf e
      rw [asRf_rf, asRf_rf] at this
      exact Option.some.inj this
    subst this
    exact ⟨dx, rfl, h⟩
  | _ => unfold rf at e; cases e
/-! ### fields -/
def fldR (cl f : Str) : Option Cell → T Dt
  | some c => if c.c = cl then (match c.fs.lookup f with
    | some (.d x) => .ret x
    | _ => .fail) else .fail
  | none => .fail
def fldK (cl f : Str) (d : Dt) : T Dt := match asRf d with
  | some a => .rd fun s => fldR cl f (s a)
  | none => .fail
/-- e.f, e an instance of cl -/
def xFld (cl f : Str) (te : XT) (ρ : Nv) : T Dt := bd (te ρ) (fldK cl f)
theorem fldR_of {cl f : Str} {o : Option Cell} {n : Sn} {Q : Dt → Sn → Prop} {E : XW} (h : sat (fldR cl f o) n Q E) : ∃ c x, o = some c ∧ c.c = cl ∧ c.fs.lookup f = some (.d x) ∧ Q x n := by
  unfold fldR at h
  split at h
  · next c =>
    split at h
    · next hc =>
      split at h
      · next x hx => exact ⟨c, x, rfl, hc, hx, h⟩
      · exact h.elim
    · exact h.elim
  · exact h.elim
section
variable {X : Cx} {U : WX} {e o value : Expr} {te to : XT} {pos pos' tpos : Pos} {cl f : Str}
theorem xe_fld (na : NoAttr X.K (He.ga X.K cl) f) (he : VE X U e (S te)) (hb : attributeBase e f X.env (eval e X.env) = eval e X.env) : VE X U (.Attribute e f pos) (S (xFld cl f te)) := pe_imp (pe_fld he hb) fun σ H Q ⟨C, ρ, n, G, O, Q0, E0, I, h, hq, hE⟩ =>
  ⟨C, ρ, n, G, O, fun d n' => sat (fldK cl f d) n' Q0 E0, E0, I, sat2 h fun _ _ z => z, fun d1 n1 h1 v1 G1 O1 H1 I1 s1 r1 => by
    replace h1 : sat (fldK cl f d1) n1 Q0 E0 := h1
    unfold fldK at h1
    split at h1
    · next a ea =>
      have := asRf_inv ea
      subst this
      obtain ⟨dx, rfl, gd⟩ := r1.rfi
      obtain ⟨c, x, hc, ec, hx, q⟩ := fldR_of (show sat (fldR cl f (n1.st a)) n1 Q0 E0 from h1)
      obtain ⟨ls, k, _, dx2, vs, oa, ha, _, fd⟩ := I1.cellAt hc
      obtain ⟨v, hv, rv⟩ := fd.look hx
      rw [ec] at k ha
      exact ⟨a, _, dx2, vs, v, rfl, ha, k.cl, na, hv, hq x n1 q v G1 O1 H1 I1 s1 rv⟩
    · exact h1.elim, hE⟩
/-! writing -/
def setF3 (cl f : Str) (d : Dt) (a : Addr) (ρ : Nv) (s : Sto) : T Fl := match s a with
  | some c => if c.c = cl ∧ c.fs.length < 1000 then .wr (s.put a ⟨c.c, putG f (.d d) c.fs⟩) (.ret (.nx ρ)) else .fail
  | none => .fail
def setF2 (cl f : Str) (ρ : Nv) (d o : Dt) : T Fl := match asRf o with
  | some a => .rd (setF3 cl f d a ρ)
  | none => .fail
def setF1 (cl f : Str) (to : XT) (ρ : Nv) (d : Dt) : T Fl := exS (to ρ) ρ (setF2 cl f ρ d)
/-- o.f = value -/
def xSetF (cl f : Str) (to te : XT) (ρ : Nv) : T Fl := exS (te ρ) ρ (setF1 cl f to ρ)
theorem setF_of {cl f : Str} {d o : Dt} {ρ : Nv} {n : Sn} {Q : Fl → Sn → Prop} {E : XW} (h : sat (setF2 cl f ρ d o) n Q E) : ∃ a c, o = rf a ∧ n.st a = some c ∧ c.c = cl ∧ c.fs.length < 1000 ∧ Q (.nx ρ) ⟨n.n, n.st.put a ⟨c.c, putG f (.d d) c.fs⟩⟩ := by
  unfold setF2 at h
  split at h
  · next a ea =>
    replace h : sat (setF3 cl f d a ρ n.st) n Q E := h
    unfold setF3 at h
    split at h
    · next c hc =>
      split at h
      · next hh => exact ⟨a, c, asRf_inv ea, hc, hh.1, hh.2, h⟩
      · exact h.elim
    · exact h.elim
  · exact h.elim
theorem xs_setF (na : NoAttr X.K (He.ga X.K cl) f) (ho : VE X U o (S to)) (he : VE X U value (S te)) (hs : swapsWith value (some (.Attribute o f pos')) pos.line X.env = pure false) :
    VS X U (.Assign [.Attribute o f pos'] value pos) (SS (xSetF cl f to te)) := ps_imp (ps_fld ho he hs) fun D σ H ⟨C, ρ, n, G, O, V, I, h, L⟩ =>
  ⟨C, ρ, n, G, O, fun d n' => sat (setF1 cl f to ρ d) n' (flV V) (fun _ _ => False), _, I, satX h fun _ _ z => z, fun d n1 h1 v G1 O1 H1 I1 s1 r1 =>
    ⟨C, ρ, n1, G1, O1, fun d2 n' => sat (setF2 cl f ρ d d2) n' (flV V) (fun _ _ => False), _, I1, satX h1 fun _ _ z => z, fun d2 n2 h2 v2 G2 O2 H2 I2 s2 r2 => by
      obtain ⟨a, c, rfl, hc, ec, hl, q⟩ := setF_of h2
      obtain ⟨dx, rfl, gd⟩ := r2.rfi
      obtain ⟨ls, k, _, dx2, vs, oa, ha, _, fd⟩ := I2.cellAt hc
      obtain ⟨_, J⟩ := I2.setFld (f := f) hc ha (DR.same s2 r1) hl
      rw [ec] at k ha J
      exact ⟨a, _, dx2, vs, rfl, ha, k.cl, na, by rw [fd.length]; exact hl, L.nx ρ _ (by rw [ec] at q; exact q) σ _ _ _ J⟩, L.lkx σ ρ⟩, L.lkx σ ρ⟩
def augF3 (cl f : Str) (a : Addr) (ρ : Nv) (z : Dt) (s : Sto) : T Fl := match s a with
  | some c => if c.c = cl ∧ c.fs.length < 1000 then .wr (s.put a ⟨c.c, putG f (.d z) c.fs⟩) (.ret (.nx ρ)) else .fail
  | none => .fail
def augF2 (cl f : Str) (a : Addr) (ρ : Nv) (x y : Dt) : T Fl := match x, y with
  | .int i, .int j => .rd (augF3 cl f a ρ (.int (i + j)))
  | _, _ => .fail
def augF1 (cl f : Str) (te : XT) (ρ : Nv) (o : Dt) : T Fl := match asRf o with
  | some a => exS (fldK cl f (rf a)) ρ fun x => exS (te ρ) ρ (augF2 cl f a ρ x)
  | none => .fail
/-- o.f += value, whole numbers -/
def xAugF (cl f : Str) (to te : XT) (ρ : Nv) : T Fl := exS (to ρ) ρ (augF1 cl f te ρ)
theorem xs_augF (na : NoAttr X.K (He.ga X.K cl) f) (ho : VE X U o (S to)) (he : VE X U value (S te)) : VS X U (.AugAssign (.Attribute o f tpos) .Add value pos) (SS (xAugF cl f to te)) := ps_imp (ps_fldaug ho he in_add) fun D σ H ⟨C, ρ, n, G, O, V, I, h, L⟩ =>
  ⟨C, ρ, n, G, O, fun d n' => sat (augF1 cl f te ρ d) n' (flV V) (fun _ _ => False), _, I, satX h fun _ _ z => z, fun d n1 h1 v1 G1 O1 H1 I1 s1 r1 => by
    replace h1 : sat (augF1 cl f te ρ d) n1 (flV V) (fun _ _ => False) := h1
    unfold augF1 at h1
    split at h1
    · next a ea =>
      have := asRf_inv ea
      subst this
      obtain ⟨dx, rfl, gd⟩ := r1.rfi
      unfold fldK at h1
      rw [asRf_rf] at h1
      obtain ⟨c, x, hc, ec, hx, q⟩ := fldR_of (satX (Q' := fun x n' => sat (exS (te ρ) ρ (augF2 cl f a ρ x)) n' (flV V) noX) h1 fun _ _ z => z : sat (.rd fun s => fldR cl f (s a)) n1 _ _)
      obtain ⟨ls, k, _, dx2, vs, oa, ha, _, fd⟩ := I1.cellAt hc
      obtain ⟨v, hv, rv⟩ := fd.look hx
      rw [ec] at k ha
      refine ⟨a, _, dx2, vs, v, rfl, ha, k.cl, na, hv, C, ρ, n1, G1, O1, fun d2 n' => sat (augF2 cl f a ρ x d2) n' (flV V) (fun _ _ => False), _, I1, satX q fun _ _ z => z, fun d2 n2 h2 v2 G2 O2 H2 I2 s2 r2 => ?_, L.lkx σ ρ⟩
      replace h2 : sat (augF2 cl f a ρ x d2) n2 (flV V) (fun _ _ => False) := h2
      unfold augF2 at h2
      split at h2
      · next i j =>
        cases rv
        cases r2
        replace h2 : sat (augF3 cl f a ρ (.int (i + j)) n2.st) n2 (flV V) (fun _ _ => False) := h2
        unfold augF3 at h2
        split at h2
        · next c2 hc2 =>
          split at h2
          · next hh =>
            obtain ⟨ls2, k2, _, dx3, vs2, oa2, ha2, _, fd2⟩ := I2.cellAt hc2
            obtain ⟨_, J⟩ := I2.setFld (f := f) (d := .int (i + j)) hc2 ha2 (.int _) hh.2
            rw [hh.1] at ha2 J
            rw [hh.1] at h2
            exact ⟨i, j, rfl, rfl, dx3, vs2, ha2, by rw [fd2.length]; exact hh.2, L.nx ρ _ h2 σ _ _ _ J⟩
          · exact h2.elim
        · exact h2.elim
      · exact h2.elim
    · exact h1.elim, L.lkx σ ρ⟩
end
end VL


set_option maxRecDepth 100000
set_option maxHeartbeats 2000000
namespace VL
open PySem PySem.Spec PyProof.Rows L2
/-! ### a new instance -/
theorem In.newCell {K : PySem.W.Frag} {C : Ct} {σ : L2.St} {ρ : Nv} {n : Sn} {G O H : Hp} (I : In K C σ ρ n G O H) {x dx : Addr} (hx : H x = none) (hd : H dx = none) (ne : dx ≠ x) {c : Str} (k : ClsOk K c) :
    In K C σ ρ ⟨n.n, n.st.put x ⟨c, []⟩⟩ (upd G dx (.own x)) (upd O dx (.own x)) (upd (upd H dx (.own x)) x (.ins (He.ga K c) dx [])) ∧ Same G (upd G dx (.own x)) ∧ n.st x = none := by
  obtain ⟨H2, eH⟩ : ∃ H2, H2 = upd (upd H dx (.own x)) x (.ins (He.ga K c) dx []) := ⟨_, rfl⟩
  rw [← eH]
  have hx2 : (upd H dx (.own x)) x = none := by rw [upd_ne ne.symm]; exact hx
  have kp : ∀ b u, H b = some u → H2 b = some u := fun b u e => by
    rw [eH, upd_ne (ne_of_none e hx), upd_ne (ne_of_none e hd)]
    exact e
  have h2d : H2 dx = some (.own x) := by rw [eH, upd_ne ne, upd_same]
  have h2x : H2 x = some (.ins (He.ga K c) dx []) := by rw [eH, upd_same]
  have gn : ∀ b, H b = none → G b = none := fun b e => In.gfree I.toIo e
  have on : ∀ b, H b = none → O b = none := fun b e => by
    cases q : O b with | none => rfl | some u => rw [I.oH _ _ q] at e; cases e
  have sG : Same G (upd G dx (.own x)) := same_upd (gn _ hd)
  have sO : Same O (upd O dx (.own x)) := same_upd (on _ hd)
  have so : Same (upd O dx (.own x)) H2 := fun b u e => by
    by_cases h : b = dx
    · subst h; rw [upd_same] at e; rw [h2d]; exact e
    · rw [upd_ne h] at e; exact kp _ _ (I.oH _ _ e)
  have stn : n.st x = none := by
    cases q : n.st x with
    | none => rfl
    | some c' => obtain ⟨ls, _, _, _, _, _, ha, _⟩ := I.cellAt q; rw [hx] at ha; cases ha
  refine ⟨⟨⟨?_, ?_, I.g0.trans sG, I.o0.trans sO, I.oh, fun b u e => ?_, fun b u e => ?_, fun b e => ?_, ⟨?_, fun p hp => ?_, ?_⟩, ?_⟩, I.ht, I.len, ?_⟩, sG, stn⟩
  · have g := I.good
    cases hm : C.mo with
    | none => exact so
    | some m =>
      rw [hm] at g
      obtain ⟨_, om, lc, ll, cs, l2, z, h1, h2, h3, h4, h5, h6, r⟩ := g
      refine ⟨so, ?_, lc, ll, cs, l2, z, ?_, ?_, h3, kp _ _ h4, kp _ _ h5, kp _ _ h6, r⟩
      · rw [upd_ne (ne_of_none h4 hd)]; exact om
      · rw [upd_ne (ne_of_none h5 hd)]; exact h1
      · rw [upd_ne (ne_of_none h6 hd)]; exact h2
  · intro b u e
    by_cases h : b = dx
    · subst h; rw [upd_same] at e ⊢; exact e
    · rw [upd_ne h] at e ⊢; exact I.go _ _ e
  · by_cases h : b = dx
    · subst h; exact .inr (I.h0 _ hd)
    · rw [upd_ne h] at e; exact I.nO b u e
  · by_cases h : b = dx
    · subst h; exact .inr (I.h0 _ hd)
    · rw [upd_ne h] at e; exact I.nG b u e
  · refine I.h0 b ?_
    cases q : H b with
    | none => rfl
    | some u => rw [kp _ _ q] at e; cases e
  · rw [eH]; exact tabs_upd (u := .own x) (tabs_upd (u := .own x) I.tb.at_ (.inr hd)) (.inr hx2)
  · obtain ⟨ps, h1, _⟩ := I.tb.at_ p hp
    rw [upd_ne (ne_of_none h1 hd)]
    exact I.tb.out p hp
  · rw [eH]; exact lam_upd (u := .own x) (lam_upd (u := .own x) I.tb.lam (.inr hd)) (.inr hx2)
  · obtain ⟨L, st⟩ := I.sto
    rw [I.ht.2] at st
    rw [I.ht.2]
    show StoOk K C.mo (n.st.put x ⟨c, []⟩) (upd G dx (.own x)) (upd O dx (.own x)) H2
    have other : ∀ b k', (n.st.put x ⟨c, []⟩) b = some k' → b ≠ x → n.st b = some k' := fun b k' e h => by rw [put_ne h] at e; exact e
    refine ⟨fun b => if b = x then [] else L b, fun b k' e => ?_, fun d b e => ?_, fun a b k1 k2 hab e1 e2 z hz => ?_, fun b k' e m lc ll z em hm => ?_⟩
    · by_cases h : b = x
      · subst h
        rw [put_same] at e
        cases e
        try dsimp only
        rw [if_pos rfl]
        exact ⟨k, Nat.zero_le _, dx, [], by rw [upd_ne ne.symm]; exact on _ hx, h2x, upd_same, .nil⟩
      · try dsimp only
        rw [if_neg h]
        exact (st.at_ b k' (other b k' e h)).move sG fun y _ u eu zu _ => ⟨by rw [upd_ne (ne_of_none eu hd)]; exact zu, kp _ _ eu⟩
    · by_cases h : d = dx
      · subst h
        rw [upd_same] at e
        cases e
        exact ⟨_, put_same⟩
      · rw [upd_ne h] at e
        obtain ⟨k', hk⟩ := st.own d b e
        by_cases h2 : b = x
        · subst h2; exact ⟨_, put_same⟩
        · exact ⟨k', by rw [put_ne h2]; exact hk⟩
    · try dsimp only at hz ⊢
      by_cases ha : a = x
      · rw [if_pos ha] at hz; cases hz
      · rw [if_neg ha] at hz
        by_cases hb : b = x
        · rw [if_pos hb]; intro q; cases q
        · rw [if_neg hb]; exact st.dis a b k1 k2 hab (other a k1 e1 ha) (other b k2 e2 hb) z hz
    · try dsimp only
      by_cases hb : b = x
      · rw [if_pos hb]; exact ⟨fun q => (by cases q), fun q => (by cases q)⟩
      · rw [if_neg hb]
        have hm' : H m = some (.dK (mKvs lc ll z)) := by
          rw [eH] at hm
          by_cases q1 : m = x
          · rw [q1, upd_same] at hm; cases hm
          · rw [upd_ne q1] at hm
            by_cases q2 : m = dx
            · rw [q2, upd_same] at hm; cases hm
            · rw [upd_ne q2] at hm; exact hm
        exact st.ap b k' (other b k' e hb) m lc ll z em hm'
  · obtain ⟨F, S⟩ := I.sep
    refine ⟨F, S.see sG (fun i w e b hb => ?_) rfl⟩
    obtain ⟨o, w, _⟩ := S.ow e b hb
    have nb : b ≠ dx := ne_of_none (I.oH _ _ w.o) hd
    exact ⟨upd_ne nb, by rw [upd_ne nb]; exact w.g, w.h0⟩
/-! ### methods -/
def RWs.consD {K : PySem.W.Frag} {C : Ct} {G : Hp} {v : V} {d : Dt} {ws : List W} {vs : List V} (r : DR K G v d) (h : RWs K C G ws vs) : RWs K C G (.dat d :: ws) (v :: vs) := ⟨r, h⟩
/-- a method's promise, by its class and its name -/
def OkM (P : Program) (w : World) (K : PySem.W.Frag) (mg : Str → Option Value) (base : Heap) (k : Nat) (cl m : Str) (ps : List Str) (c : VFn) : Prop :=
  ∃ fd, FnG P w K mg base k (He.fAd K (cl, some m)) fd ps (lift K c) ∧ Binds K fd ps []
def methC (cl m : Str) (c : XFn) (al : XAW) (a : Addr) (ρ : Nv) : Option Cell → T Dt
  | some x => if x.c = cl ∧ x.fs.lookup m = none then bd (al ρ) fun ws => bd (c (.dat (rf a) :: ws)) rOfT else .fail
  | none => .fail
def methK (cl m : Str) (c : XFn) (al : XAW) (ρ : Nv) (d : Dt) : T Dt := match asRf d with
  | some a => .rd fun s => methC cl m c al a ρ (s a)
  | none => .fail
/-- o.m(..), o an instance of cl -/
def xMeth (cl m : Str) (c : XFn) (to : XT) (al : XAW) (ρ : Nv) : T Dt := bd (to ρ) (methK cl m c al ρ)
theorem methC_of {cl m : Str} {c : XFn} {al : XAW} {a : Addr} {ρ : Nv} {o : Option Cell} {n : Sn} {Q : Dt → Sn → Prop} {E : XW} (h : sat (methC cl m c al a ρ o) n Q E) : ∃ x, o = some x ∧ x.c = cl ∧ x.fs.lookup m = none ∧ sat (al ρ) n (fun ws n' => SF c (.dat (rf a) :: ws) n' (rOf Q) E) E := by
  unfold methC at h
  split at h
  · next x =>
    split at h
    · next hc => exact ⟨x, rfl, hc.1, hc.2, sat2 h fun ws n' z => sat2 z fun w n2 q => satR q⟩
    · exact h.elim
  · exact h.elim
section
variable {X : Cx} {U : WX} {e o : Expr} {es : List Expr} {pos apos p : Pos} {to : XT} {al : XAW} {cl m : Str} {k : Nat} {ps : List Str} {c : XFn}
theorem run_fnG {fd : FuncData} {f : Addr} {sp : Sp} {pins : List (Addr × Obj)} {σ : L2.St} {H : Hp} {s : Shared} {Q : VK} {us : List Value} {vs : List V} (F : FnG X.prog X.w X.K X.mg X.base k f fd ps sp) (hG : X.A.guards = some []) (hr : Room k X.A) (tk : Takes X U) (hb : Binds X.K fd ps []) (I : Inv X pins σ H s) (r : Vals vs us)
    (q : sp vs H Q fun cls d H' => U cls d σ H') : wpAny (model X.prog X.w) X.A (call (.ref f) us) (L2.EP X pins σ Q) X.xe s := by
  have hl : us.length = ps.length := r.length.symm.trans (F.len _ _ _ _ q)
  have bt := hb s us I.kIn (by rw [List.append_nil]; exact hl)
  rw [List.append_nil] at bt
  refine wpAny_call (codeAny_mono (F.run X.A X.stack s H ⟨us, []⟩ us vs Q _ hG hr I.env0 bt r q) fun rs s' hq => ?_)
  match rs, hq with
  | .error e, hq => exact passAt tk σ pins H s e s' I hq
  | .ok (.ret u), hq => exact I.after hq
theorem xe_meth {pl : Sem Bool} (F : OkM X.prog X.w X.K X.mg X.base k cl m ps (SF c)) (M : Meth X.K (He.ga X.K cl) m (He.fAd X.K (cl, some m))) (hG : X.A.guards = some []) (hr : Room k X.A) (tk : Takes X U) (ho : VE X U o (S to)) (ha : VAg X U (e :: es) (S al))
    (hst : starEach (e :: es) X.env = (false, eval e X.env) :: starEach es X.env := by rfl) (hpl : (backTo pos (starEach es X.env)).any (·.1) = false := by rfl)
    (ht : eval (.Call (.Attribute o m apos) (e :: es) [] pos) X.env = (do
      let ov ← eval o X.env
      standAt apos.atName
      let (f, first) ← holding [ov] (getMethod ov m pl)
      callWith pos f first (backTo pos (starEach (e :: es) X.env)) (backToKw pos (keywordEach [] X.env))) := by rfl) :
    VE X U (.Call (.Attribute o m apos) (e :: es) [] pos) (S (xMeth cl m c to al)) := by
  obtain ⟨fd, F, hb⟩ := F
  constructor
  intro pins s σ H Q I ⟨C, ρ, n, G, O, Q0, E0, J, h, hq, hE⟩
  refine PySem.W.methodCall_KW (pl := pl) (thn (ho.run pins s σ H (fun x H1 => ∃ a dx fs, x = .ref a ∧ H1 a = some (.ins (He.ga X.K cl) dx fs) ∧ Cls X.K (He.ga X.K cl) ∧ fs.lookup m = none ∧ (upW X.K U (S al)) σ H1 fun vs H2 => lift X.K (SF c) (x :: vs) H2 Q fun cls d H' => U cls d σ H') I ?_) fun u s1 ⟨x, H1, I1, rx, a, dx, fs, ex, ea, kc, l, q⟩ => ?_) ht
  · refine ⟨C, ρ, n, G, O, fun d n' => sat (methK cl m c al ρ d) n' Q0 E0, E0, J, sat2 h fun _ _ z => z, fun d1 n1 h1 v1 G1 O1 H1 I1 s1 r1 => ?_, hE⟩
    replace h1 : sat (methK cl m c al ρ d1) n1 Q0 E0 := h1
    unfold methK at h1
    split at h1
    · next a ea =>
      have := asRf_inv ea
      subst this
      obtain ⟨dx, rfl, gd⟩ := r1.rfi
      obtain ⟨x, hc, ec, hn, q⟩ := methC_of (show sat (methC cl m c al a ρ (n1.st a)) n1 Q0 E0 from h1)
      obtain ⟨ls, k1, _, dx2, vs, oa, ha1, _, fd1⟩ := I1.cellAt hc
      rw [ec] at k1 ha1
      refine ⟨a, dx2, vs, rfl, ha1, k1.cl, fd1.no hn, C, ρ, n1, G1, O1, _, E0, I1, q, fun ws n2 h2 us G2 O2 H2 I2 s2 r2 => ?_, hE⟩
      exact lift_at I2 (RWs.consD (.rfc (s2 _ _ gd)) r2) h2 (fun d' n' q' v' G' O' H' I' s' r' => hq d' n' q' v' G' O' H' I' ((s1.trans s2).trans s') r') hE
    · exact h1.elim
  · subst ex
    cases (show u = Value.ref a from rx)
    refine getmeth_ok I1 ea kc M l ?_
    refine PySem.W.callWith_K (first := [.ref a]) (h₀ := X.base) I.ok.mod.kin M.kp (thn (ha.run pos pins s1 σ H1 _ I1 q) fun us s2 ⟨vs, H2, I2, r, q2⟩ => ⟨I2.kIn, ?_⟩) hst hpl
    exact run_fnG F hG hr tk hb I2 (us := .ref a :: us) (vs := .ref a :: vs) (.cons rfl r) q2
theorem xe_meth0 {pl : Sem Bool} (F : OkM X.prog X.w X.K X.mg X.base k cl m ps (SF c)) (M : Meth X.K (He.ga X.K cl) m (He.fAd X.K (cl, some m))) (hG : X.A.guards = some []) (hr : Room k X.A) (tk : Takes X U) (ho : VE X U o (S to))
    (ht : eval (.Call (.Attribute o m apos) [] [] pos) X.env = (do
      let ov ← eval o X.env
      standAt apos.atName
      let (f, first) ← holding [ov] (getMethod ov m pl)
      callWith pos f first (backTo pos (starEach [] X.env)) (backToKw pos (keywordEach [] X.env))) := by rfl) :
    VE X U (.Call (.Attribute o m apos) [] [] pos) (S (xMeth cl m c to ywNil)) := by
  obtain ⟨fd, F, hb⟩ := F
  constructor
  intro pins s σ H Q I ⟨C, ρ, n, G, O, Q0, E0, J, h, hq, hE⟩
  refine PySem.W.methodCall_KW (pl := pl) (thn (ho.run pins s σ H (fun x H1 => ∃ a dx fs, x = .ref a ∧ H1 a = some (.ins (He.ga X.K cl) dx fs) ∧ Cls X.K (He.ga X.K cl) ∧ fs.lookup m = none ∧ lift X.K (SF c) [x] H1 Q fun cls d H' => U cls d σ H') I ?_) fun u s1 ⟨x, H1, I1, rx, a, dx, fs, ex, ea, kc, l, q⟩ => ?_) ht
  · refine ⟨C, ρ, n, G, O, fun d n' => sat (methK cl m c ywNil ρ d) n' Q0 E0, E0, J, sat2 h fun _ _ z => z, fun d1 n1 h1 v1 G1 O1 H1 I1 s1 r1 => ?_, hE⟩
    replace h1 : sat (methK cl m c ywNil ρ d1) n1 Q0 E0 := h1
    unfold methK at h1
    split at h1
    · next a ea =>
      have := asRf_inv ea
      subst this
      obtain ⟨dx, rfl, gd⟩ := r1.rfi
      obtain ⟨x, hc, ec, hn, q⟩ := methC_of (show sat (methC cl m c ywNil a ρ (n1.st a)) n1 Q0 E0 from h1)
      obtain ⟨ls, k1, _, dx2, vs, oa, ha1, _, fd1⟩ := I1.cellAt hc
      rw [ec] at k1 ha1
      exact ⟨a, dx2, vs, rfl, ha1, k1.cl, fd1.no hn, lift_at I1 (ws := [.dat (rf a)]) (RWs.consD (.rfc gd) trivial) q (fun d' n' q' v' G' O' H' I' s' r' => hq d' n' q' v' G' O' H' I' (s1.trans s') r') hE⟩
    · exact h1.elim
  · subst ex
    cases (show u = Value.ref a from rx)
    refine getmeth_ok I1 ea kc M l ?_
    exact PySem.W.callWith_K0 (first := [.ref a]) I1.kIn M.kp (run_fnG F hG hr tk hb I1 (us := [.ref a]) (vs := [.ref a]) (.cons rfl .nil) q)
end
end VL


set_option maxRecDepth 100000
set_option maxHeartbeats 2000000
namespace VL
open PySem PySem.Spec PyProof.Rows L2
/-! ### a def's promise run at once, its exceptions as the body's own -/
section
variable {X : Cx} {U : WX} {k : Nat}
/-- the code of such a def -/
theorem code_fnG {fd : FuncData} {f : Addr} {ps : List Str} {sp : Sp} {pins : List (Addr × Obj)} {σ : L2.St} {H : Hp} {s : Shared} {Q : VK} {us : List Value} {vs : List V} {args : Args} (F : FnG X.prog X.w X.K X.mg X.base k f fd ps sp) (hG : X.A.guards = some []) (hr : Room k X.A) (tk : Takes X U) (hb : BindsTo s fd args (ps.zip us)) (I : Inv X pins σ H s) (r : Vals vs us)
    (q : sp vs H Q fun cls d H' => U cls d σ H') : codeAny (model X.prog X.w) X.A (.call (.ref f) args) (fun rs s' => match rs with | .ok (.ret u) => L2.EP X pins σ Q u s' | .error e => X.xe e s' | _ => False) s := by
  refine codeAny_mono (F.run X.A X.stack s H args us vs Q _ hG hr I.env0 hb r q) fun rs s' hq => ?_
  match rs, hq with
  | .error e, hq => exact passAt tk σ pins H s e s' I hq
  | .ok (.ret u), hq => exact I.after hq
end
/-! ### C(..) -/
/-- how an __init__ binds: n written arguments, then defaults, then keywords -/
def BdM (K : PySem.W.Frag) (fd : FuncData) (ps : List Str) (n : Nat) (ks : List Str) (dw : List Dt) : Prop :=
  ∃ (dvs : List V) (ds : List Value), Vals dvs ds ∧ (∀ G, DRs K G dvs dw) ∧ ∀ (s : Shared) (us ws : List Value), K.In s.heap → us.length = n → ws.length = ks.length → BindsTo s fd ⟨us, ks.zip ws⟩ (ps.zip (us ++ (ds ++ ws)))
/-- an __init__'s promise, and how it is called -/
def OkI (P : Program) (w : World) (K : PySem.W.Frag) (mg : Str → Option Value) (base : Heap) (k : Nat) (cl : Str) (ps : List Str) (n : Nat) (ks : List Str) (dw : List Dt) (c : VFn) : Prop :=
  ∃ fd, FnG P w K mg base k (He.fAd K (cl, some "__init__")) fd ps (lift K c) ∧ BdM K fd ps n ks dw
def mkE (a : Addr) (w : W) : T Dt := match w with
  | .dat .none => .ret (rf a)
  | _ => .fail
def mkR (cl : Str) (c : XFn) (a : Addr) (ws : List W) (s : Sto) : T Dt := .wr (s.put a ⟨cl, []⟩) (bd (c (.dat (rf a) :: ws)) (mkE a))
def mkN (cl : Str) (c : XFn) (ws : List W) (a : Addr) : T Dt := .rd (mkR cl c a ws)
def mkK (cl : Str) (c : XFn) (ws : List W) : T Dt := .nw (mkN cl c ws)
def mk0 (cl : Str) (c : XFn) (dw : List Dt) (ws : List W) : T Dt := mkK cl c (ws ++ dw.map .dat)
/-- C(..) -/
def xMk (cl : Str) (c : XFn) (dw : List Dt) (al : XAW) (ρ : Nv) : T Dt := bd (al ρ) (mk0 cl c dw)
def mkS2 (cl : Str) (c : XFn) (dw : List Dt) (ws : List W) (d : Dt) : T Dt := mkK cl c (ws ++ (dw.map .dat ++ [.dat d]))
def mkS1 (cl : Str) (c : XFn) (dw : List Dt) (te : XT) (ρ : Nv) (ws : List W) : T Dt := bd (te ρ) (mkS2 cl c dw ws)
/-- C(.., state=e) -/
def xMkS (cl : Str) (c : XFn) (dw : List Dt) (al : XAW) (te : XT) (ρ : Nv) : T Dt := bd (al ρ) (mkS1 cl c dw te ρ)
theorem RWs.app {K : PySem.W.Frag} {C : Ct} {G : Hp} : ∀ {ws zs : List W} {vs us : List V}, RWs K C G ws vs → RWs K C G zs us → RWs K C G (ws ++ zs) (vs ++ us)
  | [], _, [], _, _, h => h
  | _ :: _, _, _ :: _, _, h, h2 => ⟨h.1, RWs.app h.2 h2⟩
  | [], _, _ :: _, _, h, _ => h.elim
  | _ :: _, _, [], _, h, _ => h.elim
theorem RWs.dats {K : PySem.W.Frag} {C : Ct} {G : Hp} : ∀ {ds : List Dt} {vs : List V}, DRs K G vs ds → RWs K C G (ds.map .dat) vs
  | [], _, h => by cases h; trivial
  | d :: ds, _, h => by
    cases h with
    | cons a r => exact ⟨a, RWs.dats r⟩
theorem RWs.len {K : PySem.W.Frag} {C : Ct} {G : Hp} : ∀ {ws : List W} {vs : List V}, RWs K C G ws vs → vs.length = ws.length
  | [], [], _ => rfl
  | _ :: _, _ :: _, h => by rw [List.length_cons, List.length_cons, RWs.len h.2]
  | [], _ :: _, h => h.elim
  | _ :: _, [], h => h.elim
section
variable {X : Cx} {U : WX} {e e2 : Expr} {es : List Expr} {pos p kpos : Pos} {al : XAW} {te : XT} {cl : Str} {k : Nat} {ps ks : List Str} {dw : List Dt} {c : XFn}
theorem under_make (A : Around) (C : Addr) (us : List Value) (kw : List (Str × Value)) : (A.under (.builtin "type.__call__" ⟨.ref C :: us, kw⟩)).guards = A.guards := by
  unfold Around.under
  rw [show Code.guards (.builtin "type.__call__" ⟨.ref C :: us, kw⟩) = [] from rfl]
  rfl
/-- a new instance, and its __init__ -/
theorem run_mkG {f : Addr} {fd : FuncData} {pins : List (Addr × Obj)} {σ : L2.St} {ρ : Nv} {C : Ct} {n : Sn} {G O H : Hp} {s : Shared} {Q : VK} {Q0 : Dt → Sn → Prop} {E0 : XW} {us ws : List Value} {vs zs : List V} {wvs wzs : List W} (k0 : ClsOk X.K cl) (M : Mk X.K (He.ga X.K cl) f) (F : FnG X.prog X.w X.K X.mg X.base k f fd ps (lift X.K (SF c))) (hG : X.A.guards = some []) (hr : Room (k + 1) X.A)
    (hb : BdM X.K fd ps (wvs.length + 1) ks dw) (tk : Takes X U) (J : Inv X pins σ H s) (I : In X.K C σ ρ n G O H) (r : Vals vs us) (rz : Vals zs ws) (rw1 : RWs X.K C G wvs vs) (rw2 : RWs X.K C G wzs zs) (hl : zs.length = ks.length)
    (h : sat (mkK cl c (wvs ++ (dw.map .dat ++ wzs))) n Q0 E0) (hq : ∀ d n', Q0 d n' → ∀ v G' O' H', In X.K C σ ρ n' G' O' H' → Same G G' → DR X.K G' v d → Q v H') (hE : LkX X.K U C σ ρ E0) :
    wpAny (model X.prog X.w) X.A (call (.ref (He.ga X.K cl)) us (ks.zip ws)) (L2.EP X pins σ Q) X.xe s := by
  obtain ⟨dvs, ds, rd, rdd, bt⟩ := hb
  have hx : H (s.heap.objs.size + 1) = none := J.hok.fresh (Nat.le_succ _)
  have hd : H s.heap.objs.size = none := J.hok.fresh (Nat.le_refl _)
  have ne : s.heap.objs.size ≠ s.heap.objs.size + 1 := Nat.ne_of_lt (Nat.lt_succ_self _)
  obtain ⟨I2, sG, stn⟩ := I.newCell hx hd ne k0
  have J2 := Inv.made (C := He.ga X.K cl) J
  generalize hxa : s.heap.objs.size + 1 = x at *
  generalize hda : s.heap.objs.size = dx at *
  have h2 : sat (bd (c (.dat (rf x) :: (wvs ++ (dw.map .dat ++ wzs)))) (mkE x)) ⟨n.n, n.st.put x ⟨cl, []⟩⟩ Q0 E0 := h x stn
  have gx : (upd G dx (.own x)) dx = some (.own x) := upd_same
  have rws : RWs X.K C (upd G dx (.own x)) (.dat (rf x) :: (wvs ++ (dw.map .dat ++ wzs))) (.ref x :: (vs ++ (dvs ++ zs))) := ⟨.rfc gx, (rw1.same sG).app ((RWs.dats (rdd _)).app (rw2.same sG))⟩
  have hq' : lift X.K (SF c) (.ref x :: (vs ++ (dvs ++ zs))) (upd (upd H dx (.own x)) x (.ins (He.ga X.K cl) dx [])) (fun v H' => v = .non ∧ Q (.ref x) H') fun cls d H' => U cls d σ H' := by
    refine ⟨C.now (upd G dx (.own x)) (upd O dx (.own x)) (upd (upd H dx (.own x)) x (.ins (He.ga X.K cl) dx [])), _, _, _, E0, ⟨rfl, I2.ht⟩, ⟨I2.good, I2.go, Same.refl _, Same.refl _, I2.oH, NewA.refl, NewA.refl, fun _ q => q, I2.tb, I2.sto⟩, RWs.rel (C := C) (C' := C.now (upd G dx (.own x)) (upd O dx (.own x)) (upd (upd H dx (.own x)) x (.ins (He.ga X.K cl) dx []))) rfl rws, sat_bd.mp h2, fun w n' q v G' O' H' J' rw' => ?_, fun x n' q cls d G' O' H' J' r => hE x n' q cls d G' O' H' (I2.call J') r⟩
    replace q : sat (mkE x w) n' Q0 E0 := q
    unfold mkE at q
    split at q
    · cases rw' with
      | non => exact ⟨rfl, hq _ n' q _ G' O' H' (I2.call J') (sG.trans J'.g0) (.rfc (J'.g0 _ _ gx))⟩
    · exact q.elim
  have r1 : Vals (V.ref x :: (vs ++ (dvs ++ zs))) (Value.ref x :: (us ++ (ds ++ ws))) := .cons rfl (r.append (rd.append rz))
  have n1 : (Value.ref x :: us).length = wvs.length + 1 := by rw [List.length_cons, ← r.length, rw1.len]
  refine wpAny_call (make_map (f := f) J.kIn M.makes M.init (beq_iff_eq.mp M.fn) ?_)
  rw [hda, hxa]
  refine codeAny_mono (F.run _ X.stack _ _ ⟨Value.ref x :: us, ks.zip ws⟩ (Value.ref x :: (us ++ (ds ++ ws))) _ _ (fun cls d H' => U cls d σ H') (by rw [under_make]; exact hG) (hr.make _ us (ks.zip ws)) (J2.env0.make _ us (ks.zip ws)) (bt _ (Value.ref x :: us) ws J2.kIn n1 (rz.length.symm.trans hl)) r1 hq') fun rr s' hq2 => ?_
  cases rr with
  | error e => exact passAt tk σ pins _ _ e s' J2 hq2
  | ok fl =>
    cases fl with
    | ret u =>
      obtain ⟨v, H', I3, rv, ev, q3⟩ := J2.after hq2
      subst ev
      exact ⟨rv, ⟨V.ref x, H', I3, rfl, q3⟩⟩
    | next => exact False.elim hq2
    | brk => exact False.elim hq2
    | cont => exact False.elim hq2
theorem xe_mk (k0 : ClsOk X.K cl) (F : OkI X.prog X.w X.K X.mg X.base k cl ps (es.length + 1 + 1) [] dw (SF c)) (M : Mk X.K (He.ga X.K cl) (He.fAd X.K (cl, some "__init__"))) (hG : X.A.guards = some []) (hr : Room (k + 1) X.A) (tk : Takes X U) (hg : Gl X cl) (hm : X.mg cl = some (.ref (He.ga X.K cl))) (ha : VAg X U (e :: es) (S al)) (hn : ∀ ρ n Q E, sat (al ρ) n Q E → sat (al ρ) n (fun ws n' => ws.length = es.length + 1 ∧ Q ws n') E)
    (hdb : (cl == ("__debug__" : Str)) = false := by decide) (he : starEach (e :: es) X.env = (false, eval e X.env) :: starEach es X.env := by rfl) (hpl : (backTo pos (starEach es X.env)).any (·.1) = false := by rfl) :
    VE X U (.Call (.Name cl p) (e :: es) [] pos) (S (xMk cl c dw al)) := by
  obtain ⟨fd, F, hb⟩ := F
  constructor
  intro pins s σ H Q I ⟨C, ρ, n, G, O, Q0, E0, J, h, hq, hE⟩
  refine wpAny_Call_Name_kw (ld_glob I hg hm ?_ hdb)
  refine PySem.W.callWith_K (h₀ := X.base) I.ok.mod.kin M.kp (thn (ha.run pos pins s σ H (fun vs H1 => ∃ ws n1 G1 O1, In X.K C σ ρ n1 G1 O1 H1 ∧ Same G G1 ∧ RWs X.K C G1 ws vs ∧ ws.length = es.length + 1 ∧ sat (mk0 cl c dw ws) n1 Q0 E0) I ?_) fun us s1 ⟨vs, H1, I1, r, q⟩ => ⟨I1.kIn, ?_⟩) he hpl
  · exact ⟨C, ρ, n, G, O, _, E0, J, hn ρ n _ _ (sat2 h fun _ _ z => z), fun ws n1 h1 vs G1 O1 H1 I1 s1 r1 => ⟨ws, n1, G1, O1, I1, s1, r1, h1.1, h1.2⟩, hE⟩
  · obtain ⟨ws, n1, G1, O1, J1, s1, rw1, hl, h1⟩ := q
    have h1' : sat (mkK cl c (ws ++ (dw.map .dat ++ []))) n1 Q0 E0 := by rw [List.append_nil]; exact h1
    have := run_mkG (ks := []) (ws := []) (zs := []) (wzs := []) (Q := Q) (Q0 := Q0) (E0 := E0) k0 M F hG hr (by rw [hl]; exact hb) tk I1 J1 r .nil rw1 trivial rfl h1' (fun d n' q v G' O' H' I' s' r' => hq d n' q v G' O' H' I' (s1.trans s') r') hE
    exact this
theorem xe_mkS (k0 : ClsOk X.K cl) (F : OkI X.prog X.w X.K X.mg X.base k cl ps (es.length + 1 + 1) stN dw (SF c)) (M : Mk X.K (He.ga X.K cl) (He.fAd X.K (cl, some "__init__"))) (hG : X.A.guards = some []) (hr : Room (k + 1) X.A) (tk : Takes X U) (hg : Gl X cl) (hm : X.mg cl = some (.ref (He.ga X.K cl))) (ha : VAg X U (e :: es) (S al)) (hn : ∀ ρ n Q E, sat (al ρ) n Q E → sat (al ρ) n (fun ws n' => ws.length = es.length + 1 ∧ Q ws n') E) (hkw : VE X U e2 (S te))
    (hdb : (cl == ("__debug__" : Str)) = false := by decide) (hall : (backToKw pos (keywordEach [⟨some "state", e2, kpos⟩] X.env)).all (·.1.isSome) = true := by rfl) (hks : (backToKw pos (keywordEach [⟨some "state", e2, kpos⟩] X.env)).filterMap (·.1) = stN := by rfl)
    (he : starEach (e :: es) X.env = (false, eval e X.env) :: starEach es X.env := by rfl)
    (hpl : ((backTo pos (starEach (e :: es) X.env)).any (·.1) || (backToKw pos (keywordEach [⟨some "state", e2, kpos⟩] X.env)).any (·.1.isNone)) = false := by rfl) :
    VE X U (.Call (.Name cl p) (e :: es) [⟨some "state", e2, kpos⟩] pos) (S (xMkS cl c dw al te)) := by
  obtain ⟨fd, F, hb⟩ := F
  constructor
  intro pins s σ H Q I ⟨C, ρ, n, G, O, Q0, E0, J, h, hq, hE⟩
  refine wpAny_Call_Name_kw (ld_glob I hg hm ?_ hdb)
  refine PySem.W.callWith_KW (h₀ := X.base) I.ok.mod.kin M.kp hall (thn (ha.run pos pins s σ H (fun vs H1 => ∃ ws n1 G1 O1, In X.K C σ ρ n1 G1 O1 H1 ∧ Same G G1 ∧ RWs X.K C G1 ws vs ∧ ws.length = es.length + 1 ∧ sat (mkS1 cl c dw te ρ ws) n1 Q0 E0) I ?_) fun us s1 z => ?_) hpl he
  · exact ⟨C, ρ, n, G, O, _, E0, J, hn ρ n _ _ (sat2 h fun _ _ z => z), fun ws n1 h1 vs G1 O1 H1 I1 s1 r1 => ⟨ws, n1, G1, O1, I1, s1, r1, h1.1, h1.2⟩, hE⟩
  · obtain ⟨vs, H1, I1, r, ws, n1, G1, O1, J1, sg1, rw1, hl, h1⟩ := z
    refine thn ((pk_cons hkw pk_nil).run pos pins s1 σ H1 (fun zs H2 => ∃ z d n2 G2 O2, zs = [z] ∧ In X.K C σ ρ n2 G2 O2 H2 ∧ Same G1 G2 ∧ DR X.K G2 z d ∧ sat (mkS2 cl c dw ws d) n2 Q0 E0) I1 ?_) fun wz s2 y => ?_
    · exact ⟨C, ρ, n1, G1, O1, fun d n' => sat (mkS2 cl c dw ws d) n' Q0 E0, E0, J1, sat2 h1 fun _ _ z => z, fun d n2 h2 v G2 O2 H2 I2 s2 rd => ⟨v, d, n2, G2, O2, rfl, I2, s2, rd, h2⟩, hE⟩
    · obtain ⟨zs, H2, I2, rz, z, d, n2, G2, O2, rfl, J2, sg2, rd, h2⟩ := y
      refine ⟨I2.kIn, ?_⟩
      rw [hks]
      exact run_mkG (ks := stN) (ws := wz) (zs := [z]) (wzs := [.dat d]) (Q := Q) (Q0 := Q0) (E0 := E0) k0 M F hG hr (by rw [hl]; exact hb) tk I2 J2 r rz (rw1.same sg2) ⟨rd, trivial⟩ rfl h2 (fun d n' q v G' O' H' I' s' r' => hq d n' q v G' O' H' I' ((sg1.trans sg2).trans s') r') hE
end
end VL


set_option maxRecDepth 100000
set_option maxHeartbeats 2000000
namespace VL
open PySem PySem.Spec PyProof.Rows L2
/-! ### what the written part says of own classes -/
def clsB (K : PySem.W.Frag) (c : Str) : Bool := PySem.W.plainGet K (He.ga K c) Str.empty && (PySem.W.hasDictIn K (He.ga K c) && (PySem.W.plainOver K (He.ga K c) && (decide (PySem.W.findIn K (.ref (He.ga K c)) "__setattr__" = some (some (.builtin "object.__setattr__"))) &&
  (decide (PySem.W.findIn K (.ref (He.ga K c)) "__class__" = some (some (.builtin "object.__class__"))) && (decide (PySem.W.specialIn K (.builtin "object.__class__") "__get__" = some (some (.builtin "getset_descriptor.__get__"))) && (decide (PySem.W.takesIn K (.builtin "object.__class__") = some true) &&
  (decide (PySem.W.mroIn K (He.ga K c) (.type "object") = some true) && (["bool", "int", "str", "list", "tuple"].all fun T => decide (PySem.W.kitOne K (.ref (He.ga K c)) (.type T) = some false)))))))))
theorem clsB_ok {K : PySem.W.Frag} {c : Str} (h : clsB K c = true) : ClsOk K c := by
  unfold clsB at h
  simp only [Bool.and_eq_true, decide_eq_true_eq, List.all_eq_true] at h
  obtain ⟨h1, h2, h3, h4, h5, h6, h7, h8, h9⟩ := h
  exact ⟨⟨h1, h2, h3, h4⟩, h5, h6, h7, h8, h9⟩
def methB (K : PySem.W.Frag) (c m : Str) : Bool := decide (PySem.W.findIn K (.ref (He.ga K c)) m = some (some (.ref (He.fAd K (c, some m))))) && (PySem.W.isFn K (.ref (He.fAd K (c, some m))) && PySem.W.keepIn K (.ref (He.fAd K (c, some m))))
theorem methB_ok {K : PySem.W.Frag} {c m : Str} (h : methB K c m = true) : Meth K (He.ga K c) m (He.fAd K (c, some m)) := by
  unfold methB at h
  simp only [Bool.and_eq_true, decide_eq_true_eq] at h
  exact ⟨h.1, h.2.1, h.2.2⟩
def makB (K : PySem.W.Frag) (c : Str) : Bool := PySem.W.makesIn K (He.ga K c) && (decide (PySem.W.findIn K (.ref (He.ga K c)) "__init__" = some (some (.ref (He.fAd K (c, some "__init__"))))) && (PySem.W.isFn K (.ref (He.fAd K (c, some "__init__"))) && PySem.W.keepIn K (.ref (He.ga K c))))
theorem makB_ok {K : PySem.W.Frag} {c : Str} (h : makB K c = true) : Mk K (He.ga K c) (He.fAd K (c, some "__init__")) := by
  unfold makB at h
  simp only [Bool.and_eq_true, decide_eq_true_eq] at h
  exact ⟨h.1, h.2.1, h.2.2.1, h.2.2.2⟩
def noB (K : PySem.W.Frag) (c f : Str) : Bool := decide (PySem.W.findIn K (.ref (He.ga K c)) f = some none)
theorem noB_ok {K : PySem.W.Frag} {c f : Str} (h : noB K c f = true) : NoAttr K (He.ga K c) f := by
  unfold noB at h
  have := of_decide_eq_true h
  exact this
/-- where the class keeps a property -/
def prA (K : PySem.W.Frag) (c f : Str) : Addr := match PySem.W.findIn K (.ref (He.ga K c)) f with
  | some (some (.ref p)) => p
  | _ => 0
def calB (K : PySem.W.Frag) (c : Str) : Bool := decide (PySem.W.findIn K (.ref (He.ga K c)) "__call__" = some (some (.ref (He.fAd K (c, some "__call__"))))) && (PySem.W.isFn K (.ref (He.fAd K (c, some "__call__"))) && PySem.W.fnIn K (He.fAd K (c, some "__call__")))
theorem calB_ok {K : PySem.W.Frag} {c : Str} (h : calB K c = true) : StX.CallO K (He.ga K c) (He.fAd K (c, some "__call__")) := by
  unfold calB at h
  simp only [Bool.and_eq_true, decide_eq_true_eq] at h
  exact ⟨h.1, h.2.1, h.2.2⟩
/-- types and classes apart -/
structure CsOk (K : PySem.W.Frag) (cs : List Str) : Prop where
  ty : ∀ t ∈ ["NoneType", "bool", "int", "str", "list", "tuple", "dict"], ∀ c ∈ cs, PySem.W.kitOne K (.type t) (.ref (He.ga K c)) = some false ∧ PySem.W.notFirst K (He.ga K c) (.type t) = true
  cl : ∀ c ∈ cs, ∀ e ∈ cs, PySem.W.kitOne K (.ref (He.ga K c)) (.ref (He.ga K e)) = some (decide (c = e)) ∧ PySem.W.notFirst K (He.ga K c) (.ref (He.ga K e)) = true
/-! ### isinstance of own classes -/
section
variable {X : Cx} {U : WX} {e o a b : Expr} {es : List Expr} {pos apos p : Pos} {te to ta tb : XT} {al : XAW} {cl m f : Str} {k : Nat} {ps : List Str} {c : XFn} {cs : List Str}
end
end VL


set_option maxRecDepth 100000
set_option maxHeartbeats 2000000
namespace VL
open PySem PySem.Spec PyProof.Rows L2
/-! ### properties -/
section
variable {X : Cx} {U : WX} {e o a b : Expr} {es : List Expr} {pos apos p tpos : Pos} {te to ta tb : XT} {al : XAW} {cl m f : Str} {k : Nat} {ps : List Str} {c : XFn} {cs : List Str}
/-! ### instances called -/
def caR (cl : Str) (c : XFn) (a : Addr) (ws : List W) : Option Cell → T Dt
  | some x => if x.c = cl then bd (c (.dat (rf a) :: ws)) rOfT else .fail
  | none => .fail
def caW (cl : Str) (c : XFn) (a : Addr) (ws : List W) : T Dt := .rd fun s => caR cl c a ws (s a)
def caK (cl : Str) (c : XFn) (al : XAW) (ρ : Nv) (d : Dt) : T Dt := match asRf d with
  | some a => bd (al ρ) (caW cl c a)
  | none => .fail
/-- e(..), e an instance of cl -/
def xCaO (cl : Str) (c : XFn) (te : XT) (al : XAW) (ρ : Nv) : T Dt := bd (te ρ) (caK cl c al ρ)
theorem ca_of {cl : Str} {c : XFn} {a : Addr} {ws : List W} {n : Sn} {Q : Dt → Sn → Prop} {E : XW} (h : sat (caW cl c a ws) n Q E) : ∃ x, n.st a = some x ∧ x.c = cl ∧ SF c (.dat (rf a) :: ws) n (rOf Q) E := by
  replace h : sat (caR cl c a ws (n.st a)) n Q E := h
  unfold caR at h
  split at h
  · next x hx =>
    split at h
    · next hc => exact ⟨x, hx, hc, sat2 h fun w n2 q => satR q⟩
    · exact h.elim
  · exact h.elim
theorem xe_callI {e0 : Expr} (F : OkM X.prog X.w X.K X.mg X.base k cl "__call__" ps (SF c)) (c0 : StX.CallO X.K (He.ga X.K cl) (He.fAd X.K (cl, some "__call__"))) (hG : X.A.guards = some []) (hr : Room k X.A) (tk : Takes X U) (he0 : VE X U e0 (S te)) (ha : VAg X U (e :: es) (S al))
    (ht : eval (.Call e0 (e :: es) [] pos) X.env = (do callWith pos (← eval e0 X.env) [] (backTo pos (starEach (e :: es) X.env)) (backToKw pos (keywordEach [] X.env))) := by rfl)
    (he : starEach (e :: es) X.env = (false, eval e X.env) :: starEach es X.env := by rfl) (hpl : (backTo pos (starEach es X.env)).any (·.1) = false := by rfl) : VE X U (.Call e0 (e :: es) [] pos) (S (xCaO cl c te al)) := by
  obtain ⟨fd, F, hb⟩ := F
  constructor
  intro pins s σ H Q I ⟨C, ρ, n, G, O, Q0, E0, J, h, hq, hE⟩
  refine Call_ (thn (he0.run pins s σ H (fun x H1 => ∃ a n1 G1 O1 dx, x = .ref a ∧ In X.K C σ ρ n1 G1 O1 H1 ∧ Same G G1 ∧ G1 dx = some (.own a) ∧ sat (al ρ) n1 (fun ws n' => sat (caW cl c a ws) n' Q0 E0) E0) I ?_) fun u s1 ⟨x, H1, I1, rx, a, n1, G1, O1, dx, ex, Y, sg, gd, q⟩ => ?_) ht
  · refine ⟨C, ρ, n, G, O, fun d n' => sat (caK cl c al ρ d) n' Q0 E0, E0, J, sat2 h fun _ _ z => z, fun d1 n1 h1 v1 G1 O1 H1 I1 s1 r1 => ?_, hE⟩
    replace h1 : sat (caK cl c al ρ d1) n1 Q0 E0 := h1
    unfold caK at h1
    split at h1
    · next a ea =>
      have := asRf_inv ea
      subst this
      obtain ⟨dx, rfl, gd⟩ := r1.rfi
      exact ⟨a, n1, G1, O1, dx, rfl, I1, s1, gd, sat2 h1 fun _ _ z => z⟩
    · exact h1.elim
  · subst ex
    cases (show u = Value.ref a from rx)
    refine StX.callO_with (thn (ha.run pos pins s1 σ H1 (fun vs H2 => ∃ ws n2 G2 O2, In X.K C σ ρ n2 G2 O2 H2 ∧ Same G1 G2 ∧ RWs X.K C G2 ws vs ∧ sat (caW cl c a ws) n2 Q0 E0) I1 ?_) fun us s2 ⟨vs, H2, I2, r, ws, n2, G2, O2, Y2, sg2, rw', q2⟩ => ?_) he hpl
    · exact ⟨C, ρ, n1, G1, O1, _, E0, Y, q, fun ws n2 h2 vs G2 O2 H2 I2 s2 r2 => ⟨ws, n2, G2, O2, I2, s2, r2, h2⟩, hE⟩
    · obtain ⟨y, hy, hc, q3⟩ := ca_of q2
      obtain ⟨ls0, _, _, dx3, vs3, _, ha0, _⟩ := Y2.cellAt hy
      rw [hc] at ha0
      obtain ⟨mA, OO, _, _, _, _⟩ := ins_get I2.hok ha0
      obtain ⟨od, JJ, _⟩ := OO.look
      refine ⟨⟨_, _, _, JJ, rfl⟩, ?_⟩
      refine wpAny_call (PySem.W.kco_code I2.kIn JJ rfl c0.at_ c0.fn c0.fi ?_)
      have lf := lift_at (U := U) Y2 (ws := .dat (rf a) :: ws) (vs := .ref a :: vs) (Q := Q) ⟨.rfc (sg2 _ _ gd), rw'⟩ q3 (fun d n' q v G' O' H' I' s' r' => hq d n' q v G' O' H' I' ((sg.trans sg2).trans s') r') hE
      have hl : (Value.ref a :: us).length = ps.length := by
        have := F.len _ _ _ _ lf
        rw [← this, List.length_cons, List.length_cons, r.length]
      have bt := hb s2 (.ref a :: us) I2.kIn (by rw [List.append_nil]; exact hl)
      rw [List.append_nil] at bt
      refine codeAny_mono (code_fnG F hG hr tk (args := ⟨.ref a :: us, []⟩) (us := .ref a :: us) (vs := .ref a :: vs) bt I2 (.cons rfl r) lf) fun rs s' hq' => ?_
      match rs, hq' with
      | .error e, hq' => exact hq'
      | .ok (.ret u), hq' => exact hq'
end
end VL


set_option maxRecDepth 100000
set_option maxHeartbeats 2000000
namespace VL
open PySem PySem.Spec PyProof.Rows L2
/-! ### operators that may call a method of an instance -/
def OpS (X : Cx) (U : WX) (f : Value → Value → Sem Value) (r : Dt → Dt → T Dt) : Prop :=
  ∀ (pins : List (Addr × Obj)) (s : Shared) (σ : L2.St) (H : Hp) (x y : V) (v u : Value) (Q : VK) (C : Ct) (ρ : Nv) (n : Sn) (G O : Hp) (Q0 : Dt → Sn → Prop) (E0 : XW) (d1 d2 : Dt), Inv X pins σ H s → In X.K C σ ρ n G O H → RelV x v → RelV y u → DR X.K G x d1 → DR X.K G y d2 → sat (r d1 d2) n Q0 E0 →
    (∀ d n', Q0 d n' → ∀ v G' O' H', In X.K C σ ρ n' G' O' H' → Same G G' → DR X.K G' v d → Q v H') → LkX X.K U C σ ρ E0 → wpAny (model X.prog X.w) X.A (f v u) (L2.EP X pins σ Q) X.xe s
/-- the one or the other -/
def altS (t : Dt → Dt → Bool) (r r' : Dt → Dt → T Dt) (a b : Dt) : T Dt := if t a b = true then r a b else r' a b
section
variable {X : Cx} {U : WX} {e o a b : Expr} {es : List Expr} {pos apos p tpos : Pos} {te to ta tb : XT} {al : XAW} {cl m f : Str} {k : Nat} {ps : List Str} {c : XFn} {cs : List Str} {g : Value → Value → Sem Value} {r r' : Dt → Dt → T Dt}
theorem OpS.alt {t : Dt → Dt → Bool} (h : OpS X U g r) (h' : OpS X U g r') : OpS X U g (altS t r r') := by
  intro pins s σ H x y v u Q C ρ n G O Q0 E0 d1 d2 I Y rx ry r1 r2 hs hq hE
  unfold altS at hs
  split at hs
  · exact h pins s σ H x y v u Q C ρ n G O Q0 E0 d1 d2 I Y rx ry r1 r2 hs hq hE
  · exact h' pins s σ H x y v u Q C ρ n G O Q0 E0 d1 d2 I Y rx ry r1 r2 hs hq hE
end
end VL


set_option maxRecDepth 100000
set_option maxHeartbeats 2000000
namespace VL
open PySem PySem.Spec PyProof.Rows L2
/-! ### == and != by an own __eq__ -/
section
variable {X : Cx} {U : WX} {e o a b : Expr} {es : List Expr} {pos apos p tpos : Pos} {te to ta tb : XT} {al : XAW} {cl m f : Str} {k : Nat} {ps : List Str} {c : XFn} {cs : List Str}
end
end VL


set_option maxRecDepth 100000
set_option maxHeartbeats 2000000
namespace VL
open PySem PySem.Spec PyProof.Rows L2
theorem OkM.ofX {P : Program} {w : World} {K : PySem.W.Frag} {mg : Str → Option Value} {base : Heap} {k m j : Nat} {cl x : Str} {ps : List Str} {t : XS} (h : OkM P w K mg base k cl x ps (bodyV m j (SS t))) : OkM P w K mg base k cl x ps (SF (bodyX m j t)) := by
  obtain ⟨fd, F, r⟩ := h
  exact ⟨fd, F.weak bodyX_ok, r⟩
/-! ### how many arguments -/
def YL (al : XAW) (k : Nat) : Prop := ∀ ρ n Q E, sat (al ρ) n Q E → sat (al ρ) n (fun ws n' => ws.length = k ∧ Q ws n') E
theorem yl_nil : YL ywNil 0 := fun ρ n Q E h => ⟨rfl, h⟩
theorem yl_dat {te : XT} {al : XAW} {k : Nat} (h : YL al k) : YL (ywDat te al) (k + 1) := fun ρ n Q E q => by
  unfold ywDat at q ⊢
  refine sat_bd.mpr (sat_mono (fun d n1 z => ?_) (fun _ _ z => z) (sat_bd.mp q))
  replace z : sat (wdK al ρ d) n1 Q E := z
  show sat (wdK al ρ d) n1 (fun ws n' => ws.length = k + 1 ∧ Q ws n') E
  unfold wdK at z ⊢
  refine sat_bd.mpr (sat_mono (fun ws n2 y => ?_) (fun _ _ z => z) (h ρ n1 _ _ (sat_bd.mp z)))
  exact ⟨by rw [List.length_cons, y.1], y.2⟩
/-! ### an __init__ -/
theorem okI_of {P : Program} {w : World} {K : PySem.W.Frag} {mg : Str → Option Value} {base : Heap} {k m j n : Nat} {cl qual : Str} {ps ks : List Str} {dw : List Dt} {t : XS} {params : Arguments} {body : List Stmt} {scope : Scope} {dvs : List V} {kws : List (Str × V)} {fd : FuncData}
    (F : FunD K "__init__" qual params body scope dvs kws (He.fAd K (cl, some "__init__")) fd) (G : FnG P w K mg base k (He.fAd K (cl, some "__init__")) fd ps (lift K (bodyV m j (SS t)))) (b : BdM K fd ps n ks dw) : OkI P w K mg base k cl ps n ks dw (SF (bodyX m j t)) := ⟨fd, G.weak bodyX_ok, b⟩
section
variable {K : PySem.W.Frag} {x qual : Str} {params : Arguments} {body : List Stmt} {scope : Scope} {dvs : List V} {kws : List (Str × V)} {f : Addr} {fd : FuncData} {ps : List Str}
theorem BdM.binds {n : Nat} {dw : List Dt} {vs : List V} {ds : List Value} (hl : n + ds.length = ps.length) (hv : Vals vs ds) (hd : ∀ G, DRs K G vs dw) (h : Binds K fd ps ds) : BdM K fd ps n [] dw :=
  ⟨vs, ds, hv, hd, fun s us ws X h1 h2 => by
    have e : ws = [] := List.length_eq_zero_iff.mp h2
    subst e
    rw [List.append_nil]
    exact h s us X (by rw [List.length_append, h1, hl])⟩
/-- every parameter is given, the last one by its name; no positional defaults -/
theorem BdM.kw (F : FunD K x qual params body scope [] kws f fd) {n : Nat} {ks : List Str} (h : ∀ (kV doc pm : Value) (an : Option Addr) (cdv ct : Value) (us ws : List Value), us.length = n → ws.length = ks.length → bindArgs (PySem.W.fnOf x qual params body scope .none kV doc pm an cdv ct) ⟨us, ks.zip ws⟩ = pure (ps.zip (us ++ ws))) : BdM K fd ps n ks [] := by
  obtain ⟨oc, od, dV, kV, doc, pm, an, cdv, ct, osl, rfl, lk, hcd, hD, hK⟩ := F.ex
  rcases hD with ⟨_, rfl⟩ | ⟨e, _⟩
  · exact ⟨[], [], .nil, fun _ => .nil, fun s us ws _ h1 h2 => .of_eq (h kV doc pm an cdv ct us ws h1 h2)⟩
  · exact absurd rfl e
end
end VL


set_option maxRecDepth 100000
set_option maxHeartbeats 2000000
namespace VL
open PySem PySem.Spec PyProof.Rows L2
theorem FdOk.lists {K : PySem.W.Frag} {G O H : Hp} {vs : List (Str × V)} {fs : List (Str × Cl)} {ls : List Addr} (x : FdOk K G O H vs fs ls) : ∀ b ∈ ls, ∃ xs, H b = some (.lst xs) := by
  induction x with
  | nil => intro b hb; cases hb
  | dat _ _ ih => exact ih
  | lst o hh r nn _ ih =>
    intro b hb
    rcases List.mem_cons.mp hb with rfl | hb
    · exact ⟨_, hh⟩
    · exact ih b hb
/-- what stands, and what changes apart from the machine -/
structure Dq (C : Ct) (S : Addr → Prop) (m : Addr) (H : Hp) : Prop where
  dm : Dm C H
  ex : ∀ b, S b → C.H0 b ≠ none
  k : ∀ b, S b → H b = C.H0 b
  nm : ¬ S m
  hm : H m ≠ none
  lm : ∀ lc ll z, H m = some (.dK (mKvs lc ll z)) → ¬ S lc ∧ ¬ S ll
section
variable {C : Ct} {S : Addr → Prop} {m lc ll p l : Addr} {n : Nat} {O H : Hp} {cs ls ms : List Int} {z : Int} {o : HO}
theorem Dq.fr (D : Dq C S m H) (h : H p = none) : ¬ S p := fun s => D.ex p s (by rw [← D.k p s]; exact h)
theorem Dq.new (D : Dq C S m H) (h : H p = none) : Dq C S m (L2.upd H p o) := by
  have np : m ≠ p := fun e => D.hm (e ▸ h)
  refine ⟨D.dm.new h, D.ex, fun b s => ?_, D.nm, by rw [upd_ne np]; exact D.hm, fun lc ll z e => D.lm lc ll z (by rw [upd_ne np] at e; exact e)⟩
  have nb : b ≠ p := fun e => D.fr h (e ▸ s)
  rw [upd_ne nb]
  exact D.k b s
theorem Dq.oldL (D : Dq C S m H) (M : MK m n O H lc ll cs ls z) : Dq C S m (L2.upd H ll (.lst (ms.map V.int))) := by
  have np : m ≠ ll := M.nm.2.symm
  refine ⟨D.dm.old M.hl plain_lst, D.ex, fun b s => ?_, D.nm, by rw [upd_ne np]; exact D.hm, fun lc ll z e => D.lm lc ll z (by rw [upd_ne np] at e; exact e)⟩
  have nb : b ≠ ll := fun e => (D.lm _ _ _ M.hm).2 (e ▸ s)
  rw [upd_ne nb]
  exact D.k b s
theorem Dq.oldM (D : Dq C S m H) (M : MK m n O H lc ll cs ls z) {y : Int} (h : ¬ S l) : Dq C S m (L2.upd H m (.dK (mKvs lc l y))) := by
  refine ⟨D.dm.old M.hm plain_dK, D.ex, fun b s => ?_, D.nm, by rw [upd_same]; simp, fun lc2 ll2 z2 e => ?_⟩
  · have nb : b ≠ m := fun e => D.nm (e ▸ s)
    rw [upd_ne nb]
    exact D.k b s
  · rw [upd_same] at e
    have : mKvs lc l y = mKvs lc2 ll2 z2 := by
      have := Option.some.inj e
      exact HO.dK.inj this
    unfold mKvs at this
    simp only [List.cons.injEq, Prod.mk.injEq, V.ref.injEq, true_and, and_true] at this
    rw [← this.1, ← this.2.1]
    exact ⟨(D.lm _ _ _ M.hm).1, h⟩
/-- at the beginning -/
theorem Dq.start {n : Sn} {L : Addr → List Addr} (em : C.mo = some m) (io : Io C n C.G0 C.O0 C.H0) (x : StoW C.K C.mo n.st C.G0 C.O0 C.H0 L) (hm : C.H0 m = some (.dK (mKvs lc ll z))) (hl : ∃ a, C.H0 lc = some (.lst a)) (hl2 : ∃ a, C.H0 ll = some (.lst a)) :
    Dq C (fun b => ∃ a c, n.st a = some c ∧ (b = a ∨ b ∈ L a)) m C.H0 := by
  have isIns : ∀ a c, n.st a = some c → ∃ A dx vs, C.H0 a = some (.ins A dx vs) := fun a c e => by
    obtain ⟨_, _, dx, vs, _, h, _⟩ := x.at_ a c e
    exact ⟨_, dx, vs, h⟩
  have isLst : ∀ a c, n.st a = some c → ∀ b ∈ L a, ∃ xs, C.H0 b = some (.lst xs) := fun a c e b hb => by
    obtain ⟨_, _, dx, vs, _, _, _, f⟩ := x.at_ a c e
    exact f.lists b hb
  refine ⟨⟨fun _ h => h, io.tb.at_, io.tb.lam⟩, fun b ⟨a, c, e, hb⟩ => ?_, fun _ _ => rfl, fun ⟨a, c, e, hb⟩ => ?_, by rw [hm]; simp, fun lc2 ll2 z2 e2 => ?_⟩
  · rcases hb with rfl | hb
    · obtain ⟨_, _, _, h⟩ := isIns _ _ e; rw [h]; simp
    · obtain ⟨_, h⟩ := isLst _ _ e _ hb; rw [h]; simp
  · rcases hb with rfl | hb
    · obtain ⟨_, _, _, h⟩ := isIns _ _ e; rw [hm] at h; cases h
    · obtain ⟨_, h⟩ := isLst _ _ e _ hb; rw [hm] at h; cases h
  · have e3 : lc2 = lc ∧ ll2 = ll := by
      rw [hm] at e2
      have := HO.dK.inj (Option.some.inj e2)
      unfold mKvs at this
      simp only [List.cons.injEq, Prod.mk.injEq, V.ref.injEq, true_and, and_true] at this
      exact ⟨this.1.symm, this.2.1.symm⟩
    obtain ⟨rfl, rfl⟩ := e3
    obtain ⟨_, hl⟩ := hl
    obtain ⟨_, hl2⟩ := hl2
    constructor
    · rintro ⟨a, c, e, hb⟩
      rcases hb with rfl | hb
      · obtain ⟨_, _, _, h⟩ := isIns _ _ e; rw [hl] at h; cases h
      · exact (x.ap a c e m _ _ _ em hm).1 hb
    · rintro ⟨a, c, e, hb⟩
      rcases hb with rfl | hb
      · obtain ⟨_, _, _, h⟩ := isIns _ _ e; rw [hl2] at h; cases h
      · exact (x.ap a c e m _ _ _ em hm).2 hb
/-- at the end -/
theorem Dq.sto {n : Sn} {L : Addr → List Addr} (em : C.mo = some m) (x : StoW C.K C.mo n.st C.G0 C.O0 C.H0 L) {H' : Hp} (D : Dq C (fun b => ∃ a c, n.st a = some c ∧ (b = a ∨ b ∈ L a)) m H') : StoOk C.K C.mo n.st C.G0 C.O0 H' := by
  refine ⟨L, fun a c e => (x.at_ a c e).move (Same.refl _) fun b hb o hz oz _ => ⟨oz, ?_⟩, x.own, x.dis, fun a c e m2 lc ll z em2 hm2 => ?_⟩
  · rw [D.k b ⟨a, c, e, hb⟩]; exact hz
  · rw [em] at em2
    cases em2
    obtain ⟨q1, q2⟩ := D.lm _ _ _ hm2
    exact ⟨fun h => q1 ⟨a, c, e, .inr h⟩, fun h => q2 ⟨a, c, e, .inr h⟩⟩
end
/-! ### three targets, exchanged on the stack -/
section
variable {X : Cx} {U : WX} {a b c : Expr} {ta tb tc : XW'} {pos : Pos}
theorem xs_par3W {i j l : Nat} {x y z : Str} {px py pz pt : Pos} {kt k2 pt2} (hc : X.calm = true) (hN : X.N.Nodup) (hi : X.N[i]? = some x) (hj : X.N[j]? = some y) (hl : X.N[l]? = some z) (hij : i ≠ j) (hil : i ≠ l) (hjl : j ≠ l)
    (hx : X.env.scope.names.lookup x = some .local) (hy : X.env.scope.names.lookup y = some .local) (hz : X.env.scope.names.lookup z = some .local) (h1 : VX X U a ta) (h2 : VX X U b tb) (h3 : VX X U c tc)
    (hw : swappedStores [.Tuple [.Name x px, .Name y py, .Name z pz] kt pt] (.Tuple [a, b, c] k2 pt2) X.env = pure (some [x, y, z]))
    (he : starEach [a, b, c] X.env = (false, eval a X.env) :: starEach [b, c] X.env := by rfl) (he2 : starEach [b, c] X.env = (false, eval b X.env) :: starEach [c] X.env := by rfl) (he3 : starEach [c] X.env = (false, eval c X.env) :: starEach [] X.env := by rfl)
    (hs : swapsWithSole [.Tuple [.Name x px, .Name y py, .Name z pz] kt pt] (.Tuple [a, b, c] k2 pt2) pos.line X.env = pure false := by rfl) :
    VS X U (.Assign [.Tuple [.Name x px, .Name y py, .Name z pz] kt pt] (.Tuple [a, b, c] k2 pt2) pos) (SS (xParW3 i j l ta tb tc)) := ps_imp (ps_par3 hc hN hi hj hl hij hil hjl hx hy hz (pa_cons h1 (pa_cons h2 (pa_cons h3 pa_nil (hs := he3)) (hs := he2)) (hs := he)) hw hs) fun D σ H ⟨C, ρ, n, G, O, V, I, h, L⟩ => by
  refine ⟨C, ρ, n, G, O, _, _, I, satX h fun _ _ q => q, fun w n1 q v G1 O1 H1 I1 s1 f => ?_, L.lkx σ ρ⟩
  obtain ⟨F, fp, S, r, ap⟩ := f
  refine ⟨C.hideF O1 fp, ρ, n1, G1, O1, _, _, I1.hideF S r ap, satX q fun _ _ q => q, fun u n2 q2 x2 G2 O2 H2 I2 s2 f2 => ?_, fun x n' ex cls d G' O' H' I' ea => L.lkx σ ρ x n' ex cls d G' O' H' (I'.showF I1.oh r (I1.g0n r)).1 ea⟩
  obtain ⟨F2, fp2, S2, r2, ap2⟩ := f2
  refine ⟨(C.hideF O1 fp).hideF O2 fp2, ρ, n2, G2, O2, _, _, I2.hideF S2 r2 ap2, satX q2 fun _ _ q => q, fun t n3 q3 x3 G3 O3 H3 I3 s3 f3 => ?_, fun x n' ex cls d G' O' H' I' ea => L.lkx σ ρ x n' ex cls d G' O' H' ((I'.showF I2.oh r2 (I2.g0n r2)).1.showF I1.oh r (I1.g0n r)).1 ea⟩
  refine ⟨_, _, _, rfl, ?_⟩
  have J := I3.set2 f3 I2.oh r2 s3 (I2.g0n r2) hjl
  obtain ⟨J2, fw⟩ := J.showF I1.oh r (I1.g0n r)
  have J3 := J2.setW i (fw (s2.trans s3))
  have e1 : ((σ.set j (some x2)).set l (some x3)).set i (some v) = ((σ.set i (some v)).set j (some x2)).set l (some x3) := by rw [List.set_comm _ _ (Ne.symm hil), List.set_comm _ _ (Ne.symm hij)]
  have e2 : ((ρ.set j (some u)).set l (some t)).set i (some w) = ((ρ.set i (some w)).set j (some u)).set l (some t) := by rw [List.set_comm _ _ (Ne.symm hil), List.set_comm _ _ (Ne.symm hij)]
  rw [e1, e2] at J3
  exact L.nx _ n3 q3 _ G3 _ _ J3
end
end VL


set_option maxRecDepth 100000
set_option maxHeartbeats 2000000
namespace VL
open PySem PySem.Spec PyProof.Rows L2
/-! ### properties that give a field -/
def getB1 (fld : Str) : FuncData → Bool
  | ⟨nm, q, ⟨[], [⟨a, none, _⟩], none, [], [], none, []⟩, .stmts [.Return (some (.Attribute (.Name s _) f2 _)) _], sc, gl, [], .none, .none, doc, pm, an, code, ct, bi⟩ => decide (a = ("self" : Str)) && (decide (s = ("self" : Str)) && (decide (f2 = fld) && (decide (gl = mainGlobals) && (decide (bi = builtinsNs) &&
      (decide (sc.kind = .function) && (decide (sc.isCoroutine = false) && (decide (sc.isGenerator = false) && (decide (sc.names.lookup ("self" : Str) = some .local) && sc.names.all fun y => decide (y.2 ≠ .free)))))))))
  | _ => false
def getB (K : PySem.W.Frag) (c f fld : Str) : Bool := decide (PySem.W.findIn K (.ref (He.ga K c)) f = some (some (.ref (prA K c f)))) && (decide (PySem.W.specialIn K (.ref (prA K c f)) "__get__" = some (some (.builtin "property.__get__"))) && (decide (PySem.W.takesIn K (.ref (prA K c f)) = some true) &&
  (match PySem.W.recIn K (prA K c f) "property" with
  | some (.ref g :: _) => (match K.lookup g with
    | some ⟨_, _, .func fd, _⟩ => PySem.W.codeIn K fd.code fd.qualname && getB1 fld fd
    | _ => false)
  | _ => false)))
structure GetOk (K : PySem.W.Frag) (c f fld : Str) : Prop where
  ex : ∃ (p g : Addr) (fd : FuncData) (oc : Value) (od : Option Addr) (osl : Array (Option Value)), PropOf K (He.ga K c) f p g ∧ K.lookup g = some ⟨oc, od, .func fd, osl⟩ ∧ PySem.W.codeIn K fd.code fd.qualname = true ∧ getB1 fld fd = true
theorem getB_ok {K : PySem.W.Frag} {c f fld : Str} (h : getB K c f fld = true) : GetOk K c f fld := by
  unfold getB at h
  simp only [Bool.and_eq_true, decide_eq_true_eq] at h
  obtain ⟨h1, h2, h3, h4⟩ := h
  split at h4
  · next g r e =>
    split at h4
    · next oc od fd osl el =>
      simp only [Bool.and_eq_true] at h4
      exact ⟨_, g, fd, oc, od, osl, ⟨h1, h2, h3, r, e⟩, el, h4.1, h4.2⟩
    · cases h4
  · cases h4
section
variable {X : Cx} {U : WX} {e : Expr} {pos : Pos} {te : XT} {cl f fld : Str}
theorem xe_get (k0 : ClsOk X.K cl) (gk : GetOk X.K cl f fld) (na : NoAttr X.K (He.ga X.K cl) fld) (hr : Room 2 X.A) (he : VE X U e (S te)) (hab : attributeBase e f X.env (eval e X.env) = eval e X.env) : VE X U (.Attribute e f pos) (S (xFld cl fld te)) := by
  obtain ⟨p, g, fd, oc, od, osl, hp, lk, hcd, hb⟩ := gk.ex
  unfold getB1 at hb
  split at hb
  · next nm q a apos s spos f2 p2 p3 sc gl doc pm an code ct bi =>
    simp only [Bool.and_eq_true, decide_eq_true_eq, List.all_eq_true] at hb
    obtain ⟨rfl, rfl, rfl, rfl, rfl, b1, b2, b3, b4, b5⟩ := hb
    have S0 : FnScope ["self"] ["self"] sc := ⟨b1, b2, b3, by decide, rfl, fun x hx => by
      rw [List.mem_singleton] at hx; subst hx; exact .inl b4, b5⟩
    have F := fn_getter (CX := L2.CX X.prog X.w) (P := X.prog) (w := X.w) (K := X.K) (mg := X.mg) (base := X.base) (k := 0) (f := f2) (C := He.ga X.K cl) (N := ["self"]) lk hcd S0 rfl rfl k0.cl na
    refine pe_imp (pe_prop (CX := L2.CX X.prog X.w) (E := fun _ _ _ => False) (dvs := []) (ds := []) he k0.cl hp F hr (fun s us X0 hl => by rw [List.append_nil] at hl ⊢; match us, hl with | [u], _ => exact .of_eq rfl) .nil (fun pins σ H s e s' I hc => ?_) hab) fun σ H Q ⟨C, ρ, n, G, O, Q0, E0, I, h, hq, hE⟩ => ?_
    · obtain ⟨_, _, _, _, _, _, _, _, _, _, _, _, z⟩ := hc
      exact z.elim
    · refine ⟨C, ρ, n, G, O, fun d n' => sat (fldK cl f2 d) n' Q0 E0, E0, I, sat2 h fun _ _ z => z, fun d1 n1 h1 v1 G1 O1 H1 I1 s1 r1 => ?_, hE⟩
      replace h1 : sat (fldK cl f2 d1) n1 Q0 E0 := h1
      unfold fldK at h1
      split at h1
      · next a ea =>
        have := asRf_inv ea
        subst this
        obtain ⟨dx, rfl, gd⟩ := r1.rfi
        obtain ⟨c, x, hc, ec, hx, q⟩ := fldR_of (show sat (fldR cl f2 (n1.st a)) n1 Q0 E0 from h1)
        obtain ⟨ls, k, _, dx2, vs, oa, ha, _, fd⟩ := I1.cellAt hc
        obtain ⟨v, hv, rv⟩ := fd.look hx
        rw [ec] at k ha
        exact ⟨a, dx2, vs, rfl, ha, a, dx2, vs, v, rfl, ha, hv, hq x n1 q v G1 O1 H1 I1 s1 rv⟩
      · exact h1.elim
  · cases hb
end
end VL


set_option maxRecDepth 100000
set_option maxHeartbeats 2000000
namespace VL
open PySem PySem.Spec PyProof.Rows L2
/-! ### trees at a store -/
def At {α : Type} (s : Sto) (t u : T α) : Prop := ∀ (n : Sn) Q E, n.st = s → sat u n Q E → sat t n Q E
section
variable {α β : Type} {s s' : Sto} {t u v : T α} {f : α → T β} {g : Exc → T β} {k j : Nat} {P : α → Sto → Prop} {R : β → Sto → Prop}
theorem At.refl : At s t t := fun _ _ _ _ h => h
theorem At.eq (e : t = u) : At s t u := e ▸ At.refl
theorem At.trans (a : At s t u) (b : At s u v) : At s t v := fun n Q E h q => a n Q E h (b n Q E h q)
theorem At.bx (a : At s t u) : At s (VL.bx t f g) (VL.bx u f g) := fun n Q E h q => sat_bx.mpr (a n _ _ h (sat_bx.mp q))
theorem At.bd (a : At s t u) : At s (VL.bd t f) (VL.bd u f) := a.bx
theorem At.rd {k : Sto → T α} (a : At s (k s) u) : At s (.rd k) u := fun n Q E h q => by
  subst h
  exact a n Q E rfl q
theorem At.wr (a : At s' t u) : At s (.wr s' t) (.wr s' u) := fun n Q E h q => a ⟨n.n, s'⟩ Q E rfl q
/-- a writing that changes nothing -/
theorem At.wr_self : At s t (.wr s t) := fun n Q E h q => by
  subst h
  exact q
theorem At.exS {t u : T α} {ρ : Nv} {f : α → T Fl} (a : At s t u) : At s (VL.exS t ρ f) (VL.exS u ρ f) := a.bx
/-- the same, closed to the unifier -/
structure Dz {α : Type} (k : Nat) (t : T α) (s : Sto) (P : α → Sto → Prop) : Prop where
  of ::
  h : VL.Ds k t s P
theorem Dz.at (a : At s t u) (d : Dz k u s P) : Dz k t s P := ⟨fun n Q E hs hn hq => a n Q E hs (d.h n Q E hs hn hq)⟩
theorem Dz.ret {a : α} (h : P a s) : Dz k (.ret a) s P := ⟨fun n Q E hs _ hq => hq a n (by rw [hs]; exact h) (by omega)⟩
theorem Dz.rd {f : Sto → T α} (h : Dz k (f s) s P) : Dz k (.rd f) s P := Dz.at (.rd .refl) h
theorem Dz.wr (h : Dz k t s' P) : Dz k (.wr s' t) s P := ⟨fun n Q E hs hn hq => h.h ⟨n.n, s'⟩ Q E rfl hn hq⟩
theorem Dz.nw {f : Addr → T α} (h : ∀ a, s a = none → Dz k (f a) s P) : Dz k (.nw f) s P := ⟨fun n Q E hs hn hq a ha => (h a (by rw [← hs]; exact ha)).h n Q E hs hn hq⟩
theorem Dz.mono {P' : α → Sto → Prop} (h : Dz k t s P) (hk : k ≤ j) (hp : ∀ a s', P a s' → P' a s') : Dz j t s P' := ⟨fun n Q E hs hn hq => h.h n Q E hs (by omega) fun a n' ha hn' => hq a n' (hp a _ ha) (by omega)⟩
theorem Dz.le (h : Dz k t s P) (hk : k ≤ j) : Dz j t s P := h.mono hk fun _ _ q => q
theorem Dr.ds {Q : α → Prop} (h : Dr k t Q) : Dz k t s fun a s' => Q a ∧ s' = s := ⟨h s⟩
theorem Dz.draw {m : Int} {f : Int → T α} (h0 : 0 < m) (h1 : m < 10000000000000000000000000000000) (h : ∀ r, 0 ≤ r → r < m → Dz k (f r) s P) : Dz (k + 1) (.draw m f) s P := ⟨fun n Q E hs hn hq => ⟨h0, h1, by omega, fun r r0 r1 => (h r r0 r1).h ⟨n.n + 1, n.st⟩ Q E hs (by show n.n + 1 + k ≤ _; omega) fun a n' ha hn' => hq a n' ha (by have : n'.n ≤ n.n + 1 + k := hn'; omega)⟩⟩
theorem Dz.bx (h : Dz k t s P) (hf : ∀ a s', P a s' → Dz j (f a) s' R) : Dz (k + j) (VL.bx t f g) s R := ⟨fun n Q E hs hn hq => sat_bx.mpr (h.h n _ _ hs (by omega) fun a n' ha hn' => (hf a _ ha).h n' Q E rfl (by omega) fun b n2 hb hn2 => hq b n2 hb (by omega))⟩
theorem Dz.bd (h : Dz k t s P) (hf : ∀ a s', P a s' → Dz j (f a) s' R) : Dz (k + j) (VL.bd t f) s R := h.bx hf
theorem Dz.exS {t : T α} {ρ : Nv} {f : α → T Fl} {R : Fl → Sto → Prop} (h : Dz k t s P) (hf : ∀ a s', P a s' → Dz j (f a) s' R) : Dz (k + j) (VL.exS t ρ f) s R := h.bx hf
/-- a statement, then the others -/
theorem Dz.seq {t u : XS} {ρ : Nv} {J : Nv → Sto → Prop} {R : Fl → Sto → Prop} (k j : Nat) (h : Dz k (t ρ) s (fun f s' => ∃ ρ', f = .nx ρ' ∧ J ρ' s')) (hu : ∀ ρ' s', J ρ' s' → Dz j (u ρ') s' R) : Dz (k + j) (xSeq t u ρ) s R := by
  unfold xSeq
  refine Dz.bd h fun f s' hf => ?_
  obtain ⟨ρ', rfl, hJ⟩ := hf
  exact hu ρ' s' hJ
/-- a statement whose end is known -/
theorem Dz.step {t u : XS} {ρ ρ' : Nv} {R : Fl → Sto → Prop} (e : t ρ = .ret (.nx ρ')) (hu : Dz k (u ρ') s R) : Dz k (xSeq t u ρ) s R := by
  unfold xSeq
  rw [e, bd_ret]
  exact hu
/-- a loop -/
theorem Dz.forT {g : XG} {tb : XS} {R : Fl → Sto → Prop} (J : List Dt → Nv → Sto → Prop) (h0 : ∀ ρ s, J [] ρ s → R (.nx ρ) s) (h : ∀ d ds ρ s, J (d :: ds) ρ s → ∃ ρ1, g d ρ = some ρ1 ∧ Dz k (tb ρ1) s (fun f s' => (∃ ρ', (f = .nx ρ' ∨ f = .ct ρ') ∧ J ds ρ' s') ∨ (∃ w, f = .rt w ∧ R (.rt w) s') ∨ (∃ ρ', f = .bk ρ' ∧ R (.nx ρ') s'))) :
    ∀ (ds : List Dt) (ρ : Nv) (s : Sto), J ds ρ s → Dz (k * ds.length) (VL.forT g tb ds ρ) s R
  | [], ρ, s, hJ => Dz.ret (h0 ρ s hJ)
  | d :: ds, ρ, s, hJ => by
    obtain ⟨ρ1, e, q⟩ := h d ds ρ s hJ
    rw [forT_cons, e, ofO_some, bd_ret, List.length_cons, Nat.mul_add, Nat.mul_one, Nat.add_comm]
    refine Dz.bd q fun f s' hf => ?_
    rcases hf with ⟨ρ', rfl | rfl, hJ'⟩ | ⟨w, rfl, hw⟩ | ⟨ρ', rfl, hw⟩
    · exact Dz.forT J h0 h ds ρ' s' hJ'
    · exact Dz.forT J h0 h ds ρ' s' hJ'
    · exact Dz.ret hw
    · exact Dz.ret hw
/-- a call of a def that draws -/
theorem Dz.call {c : XFn} {ws : List W} {R : Dt → Sto → Prop} (h : Dz k (c ws) s (fun w s' => ∃ d, w = .dat d ∧ R d s')) : Dz k (VL.bd (c ws) rOfT) s R := by
  have := Dz.bd (j := 0) (R := R) h (f := rOfT) fun w s' hw => by
    obtain ⟨d, rfl, hd⟩ := hw
    exact Dz.ret hd
  exact this
/-- a def's body -/
theorem Dz.body {m a : Nat} {t : XS} {ws : List W} {R : W → Sto → Prop} (hl : ws.length = a) (h : Dz k (t (startE m ws)) s (fun f s' => ∃ w, f = .rt w ∧ R w s')) : Dz k (bodyX m a t ws) s R := by
  unfold bodyX
  rw [if_pos hl]
  have := Dz.bx (j := 0) (R := R) h (f := fnE) (g := fun _ => .fail) fun f s' hf => by
    obtain ⟨w, rfl, hw⟩ := hf
    exact Dz.ret hw
  exact this
/-- the law -/
theorem Dz.law {t : XS} {ρ : Nv} (h : Dz k (t ρ) (fun _ => none) (fun f _ => f = .rt (.dat (.bool true)))) (hk : k ≤ 1000000000000) : SS t lawEnd ρ 0 := h.h 0 _ _ rfl (by show 0 + k ≤ _; omega) fun f n' hf _ => by subst hf; rfl
/-- a def's body at a store -/
theorem At.body {m a : Nat} {t : XS} {ws : List W} {w : W} (hl : ws.length = a) (h : At s (t (startE m ws)) (.wr s' (.ret (.rt w)))) : At s (bodyX m a t ws) (.wr s' (.ret w)) := by
  unfold bodyX
  rw [if_pos hl]
  refine (At.bx h).trans ?_
  rw [bx_wr, bx_ret]
  exact .refl
theorem At.bodyN {m a : Nat} {t : XS} {ws : List W} {ρ' : Nv} (hl : ws.length = a) (h : At s (t (startE m ws)) (.wr s' (.ret (.nx ρ')))) : At s (bodyX m a t ws) (.wr s' (.ret (.dat .none))) := by
  unfold bodyX
  rw [if_pos hl]
  refine (At.bx h).trans ?_
  rw [bx_wr, bx_ret]
  exact .refl
theorem At.bodyX {m a : Nat} {t : XS} {ws : List W} {x : Exc} {ρ' : Nv} (hl : ws.length = a) (h : At s (t (startE m ws)) (.wr s' (.ret (.xc x ρ')))) : At s (bodyX m a t ws) (.wr s' (.exc x)) := by
  unfold VL.bodyX
  rw [if_pos hl]
  refine (At.bx h).trans ?_
  rw [bx_wr, bx_ret]
  exact .refl
/-- a statement, then the others -/
theorem At.seq {t u : XS} {ρ ρ' : Nv} {v : T Fl} (e : At s (t ρ) (.wr s' (.ret (.nx ρ')))) (hu : At s' (u ρ') v) : At s (xSeq t u ρ) (.wr s' v) := by
  unfold xSeq
  refine e.bd.trans ?_
  rw [bd_wr, bd_ret]
  exact .wr hu
theorem wr_wr {s2 : Sto} : At s (.wr s' (.wr s2 t)) (.wr s2 t) := fun n Q E h q => q
theorem At.seq2 {t u : XS} {ρ ρ' : Nv} {v : T Fl} {s2 : Sto} (e : At s (t ρ) (.wr s' (.ret (.nx ρ')))) (hu : At s' (u ρ') (.wr s2 v)) : At s (xSeq t u ρ) (.wr s2 v) := (At.seq e hu).trans wr_wr
theorem At.seq0 {t u : XS} {ρ ρ' : Nv} {v : T Fl} (e : At s (t ρ) (.ret (.nx ρ'))) (hu : At s (u ρ') v) : At s (xSeq t u ρ) v := by
  unfold xSeq
  refine e.bd.trans ?_
  rw [bd_ret]
  exact hu
theorem At.seqE {t u : XS} {ρ ρ' : Nv} {v : T Fl} (e : t ρ = .ret (.nx ρ')) (hu : At s (u ρ') v) : At s (xSeq t u ρ) v := .seq0 (.eq e) hu
theorem At.w0 (a : At s t u) : At s t (.wr s u) := a.trans .wr_self
/-! ### fields, methods, new instances at a store -/
variable {cl fl m : Str} {te to : XT} {al : XAW} {ρ : Nv} {a : Addr} {x : Cell} {d : Dt} {c : XFn} {ws : List W} {dw : List Dt}
theorem at_setF (e : te ρ = .ret d) (e2 : to ρ = .ret (rf a)) (hs : s a = some x) (hc : x.c = cl) (hl : x.fs.length < 1000) : At s (xSetF cl fl to te ρ) (.wr (s.put a ⟨x.c, putG fl (.d d) x.fs⟩) (.ret (.nx ρ))) := by
  unfold xSetF setF1
  rw [e, exS_ret, e2, exS_ret]
  unfold setF2
  rw [asRf_rf]
  refine .rd ?_
  unfold setF3
  rw [hs]
  dsimp only
  rw [if_pos ⟨hc, hl⟩]
  exact .refl
theorem at_setF' (e : At s (te ρ) (.ret d)) (e2 : to ρ = .ret (rf a)) (hs : s a = some x) (hc : x.c = cl) (hl : x.fs.length < 1000) : At s (xSetF cl fl to te ρ) (.wr (s.put a ⟨x.c, putG fl (.d d) x.fs⟩) (.ret (.nx ρ))) := by
  unfold xSetF
  refine e.exS.trans ?_
  rw [exS_ret]
  unfold setF1
  rw [e2, exS_ret]
  unfold setF2
  rw [asRf_rf]
  refine .rd ?_
  unfold setF3
  rw [hs]
  dsimp only
  rw [if_pos ⟨hc, hl⟩]
  exact .refl
theorem at_augF {i j : Int} (e2 : to ρ = .ret (rf a)) (e : te ρ = .ret (.int j)) (hs : s a = some x) (hc : x.c = cl) (hl : x.fs.length < 1000) (hf : x.fs.lookup fl = some (.d (.int i))) : At s (xAugF cl fl to te ρ) (.wr (s.put a ⟨x.c, putG fl (.d (.int (i + j))) x.fs⟩) (.ret (.nx ρ))) := by
  unfold xAugF
  rw [e2, exS_ret]
  unfold augF1
  rw [asRf_rf]
  dsimp only
  have e1 : At s (fldK cl fl (rf a)) (.ret (.int i)) := by
    unfold fldK
    rw [asRf_rf]
    refine .rd ?_
    unfold fldR
    rw [hs]
    dsimp only
    rw [if_pos hc, hf]
    exact .refl
  refine e1.exS.trans ?_
  rw [exS_ret, e, exS_ret]
  unfold augF2
  refine .rd ?_
  unfold augF3
  rw [hs]
  dsimp only
  rw [if_pos ⟨hc, hl⟩]
  exact .refl
theorem at_meth (e : to ρ = .ret (rf a)) (ea : al ρ = .ret ws) (hs : s a = some x) (hc : x.c = cl) (hn : x.fs.lookup m = none) : At s (xMeth cl m c to al ρ) (bd (c (.dat (rf a) :: ws)) rOfT) := by
  unfold xMeth
  rw [e, bd_ret]
  unfold methK
  rw [asRf_rf]
  refine .rd ?_
  unfold methC
  rw [hs]
  dsimp only
  rw [if_pos ⟨hc, hn⟩, ea, bd_ret]
  exact .refl
theorem at_callI (e : te ρ = .ret (rf a)) (ea : al ρ = .ret ws) (hs : s a = some x) (hc : x.c = cl) : At s (xCaO cl c te al ρ) (bd (c (.dat (rf a) :: ws)) rOfT) := by
  unfold xCaO
  rw [e, bd_ret]
  unfold caK
  rw [asRf_rf]
  dsimp only
  rw [ea, bd_ret]
  unfold caW
  refine .rd ?_
  unfold caR
  rw [hs]
  dsimp only
  rw [if_pos hc]
  exact .refl
theorem eq_mk (ea : al ρ = .ret ws) : xMk cl c dw al ρ = mkK cl c (ws ++ dw.map .dat) := by
  unfold xMk
  rw [ea, bd_ret]
  rfl
theorem eq_mkS (ea : al ρ = .ret ws) (e : te ρ = .ret d) : xMkS cl c dw al te ρ = mkK cl c (ws ++ (dw.map .dat ++ [.dat d])) := by
  unfold xMkS mkS1
  rw [ea, bd_ret, e, bd_ret]
  rfl
/-- a new instance whose __init__ is known -/
theorem at_mk {y : Addr → Cell} (h : ∀ a, s a = none → At (s.put a ⟨cl, []⟩) (c (.dat (rf a) :: ws)) (.wr (s.put a (y a)) (.ret (.dat .none)))) : At s (mkK cl c ws) (.nw fun a => .wr (s.put a (y a)) (.ret (rf a))) := fun n Q E hs q a ha => by
  subst hs
  have q1 := q a ha
  show sat (bd (c (.dat (rf a) :: ws)) (mkE a)) ⟨n.n, n.st.put a ⟨cl, []⟩⟩ Q E
  refine (At.bd (h a ha)) _ Q E rfl ?_
  exact q1
end
theorem exS_rd {α : Type} {k : Sto → T α} {ρ : Nv} {f : α → T Fl} : exS (.rd k) ρ f = .rd fun s => exS (k s) ρ f := rfl
theorem exS_wr {α : Type} {s : Sto} {t : T α} {ρ : Nv} {f : α → T Fl} : exS (.wr s t) ρ f = .wr s (exS t ρ f) := rfl
theorem exS_nw {α : Type} {k : Addr → T α} {ρ : Nv} {f : α → T Fl} : exS (.nw k) ρ f = .nw fun a => exS (k a) ρ f := rfl
theorem put_self {s : Sto} {a : Addr} {x : Cell} (h : s a = some x) : s.put a x = s := funext fun b => by
  unfold Sto.put
  by_cases e : b = a
  · subst e; rw [if_pos rfl, h]
  · rw [if_neg e]
section
variable {s : Sto} {cl fl : Str} {te to : XT} {ρ : Nv} {a : Addr} {x y : Cell} {d : Dt}
/-- a field written, the cell before and behind known -/
theorem at_setP (e : te ρ = .ret d) (e2 : to ρ = .ret (rf a)) (hc : x.c = cl) (hl : x.fs.length < 1000) (hy : (⟨x.c, putG fl (.d d) x.fs⟩ : Cell) = y) : At (s.put a x) (xSetF cl fl to te ρ) (.wr (s.put a y) (.ret (.nx ρ))) := by
  have := at_setF (s := s.put a x) (fl := fl) e e2 put_same hc hl
  rw [put_put, hy] at this
  exact this
theorem at_setP' (e : At (s.put a x) (te ρ) (.ret d)) (e2 : to ρ = .ret (rf a)) (hc : x.c = cl) (hl : x.fs.length < 1000) (hy : (⟨x.c, putG fl (.d d) x.fs⟩ : Cell) = y) : At (s.put a x) (xSetF cl fl to te ρ) (.wr (s.put a y) (.ret (.nx ρ))) := by
  have := at_setF' (s := s.put a x) (fl := fl) e e2 put_same hc hl
  rw [put_put, hy] at this
  exact this
theorem at_augP {i j : Int} (e2 : to ρ = .ret (rf a)) (e : te ρ = .ret (.int j)) (hc : x.c = cl) (hl : x.fs.length < 1000) (hf : x.fs.lookup fl = some (.d (.int i))) (hy : (⟨x.c, putG fl (.d (.int (i + j))) x.fs⟩ : Cell) = y) : At (s.put a x) (xAugF cl fl to te ρ) (.wr (s.put a y) (.ret (.nx ρ))) := by
  have := at_augF (s := s.put a x) (fl := fl) e2 e put_same hc hl hf
  rw [put_put, hy] at this
  exact this
end
/-- a statement that only draws -/
theorem Dz.seqD {s : Sto} {t u : XS} {ρ : Nv} {J : Nv → Prop} {R : Fl → Sto → Prop} (k j : Nat) (h : Dr k (t ρ) (fun f => ∃ ρ', f = .nx ρ' ∧ J ρ')) (hu : ∀ ρ', J ρ' → Dz j (u ρ') s R) : Dz (k + j) (xSeq t u ρ) s R := by
  refine Dz.seq (J := fun ρ' s' => J ρ' ∧ s' = s) k j ((Dr.ds h).mono (Nat.le_refl _) fun f s' hf => ?_) fun ρ' s' hJ => ?_
  · obtain ⟨⟨ρ', e, hJ⟩, es⟩ := hf
    exact ⟨ρ', e, hJ, es⟩
  · obtain ⟨hJ, es⟩ := hJ
    subst es
    exact hu ρ' hJ
end VL


set_option maxRecDepth 100000
set_option maxHeartbeats 4000000
namespace LW
open PySem PySem.Spec PyProof.Rows L2 VL
/-! ### the text by places -/
def top (i : Nat) : Stmt := PySem.Challenge.pw_stepsound_k44_hearers.main.body.getD i (.Pass ⟨0, 0, 0, 0⟩)
def clsAt (s : Stmt) (j : Nat) : Stmt := match s with
  | .ClassDef _ _ _ body _ _ _ _ _ _ _ => body.getD j (.Pass ⟨0, 0, 0, 0⟩)
  | _ => .Pass ⟨0, 0, 0, 0⟩
abbrev s__law_begun : Stmt := top 21
abbrev s__law_next : Stmt := top 22
abbrev s_is_whole : Stmt := top 6
abbrev s_cd_is_move : Stmt := top 7
abbrev s_cd_row_fault : Stmt := top 8
abbrev s_coder_fault : Stmt := top 9
abbrev s_need_coder : Stmt := top 10
abbrev s_is_state : Stmt := top 11
abbrev s_need_state : Stmt := top 12
abbrev s_is_code : Stmt := top 13
abbrev s_need_code : Stmt := top 14
abbrev s_divided : Stmt := top 15
abbrev s_moved_by : Stmt := top 16
abbrev s_next_state : Stmt := top 17
abbrev s__law_coder : Stmt := top 23
abbrev s__law_parted : Stmt := top 24
abbrev s__law_limited : Stmt := top 25
abbrev s__law_led : Stmt := top 26
abbrev s__law_some_state : Stmt := top 27
abbrev s__law_stands : Stmt := top 28
abbrev s_Hearer_jump : Stmt := clsAt (top 19) 3
abbrev s_Hearer___init__ : Stmt := clsAt (top 19) 0
abbrev s_Hearer_copy : Stmt := clsAt (top 19) 5
abbrev s_Hearer___call__ : Stmt := clsAt (top 19) 1
abbrev s_law : Stmt := top 29
abbrev i_BadCoder : Stmt := clsAt (top 1) 0
theorem sci_BadCoder : FnScope ["self", "part", "number"] ["self", "part", "number"] (defScope i_BadCoder) := ⟨rfl, rfl, rfl, by decide +kernel, rfl, by decide +kernel, by decide +kernel⟩
abbrev i_OutOfPlace : Stmt := clsAt (top 2) 0
theorem sci_OutOfPlace : FnScope ["self", "text"] ["self", "text"] (defScope i_OutOfPlace) := ⟨rfl, rfl, rfl, by decide +kernel, rfl, by decide +kernel, by decide +kernel⟩
abbrev kn : List Str := ["BadCoder", "OutOfPlace"]
abbrev nm__law_begun : List Str := ["script", "cell"]
theorem sc__law_begun : FnScope nm__law_begun ["script"] (defScope s__law_begun) := ⟨rfl, rfl, rfl, by decide +kernel, rfl, by decide +kernel, by decide +kernel⟩
abbrev nm__law_next : List Str := ["m", "many", "rest", "k", "cell", "mixed"]
theorem sc__law_next : FnScope nm__law_next ["m", "many"] (defScope s__law_next) := ⟨rfl, rfl, rfl, by decide +kernel, rfl, by decide +kernel, by decide +kernel⟩
abbrev nm_is_whole : List Str := ["value", "least", "most"]
theorem sc_is_whole : FnScope nm_is_whole ["value", "least", "most"] (defScope s_is_whole) := ⟨rfl, rfl, rfl, by decide +kernel, rfl, by decide +kernel, by decide +kernel⟩
abbrev nm_cd_is_move : List Str := ["move"]
theorem sc_cd_is_move : FnScope nm_cd_is_move ["move"] (defScope s_cd_is_move) := ⟨rfl, rfl, rfl, by decide +kernel, rfl, by decide +kernel, by decide +kernel⟩
abbrev nm_cd_row_fault : List Str := ["part", "row", "least", "most", "number", "thing"]
theorem sc_cd_row_fault : FnScope nm_cd_row_fault ["part", "row", "least", "most"] (defScope s_cd_row_fault) := ⟨rfl, rfl, rfl, by decide +kernel, rfl, by decide +kernel, by decide +kernel⟩
abbrev nm_coder_fault : List Str := ["thing", "low", "high", "steps", "moves", "fade", "fault"]
theorem sc_coder_fault : FnScope nm_coder_fault ["thing"] (defScope s_coder_fault) := ⟨rfl, rfl, rfl, by decide +kernel, rfl, by decide +kernel, by decide +kernel⟩
abbrev nm_need_coder : List Str := ["thing", "fault"]
theorem sc_need_coder : FnScope nm_need_coder ["thing"] (defScope s_need_coder) := ⟨rfl, rfl, rfl, by decide +kernel, rfl, by decide +kernel, by decide +kernel⟩
abbrev nm_is_state : List Str := ["coder", "thing"]
theorem sc_is_state : FnScope nm_is_state ["coder", "thing"] (defScope s_is_state) := ⟨rfl, rfl, rfl, by decide +kernel, rfl, by decide +kernel, by decide +kernel⟩
abbrev nm_need_state : List Str := ["coder", "thing"]
theorem sc_need_state : FnScope nm_need_state ["coder", "thing"] (defScope s_need_state) := ⟨rfl, rfl, rfl, by decide +kernel, rfl, by decide +kernel, by decide +kernel⟩
abbrev nm_is_code : List Str := ["coder", "thing"]
theorem sc_is_code : FnScope nm_is_code ["coder", "thing"] (defScope s_is_code) := ⟨rfl, rfl, rfl, by decide +kernel, rfl, by decide +kernel, by decide +kernel⟩
abbrev nm_need_code : List Str := ["coder", "thing"]
theorem sc_need_code : FnScope nm_need_code ["coder", "thing"] (defScope s_need_code) := ⟨rfl, rfl, rfl, by decide +kernel, rfl, by decide +kernel, by decide +kernel⟩
abbrev nm_divided : List Str := ["number", "by"]
theorem sc_divided : FnScope nm_divided ["number", "by"] (defScope s_divided) := ⟨rfl, rfl, rfl, by decide +kernel, rfl, by decide +kernel, by decide +kernel⟩
abbrev nm_moved_by : List Str := ["coder", "code", "place"]
theorem sc_moved_by : FnScope nm_moved_by ["coder", "code", "place"] (defScope s_moved_by) := ⟨rfl, rfl, rfl, by decide +kernel, rfl, by decide +kernel, by decide +kernel⟩
abbrev nm_next_state : List Str := ["coder", "state", "code", "low", "high", "steps", "moves", "fade", "level", "place", "faded", "further"]
theorem sc_next_state : FnScope nm_next_state ["coder", "state", "code"] (defScope s_next_state) := ⟨rfl, rfl, rfl, by decide +kernel, rfl, by decide +kernel, by decide +kernel⟩
abbrev nm__law_coder : List Str := ["m", "wide", "places", "codes", "low", "high", "steps", "k", "moves", "fade"]
theorem sc__law_coder : FnScope nm__law_coder ["m", "wide", "places", "codes"] (defScope s__law_coder) := ⟨rfl, rfl, rfl, by decide +kernel, rfl, by decide +kernel, by decide +kernel⟩
abbrev nm__law_parted : List Str := ["number", "by"]
theorem sc__law_parted : FnScope nm__law_parted ["number", "by"] (defScope s__law_parted) := ⟨rfl, rfl, rfl, by decide +kernel, rfl, by decide +kernel, by decide +kernel⟩
abbrev nm__law_limited : List Str := ["number", "least", "most"]
theorem sc__law_limited : FnScope nm__law_limited ["number", "least", "most"] (defScope s__law_limited) := ⟨rfl, rfl, rfl, by decide +kernel, rfl, by decide +kernel, by decide +kernel⟩
abbrev nm__law_led : List Str := ["coder", "here", "code", "share", "turn", "level"]
theorem sc__law_led : FnScope nm__law_led ["coder", "here", "code"] (defScope s__law_led) := ⟨rfl, rfl, rfl, by decide +kernel, rfl, by decide +kernel, by decide +kernel⟩
abbrev nm__law_some_state : List Str := ["m", "coder"]
theorem sc__law_some_state : FnScope nm__law_some_state ["m", "coder"] (defScope s__law_some_state) := ⟨rfl, rfl, rfl, by decide +kernel, rfl, by decide +kernel, by decide +kernel⟩
abbrev nm__law_stands : List Str := ["hearer", "here", "many"]
theorem sc__law_stands : FnScope nm__law_stands ["hearer", "here", "many"] (defScope s__law_stands) := ⟨rfl, rfl, rfl, by decide +kernel, rfl, by decide +kernel, by decide +kernel⟩
abbrev nm_Hearer_jump : List Str := ["self", "state"]
theorem sc_Hearer_jump : FnScope nm_Hearer_jump ["self", "state"] (defScope s_Hearer_jump) := ⟨rfl, rfl, rfl, by decide +kernel, rfl, by decide +kernel, by decide +kernel⟩
abbrev nm_Hearer___init__ : List Str := ["self", "coder", "state"]
theorem sc_Hearer___init__ : FnScope nm_Hearer___init__ ["self", "coder", "state"] (defScope s_Hearer___init__) := ⟨rfl, rfl, rfl, by decide +kernel, rfl, by decide +kernel, by decide +kernel⟩
abbrev nm_Hearer_copy : List Str := ["self", "found"]
theorem sc_Hearer_copy : FnScope nm_Hearer_copy ["self"] (defScope s_Hearer_copy) := ⟨rfl, rfl, rfl, by decide +kernel, rfl, by decide +kernel, by decide +kernel⟩
abbrev nm_Hearer___call__ : List Str := ["self", "code"]
theorem sc_Hearer___call__ : FnScope nm_Hearer___call__ ["self", "code"] (defScope s_Hearer___call__) := ⟨rfl, rfl, rfl, by decide +kernel, rfl, by decide +kernel, by decide +kernel⟩
abbrev nm_law : List Str := ["script", "m", "turn", "coder", "here", "many", "hearer", "other", "kept", "again", "way", "sign", "twin", "spot", "number"]
theorem sc_law : FnScope nm_law ["script"] (defScope s_law) := ⟨rfl, rfl, rfl, by decide +kernel, rfl, by decide +kernel, by decide +kernel⟩
def tf : List He.Defn := [("law", none)]
/-! ### what the top has left -/
structure Tx (K : PySem.W.Frag) (mg : Str → Option Value) : Prop where
  d__law_begun : ∃ fd, FunD K "_law_begun" "_law_begun" (defArgs s__law_begun) (defBody s__law_begun) (defScope s__law_begun) [] [] (He.ga K "_law_begun") fd
  g__law_begun : mg "_law_begun" = some (.ref (He.ga K "_law_begun"))
  d__law_next : ∃ fd, FunD K "_law_next" "_law_next" (defArgs s__law_next) (defBody s__law_next) (defScope s__law_next) [] [] (He.ga K "_law_next") fd
  g__law_next : mg "_law_next" = some (.ref (He.ga K "_law_next"))
  d_is_whole : ∃ fd, FunD K "is_whole" "is_whole" (defArgs s_is_whole) (defBody s_is_whole) (defScope s_is_whole) [] [] (He.ga K "is_whole") fd
  g_is_whole : mg "is_whole" = some (.ref (He.ga K "is_whole"))
  d_cd_is_move : ∃ fd, FunD K "cd_is_move" "cd_is_move" (defArgs s_cd_is_move) (defBody s_cd_is_move) (defScope s_cd_is_move) [] [] (He.ga K "cd_is_move") fd
  g_cd_is_move : mg "cd_is_move" = some (.ref (He.ga K "cd_is_move"))
  d_cd_row_fault : ∃ fd, FunD K "cd_row_fault" "cd_row_fault" (defArgs s_cd_row_fault) (defBody s_cd_row_fault) (defScope s_cd_row_fault) [] [] (He.ga K "cd_row_fault") fd
  g_cd_row_fault : mg "cd_row_fault" = some (.ref (He.ga K "cd_row_fault"))
  d_coder_fault : ∃ fd, FunD K "coder_fault" "coder_fault" (defArgs s_coder_fault) (defBody s_coder_fault) (defScope s_coder_fault) [] [] (He.ga K "coder_fault") fd
  g_coder_fault : mg "coder_fault" = some (.ref (He.ga K "coder_fault"))
  d_need_coder : ∃ fd, FunD K "need_coder" "need_coder" (defArgs s_need_coder) (defBody s_need_coder) (defScope s_need_coder) [] [] (He.ga K "need_coder") fd
  g_need_coder : mg "need_coder" = some (.ref (He.ga K "need_coder"))
  d_is_state : ∃ fd, FunD K "is_state" "is_state" (defArgs s_is_state) (defBody s_is_state) (defScope s_is_state) [] [] (He.ga K "is_state") fd
  g_is_state : mg "is_state" = some (.ref (He.ga K "is_state"))
  d_need_state : ∃ fd, FunD K "need_state" "need_state" (defArgs s_need_state) (defBody s_need_state) (defScope s_need_state) [] [] (He.ga K "need_state") fd
  g_need_state : mg "need_state" = some (.ref (He.ga K "need_state"))
  d_is_code : ∃ fd, FunD K "is_code" "is_code" (defArgs s_is_code) (defBody s_is_code) (defScope s_is_code) [] [] (He.ga K "is_code") fd
  g_is_code : mg "is_code" = some (.ref (He.ga K "is_code"))
  d_need_code : ∃ fd, FunD K "need_code" "need_code" (defArgs s_need_code) (defBody s_need_code) (defScope s_need_code) [] [] (He.ga K "need_code") fd
  g_need_code : mg "need_code" = some (.ref (He.ga K "need_code"))
  d_divided : ∃ fd, FunD K "divided" "divided" (defArgs s_divided) (defBody s_divided) (defScope s_divided) [] [] (He.ga K "divided") fd
  g_divided : mg "divided" = some (.ref (He.ga K "divided"))
  d_moved_by : ∃ fd, FunD K "moved_by" "moved_by" (defArgs s_moved_by) (defBody s_moved_by) (defScope s_moved_by) [] [] (He.ga K "moved_by") fd
  g_moved_by : mg "moved_by" = some (.ref (He.ga K "moved_by"))
  d_next_state : ∃ fd, FunD K "next_state" "next_state" (defArgs s_next_state) (defBody s_next_state) (defScope s_next_state) [] [] (He.ga K "next_state") fd
  g_next_state : mg "next_state" = some (.ref (He.ga K "next_state"))
  d__law_coder : ∃ fd, FunD K "_law_coder" "_law_coder" (defArgs s__law_coder) (defBody s__law_coder) (defScope s__law_coder) [] [] (He.ga K "_law_coder") fd
  g__law_coder : mg "_law_coder" = some (.ref (He.ga K "_law_coder"))
  d__law_parted : ∃ fd, FunD K "_law_parted" "_law_parted" (defArgs s__law_parted) (defBody s__law_parted) (defScope s__law_parted) [] [] (He.ga K "_law_parted") fd
  g__law_parted : mg "_law_parted" = some (.ref (He.ga K "_law_parted"))
  d__law_limited : ∃ fd, FunD K "_law_limited" "_law_limited" (defArgs s__law_limited) (defBody s__law_limited) (defScope s__law_limited) [] [] (He.ga K "_law_limited") fd
  g__law_limited : mg "_law_limited" = some (.ref (He.ga K "_law_limited"))
  d__law_led : ∃ fd, FunD K "_law_led" "_law_led" (defArgs s__law_led) (defBody s__law_led) (defScope s__law_led) [] [] (He.ga K "_law_led") fd
  g__law_led : mg "_law_led" = some (.ref (He.ga K "_law_led"))
  d__law_some_state : ∃ fd, FunD K "_law_some_state" "_law_some_state" (defArgs s__law_some_state) (defBody s__law_some_state) (defScope s__law_some_state) [] [] (He.ga K "_law_some_state") fd
  g__law_some_state : mg "_law_some_state" = some (.ref (He.ga K "_law_some_state"))
  d__law_stands : ∃ fd, FunD K "_law_stands" "_law_stands" (defArgs s__law_stands) (defBody s__law_stands) (defScope s__law_stands) [] [] (He.ga K "_law_stands") fd
  g__law_stands : mg "_law_stands" = some (.ref (He.ga K "_law_stands"))
  d_Hearer_jump : ∃ fd, FunD K "jump" "Hearer.jump" (defArgs s_Hearer_jump) (defBody s_Hearer_jump) (defScope s_Hearer_jump) [] [] (He.fAd K ("Hearer", some "jump")) fd
  d_Hearer___init__ : ∃ fd, FunD K "__init__" "Hearer.__init__" (defArgs s_Hearer___init__) (defBody s_Hearer___init__) (defScope s_Hearer___init__) [] [("state", .ref (kwAt ("Hearer", some "__init__") "state" K))] (He.fAd K ("Hearer", some "__init__")) fd
  z_Hearer___init__ : tupAt K (kwAt ("Hearer", some "__init__") "state" K) [.int 0, .int 0] = true
  d_Hearer_copy : ∃ fd, FunD K "copy" "Hearer.copy" (defArgs s_Hearer_copy) (defBody s_Hearer_copy) (defScope s_Hearer_copy) [] [] (He.fAd K ("Hearer", some "copy")) fd
  d_Hearer___call__ : ∃ fd, FunD K "__call__" "Hearer.__call__" (defArgs s_Hearer___call__) (defBody s_Hearer___call__) (defScope s_Hearer___call__) [] [] (He.fAd K ("Hearer", some "__call__")) fd
  d_law : ∃ fd, FunD K "law" "law" (defArgs s_law) (defBody s_law) (defScope s_law) [] [] (He.ga K "law") fd
  g_law : mg "law" = some (.ref (He.ga K "law"))
  g_BadCoder : mg "BadCoder" = some (.ref (He.ga K "BadCoder"))
  z_BadCoder : rzB K "BadCoder" ["part", "number"] = true
  d_BadCoder : ∃ fd, FunD K "__init__" "BadCoder.__init__" (defArgs i_BadCoder) (defBody i_BadCoder) (defScope i_BadCoder) [] [] (iA K "BadCoder") fd
  g_OutOfPlace : mg "OutOfPlace" = some (.ref (He.ga K "OutOfPlace"))
  z_OutOfPlace : rzB K "OutOfPlace" ["text"] = true
  d_OutOfPlace : ∃ fd, FunD K "__init__" "OutOfPlace.__init__" (defArgs i_OutOfPlace) (defBody i_OutOfPlace) (defScope i_OutOfPlace) [] [] (iA K "OutOfPlace") fd
  kx : KnX K kn
  b_bool : mg "bool" = none
  b_enumerate : mg "enumerate" = none
  b_int : mg "int" = none
  b_isinstance : mg "isinstance" = none
  b_len : mg "len" = none
  b_list : mg "list" = none
  b_max : mg "max" = none
  b_min : mg "min" = none
  b_range : mg "range" = none
  b_repr : mg "repr" = none
  b_tuple : mg "tuple" = none
  c_MOST_STEPS : ∃ t, mg "MOST_STEPS" = some (.int 16 t)
  c_MOST_MOVES : ∃ t, mg "MOST_MOVES" = some (.int 16 t)
  k_bool : KitOk K "bool"
  k_int : KitOk K "int"
  k_tuple : KitOk K "tuple"
  K_Hearer : ClsOk K "Hearer"
  M_Hearer_copy : Meth K (He.ga K "Hearer") "copy" (He.fAd K ("Hearer", some "copy"))
  M_Hearer_jump : Meth K (He.ga K "Hearer") "jump" (He.fAd K ("Hearer", some "jump"))
  ca_Hearer : StX.CallO K (He.ga K "Hearer") (He.fAd K ("Hearer", some "__call__"))
  gt_Hearer_many : GetOk K "Hearer" "many" "own_many"
  gt_Hearer_state : GetOk K "Hearer" "state" "own_state"
  mk_Hearer : Mk K (He.ga K "Hearer") (He.fAd K ("Hearer", some "__init__"))
  no_Hearer_own_coder : NoAttr K (He.ga K "Hearer") "own_coder"
  no_Hearer_own_many : NoAttr K (He.ga K "Hearer") "own_many"
  no_Hearer_own_state : NoAttr K (He.ga K "Hearer") "own_state"
  g_Hearer : mg "Hearer" = some (.ref (He.ga K "Hearer"))
/-! ### the mirrors -/
/-- a draw: any number below many; the counter goes on -/
def v__law_next : VFn := fun ws n Q _ => match ws with
  | [.tok, .dat (.int many)] => 0 < many ∧ many < 10000000000000000000000000000000 ∧ n.n < 1000000000000 ∧ ∀ r, 0 ≤ r → r < many → Q (.dat (.int r)) ⟨n.n + 1, n.st⟩
  | _ => False
def w__law_next : XFn := fun ws => match ws with
  | [.tok, .dat (.int many)] => .draw many fun r => .ret (.dat (.int r))
  | _ => .fail
theorem nextX : ∀ ws n Q E, SF w__law_next ws n Q E → v__law_next ws n Q E := fun ws n Q E h => by
  unfold SF w__law_next at h
  unfold v__law_next
  split at h
  · exact h
  · exact h.elim
noncomputable def t_is_whole : XS :=
  xRet (xAndV (xIsi "int" (xVar 0)) (xAndV (xNotV (xIsi "bool" (xVar 0))) (xChain pLe pLe (xVar 1) (xVar 0) (xVar 2))))
noncomputable def w_is_whole : XFn := sealed (bodyX 3 3 t_is_whole)
theorem wd_is_whole : w_is_whole = bodyX 3 3 t_is_whole := sealed_eq _
noncomputable def t_cd_is_move : XS :=
  xRet (xAndV (xIsi "tuple" (xVar 0)) (xAndV (xOp pEq (xCB pLen (xCons (xVar 0) (xNil))) (xC (.int 2))) (xAndV (xCall w_is_whole [] (ywDat (xOp pIx (xVar 0) (xC (.int 0))) (ywDat (xUn pNeg (xC (.int 32))) (ywDat (xC (.int 32)) (ywNil))))) (xCall w_is_whole [] (ywDat (xOp pIx (xVar 0) (xC (.int 1))) (ywDat (xUn pNeg (xC (.int 15))) (ywDat (xC (.int 15)) (ywNil))))))))
noncomputable def w_cd_is_move : XFn := sealed (bodyX 1 1 t_cd_is_move)
theorem wd_cd_is_move : w_cd_is_move = bodyX 1 1 t_cd_is_move := sealed_eq _
noncomputable def b_cd_row_fault_0 : XS :=
  xIfS (xNot (xIfT (xTest (xOp pEq (xVar 0) (xC (.str "steps")))) (xTest (xCall w_is_whole [] (ywDat (xVar 5) (ywDat (xC (.int 1)) (ywDat (xC (.int 9999)) (ywNil)))))) (xTest (xCall w_cd_is_move [] (ywDat (xVar 5) (ywNil)))))) (xRet (xTup (xCons (xVar 0) (xCons (xVar 4) (xNil))))) (xNext)
noncomputable def t_cd_row_fault : XS :=
  xSeq (xIfS (xOr (xNot (xTest (xIsi "tuple" (xVar 1)))) (xNot (xTest (xChain pLe pLe (xVar 2) (xCB pLen (xCons (xVar 1) (xNil))) (xVar 3))))) (xRet (xTup (xCons (xVar 0) (xCons (xC .none) (xNil))))) (xNext))
  (xSeq (xFor (ziET (xCons (xVar 1) (xNil))) (ygT 2 (ygsC (ygN 4) (ygsC (ygN 5) (ygsN)))) b_cd_row_fault_0)
  (xRet (xC .none)))
noncomputable def w_cd_row_fault : XFn := sealed (bodyX 6 4 t_cd_row_fault)
theorem wd_cd_row_fault : w_cd_row_fault = bodyX 6 4 t_cd_row_fault := sealed_eq _
noncomputable def t_coder_fault : XS :=
  xSeq (xIfS (xOr (xNot (xTest (xIsi "tuple" (xVar 0)))) (xTest (xOp pNe (xCB pLen (xCons (xVar 0) (xNil))) (xC (.int 5))))) (xRet (xTup (xCons (xC (.str "form")) (xCons (xC .none) (xNil))))) (xNext))
  (xSeq (xAsg (xVar 0) (ygT 5 (ygsC (ygN 1) (ygsC (ygN 2) (ygsC (ygN 3) (ygsC (ygN 4) (ygsC (ygN 5) (ygsN))))))))
  (xSeq (xIfS (xNot (xTest (xCall w_is_whole [] (ywDat (xVar 1) (ywDat (xUn pNeg (xC (.int 32768))) (ywDat (xC (.int 0)) (ywNil))))))) (xRet (xTup (xCons (xC (.str "low")) (xCons (xC .none) (xNil))))) (xNext))
  (xSeq (xIfS (xNot (xTest (xCall w_is_whole [] (ywDat (xVar 2) (ywDat (xC (.int 0)) (ywDat (xC (.int 32767)) (ywNil))))))) (xRet (xTup (xCons (xC (.str "high")) (xCons (xC .none) (xNil))))) (xNext))
  (xSeq (xSet 6 (xCall w_cd_row_fault [] (ywDat (xC (.str "steps")) (ywDat (xVar 3) (ywDat (xC (.int 1)) (ywDat (xC (.int 16)) (ywNil)))))))
  (xSeq (xIfS (xTest (xOp pIs (xVar 6) (xC .none))) (xSet 6 (xCall w_cd_row_fault [] (ywDat (xC (.str "moves")) (ywDat (xVar 4) (ywDat (xC (.int 2)) (ywDat (xC (.int 16)) (ywNil))))))) (xNext))
  (xSeq (xIfS (xAnd (xTest (xOp pIs (xVar 6) (xC .none))) (xAnd (xNot (xTest (xCall w_is_whole [] (ywDat (xVar 5) (ywDat (xC (.int 2)) (ywDat (xC (.int 99)) (ywNil))))))) (xNot (xTest (xCall w_is_whole [] (ywDat (xVar 5) (ywDat (xC (.int 0)) (ywDat (xC (.int 0)) (ywNil))))))))) (xSet 6 (xTup (xCons (xC (.str "fade")) (xCons (xC .none) (xNil))))) (xNext))
  (xRet (xVar 6))))))))
noncomputable def w_coder_fault : XFn := sealed (bodyX 7 1 t_coder_fault)
theorem wd_coder_fault : w_coder_fault = bodyX 7 1 t_coder_fault := sealed_eq _
noncomputable def t_need_coder : XS :=
  xSeq (xSet 1 (xCall w_coder_fault [] (ywDat (xVar 0) (ywNil))))
  (xSeq (xIfS (xTest (xOp pIsNot (xVar 1) (xC .none))) (xRaise "BadCoder" ["part", "number"] (xCons (xOp pIx (xVar 1) (xC (.int 0))) (xCons (xOp pIx (xVar 1) (xC (.int 1))) (xNil)))) (xNext))
  (xRet (xVar 0)))
noncomputable def w_need_coder : XFn := sealed (bodyX 2 1 t_need_coder)
theorem wd_need_coder : w_need_coder = bodyX 2 1 t_need_coder := sealed_eq _
noncomputable def t_is_state : XS :=
  xSeq (xIfS (xOr (xNot (xTest (xIsi "tuple" (xVar 1)))) (xTest (xOp pNe (xCB pLen (xCons (xVar 1) (xNil))) (xC (.int 2))))) (xRet (xC (.bool false))) (xNext))
  (xRet (xAndV (xCall w_is_whole [] (ywDat (xOp pIx (xVar 1) (xC (.int 0))) (ywDat (xOp pIx (xVar 0) (xC (.int 0))) (ywDat (xOp pIx (xVar 0) (xC (.int 1))) (ywNil))))) (xCall w_is_whole [] (ywDat (xOp pIx (xVar 1) (xC (.int 1))) (ywDat (xC (.int 0)) (ywDat (xOp pSub (xCB pLen (xCons (xOp pIx (xVar 0) (xC (.int 2))) (xNil))) (xC (.int 1))) (ywNil)))))))
noncomputable def w_is_state : XFn := sealed (bodyX 2 2 t_is_state)
theorem wd_is_state : w_is_state = bodyX 2 2 t_is_state := sealed_eq _
noncomputable def t_need_state : XS :=
  xIfS (xNot (xTest (xCall w_is_state [] (ywDat (xVar 0) (ywDat (xVar 1) (ywNil)))))) (xRaise "OutOfPlace" ["text"] (xCons (xC (.str "no state of the coder")) (xNil))) (xNext)
noncomputable def w_need_state : XFn := sealed (bodyX 2 2 t_need_state)
theorem wd_need_state : w_need_state = bodyX 2 2 t_need_state := sealed_eq _
noncomputable def t_is_code : XS :=
  xRet (xCall w_is_whole [] (ywDat (xVar 1) (ywDat (xC (.int 0)) (ywDat (xOp pSub (xCB pLen (xCons (xOp pIx (xVar 0) (xC (.int 3))) (xNil))) (xC (.int 1))) (ywNil)))))
noncomputable def w_is_code : XFn := sealed (bodyX 2 2 t_is_code)
theorem wd_is_code : w_is_code = bodyX 2 2 t_is_code := sealed_eq _
noncomputable def t_need_code : XS :=
  xIfS (xNot (xTest (xCall w_is_code [] (ywDat (xVar 0) (ywDat (xVar 1) (ywNil)))))) (xRaise "OutOfPlace" ["text"] (xCons (xC (.str "no code of the coder")) (xNil))) (xNext)
noncomputable def w_need_code : XFn := sealed (bodyX 2 2 t_need_code)
theorem wd_need_code : w_need_code = bodyX 2 2 t_need_code := sealed_eq _
noncomputable def t_divided : XS :=
  xRet (xIf (xTest (xOp pGe (xVar 0) (xC (.int 0)))) (xOp pDiv (xVar 0) (xVar 1)) (xUn pNeg (xOp pDiv (xUn pNeg (xVar 0)) (xVar 1))))
noncomputable def w_divided : XFn := sealed (bodyX 2 2 t_divided)
theorem wd_divided : w_divided = bodyX 2 2 t_divided := sealed_eq _
noncomputable def t_moved_by : XS :=
  xRet (xCall w_divided [] (ywDat (xOp pMul (xOp pIx (xOp pIx (xOp pIx (xVar 0) (xC (.int 3))) (xVar 1)) (xC (.int 0))) (xOp pIx (xOp pIx (xVar 0) (xC (.int 2))) (xVar 2))) (ywDat (xC (.int 8)) (ywNil))))
noncomputable def w_moved_by : XFn := sealed (bodyX 3 3 t_moved_by)
theorem wd_moved_by : w_moved_by = bodyX 3 3 t_moved_by := sealed_eq _
noncomputable def t_next_state : XS :=
  xSeq (xAsg (xVar 0) (ygT 5 (ygsC (ygN 3) (ygsC (ygN 4) (ygsC (ygN 5) (ygsC (ygN 6) (ygsC (ygN 7) (ygsN))))))))
  (xSeq (xAsg (xVar 1) (ygT 2 (ygsC (ygN 8) (ygsC (ygN 9) (ygsN)))))
  (xSeq (xSet 10 (xIf (xTest (xOp pEq (xVar 7) (xC (.int 0)))) (xVar 8) (xOp pSub (xVar 8) (xCall w_divided [] (ywDat (xVar 8) (ywDat (xVar 7) (ywNil)))))))
  (xSeq (xSet 11 (xOp pAdd (xVar 9) (xOp pIx (xOp pIx (xVar 6) (xVar 2)) (xC (.int 1)))))
  (xRet (xTup (xCons (xCB pMin2 (xCons (xVar 4) (xCons (xCB pMax2 (xCons (xVar 3) (xCons (xOp pAdd (xVar 10) (xCall w_moved_by [] (ywDat (xVar 0) (ywDat (xVar 2) (ywDat (xVar 9) (ywNil)))))) (xNil)))) (xNil)))) (xCons (xCB pMin2 (xCons (xOp pSub (xCB pLen (xCons (xVar 5) (xNil))) (xC (.int 1))) (xCons (xCB pMax2 (xCons (xC (.int 0)) (xCons (xVar 11) (xNil)))) (xNil)))) (xNil))))))))
noncomputable def w_next_state : XFn := sealed (bodyX 12 3 t_next_state)
theorem wd_next_state : w_next_state = bodyX 12 3 t_next_state := sealed_eq _
noncomputable def e__law_coder_0 : XT :=
  xOp pAdd (xC (.int 1)) (xCall w__law_next [] (ywVar 0 (ywDat (xOp pAdd (xOp pMul (xC (.int 2)) (xVar 1)) (xC (.int 2))) (ywNil))))
noncomputable def b__law_coder_1 : XS :=
  xAppend 8 (xTup (xCons (xOp pSub (xCall w__law_next [] (ywVar 0 (ywDat (xC (.int 33)) (ywNil)))) (xC (.int 16))) (xCons (xOp pSub (xCall w__law_next [] (ywVar 0 (ywDat (xC (.int 5)) (ywNil)))) (xC (.int 2))) (xNil))))
noncomputable def t__law_coder : XS :=
  xSeq (xPar 4 5 (xCons (xOp pSub (xC (.int 0)) (xCall w__law_next [] (ywVar 0 (ywDat (xOp pAdd (xVar 1) (xC (.int 1))) (ywNil))))) (xCons (xCall w__law_next [] (ywVar 0 (ywDat (xOp pAdd (xVar 1) (xC (.int 1))) (ywNil)))) (xNil))))
  (xSeq (xSet 6 (xFz (xLc (ziR1 (xCons (xOp pAdd (xC (.int 1)) (xCall w__law_next [] (ywVar 0 (ywDat (xVar 2) (ywNil))))) (xNil))) (ygN 7) xYes e__law_coder_0 [7])))
  (xSeq (xSetO 8 (xLst (xNil)))
  (xSeq (xFor (ziR1 (xCons (xOp pAdd (xC (.int 2)) (xCall w__law_next [] (ywVar 0 (ywDat (xOp pSub (xVar 3) (xC (.int 1))) (ywNil))))) (xNil))) (ygN 7) b__law_coder_1)
  (xSeq (xSet 9 (xOp pIx (xFz (xLst (xCons (xC (.int 0)) (xCons (xC (.int 0)) (xCons (xC (.int 2)) (xCons (xOp pAdd (xC (.int 2)) (xCall w__law_next [] (ywVar 0 (ywDat (xC (.int 4)) (ywNil))))) (xNil))))))) (xCall w__law_next [] (ywVar 0 (ywDat (xC (.int 4)) (ywNil))))))
  (xFrz 8 (xRet (xTup (xCons (xVar 4) (xCons (xVar 5) (xCons (xCB pTuple (xCons (xVar 6) (xNil))) (xCons (xCB pTuple (xCons (xVar 8) (xNil))) (xCons (xVar 9) (xNil)))))))))))))
noncomputable def w__law_coder : XFn := sealed (bodyX 10 4 t__law_coder)
theorem wd__law_coder : w__law_coder = bodyX 10 4 t__law_coder := sealed_eq _
noncomputable def t__law_parted : XS :=
  xRet (xIf (xTest (xOp pGe (xVar 0) (xC (.int 0)))) (xOp pDiv (xVar 0) (xVar 1)) (xOp pSub (xC (.int 0)) (xOp pDiv (xOp pSub (xC (.int 0)) (xVar 0)) (xVar 1))))
noncomputable def w__law_parted : XFn := sealed (bodyX 2 2 t__law_parted)
theorem wd__law_parted : w__law_parted = bodyX 2 2 t__law_parted := sealed_eq _
noncomputable def t__law_limited : XS :=
  xRet (xIf (xTest (xOp pLtA (xVar 0) (xVar 1))) (xVar 1) (xIf (xTest (xOp pGt (xVar 0) (xVar 2))) (xVar 2) (xVar 0)))
noncomputable def w__law_limited : XFn := sealed (bodyX 3 3 t__law_limited)
theorem wd__law_limited : w__law_limited = bodyX 3 3 t__law_limited := sealed_eq _
noncomputable def t__law_led : XS :=
  xSeq (xAsg (xOp pIx (xOp pIx (xVar 0) (xC (.int 3))) (xVar 2)) (ygT 2 (ygsC (ygN 3) (ygsC (ygN 4) (ygsN)))))
  (xSeq (xSet 5 (xOp pIx (xVar 1) (xC (.int 0))))
  (xSeq (xIfS (xTest (xOp pNe (xOp pIx (xVar 0) (xC (.int 4))) (xC (.int 0)))) (xSet 5 (xOp pSub (xVar 5) (xCall w__law_parted [] (ywDat (xVar 5) (ywDat (xOp pIx (xVar 0) (xC (.int 4))) (ywNil)))))) (xNext))
  (xSeq (xSet 5 (xOp pAdd (xVar 5) (xCall w__law_parted [] (ywDat (xOp pMul (xVar 3) (xOp pIx (xOp pIx (xVar 0) (xC (.int 2))) (xOp pIx (xVar 1) (xC (.int 1))))) (ywDat (xC (.int 8)) (ywNil))))))
  (xRet (xTup (xCons (xCall w__law_limited [] (ywDat (xVar 5) (ywDat (xOp pIx (xVar 0) (xC (.int 0))) (ywDat (xOp pIx (xVar 0) (xC (.int 1))) (ywNil))))) (xCons (xCall w__law_limited [] (ywDat (xOp pAdd (xOp pIx (xVar 1) (xC (.int 1))) (xVar 4)) (ywDat (xC (.int 0)) (ywDat (xOp pSub (xCB pLen (xCons (xOp pIx (xVar 0) (xC (.int 2))) (xNil))) (xC (.int 1))) (ywNil))))) (xNil))))))))
noncomputable def w__law_led : XFn := sealed (bodyX 6 3 t__law_led)
theorem wd__law_led : w__law_led = bodyX 6 3 t__law_led := sealed_eq _
noncomputable def t__law_some_state : XS :=
  xRet (xTup (xCons (xOp pAdd (xOp pIx (xVar 1) (xC (.int 0))) (xCall w__law_next [] (ywVar 0 (ywDat (xOp pAdd (xOp pSub (xOp pIx (xVar 1) (xC (.int 1))) (xOp pIx (xVar 1) (xC (.int 0)))) (xC (.int 1))) (ywNil))))) (xCons (xCall w__law_next [] (ywVar 0 (ywDat (xCB pLen (xCons (xOp pIx (xVar 1) (xC (.int 2))) (xNil))) (ywNil)))) (xNil))))
noncomputable def w__law_some_state : XFn := sealed (bodyX 2 2 t__law_some_state)
theorem wd__law_some_state : w__law_some_state = bodyX 2 2 t__law_some_state := sealed_eq _
noncomputable def t__law_stands : XS :=
  xRet (xOp pEq (xCB pRepr (xCons (xFz (xLst (xCons (xFld "Hearer" "own_state" (xVar 0)) (xCons (xFld "Hearer" "own_many" (xVar 0)) (xNil))))) (xNil))) (xCB pRepr (xCons (xFz (xLst (xCons (xVar 1) (xCons (xVar 2) (xNil))))) (xNil))))
noncomputable def w__law_stands : XFn := sealed (bodyX 3 3 t__law_stands)
theorem wd__law_stands : w__law_stands = bodyX 3 3 t__law_stands := sealed_eq _
noncomputable def t_Hearer_jump : XS :=
  xSeq (xDrop (xCall w_need_state [] (ywDat (xFld "Hearer" "own_coder" (xVar 0)) (ywDat (xVar 1) (ywNil)))))
  (xSetF "Hearer" "own_state" (xVar 0) (xVar 1))
noncomputable def w_Hearer_jump : XFn := sealed (bodyX 2 2 t_Hearer_jump)
theorem wd_Hearer_jump : w_Hearer_jump = bodyX 2 2 t_Hearer_jump := sealed_eq _
noncomputable def t_Hearer___init__ : XS :=
  xSeq (xDrop (xCall w_need_coder [] (ywDat (xVar 1) (ywNil))))
  (xSeq (xDrop (xCall w_need_state [] (ywDat (xVar 1) (ywDat (xVar 2) (ywNil)))))
  (xSeq (xSetF "Hearer" "own_coder" (xVar 0) (xVar 1))
  (xSeq (xSetF "Hearer" "own_state" (xVar 0) (xVar 2))
  (xSetF "Hearer" "own_many" (xVar 0) (xC (.int 0))))))
noncomputable def w_Hearer___init__ : XFn := sealed (bodyX 3 3 t_Hearer___init__)
theorem wd_Hearer___init__ : w_Hearer___init__ = bodyX 3 3 t_Hearer___init__ := sealed_eq _
noncomputable def t_Hearer_copy : XS :=
  xSeq (xSet 1 (xMkS "Hearer" w_Hearer___init__ [] (ywDat (xFld "Hearer" "own_coder" (xVar 0)) (ywNil)) (xFld "Hearer" "own_state" (xVar 0))))
  (xSeq (xSetF "Hearer" "own_many" (xVar 1) (xFld "Hearer" "own_many" (xVar 0)))
  (xRet (xVar 1)))
noncomputable def w_Hearer_copy : XFn := sealed (bodyX 2 1 t_Hearer_copy)
theorem wd_Hearer_copy : w_Hearer_copy = bodyX 2 1 t_Hearer_copy := sealed_eq _
noncomputable def t_Hearer___call__ : XS :=
  xSeq (xDrop (xCall w_need_code [] (ywDat (xFld "Hearer" "own_coder" (xVar 0)) (ywDat (xVar 1) (ywNil)))))
  (xSeq (xSetF "Hearer" "own_state" (xVar 0) (xCall w_next_state [] (ywDat (xFld "Hearer" "own_coder" (xVar 0)) (ywDat (xFld "Hearer" "own_state" (xVar 0)) (ywDat (xVar 1) (ywNil))))))
  (xSeq (xAugF "Hearer" "own_many" (xVar 0) (xC (.int 1)))
  (xRet (xOp pIx (xFld "Hearer" "own_state" (xVar 0)) (xC (.int 0))))))
noncomputable def w_Hearer___call__ : XFn := sealed (bodyX 2 2 t_Hearer___call__)
theorem wd_Hearer___call__ : w_Hearer___call__ = bodyX 2 2 t_Hearer___call__ := sealed_eq _
noncomputable def b_law_0 : XS :=
  xSeq (xSet 10 (xCall w__law_next [] (ywVar 1 (ywDat (xC (.int 8)) (ywNil)))))
  (xSeq (xIfS (xTest (xOp pEq (xVar 10) (xC (.int 0)))) (xSeq (xSet 4 (xCall w__law_some_state [] (ywVar 1 (ywDat (xVar 3) (ywNil)))))
  (xDrop (xMeth "Hearer" "jump" w_Hearer_jump (xVar 6) (ywDat (xVar 4) (ywNil))))) (xIfS (xTest (xOp pEq (xVar 10) (xC (.int 1)))) (xAppend 8 (xTup (xCons (xMeth "Hearer" "copy" w_Hearer_copy (xVar 6) ywNil) (xCons (xVar 4) (xCons (xVar 5) (xNil)))))) (xSeq (xSet 11 (xCall w__law_next [] (ywVar 1 (ywDat (xCB pLen (xCons (xOp pIx (xVar 3) (xC (.int 3))) (xNil))) (ywNil)))))
  (xSeq (xPar 4 5 (xCons (xCall w__law_led [] (ywDat (xVar 3) (ywDat (xVar 4) (ywDat (xVar 11) (ywNil))))) (xCons (xOp pAdd (xVar 5) (xC (.int 1))) (xNil))))
  (xIfS (xTest (xOp pNe (xCB pRepr (xCons (xCaO "Hearer" w_Hearer___call__ (xVar 6) (ywDat (xVar 11) (ywNil))) (xNil))) (xCB pRepr (xCons (xOp pIx (xVar 4) (xC (.int 0))) (xNil))))) (xRet (xC (.bool false))) (xNext))))))
  (xIfS (xNot (xTest (xCall w__law_stands [] (ywDat (xVar 6) (ywDat (xVar 4) (ywDat (xVar 5) (ywNil))))))) (xRet (xC (.bool false))) (xNext)))
noncomputable def b_law_1 : XS :=
  xSeq (xSet 11 (xCall w__law_next [] (ywVar 1 (ywDat (xCB pLen (xCons (xOp pIx (xVar 3) (xC (.int 3))) (xNil))) (ywNil)))))
  (xSeq (xIfS (xOr (xNot (xTest (xCall w__law_stands [] (ywDat (xVar 12) (ywDat (xVar 13) (ywDat (xVar 14) (ywNil))))))) (xTest (xOp pNe (xCaO "Hearer" w_Hearer___call__ (xVar 12) (ywDat (xVar 11) (ywNil))) (xOp pIx (xCall w__law_led [] (ywDat (xVar 3) (ywDat (xVar 13) (ywDat (xVar 11) (ywNil))))) (xC (.int 0)))))) (xRet (xC (.bool false))) (xNext))
  (xIfS (xNot (xTest (xCall w__law_stands [] (ywDat (xVar 12) (ywDat (xCall w__law_led [] (ywDat (xVar 3) (ywDat (xVar 13) (ywDat (xVar 11) (ywNil))))) (ywDat (xOp pAdd (xVar 14) (xC (.int 1))) (ywNil))))))) (xRet (xC (.bool false))) (xNext)))
noncomputable def b_law_2 : XS :=
  xSeq (xSet 3 (xCall w__law_coder [] (ywVar 1 (ywDat (xOp pIx (xFz (xLst (xCons (xC (.int 2)) (xCons (xC (.int 40)) (xCons (xC (.int 3000)) (xNil)))))) (xCall w__law_next [] (ywVar 1 (ywDat (xC (.int 3)) (ywNil))))) (ywDat (xC (.int 3)) (ywDat (xC (.int 5)) (ywNil)))))))
  (xSeq (xPar 4 5 (xCons (xCall w__law_some_state [] (ywVar 1 (ywDat (xVar 3) (ywNil)))) (xCons (xC (.int 0)) (xNil))))
  (xSeq (xParW3 6 7 8 (xwD (xMkS "Hearer" w_Hearer___init__ [] (ywDat (xVar 3) (ywNil)) (xVar 4))) (xwD (xMk "Hearer" w_Hearer___init__ [start00] (ywDat (xVar 3) (ywNil)))) (xwO (xLst (xNil))))
  (xSeq (xIfS (xOr (xNot (xTest (xCall w__law_stands [] (ywDat (xVar 6) (ywDat (xVar 4) (ywDat (xC (.int 0)) (ywNil))))))) (xNot (xTest (xCall w__law_stands [] (ywDat (xVar 7) (ywDat (xTup (xCons (xC (.int 0)) (xCons (xC (.int 0)) (xNil)))) (ywDat (xC (.int 0)) (ywNil)))))))) (xRet (xC (.bool false))) (xNext))
  (xSeq (xFor (ziR1 (xCons (xCall w__law_next [] (ywVar 1 (ywDat (xC (.int 31)) (ywNil)))) (xNil))) (ygN 9) b_law_0)
  (xSeq (xFrz 8 (xFor (ziL (xVar 8)) (ygT 3 (ygsC (ygN 12) (ygsC (ygN 13) (ygsC (ygN 14) (ygsN))))) b_law_1))
  (xIfS (xOr (xNot (xTest (xCall w__law_stands [] (ywDat (xVar 6) (ywDat (xVar 4) (ywDat (xVar 5) (ywNil))))))) (xNot (xTest (xCall w__law_stands [] (ywDat (xVar 7) (ywDat (xTup (xCons (xC (.int 0)) (xCons (xC (.int 0)) (xNil)))) (ywDat (xC (.int 0)) (ywNil)))))))) (xRet (xC (.bool false))) (xNext)))))))
noncomputable def t_law : XS :=
  xSeq (xFor (ziR1 (xCons (xOp pAdd (xC (.int 2)) (xCB pMin2 (xCons (xLenS 0) (xCons (xC (.int 5)) (xNil))))) (xNil))) (ygN 2) b_law_2)
  (xRet (xC (.bool true)))
section
variable {P : Program} {w : World} {K : PySem.W.Frag} {mg : Str → Option Value} {base : Heap}
theorem okBegun (T : Tx K mg) : ∃ fd, FnG P w K mg base 1 (He.ga K "_law_begun") fd ["script"] (spBegun K) ∧ Binds K fd ["script"] [] ∧ PySem.W.keepIn K (.ref (He.ga K "_law_begun")) = true ∧ mg "_law_begun" = some (.ref (He.ga K "_law_begun")) := by
  obtain ⟨fd, F⟩ := T.d__law_begun
  have S := sc__law_begun
  refine ⟨fd, fnG_of (k := 0) F S (fun vs H Q E h => ?_) (fun cdv A outer s H vs Q E hcv hg hr h => ?_), F.bindsN fun _ _ _ _ _ _ us hl => match us, hl with | [_], _ => rfl, F.kp, T.g__law_begun⟩
  · obtain ⟨a, ns, rfl, _⟩ := h
    rfl
  · obtain ⟨a, ns, rfl, hs, hl, k⟩ := h
    refine ⟨_, pss_one (ps_ret (pe_disp (pps_cons pe_str (pe_callTy call_list_of rfl T.b_list (by decide +kernel) (pa_cons (pv 0) pa_nil)) (pps_cons pe_str (pe_lc (own := [("cell", 1)]) rfl S.nd (pi_list (pv 0))
      (blkOk_by (own := [("cell", 1)]) (N := nm__law_begun) (sc := defScope s__law_begun) (by decide +kernel)) (fun _ _ _ _ _ => pg_name (i := 1) S.nd rfl (Or.inl rfl)) (fun _ _ _ _ _ => pts_one (pt_cmpR op_ge (pv 1) (pe_op op_pow pe_int pe_int) (nomark _))) (fun _ _ _ _ _ => pv 1))
      (pps_cons pe_str pe_int pps_nil))) (by rfl) (by rfl) (fun z => by cases z) (by decide))), ?_⟩
    intro p hp
    have s1 : Same H (L2.upd H p (.dK [])) := same_upd hp
    refine ⟨_, rfl, a, _, rfl, .inl (s1.seq hs), fun lc hlc => ?_⟩
    have s2 := same_upd (o := .lst (ns.map V.int)) hlc
    refine ⟨_, rfl, a, rfl, ⟨_, (s1.trans s2).seq hs⟩, fun ll hll => ?_⟩
    have s3 : ∀ xs : List V, Same (L2.upd (L2.upd H p (.dK [])) lc (.lst (ns.map V.int))) (L2.upd (L2.upd (L2.upd H p (.dK [])) lc (.lst (ns.map V.int))) ll (.lst xs)) := fun xs => same_upd hll
    refine lc_list (K := K) (a := a) (xs := ns.map V.int) (fun i H' => ∃ ms : List Int, ms.length ≤ i ∧ H' = L2.upd (L2.upd (L2.upd H p (.dK [])) lc (.lst (ns.map V.int))) ll (.lst (ms.map V.int))) ⟨[], Nat.le_refl _, rfl⟩ ?_ ?_ ?_
    · rintro i H' _ ⟨ms, _, rfl⟩
      exact ((s1.trans s2).trans (s3 _)).seq hs
    · rintro i x H' hi ⟨ms, hm, rfl⟩
      obtain ⟨u, rfl⟩ : ∃ u, x = V.int u := by
        rw [List.getElem?_map] at hi
        cases e : ns[i]? with
        | none => rw [e] at hi; cases hi
        | some u => rw [e] at hi; exact ⟨u, (Option.some.inj hi).symm⟩
      have hi63 : i < 63 := by
        have q := (List.getElem?_eq_some_iff.mp hi).1
        rw [List.length_map] at q
        omega
      refine ⟨rfl, _, rfl, _, _, rfl, rfl, ⟨by decide, by decide, by decide⟩, _, _, rfl, rfl, _, rfl, ?_⟩
      refine ite2 (fun _ => ?_) (fun _ => ⟨ms, by omega, rfl⟩)
      refine ⟨_, rfl, _, upd_same, ?_, ms ++ [u], by simp; omega, by rw [upd_upd, List.map_append]; rfl⟩
      rw [List.length_map]
      exact Nat.lt_of_le_of_lt hm (Nat.lt_of_lt_of_le hi63 (by decide))
    · rintro H' ⟨ms, hm, rfl⟩
      rw [List.length_map] at hm
      have e1 : lc ≠ p := fun z => by subst z; rw [upd_same] at hlc; cases hlc
      have e2 : ll ≠ p := fun z => by subst z; rw [upd_ne e1.symm, upd_same] at hll; cases hll
      have e3 : ll ≠ lc := fun z => by subst z; rw [upd_same] at hll; cases hll
      have hlc0 : H lc = none := by rw [upd_ne e1] at hlc; exact hlc
      have hll0 : H ll = none := by rw [upd_ne e3, upd_ne e2] at hll; exact hll
      refine ⟨by rw [upd_ne e2.symm, upd_ne e1.symm, upd_same], mKvs lc ll 0, rfl, (by show 3 ≤ 15; decide), ?_⟩
      rw [m_merge]
      have sf : Same H (L2.upd (L2.upd (L2.upd (L2.upd H p (.dK [])) lc (.lst (ns.map V.int))) ll (.lst (ms.map V.int))) p (.dK (mKvs lc ll 0))) := fun b o e => by
        rw [upd_ne (ne_of_none e hp)]
        exact ((s1.trans s2).trans (s3 _)) _ _ e
      refine k p _ sf ⟨sf, hp, lc, ll, ns, ms, 0, hlc0, hll0, e3.symm, upd_same, ?_, ?_, Int.le_refl _, Int.le_refl _, hl, by omega⟩ hp
      · rw [upd_ne e1, upd_ne e3.symm, upd_same]
      · rw [upd_ne e2, upd_same]
theorem okNext (T : Tx K mg) : Ok P w K mg base 1 "_law_next" ["m", "many"] v__law_next := by
  obtain ⟨fd, F⟩ := T.d__law_next
  have S := sc__law_next
  refine ⟨fd, fnG_of (k := 0) F S (fun vs H Q E h => ?_) (fun cdv A outer s H vs Q E hcv hg hr h => ?_), F.bindsN fun _ _ _ _ _ _ us hl => match us, hl with | [_, _], _ => rfl, F.kp, T.g__law_next⟩
  · obtain ⟨C, n, ws, Q0, E0, e0, io, r, h, _⟩ := h
    match ws, r, h with
    | [.tok, .dat (.int many)], r, _ => rw [r.length]; rfl
  · obtain ⟨C, n, ws, Q0, E0, e0, io, r, h, hq, he⟩ := h
    match ws, vs, r, h with
    | [.tok, .dat (.int many)], [v1, v2], ⟨⟨m, em, e1⟩, r2, _⟩, ⟨h1, h2, h3, h4⟩ =>
      subst e1
      cases r2
      obtain ⟨e0, et⟩ := e0
      subst e0
      have hu1 := hu_of hr
      have hu := hr.units
      obtain ⟨L0, sw⟩ := io.sto
      have M0 : Mach m n.n C.O0 C.H0 := by
        have := io.good
        rw [em] at this
        exact this
      -- what is handed back
      have fin : ∀ (H' : Hp) (x : Int), Mach m (n.n + 1) C.O0 H' → Dq C (fun b => ∃ a c, n.st a = some c ∧ (b = a ∨ b ∈ L0 a)) m H' → 0 ≤ x → x < many → Q (.int x) H' := fun H' x M d x0 x1 =>
        hq (.dat (.int x)) ⟨n.n + 1, n.st⟩ (h4 x x0 x1) (.int x) C.G0 C.O0 H' ⟨by rw [em]; exact M, io.go, io.g0, io.o0, io.oh, io.nO, io.nG, d.dm.d, ⟨d.dm.t, io.tb.out, d.dm.l⟩, d.sto em sw⟩ (.int x)
      have up1 : ∀ {H' : Hp}, Mach m n.n C.O0 H' → Mach m (n.n + 1) C.O0 H' := fun M => by
        obtain ⟨q1, q2, lc, ll, cs, ls, z, a1, a2, a3, a4, a5, a6, a7, a8, a9⟩ := M
        exact ⟨q1, q2, lc, ll, cs, ls, z, a1, a2, a3, a4, a5, a6, a7, by omega, a9⟩
      have left := fun (X : Cx) => @pe_dget X
      refine ⟨_, pss_cons (ps_while (passes_of (K := fun e s2 => L2.CX P w outer C.H0 s E e s2) rfl)
          (PW.pt (pw_and (pt_cmpR (op_neD hu) (pe_dget hu1 (pv 0) pe_str (fun _ _ => rfl)) (pe_lst pa_nil) (nomark _))
            (pw_and1 (pt_cmpR op_eq (pe_ix ix_list (pe_dget hu1 (pv 0) pe_str (fun _ _ => rfl)) pe_int (fun _ _ => rfl)) pe_int (nomark _)))))
          (pss_one (ps_dput hu1 (pv 0) pe_str (pe_slice sl_list (pe_dget hu1 (pv 0) pe_str (fun _ _ => rfl)) (po_some pe_int) po_none) rfl)))
        (pss_cons (ps_if (pt_cmpR (op_neD hu) (pe_dget hu1 (pv 0) pe_str (fun _ _ => rfl)) (pe_lst pa_nil) (nomark _))
          (pss_cons (ps_set (i := 2) S.nd rfl (Or.inl rfl) (pe_callTy call_int1 rfl T.b_int (by decide +kernel) (pa_cons (pe_ix ix_list (pe_dget hu1 (pv 0) pe_str (fun _ _ => rfl)) pe_int (fun _ _ => rfl)) pa_nil)))
            (pss_cons (ps_asg (pe_op op_fdivW (pv 2) (pv 1)) (pg_sub (pe_dget hu1 (pv 0) pe_str (fun _ _ => rfl)) pe_int set_list))
              (pss_one (ps_ret (pe_op op_mod (pv 2) (pv 1)))))) pss_nil)
        (pss_cons (ps_set (i := 3) S.nd rfl (Or.inl rfl) (pe_op op_add (pe_dget hu1 (pv 0) pe_str (fun _ _ => rfl)) pe_int))
        (pss_cons (ps_dput hu1 (pv 0) pe_str (pv 3) rfl)
        (pss_cons (ps_set (i := 4) S.nd rfl (Or.inl rfl) (pe_ifExp (pt_cmpR (op_neD hu) (pe_dget hu1 (pv 0) pe_str (fun _ _ => rfl)) (pe_lst pa_nil) (nomark _))
            (pe_ix ix_list (pe_dget hu1 (pv 0) pe_str (fun _ _ => rfl)) (pe_op op_mod (pe_callTy call_int1 rfl T.b_int (by decide +kernel) (pa_cons (pv 3) pa_nil)) (pe_callB call_len_seq rfl T.b_len (by decide +kernel) (pa_cons (pe_dget hu1 (pv 0) pe_str (fun _ _ => rfl)) pa_nil))) (fun _ _ => rfl)) pe_int))
        (pss_cons (ps_set (i := 5) S.nd rfl (Or.inl rfl) (pe_op op_mul (pe_callTy call_int1 rfl T.b_int (by decide +kernel) (pa_cons (pe_op op_add (pe_op op_add (pe_op op_mod (pe_callTy call_int1 rfl T.b_int (by decide +kernel) (pa_cons (pv 4) pa_nil)) pe_int) (pe_op op_mul pe_int (pv 3))) (pe_op op_mul (pe_op op_mul pe_int (pv 3)) (pv 3))) pa_nil)) pe_int))
        (pss_cons (ps_set (i := 5) S.nd rfl (Or.inl rfl) (pe_op op_mul (pe_callTy call_int1 rfl T.b_int (by decide +kernel) (pa_cons (pe_op op_add (pe_op op_mod (pe_callTy call_int1 rfl T.b_int (by decide +kernel) (pa_cons (pv 5) pa_nil)) pe_int) (pe_op op_mul pe_int (pv 3))) pa_nil)) pe_int))
        (pss_one (ps_ret (pe_op op_mod (pe_callTy call_int1 rfl T.b_int (by decide +kernel) (pa_cons (pe_op op_fdiv (pe_op op_mod (pe_callTy call_int1 rfl T.b_int (by decide +kernel) (pa_cons (pv 5) pa_nil)) pe_int) pe_int) pa_nil)) (pv 1)))))))))), ?_⟩
      obtain ⟨lc, ll0, cs, ls0, z, M1⟩ := M0.mk'
      have d0 := Dq.start em io sw M1.hm ⟨_, M1.hc⟩ ⟨_, M1.hl⟩
      generalize (fun b => ∃ a c, n.st a = some c ∧ (b = a ∨ b ∈ L0 a)) = SS0 at *
      refine seq_by (fun σ' H' => σ' = L2.start nm__law_next [V.ref m, V.int many] ∧ ∃ ll ls, MK m n.n C.O0 H' lc ll cs ls z ∧ Dq C SS0 m H') ?_ (fun N hN => ?_)
      rotate_left
      · refine ⟨fun k σ' H' => σ' = _ ∧ ∃ ll ls, MK m n.n C.O0 H' lc ll cs ls z ∧ ls.length = k ∧ Dq C SS0 m H', ⟨ls0.length, rfl, ll0, ls0, M1, rfl, d0⟩, ?_⟩
        rintro k σ' H' ⟨rfl, ll, ls, M, rfl, dm⟩
        refine ⟨_, rfl, _, _, rfl, M.gl, by decide, fun p hp => ?_⟩
        have Mp := M.garb (o := .lst []) hp
        have dp := dm.new (o := .lst []) hp
        refine ne_nil Mp.hl upd_same (fun hne => ⟨_, rfl, ?_⟩) (fun he => ⟨_, rfl, ?_⟩)
        · obtain ⟨x, xs, rfl⟩ : ∃ x xs, ls = x :: xs := by
            cases ls with
            | nil => exact absurd rfl hne
            | cons x xs => exact ⟨x, xs, rfl⟩
          refine ⟨_, rfl, _, _, rfl, Mp.gl, _, _, _, _, rfl, rfl, SqL.of Mp.hl, atI_ints (j := 0) rfl, rfl, _, rfl, ?_⟩
          refine ite2 (fun _ => ?_) (fun _ => hN _ _ ⟨rfl, _, _, Mp, dp⟩)
          refine ⟨fun σ' H' => σ' = L2.start nm__law_next [V.ref m, V.int many] ∧ ∃ ll, MK m n.n C.O0 H' lc ll cs xs z ∧ Dq C SS0 m H', ?_, ?_⟩
          · rintro σ' H' ⟨rfl, l2, M2, d2⟩
            exact ⟨xs.length, by simp, rfl, l2, xs, M2, rfl, d2⟩
          · refine ⟨_, rfl, _, _, rfl, Mp.gl, _, rfl, _, _, rfl, SqL.of Mp.hl, fun l hl => ?_⟩
            rw [cut1_ints]
            have Ml := Mp.garb (o := .lst (((x :: xs).drop 1).map V.int)) hl
            have hl2 : C.O0 l = none := by
              cases e : C.O0 l with
              | none => rfl
              | some o => have := Mp.same _ _ e; rw [hl] at this; cases this
            have q := Ml.pl (l := l) (ms := (x :: xs).drop 1) upd_same hl2 (ne_of_none Mp.hc hl) (by have := M.nl; simp at this ⊢; omega)
            exact ⟨_, rfl, _, _, rfl, q.1, rfl, l, q.2, (dp.new hl).oldM Ml (dp.fr hl)⟩
        · exact hN _ _ ⟨rfl, _, _, Mp, dp⟩
      · rintro σ' H' ⟨rfl, ll, ls, M, dm⟩
        refine seq_by (fun σ' H' => σ' = L2.start nm__law_next [V.ref m, V.int many] ∧ ∃ ll ls, MK m n.n C.O0 H' lc ll cs ls z ∧ Dq C SS0 m H') ?_ (fun N hN => ?_)
        rotate_left
        · refine ⟨_, rfl, _, _, rfl, M.gl, by decide, fun p hp => ?_⟩
          have Mp := M.garb (o := .lst []) hp
          have dp := dm.new (o := .lst []) hp
          refine ne_nil Mp.hl upd_same (fun hne => ⟨_, rfl, ?_⟩) (fun he => ⟨_, rfl, ?_⟩)
          · obtain ⟨x, xs, rfl⟩ : ∃ x xs, ls = x :: xs := by
              cases ls with
              | nil => exact absurd rfl hne
              | cons x xs => exact ⟨x, xs, rfl⟩
            refine ⟨_, rfl, _, _, rfl, Mp.gl, _, _, _, _, rfl, rfl, SqL.of Mp.hl, atI_ints (j := 0) rfl, .inl ⟨_, rfl, ?_⟩⟩
            refine ⟨_, rfl, _, rfl, _, _, rfl, rfl, wide_div (b := 110) h1 (by omega) (by decide) (by decide), _, rfl, _, _, rfl, Mp.gl, _, _, _, 0, rfl, rfl, Mp.hl, ixN0 (by simp), ?_⟩
            refine ⟨_, rfl, _, rfl, _, _, rfl, rfl, h1, ?_⟩
            have q := Mp.ph (ms := (x / many) :: xs) (by have := M.nl; simp at this ⊢; omega)
            exact fin _ _ (up1 q.mach) (dp.oldL Mp (ms := (x / many) :: xs)) (Int.emod_nonneg _ (by omega)) (Int.emod_lt_of_pos _ h1)
          · exact hN _ _ ⟨rfl, _, _, Mp, dp⟩
        · rintro σ' H' ⟨rfl, ll, ls, M, dm⟩
          have hk : (0 : Int) ≤ z + 1 := by have := M.z0; omega
          have hk2 : z + 1 ≤ ((n.n + 1 : Nat) : Int) := by have := M.z1; omega
          have hk3 : z + 1 < 2 ^ 64 := by have := M.z1; omega
          refine ⟨_, rfl, _, _, rfl, M.ga, _, _, rfl, rfl, ?_⟩
          have q := M.pa (y := z + 1) (n' := n.n + 1) hk hk2
          refine ⟨_, rfl, _, rfl, _, _, rfl, q.1, ?_⟩
          have M2 := q.2
          have d2 := dm.oldM M (y := z + 1) (dm.lm _ _ _ M.hm).2
          generalize L2.upd H' m (.dK (mKvs lc ll (z + 1))) = H2 at M2 d2
          dsimp only
          refine seq_by (fun σ' H' => ∃ c : Int, σ' = List.set (List.set (L2.start nm__law_next [V.ref m, V.int many]) 3 (some (.int (z + 1)))) 4 (some (.int c)) ∧ Mach m (n.n + 1) C.O0 H' ∧ Dq C SS0 m H') ?_ (fun N hN => ?_)
          rotate_left
          · refine ⟨_, rfl, _, _, rfl, M2.gc, by decide, fun p hp => ?_⟩
            have Mp := M2.garb (o := .lst []) hp
            have dp := d2.new (o := .lst []) hp
            refine ne_nil Mp.hc upd_same (fun hne => ⟨_, rfl, ?_⟩) (fun he => ⟨_, rfl, ?_⟩)
            · have hlen : 0 < cs.length := List.length_pos_iff.mpr hne
              have hr0 : 0 ≤ (z + 1) % (cs.length : Int) := Int.emod_nonneg _ (by omega)
              have hr1 : (z + 1) % (cs.length : Int) < cs.length := Int.emod_lt_of_pos _ (by omega)
              obtain ⟨j, hj⟩ : ∃ j : Nat, (z + 1) % (cs.length : Int) = (j : Int) := ⟨((z + 1) % (cs.length : Int)).toNat, (Int.toNat_of_nonneg hr0).symm⟩
              have hjl : j < cs.length := by omega
              refine ⟨_, rfl, _, _, rfl, Mp.gc, _, rfl, .inl ⟨_, rfl, _, rfl, _, _, rfl, Mp.gc, _, _, rfl, .inl (SqL.of Mp.hc), _, _, rfl, rfl, ?_, ?_⟩⟩
              · rw [List.length_map]; omega
              refine ⟨_, _, _, .int cs[j], rfl, rfl, SqL.of Mp.hc, ?_, ?_⟩
              · rw [List.length_map, hj]
                exact atI_ints (List.getElem?_eq_getElem hjl)
              · exact hN _ _ ⟨cs[j], rfl, Mp.mach, dp⟩
            · exact hN _ _ ⟨3, rfl, Mp.mach, dp⟩
          · rintro σ' H' ⟨c, rfl, M3, d3⟩
            have z29 : (0 : Int) < 2147483629 := by decide
            have z30 : (0 : Int) < 2147483647 := by decide
            have z31 : (0 : Int) < 2147483587 := by decide
            have z11 : (0 : Int) < 11 ∧ (11 : Int) < 1073741824 := by decide
            refine ⟨_, rfl, .inl ⟨_, rfl, _, _, rfl, rfl, z29, _, rfl, _, _, rfl, rfl, .inl (by decide), _, _, rfl, rfl, _, rfl, _, _, rfl, rfl, .inl (by decide), _, rfl, _, _, rfl, rfl, .inr ⟨by omega, hk3⟩, _, _, rfl, rfl, .inl ⟨_, rfl, _, _, rfl, rfl, .inr (by decide), ?_⟩⟩⟩
            refine ⟨_, rfl, .inl ⟨_, rfl, _, _, rfl, rfl, z30, _, rfl, _, _, rfl, rfl, .inl (by decide), _, _, rfl, rfl, .inl ⟨_, rfl, _, _, rfl, rfl, .inr (by decide), ?_⟩⟩⟩
            refine ⟨_, rfl, .inl ⟨_, rfl, _, _, rfl, rfl, z31, _, _, rfl, rfl, z11, .inl ⟨_, rfl, _, rfl, _, _, rfl, rfl, h1, ?_⟩⟩⟩
            exact fin _ _ M3 d3 (Int.emod_nonneg _ (by omega)) (Int.emod_lt_of_pos _ h1)
theorem rz_BadCoder (T : Tx K mg) : RzC P w K mg base "BadCoder" ["part", "number"] := by
  obtain ⟨fd, F⟩ := T.d_BadCoder
  have S := sci_BadCoder
  refine rz_of T.z_BadCoder T.g_BadCoder (by decide) (F.ok (k := 0) S (fun vs H Q E h => ?_) (fun cdv A outer s H vs Q E hr h => ?_)) (F.bindsN fun _ _ _ _ _ _ us hl => match us, hl with | [_, _, _], _ => rfl)
  · obtain ⟨a, y, z, rfl, rd⟩ := init2_read h
    rfl
  · obtain ⟨a, y, z, rfl, rd⟩ := init2_read h
    exact ⟨_, pss_cons (ps_ost (pv 0) (pv 1)) (pss_one (ps_ost (pv 0) (pv 2))), rd _ rfl rfl rfl _ fun _ _ q => q⟩
theorem rz_OutOfPlace (T : Tx K mg) : RzC P w K mg base "OutOfPlace" ["text"] := by
  obtain ⟨fd, F⟩ := T.d_OutOfPlace
  have S := sci_OutOfPlace
  refine rz_of T.z_OutOfPlace T.g_OutOfPlace (by decide) (F.ok (k := 0) S (fun vs H Q E h => ?_) (fun cdv A outer s H vs Q E hr h => ?_)) (F.bindsN fun _ _ _ _ _ _ us hl => match us, hl with | [_, _], _ => rfl)
  · obtain ⟨a, y, rfl, rd⟩ := init1_read h
    rfl
  · obtain ⟨a, y, rfl, rd⟩ := init1_read h
    exact ⟨_, pss_one (ps_ost (pv 0) (pv 1)), rd _ rfl rfl _ fun _ _ q => q⟩
theorem ok_is_whole (T : Tx K mg) : Ok P w K mg base 1 "is_whole" ["value", "least", "most"] (SF w_is_whole) := by
  rw [wd_is_whole]
  apply Ok.ofX
  obtain ⟨fd, F⟩ := T.d_is_whole
  have S := sc_is_whole
  refine ⟨fd, fnV F S fun cdv A outer s H E hcv hg hr => ?_, F.bindsN fun _ _ _ _ _ _ us hl => match us, hl with | [_, _, _], _ => rfl, F.kp, T.g_is_whole⟩
  · have hG : (cxOf (L2.CX P w) P w K mg base nm_is_whole "is_whole" (defScope s_is_whole) (He.ga K "is_whole") cdv A outer s H E).A.guards = some [] := hg
    have hu := hr.units
    have hu5 := units5 hr
    have tk := takes_of (X := cxOf (L2.CX P w) P w K mg base nm_is_whole "is_whole" (defScope s_is_whole) (He.ga K "is_whole") cdv A outer s H E) (E := E) rfl rfl rfl rfl
    have hp := passes_of (X := cxOf (L2.CX P w) P w K mg base nm_is_whole "is_whole" (defScope s_is_whole) (He.ga K "is_whole") cdv A outer s H E) (K := fun e s2 => L2.CX P w outer H s E e s2) rfl
    exact (xs_one (xs_ret (xe_and (xe_isi rfl T.b_isinstance rfl T.b_int (by decide +kernel) T.k_int (xe_var 0)) (xe_and (xe_not (xe_isi rfl T.b_isinstance rfl T.b_bool (by decide +kernel) T.k_bool (xe_var 0))) (xe_one (xe_chain p_le p_le (xe_var 1) (xe_var 0) (xe_var 2)))))))
theorem ok_cd_is_move (T : Tx K mg) (C_is_whole : Ok P w K mg base 1 "is_whole" ["value", "least", "most"] (SF w_is_whole)) : Ok P w K mg base 2 "cd_is_move" ["move"] (SF w_cd_is_move) := by
  rw [wd_cd_is_move]
  apply Ok.ofX
  obtain ⟨fd, F⟩ := T.d_cd_is_move
  have S := sc_cd_is_move
  refine ⟨fd, fnV F S fun cdv A outer s H E hcv hg hr => ?_, F.bindsN fun _ _ _ _ _ _ us hl => match us, hl with | [_], _ => rfl, F.kp, T.g_cd_is_move⟩
  · have hG : (cxOf (L2.CX P w) P w K mg base nm_cd_is_move "cd_is_move" (defScope s_cd_is_move) (He.ga K "cd_is_move") cdv A outer s H E).A.guards = some [] := hg
    have hu := hr.units
    have hu5 := units5 hr
    have tk := takes_of (X := cxOf (L2.CX P w) P w K mg base nm_cd_is_move "cd_is_move" (defScope s_cd_is_move) (He.ga K "cd_is_move") cdv A outer s H E) (E := E) rfl rfl rfl rfl
    have hp := passes_of (X := cxOf (L2.CX P w) P w K mg base nm_cd_is_move "cd_is_move" (defScope s_cd_is_move) (He.ga K "cd_is_move") cdv A outer s H E) (K := fun e s2 => L2.CX P w outer H s E e s2) rfl
    exact (xs_one (xs_ret (xe_and (xe_isi rfl T.b_isinstance rfl T.b_tuple (by decide +kernel) T.k_tuple (xe_var 0)) (xe_and (xe_cmp (p_eq hu) (xe_callB pc_len rfl T.b_len (by decide +kernel) (xa_cons (xe_var 0) xa_nil)) xe_int) (xe_and (xe_ok C_is_whole hG (hr.mono (by decide)) tk rfl (yw_dat (xe_ix (xe_var 0) xe_int) (yw_dat (xe_neg xe_int) (yw_dat xe_int yw_nil)))) (xe_one (xe_ok C_is_whole hG (hr.mono (by decide)) tk rfl (yw_dat (xe_ix (xe_var 0) xe_int) (yw_dat (xe_neg xe_int) (yw_dat xe_int yw_nil))))))))))
theorem ok_cd_row_fault (T : Tx K mg) (C_cd_is_move : Ok P w K mg base 2 "cd_is_move" ["move"] (SF w_cd_is_move)) (C_is_whole : Ok P w K mg base 1 "is_whole" ["value", "least", "most"] (SF w_is_whole)) : Ok P w K mg base 3 "cd_row_fault" ["part", "row", "least", "most"] (SF w_cd_row_fault) := by
  rw [wd_cd_row_fault]
  apply Ok.ofX
  obtain ⟨fd, F⟩ := T.d_cd_row_fault
  have S := sc_cd_row_fault
  refine ⟨fd, fnV F S fun cdv A outer s H E hcv hg hr => ?_, F.bindsN fun _ _ _ _ _ _ us hl => match us, hl with | [_, _, _, _], _ => rfl, F.kp, T.g_cd_row_fault⟩
  · have hG : (cxOf (L2.CX P w) P w K mg base nm_cd_row_fault "cd_row_fault" (defScope s_cd_row_fault) (He.ga K "cd_row_fault") cdv A outer s H E).A.guards = some [] := hg
    have hu := hr.units
    have hu5 := units5 hr
    have tk := takes_of (X := cxOf (L2.CX P w) P w K mg base nm_cd_row_fault "cd_row_fault" (defScope s_cd_row_fault) (He.ga K "cd_row_fault") cdv A outer s H E) (E := E) rfl rfl rfl rfl
    have hp := passes_of (X := cxOf (L2.CX P w) P w K mg base nm_cd_row_fault "cd_row_fault" (defScope s_cd_row_fault) (He.ga K "cd_row_fault") cdv A outer s H E) (K := fun e s2 => L2.CX P w outer H s E e s2) rfl
    exact (xs_cons (xs_if (xt_w (xw_or (xt_not (xt_val (xe_isi rfl T.b_isinstance rfl T.b_tuple (by decide +kernel) T.k_tuple (xe_var 1)))) (xw_or1 (xt_not (xt_chain p_le p_le (xe_var 2) (xe_callB pc_len rfl T.b_len (by decide +kernel) (xa_cons (xe_var 1) xa_nil)) (xe_var 3)))))) (xs_one (xs_ret (xe_tup (xa_cons (xe_var 0) (xa_cons xe_non xa_nil))))) xs_nil)
      (xs_cons (xs_for hp rfl (zi_enumT rfl T.b_enumerate (xa_cons (xe_var 1) xa_nil)) (yg_tup rfl (ygs_cons (yg_name (i := 4) S.nd rfl (by first | exact Or.inl rfl | exact Or.inr rfl)) (ygs_cons (yg_name (i := 5) S.nd rfl (by first | exact Or.inl rfl | exact Or.inr rfl)) ygs_nil))) (xs_one (xs_if (xt_not (xt_if (xt_cmp (p_eq hu) (xe_var 0) xe_str) (xt_val (xe_ok C_is_whole hG (hr.mono (by decide)) tk rfl (yw_dat (xe_var 5) (yw_dat xe_int (yw_dat xe_int yw_nil))))) (xt_val (xe_ok C_cd_is_move hG (hr.mono (by decide)) tk rfl (yw_dat (xe_var 5) yw_nil))))) (xs_one (xs_ret (xe_tup (xa_cons (xe_var 0) (xa_cons (xe_var 4) xa_nil))))) xs_nil)))
      (xs_one (xs_ret xe_non))))
theorem ok_coder_fault (T : Tx K mg) (C_cd_row_fault : Ok P w K mg base 3 "cd_row_fault" ["part", "row", "least", "most"] (SF w_cd_row_fault)) (C_is_whole : Ok P w K mg base 1 "is_whole" ["value", "least", "most"] (SF w_is_whole)) : Ok P w K mg base 4 "coder_fault" ["thing"] (SF w_coder_fault) := by
  rw [wd_coder_fault]
  apply Ok.ofX
  obtain ⟨fd, F⟩ := T.d_coder_fault
  have S := sc_coder_fault
  refine ⟨fd, fnV F S fun cdv A outer s H E hcv hg hr => ?_, F.bindsN fun _ _ _ _ _ _ us hl => match us, hl with | [_], _ => rfl, F.kp, T.g_coder_fault⟩
  · have hG : (cxOf (L2.CX P w) P w K mg base nm_coder_fault "coder_fault" (defScope s_coder_fault) (He.ga K "coder_fault") cdv A outer s H E).A.guards = some [] := hg
    have hu := hr.units
    have hu5 := units5 hr
    have tk := takes_of (X := cxOf (L2.CX P w) P w K mg base nm_coder_fault "coder_fault" (defScope s_coder_fault) (He.ga K "coder_fault") cdv A outer s H E) (E := E) rfl rfl rfl rfl
    have hp := passes_of (X := cxOf (L2.CX P w) P w K mg base nm_coder_fault "coder_fault" (defScope s_coder_fault) (He.ga K "coder_fault") cdv A outer s H E) (K := fun e s2 => L2.CX P w outer H s E e s2) rfl
    exact (xs_cons (xs_if (xt_w (xw_or (xt_not (xt_val (xe_isi rfl T.b_isinstance rfl T.b_tuple (by decide +kernel) T.k_tuple (xe_var 0)))) (xw_or1 (xt_cmp (p_ne hu) (xe_callB pc_len rfl T.b_len (by decide +kernel) (xa_cons (xe_var 0) xa_nil)) xe_int)))) (xs_one (xs_ret (xe_tup (xa_cons xe_str (xa_cons xe_non xa_nil))))) xs_nil)
      (xs_cons (xs_asg (xe_var 0) (yg_tup rfl (ygs_cons (yg_name (i := 1) S.nd rfl (by first | exact Or.inl rfl | exact Or.inr rfl)) (ygs_cons (yg_name (i := 2) S.nd rfl (by first | exact Or.inl rfl | exact Or.inr rfl)) (ygs_cons (yg_name (i := 3) S.nd rfl (by first | exact Or.inl rfl | exact Or.inr rfl)) (ygs_cons (yg_name (i := 4) S.nd rfl (by first | exact Or.inl rfl | exact Or.inr rfl)) (ygs_cons (yg_name (i := 5) S.nd rfl (by first | exact Or.inl rfl | exact Or.inr rfl)) ygs_nil)))))))
      (xs_cons (xs_if (xt_not (xt_val (xe_ok C_is_whole hG (hr.mono (by decide)) tk rfl (yw_dat (xe_var 1) (yw_dat (xe_neg xe_int) (yw_dat xe_int yw_nil)))))) (xs_one (xs_ret (xe_tup (xa_cons xe_str (xa_cons xe_non xa_nil))))) xs_nil)
      (xs_cons (xs_if (xt_not (xt_val (xe_ok C_is_whole hG (hr.mono (by decide)) tk rfl (yw_dat (xe_var 2) (yw_dat xe_int (yw_dat xe_int yw_nil)))))) (xs_one (xs_ret (xe_tup (xa_cons xe_str (xa_cons xe_non xa_nil))))) xs_nil)
      (xs_cons (xs_set (i := 6) S.nd rfl (by first | exact Or.inl rfl | exact Or.inr rfl) (xe_ok C_cd_row_fault hG (hr.mono (by decide)) tk rfl (yw_dat xe_str (yw_dat (xe_var 3) (yw_dat xe_int (yw_dat (xe_gint rfl T.c_MOST_STEPS) yw_nil))))))
      (xs_cons (xs_if (xt_cmp p_is (xe_var 6) xe_non) (xs_one (xs_set (i := 6) S.nd rfl (by first | exact Or.inl rfl | exact Or.inr rfl) (xe_ok C_cd_row_fault hG (hr.mono (by decide)) tk rfl (yw_dat xe_str (yw_dat (xe_var 4) (yw_dat xe_int (yw_dat (xe_gint rfl T.c_MOST_MOVES) yw_nil))))))) xs_nil)
      (xs_cons (xs_if (xt_w (xw_and (xt_cmp p_is (xe_var 6) xe_non) (xw_and (xt_not (xt_val (xe_ok C_is_whole hG (hr.mono (by decide)) tk rfl (yw_dat (xe_var 5) (yw_dat xe_int (yw_dat xe_int yw_nil)))))) (xw_and1 (xt_not (xt_val (xe_ok C_is_whole hG (hr.mono (by decide)) tk rfl (yw_dat (xe_var 5) (yw_dat xe_int (yw_dat xe_int yw_nil)))))))))) (xs_one (xs_set (i := 6) S.nd rfl (by first | exact Or.inl rfl | exact Or.inr rfl) (xe_tup (xa_cons xe_str (xa_cons xe_non xa_nil))))) xs_nil)
      (xs_one (xs_ret (xe_var 6))))))))))
theorem ok_need_coder (T : Tx K mg) (C_coder_fault : Ok P w K mg base 4 "coder_fault" ["thing"] (SF w_coder_fault)) (Z_BadCoder : RzC P w K mg base "BadCoder" ["part", "number"]) : Ok P w K mg base 5 "need_coder" ["thing"] (SF w_need_coder) := by
  rw [wd_need_coder]
  apply Ok.ofX
  obtain ⟨fd, F⟩ := T.d_need_coder
  have S := sc_need_coder
  refine ⟨fd, fnV F S fun cdv A outer s H E hcv hg hr => ?_, F.bindsN fun _ _ _ _ _ _ us hl => match us, hl with | [_], _ => rfl, F.kp, T.g_need_coder⟩
  · have hG : (cxOf (L2.CX P w) P w K mg base nm_need_coder "need_coder" (defScope s_need_coder) (He.ga K "need_coder") cdv A outer s H E).A.guards = some [] := hg
    have hu := hr.units
    have hu5 := units5 hr
    have tk := takes_of (X := cxOf (L2.CX P w) P w K mg base nm_need_coder "need_coder" (defScope s_need_coder) (He.ga K "need_coder") cdv A outer s H E) (E := E) rfl rfl rfl rfl
    have hp := passes_of (X := cxOf (L2.CX P w) P w K mg base nm_need_coder "need_coder" (defScope s_need_coder) (He.ga K "need_coder") cdv A outer s H E) (K := fun e s2 => L2.CX P w outer H s E e s2) rfl
    exact (xs_cons (xs_set (i := 1) S.nd rfl (by first | exact Or.inl rfl | exact Or.inr rfl) (xe_ok C_coder_fault hG (hr.mono (by decide)) tk rfl (yw_dat (xe_var 0) yw_nil)))
      (xs_cons (xs_if (xt_cmp p_isnot (xe_var 1) xe_non) (xs_one (xs_raise rfl tk Z_BadCoder (hr.mono (by decide)) passes0 rfl (xa_cons (xe_ix (xe_var 1) xe_int) (xa_cons (xe_ix (xe_var 1) xe_int) xa_nil)))) xs_nil)
      (xs_one (xs_ret (xe_var 0)))))
theorem ok_is_state (T : Tx K mg) (C_is_whole : Ok P w K mg base 1 "is_whole" ["value", "least", "most"] (SF w_is_whole)) : Ok P w K mg base 2 "is_state" ["coder", "thing"] (SF w_is_state) := by
  rw [wd_is_state]
  apply Ok.ofX
  obtain ⟨fd, F⟩ := T.d_is_state
  have S := sc_is_state
  refine ⟨fd, fnV F S fun cdv A outer s H E hcv hg hr => ?_, F.bindsN fun _ _ _ _ _ _ us hl => match us, hl with | [_, _], _ => rfl, F.kp, T.g_is_state⟩
  · have hG : (cxOf (L2.CX P w) P w K mg base nm_is_state "is_state" (defScope s_is_state) (He.ga K "is_state") cdv A outer s H E).A.guards = some [] := hg
    have hu := hr.units
    have hu5 := units5 hr
    have tk := takes_of (X := cxOf (L2.CX P w) P w K mg base nm_is_state "is_state" (defScope s_is_state) (He.ga K "is_state") cdv A outer s H E) (E := E) rfl rfl rfl rfl
    have hp := passes_of (X := cxOf (L2.CX P w) P w K mg base nm_is_state "is_state" (defScope s_is_state) (He.ga K "is_state") cdv A outer s H E) (K := fun e s2 => L2.CX P w outer H s E e s2) rfl
    exact (xs_cons (xs_if (xt_w (xw_or (xt_not (xt_val (xe_isi rfl T.b_isinstance rfl T.b_tuple (by decide +kernel) T.k_tuple (xe_var 1)))) (xw_or1 (xt_cmp (p_ne hu) (xe_callB pc_len rfl T.b_len (by decide +kernel) (xa_cons (xe_var 1) xa_nil)) xe_int)))) (xs_one (xs_ret xe_bl)) xs_nil)
      (xs_one (xs_ret (xe_and (xe_ok C_is_whole hG (hr.mono (by decide)) tk rfl (yw_dat (xe_ix (xe_var 1) xe_int) (yw_dat (xe_ix (xe_var 0) xe_int) (yw_dat (xe_ix (xe_var 0) xe_int) yw_nil)))) (xe_one (xe_ok C_is_whole hG (hr.mono (by decide)) tk rfl (yw_dat (xe_ix (xe_var 1) xe_int) (yw_dat xe_int (yw_dat (xe_op p_sub (xe_callB pc_len rfl T.b_len (by decide +kernel) (xa_cons (xe_ix (xe_var 0) xe_int) xa_nil)) xe_int) yw_nil)))))))))
theorem ok_need_state (T : Tx K mg) (C_is_state : Ok P w K mg base 2 "is_state" ["coder", "thing"] (SF w_is_state)) (Z_OutOfPlace : RzC P w K mg base "OutOfPlace" ["text"]) : Ok P w K mg base 3 "need_state" ["coder", "thing"] (SF w_need_state) := by
  rw [wd_need_state]
  apply Ok.ofX
  obtain ⟨fd, F⟩ := T.d_need_state
  have S := sc_need_state
  refine ⟨fd, fnV F S fun cdv A outer s H E hcv hg hr => ?_, F.bindsN fun _ _ _ _ _ _ us hl => match us, hl with | [_, _], _ => rfl, F.kp, T.g_need_state⟩
  · have hG : (cxOf (L2.CX P w) P w K mg base nm_need_state "need_state" (defScope s_need_state) (He.ga K "need_state") cdv A outer s H E).A.guards = some [] := hg
    have hu := hr.units
    have hu5 := units5 hr
    have tk := takes_of (X := cxOf (L2.CX P w) P w K mg base nm_need_state "need_state" (defScope s_need_state) (He.ga K "need_state") cdv A outer s H E) (E := E) rfl rfl rfl rfl
    have hp := passes_of (X := cxOf (L2.CX P w) P w K mg base nm_need_state "need_state" (defScope s_need_state) (He.ga K "need_state") cdv A outer s H E) (K := fun e s2 => L2.CX P w outer H s E e s2) rfl
    exact (xs_one (xs_if (xt_not (xt_val (xe_ok C_is_state hG (hr.mono (by decide)) tk rfl (yw_dat (xe_var 0) (yw_dat (xe_var 1) yw_nil))))) (xs_one (xs_raise rfl tk Z_OutOfPlace (hr.mono (by decide)) passes0 rfl (xa_cons xe_str xa_nil))) xs_nil))
theorem ok_is_code (T : Tx K mg) (C_is_whole : Ok P w K mg base 1 "is_whole" ["value", "least", "most"] (SF w_is_whole)) : Ok P w K mg base 2 "is_code" ["coder", "thing"] (SF w_is_code) := by
  rw [wd_is_code]
  apply Ok.ofX
  obtain ⟨fd, F⟩ := T.d_is_code
  have S := sc_is_code
  refine ⟨fd, fnV F S fun cdv A outer s H E hcv hg hr => ?_, F.bindsN fun _ _ _ _ _ _ us hl => match us, hl with | [_, _], _ => rfl, F.kp, T.g_is_code⟩
  · have hG : (cxOf (L2.CX P w) P w K mg base nm_is_code "is_code" (defScope s_is_code) (He.ga K "is_code") cdv A outer s H E).A.guards = some [] := hg
    have hu := hr.units
    have hu5 := units5 hr
    have tk := takes_of (X := cxOf (L2.CX P w) P w K mg base nm_is_code "is_code" (defScope s_is_code) (He.ga K "is_code") cdv A outer s H E) (E := E) rfl rfl rfl rfl
    have hp := passes_of (X := cxOf (L2.CX P w) P w K mg base nm_is_code "is_code" (defScope s_is_code) (He.ga K "is_code") cdv A outer s H E) (K := fun e s2 => L2.CX P w outer H s E e s2) rfl
    exact (xs_one (xs_ret (xe_ok C_is_whole hG (hr.mono (by decide)) tk rfl (yw_dat (xe_var 1) (yw_dat xe_int (yw_dat (xe_op p_sub (xe_callB pc_len rfl T.b_len (by decide +kernel) (xa_cons (xe_ix (xe_var 0) xe_int) xa_nil)) xe_int) yw_nil))))))
theorem ok_need_code (T : Tx K mg) (C_is_code : Ok P w K mg base 2 "is_code" ["coder", "thing"] (SF w_is_code)) (Z_OutOfPlace : RzC P w K mg base "OutOfPlace" ["text"]) : Ok P w K mg base 3 "need_code" ["coder", "thing"] (SF w_need_code) := by
  rw [wd_need_code]
  apply Ok.ofX
  obtain ⟨fd, F⟩ := T.d_need_code
  have S := sc_need_code
  refine ⟨fd, fnV F S fun cdv A outer s H E hcv hg hr => ?_, F.bindsN fun _ _ _ _ _ _ us hl => match us, hl with | [_, _], _ => rfl, F.kp, T.g_need_code⟩
  · have hG : (cxOf (L2.CX P w) P w K mg base nm_need_code "need_code" (defScope s_need_code) (He.ga K "need_code") cdv A outer s H E).A.guards = some [] := hg
    have hu := hr.units
    have hu5 := units5 hr
    have tk := takes_of (X := cxOf (L2.CX P w) P w K mg base nm_need_code "need_code" (defScope s_need_code) (He.ga K "need_code") cdv A outer s H E) (E := E) rfl rfl rfl rfl
    have hp := passes_of (X := cxOf (L2.CX P w) P w K mg base nm_need_code "need_code" (defScope s_need_code) (He.ga K "need_code") cdv A outer s H E) (K := fun e s2 => L2.CX P w outer H s E e s2) rfl
    exact (xs_one (xs_if (xt_not (xt_val (xe_ok C_is_code hG (hr.mono (by decide)) tk rfl (yw_dat (xe_var 0) (yw_dat (xe_var 1) yw_nil))))) (xs_one (xs_raise rfl tk Z_OutOfPlace (hr.mono (by decide)) passes0 rfl (xa_cons xe_str xa_nil))) xs_nil))
theorem ok_divided (T : Tx K mg) : Ok P w K mg base 1 "divided" ["number", "by"] (SF w_divided) := by
  rw [wd_divided]
  apply Ok.ofX
  obtain ⟨fd, F⟩ := T.d_divided
  have S := sc_divided
  refine ⟨fd, fnV F S fun cdv A outer s H E hcv hg hr => ?_, F.bindsN fun _ _ _ _ _ _ us hl => match us, hl with | [_, _], _ => rfl, F.kp, T.g_divided⟩
  · have hG : (cxOf (L2.CX P w) P w K mg base nm_divided "divided" (defScope s_divided) (He.ga K "divided") cdv A outer s H E).A.guards = some [] := hg
    have hu := hr.units
    have hu5 := units5 hr
    have tk := takes_of (X := cxOf (L2.CX P w) P w K mg base nm_divided "divided" (defScope s_divided) (He.ga K "divided") cdv A outer s H E) (E := E) rfl rfl rfl rfl
    have hp := passes_of (X := cxOf (L2.CX P w) P w K mg base nm_divided "divided" (defScope s_divided) (He.ga K "divided") cdv A outer s H E) (K := fun e s2 => L2.CX P w outer H s E e s2) rfl
    exact (xs_one (xs_ret (xe_if (xt_cmp p_ge (xe_var 0) xe_int) (xe_op p_div (xe_var 0) (xe_var 1)) (xe_neg (xe_op p_div (xe_neg (xe_var 0)) (xe_var 1))))))
theorem ok_moved_by (T : Tx K mg) (C_divided : Ok P w K mg base 1 "divided" ["number", "by"] (SF w_divided)) : Ok P w K mg base 2 "moved_by" ["coder", "code", "place"] (SF w_moved_by) := by
  rw [wd_moved_by]
  apply Ok.ofX
  obtain ⟨fd, F⟩ := T.d_moved_by
  have S := sc_moved_by
  refine ⟨fd, fnV F S fun cdv A outer s H E hcv hg hr => ?_, F.bindsN fun _ _ _ _ _ _ us hl => match us, hl with | [_, _, _], _ => rfl, F.kp, T.g_moved_by⟩
  · have hG : (cxOf (L2.CX P w) P w K mg base nm_moved_by "moved_by" (defScope s_moved_by) (He.ga K "moved_by") cdv A outer s H E).A.guards = some [] := hg
    have hu := hr.units
    have hu5 := units5 hr
    have tk := takes_of (X := cxOf (L2.CX P w) P w K mg base nm_moved_by "moved_by" (defScope s_moved_by) (He.ga K "moved_by") cdv A outer s H E) (E := E) rfl rfl rfl rfl
    have hp := passes_of (X := cxOf (L2.CX P w) P w K mg base nm_moved_by "moved_by" (defScope s_moved_by) (He.ga K "moved_by") cdv A outer s H E) (K := fun e s2 => L2.CX P w outer H s E e s2) rfl
    exact (xs_one (xs_ret (xe_ok C_divided hG (hr.mono (by decide)) tk rfl (yw_dat (xe_op p_mul (xe_ix (xe_ix (xe_ix (xe_var 0) xe_int) (xe_var 1)) xe_int) (xe_ix (xe_ix (xe_var 0) xe_int) (xe_var 2))) (yw_dat xe_int yw_nil)))))
theorem ok_next_state (T : Tx K mg) (C_divided : Ok P w K mg base 1 "divided" ["number", "by"] (SF w_divided)) (C_moved_by : Ok P w K mg base 2 "moved_by" ["coder", "code", "place"] (SF w_moved_by)) : Ok P w K mg base 3 "next_state" ["coder", "state", "code"] (SF w_next_state) := by
  rw [wd_next_state]
  apply Ok.ofX
  obtain ⟨fd, F⟩ := T.d_next_state
  have S := sc_next_state
  refine ⟨fd, fnV F S fun cdv A outer s H E hcv hg hr => ?_, F.bindsN fun _ _ _ _ _ _ us hl => match us, hl with | [_, _, _], _ => rfl, F.kp, T.g_next_state⟩
  · have hG : (cxOf (L2.CX P w) P w K mg base nm_next_state "next_state" (defScope s_next_state) (He.ga K "next_state") cdv A outer s H E).A.guards = some [] := hg
    have hu := hr.units
    have hu5 := units5 hr
    have tk := takes_of (X := cxOf (L2.CX P w) P w K mg base nm_next_state "next_state" (defScope s_next_state) (He.ga K "next_state") cdv A outer s H E) (E := E) rfl rfl rfl rfl
    have hp := passes_of (X := cxOf (L2.CX P w) P w K mg base nm_next_state "next_state" (defScope s_next_state) (He.ga K "next_state") cdv A outer s H E) (K := fun e s2 => L2.CX P w outer H s E e s2) rfl
    exact (xs_cons (xs_asg (xe_var 0) (yg_tup rfl (ygs_cons (yg_name (i := 3) S.nd rfl (by first | exact Or.inl rfl | exact Or.inr rfl)) (ygs_cons (yg_name (i := 4) S.nd rfl (by first | exact Or.inl rfl | exact Or.inr rfl)) (ygs_cons (yg_name (i := 5) S.nd rfl (by first | exact Or.inl rfl | exact Or.inr rfl)) (ygs_cons (yg_name (i := 6) S.nd rfl (by first | exact Or.inl rfl | exact Or.inr rfl)) (ygs_cons (yg_name (i := 7) S.nd rfl (by first | exact Or.inl rfl | exact Or.inr rfl)) ygs_nil)))))))
      (xs_cons (xs_asg (xe_var 1) (yg_tup rfl (ygs_cons (yg_name (i := 8) S.nd rfl (by first | exact Or.inl rfl | exact Or.inr rfl)) (ygs_cons (yg_name (i := 9) S.nd rfl (by first | exact Or.inl rfl | exact Or.inr rfl)) ygs_nil))))
      (xs_cons (xs_set (i := 10) S.nd rfl (by first | exact Or.inl rfl | exact Or.inr rfl) (xe_if (xt_cmp (p_eq hu) (xe_var 7) xe_int) (xe_var 8) (xe_op p_sub (xe_var 8) (xe_ok C_divided hG (hr.mono (by decide)) tk rfl (yw_dat (xe_var 8) (yw_dat (xe_var 7) yw_nil))))))
      (xs_cons (xs_set (i := 11) S.nd rfl (by first | exact Or.inl rfl | exact Or.inr rfl) (xe_op p_add (xe_var 9) (xe_ix (xe_ix (xe_var 6) (xe_var 2)) xe_int)))
      (xs_one (xs_ret (xe_tup (xa_cons (xe_callB (pc_min2 rfl) rfl T.b_min (by decide +kernel) (xa_cons (xe_var 4) (xa_cons (xe_callB (pc_max2 rfl) rfl T.b_max (by decide +kernel) (xa_cons (xe_var 3) (xa_cons (xe_op p_add (xe_var 10) (xe_ok C_moved_by hG (hr.mono (by decide)) tk rfl (yw_dat (xe_var 0) (yw_dat (xe_var 2) (yw_dat (xe_var 9) yw_nil))))) xa_nil))) xa_nil))) (xa_cons (xe_callB (pc_min2 rfl) rfl T.b_min (by decide +kernel) (xa_cons (xe_op p_sub (xe_callB pc_len rfl T.b_len (by decide +kernel) (xa_cons (xe_var 5) xa_nil)) xe_int) (xa_cons (xe_callB (pc_max2 rfl) rfl T.b_max (by decide +kernel) (xa_cons xe_int (xa_cons (xe_var 11) xa_nil))) xa_nil))) xa_nil)))))))))
theorem ok__law_coder (T : Tx K mg) (C__law_next : Ok P w K mg base 1 "_law_next" ["m", "many"] (SF w__law_next)) : Ok P w K mg base 2 "_law_coder" ["m", "wide", "places", "codes"] (SF w__law_coder) := by
  rw [wd__law_coder]
  apply Ok.ofX
  obtain ⟨fd, F⟩ := T.d__law_coder
  have S := sc__law_coder
  refine ⟨fd, fnV F S fun cdv A outer s H E hcv hg hr => ?_, F.bindsN fun _ _ _ _ _ _ us hl => match us, hl with | [_, _, _, _], _ => rfl, F.kp, T.g__law_coder⟩
  · have hG : (cxOf (L2.CX P w) P w K mg base nm__law_coder "_law_coder" (defScope s__law_coder) (He.ga K "_law_coder") cdv A outer s H E).A.guards = some [] := hg
    have hu := hr.units
    have hu5 := units5 hr
    have tk := takes_of (X := cxOf (L2.CX P w) P w K mg base nm__law_coder "_law_coder" (defScope s__law_coder) (He.ga K "_law_coder") cdv A outer s H E) (E := E) rfl rfl rfl rfl
    have hp := passes_of (X := cxOf (L2.CX P w) P w K mg base nm__law_coder "_law_coder" (defScope s__law_coder) (He.ga K "_law_coder") cdv A outer s H E) (K := fun e s2 => L2.CX P w outer H s E e s2) rfl
    exact (xs_cons (xs_par (i := 4) (j := 5) rfl S.nd rfl rfl (by decide) rfl rfl (xa_cons (xe_op p_sub xe_int (xe_ok C__law_next hG (hr.mono (by decide)) tk rfl (yw_var 0 (yw_dat (xe_op p_add (xe_var 1) xe_int) yw_nil)))) (xa_cons (xe_ok C__law_next hG (hr.mono (by decide)) tk rfl (yw_var 0 (yw_dat (xe_op p_add (xe_var 1) xe_int) yw_nil))) xa_nil)) rfl)
      (xs_cons (xs_setLc (i := 6) (own := [("k", 7)]) rfl S.nd rfl rfl (sw_true rfl rfl rfl (by decide +kernel)) (zi_range1 rfl T.b_range (xa_cons (xe_op p_add xe_int (xe_ok C__law_next hG (hr.mono (by decide)) tk rfl (yw_var 0 (yw_dat (xe_var 2) yw_nil)))) xa_nil)) (blkOk_by (own := [("k", 7)]) (N := nm__law_coder) (sc := defScope s__law_coder) (by decide +kernel)) (fun _ _ _ _ _ => pg_name (i := 7) S.nd rfl (by first | exact Or.inl rfl | exact Or.inr rfl)) (ypair_name 7) (fun _ _ _ _ _ => xpts_nil) (fun _ _ _ _ _ => (xe_op p_add xe_int (xe_ok C__law_next hG (hr.mono (by decide)) takes0 rfl (yw_var 0 (yw_dat (xe_op p_add (xe_op p_mul xe_int (xe_var 1)) xe_int) yw_nil))))))
      (xs_cons (xs_setO (i := 8) S.nd rfl (by first | exact Or.inl rfl | exact Or.inr rfl) (xo_lst xa_nil))
      (xs_cons (xs_for hp rfl (zi_range1 rfl T.b_range (xa_cons (xe_op p_add xe_int (xe_ok C__law_next hG (hr.mono (by decide)) tk rfl (yw_var 0 (yw_dat (xe_op p_sub (xe_var 3) xe_int) yw_nil)))) xa_nil)) (yg_name (i := 7) S.nd rfl (by first | exact Or.inl rfl | exact Or.inr rfl)) (xs_one (xs_append (pe_bm PySem.F.plainAttrs_list PySem.F.slot_list_append PySem.F.type_list_append mt_append (pv 8) (pa_cons (xe_tup (xa_cons (xe_op p_sub (xe_ok C__law_next hG (hr.mono (by decide)) tk rfl (yw_var 0 (yw_dat xe_int yw_nil))) xe_int) (xa_cons (xe_op p_sub (xe_ok C__law_next hG (hr.mono (by decide)) tk rfl (yw_var 0 (yw_dat xe_int yw_nil))) xe_int) xa_nil))) pa_nil)))))
      (xs_cons (xs_set (i := 9) S.nd rfl (by first | exact Or.inl rfl | exact Or.inr rfl) (xe_ix (xe_fz (xo_lst (xa_cons xe_int (xa_cons xe_int (xa_cons xe_int (xa_cons (xe_op p_add xe_int (xe_ok C__law_next hG (hr.mono (by decide)) tk rfl (yw_var 0 (yw_dat xe_int yw_nil)))) xa_nil)))))) (xe_ok C__law_next hG (hr.mono (by decide)) tk rfl (yw_var 0 (yw_dat xe_int yw_nil)))))
      (xs_one (xs_frz 8 (xs_ret (xe_tup (xa_cons (xe_var 4) (xa_cons (xe_var 5) (xa_cons (xe_callTy pc_tuple rfl T.b_tuple (by decide +kernel) (xa_cons (xe_var 6) xa_nil)) (xa_cons (xe_callTy pc_tuple rfl T.b_tuple (by decide +kernel) (xa_cons (xe_var 8) xa_nil)) (xa_cons (xe_var 9) xa_nil))))))))))))))
theorem ok__law_parted (T : Tx K mg) : Ok P w K mg base 1 "_law_parted" ["number", "by"] (SF w__law_parted) := by
  rw [wd__law_parted]
  apply Ok.ofX
  obtain ⟨fd, F⟩ := T.d__law_parted
  have S := sc__law_parted
  refine ⟨fd, fnV F S fun cdv A outer s H E hcv hg hr => ?_, F.bindsN fun _ _ _ _ _ _ us hl => match us, hl with | [_, _], _ => rfl, F.kp, T.g__law_parted⟩
  · have hG : (cxOf (L2.CX P w) P w K mg base nm__law_parted "_law_parted" (defScope s__law_parted) (He.ga K "_law_parted") cdv A outer s H E).A.guards = some [] := hg
    have hu := hr.units
    have hu5 := units5 hr
    have tk := takes_of (X := cxOf (L2.CX P w) P w K mg base nm__law_parted "_law_parted" (defScope s__law_parted) (He.ga K "_law_parted") cdv A outer s H E) (E := E) rfl rfl rfl rfl
    have hp := passes_of (X := cxOf (L2.CX P w) P w K mg base nm__law_parted "_law_parted" (defScope s__law_parted) (He.ga K "_law_parted") cdv A outer s H E) (K := fun e s2 => L2.CX P w outer H s E e s2) rfl
    exact (xs_one (xs_ret (xe_if (xt_cmp p_ge (xe_var 0) xe_int) (xe_op p_div (xe_var 0) (xe_var 1)) (xe_op p_sub xe_int (xe_op p_div (xe_op p_sub xe_int (xe_var 0)) (xe_var 1))))))
theorem ok__law_limited (T : Tx K mg) : Ok P w K mg base 1 "_law_limited" ["number", "least", "most"] (SF w__law_limited) := by
  rw [wd__law_limited]
  apply Ok.ofX
  obtain ⟨fd, F⟩ := T.d__law_limited
  have S := sc__law_limited
  refine ⟨fd, fnV F S fun cdv A outer s H E hcv hg hr => ?_, F.bindsN fun _ _ _ _ _ _ us hl => match us, hl with | [_, _, _], _ => rfl, F.kp, T.g__law_limited⟩
  · have hG : (cxOf (L2.CX P w) P w K mg base nm__law_limited "_law_limited" (defScope s__law_limited) (He.ga K "_law_limited") cdv A outer s H E).A.guards = some [] := hg
    have hu := hr.units
    have hu5 := units5 hr
    have tk := takes_of (X := cxOf (L2.CX P w) P w K mg base nm__law_limited "_law_limited" (defScope s__law_limited) (He.ga K "_law_limited") cdv A outer s H E) (E := E) rfl rfl rfl rfl
    have hp := passes_of (X := cxOf (L2.CX P w) P w K mg base nm__law_limited "_law_limited" (defScope s__law_limited) (He.ga K "_law_limited") cdv A outer s H E) (K := fun e s2 => L2.CX P w outer H s E e s2) rfl
    exact (xs_one (xs_ret (xe_if (xt_cmp (p_ltA hu5) (xe_var 0) (xe_var 1)) (xe_var 1) (xe_if (xt_cmp p_gt (xe_var 0) (xe_var 2)) (xe_var 2) (xe_var 0)))))
theorem ok__law_led (T : Tx K mg) (C__law_limited : Ok P w K mg base 1 "_law_limited" ["number", "least", "most"] (SF w__law_limited)) (C__law_parted : Ok P w K mg base 1 "_law_parted" ["number", "by"] (SF w__law_parted)) : Ok P w K mg base 2 "_law_led" ["coder", "here", "code"] (SF w__law_led) := by
  rw [wd__law_led]
  apply Ok.ofX
  obtain ⟨fd, F⟩ := T.d__law_led
  have S := sc__law_led
  refine ⟨fd, fnV F S fun cdv A outer s H E hcv hg hr => ?_, F.bindsN fun _ _ _ _ _ _ us hl => match us, hl with | [_, _, _], _ => rfl, F.kp, T.g__law_led⟩
  · have hG : (cxOf (L2.CX P w) P w K mg base nm__law_led "_law_led" (defScope s__law_led) (He.ga K "_law_led") cdv A outer s H E).A.guards = some [] := hg
    have hu := hr.units
    have hu5 := units5 hr
    have tk := takes_of (X := cxOf (L2.CX P w) P w K mg base nm__law_led "_law_led" (defScope s__law_led) (He.ga K "_law_led") cdv A outer s H E) (E := E) rfl rfl rfl rfl
    have hp := passes_of (X := cxOf (L2.CX P w) P w K mg base nm__law_led "_law_led" (defScope s__law_led) (He.ga K "_law_led") cdv A outer s H E) (K := fun e s2 => L2.CX P w outer H s E e s2) rfl
    exact (xs_cons (xs_asg (xe_ix (xe_ix (xe_var 0) xe_int) (xe_var 2)) (yg_tup rfl (ygs_cons (yg_name (i := 3) S.nd rfl (by first | exact Or.inl rfl | exact Or.inr rfl)) (ygs_cons (yg_name (i := 4) S.nd rfl (by first | exact Or.inl rfl | exact Or.inr rfl)) ygs_nil))))
      (xs_cons (xs_set (i := 5) S.nd rfl (by first | exact Or.inl rfl | exact Or.inr rfl) (xe_ix (xe_var 1) xe_int))
      (xs_cons (xs_if (xt_cmp (p_ne hu) (xe_ix (xe_var 0) xe_int) xe_int) (xs_one (xs_set (i := 5) S.nd rfl (by first | exact Or.inl rfl | exact Or.inr rfl) (xe_op p_sub (xe_var 5) (xe_ok C__law_parted hG (hr.mono (by decide)) tk rfl (yw_dat (xe_var 5) (yw_dat (xe_ix (xe_var 0) xe_int) yw_nil)))))) xs_nil)
      (xs_cons (xs_set (i := 5) S.nd rfl (by first | exact Or.inl rfl | exact Or.inr rfl) (xe_op p_add (xe_var 5) (xe_ok C__law_parted hG (hr.mono (by decide)) tk rfl (yw_dat (xe_op p_mul (xe_var 3) (xe_ix (xe_ix (xe_var 0) xe_int) (xe_ix (xe_var 1) xe_int))) (yw_dat xe_int yw_nil)))))
      (xs_one (xs_ret (xe_tup (xa_cons (xe_ok C__law_limited hG (hr.mono (by decide)) tk rfl (yw_dat (xe_var 5) (yw_dat (xe_ix (xe_var 0) xe_int) (yw_dat (xe_ix (xe_var 0) xe_int) yw_nil)))) (xa_cons (xe_ok C__law_limited hG (hr.mono (by decide)) tk rfl (yw_dat (xe_op p_add (xe_ix (xe_var 1) xe_int) (xe_var 4)) (yw_dat xe_int (yw_dat (xe_op p_sub (xe_callB pc_len rfl T.b_len (by decide +kernel) (xa_cons (xe_ix (xe_var 0) xe_int) xa_nil)) xe_int) yw_nil)))) xa_nil)))))))))
theorem ok__law_some_state (T : Tx K mg) (C__law_next : Ok P w K mg base 1 "_law_next" ["m", "many"] (SF w__law_next)) : Ok P w K mg base 2 "_law_some_state" ["m", "coder"] (SF w__law_some_state) := by
  rw [wd__law_some_state]
  apply Ok.ofX
  obtain ⟨fd, F⟩ := T.d__law_some_state
  have S := sc__law_some_state
  refine ⟨fd, fnV F S fun cdv A outer s H E hcv hg hr => ?_, F.bindsN fun _ _ _ _ _ _ us hl => match us, hl with | [_, _], _ => rfl, F.kp, T.g__law_some_state⟩
  · have hG : (cxOf (L2.CX P w) P w K mg base nm__law_some_state "_law_some_state" (defScope s__law_some_state) (He.ga K "_law_some_state") cdv A outer s H E).A.guards = some [] := hg
    have hu := hr.units
    have hu5 := units5 hr
    have tk := takes_of (X := cxOf (L2.CX P w) P w K mg base nm__law_some_state "_law_some_state" (defScope s__law_some_state) (He.ga K "_law_some_state") cdv A outer s H E) (E := E) rfl rfl rfl rfl
    have hp := passes_of (X := cxOf (L2.CX P w) P w K mg base nm__law_some_state "_law_some_state" (defScope s__law_some_state) (He.ga K "_law_some_state") cdv A outer s H E) (K := fun e s2 => L2.CX P w outer H s E e s2) rfl
    exact (xs_one (xs_ret (xe_tup (xa_cons (xe_op p_add (xe_ix (xe_var 1) xe_int) (xe_ok C__law_next hG (hr.mono (by decide)) tk rfl (yw_var 0 (yw_dat (xe_op p_add (xe_op p_sub (xe_ix (xe_var 1) xe_int) (xe_ix (xe_var 1) xe_int)) xe_int) yw_nil)))) (xa_cons (xe_ok C__law_next hG (hr.mono (by decide)) tk rfl (yw_var 0 (yw_dat (xe_callB pc_len rfl T.b_len (by decide +kernel) (xa_cons (xe_ix (xe_var 1) xe_int) xa_nil)) yw_nil))) xa_nil)))))
theorem ok__law_stands (T : Tx K mg) : Ok P w K mg base 3 "_law_stands" ["hearer", "here", "many"] (SF w__law_stands) := by
  rw [wd__law_stands]
  apply Ok.ofX
  obtain ⟨fd, F⟩ := T.d__law_stands
  have S := sc__law_stands
  refine ⟨fd, fnV F S fun cdv A outer s H E hcv hg hr => ?_, F.bindsN fun _ _ _ _ _ _ us hl => match us, hl with | [_, _, _], _ => rfl, F.kp, T.g__law_stands⟩
  · have hG : (cxOf (L2.CX P w) P w K mg base nm__law_stands "_law_stands" (defScope s__law_stands) (He.ga K "_law_stands") cdv A outer s H E).A.guards = some [] := hg
    have hu := hr.units
    have hu5 := units5 hr
    have tk := takes_of (X := cxOf (L2.CX P w) P w K mg base nm__law_stands "_law_stands" (defScope s__law_stands) (He.ga K "_law_stands") cdv A outer s H E) (E := E) rfl rfl rfl rfl
    have hp := passes_of (X := cxOf (L2.CX P w) P w K mg base nm__law_stands "_law_stands" (defScope s__law_stands) (He.ga K "_law_stands") cdv A outer s H E) (K := fun e s2 => L2.CX P w outer H s E e s2) rfl
    exact (xs_one (xs_ret (xe_cmp (p_eq hu) (xe_callB (pc_repr hG hu) rfl T.b_repr (by decide +kernel) (xa_cons (xe_fz (xo_lst (xa_cons (xe_get T.K_Hearer T.gt_Hearer_state T.no_Hearer_own_state (hr.mono (by decide)) (xe_var 0) rfl) (xa_cons (xe_get T.K_Hearer T.gt_Hearer_many T.no_Hearer_own_many (hr.mono (by decide)) (xe_var 0) rfl) xa_nil)))) xa_nil)) (xe_callB (pc_repr hG hu) rfl T.b_repr (by decide +kernel) (xa_cons (xe_fz (xo_lst (xa_cons (xe_var 1) (xa_cons (xe_var 2) xa_nil)))) xa_nil)))))
theorem ok_Hearer_jump (T : Tx K mg) (C_need_state : Ok P w K mg base 3 "need_state" ["coder", "thing"] (SF w_need_state)) : OkM P w K mg base 4 "Hearer" "jump" ["self", "state"] (SF w_Hearer_jump) := by
  rw [wd_Hearer_jump]
  apply OkM.ofX
  obtain ⟨fd, F⟩ := T.d_Hearer_jump
  have S := sc_Hearer_jump
  refine ⟨fd, fnV F S fun cdv A outer s H E hcv hg hr => ?_, F.bindsN fun _ _ _ _ _ _ us hl => match us, hl with | [_, _], _ => rfl⟩
  have hG : (cxOf (L2.CX P w) P w K mg base nm_Hearer_jump "Hearer.jump" (defScope s_Hearer_jump) (He.fAd K ("Hearer", some "jump")) cdv A outer s H E).A.guards = some [] := hg
  have hu := hr.units
  have hu5 := units5 hr
  have tk := takes_of (X := (cxOf (L2.CX P w) P w K mg base nm_Hearer_jump "Hearer.jump" (defScope s_Hearer_jump) (He.fAd K ("Hearer", some "jump")) cdv A outer s H E)) (E := E) rfl rfl rfl rfl
  have hp := passes_of (X := (cxOf (L2.CX P w) P w K mg base nm_Hearer_jump "Hearer.jump" (defScope s_Hearer_jump) (He.fAd K ("Hearer", some "jump")) cdv A outer s H E)) (K := fun e s2 => L2.CX P w outer H s E e s2) rfl
  exact (xs_cons (xs_expr (xe_ok C_need_state hG (hr.mono (by decide)) tk rfl (yw_dat (xe_fld T.no_Hearer_own_coder (xe_var 0) rfl) (yw_dat (xe_var 1) yw_nil))))
      (xs_one (xs_setF T.no_Hearer_own_state (xe_var 0) (xe_var 1) rfl)))
theorem okf_Hearer___init__ (T : Tx K mg) (C_need_coder : Ok P w K mg base 5 "need_coder" ["thing"] (SF w_need_coder)) (C_need_state : Ok P w K mg base 3 "need_state" ["coder", "thing"] (SF w_need_state)) {fd : FuncData} (F : FunD K "__init__" "Hearer.__init__" (defArgs s_Hearer___init__) (defBody s_Hearer___init__) (defScope s_Hearer___init__) [] [("state", .ref (kwAt ("Hearer", some "__init__") "state" K))] (He.fAd K ("Hearer", some "__init__")) fd) : FnG P w K mg base 6 (He.fAd K ("Hearer", some "__init__")) fd ["self", "coder", "state"] (lift K (bodyV 3 3 (SS t_Hearer___init__))) := by
  have S := sc_Hearer___init__
  refine fnV F S fun cdv A outer s H E hcv hg hr => ?_
  have hG : (cxOf (L2.CX P w) P w K mg base nm_Hearer___init__ "Hearer.__init__" (defScope s_Hearer___init__) (He.fAd K ("Hearer", some "__init__")) cdv A outer s H E).A.guards = some [] := hg
  have hu := hr.units
  have hu5 := units5 hr
  have tk := takes_of (X := (cxOf (L2.CX P w) P w K mg base nm_Hearer___init__ "Hearer.__init__" (defScope s_Hearer___init__) (He.fAd K ("Hearer", some "__init__")) cdv A outer s H E)) (E := E) rfl rfl rfl rfl
  have hp := passes_of (X := (cxOf (L2.CX P w) P w K mg base nm_Hearer___init__ "Hearer.__init__" (defScope s_Hearer___init__) (He.fAd K ("Hearer", some "__init__")) cdv A outer s H E)) (K := fun e s2 => L2.CX P w outer H s E e s2) rfl
  exact (xs_cons (xs_expr (xe_ok C_need_coder hG (hr.mono (by decide)) tk rfl (yw_dat (xe_var 1) yw_nil)))
      (xs_cons (xs_expr (xe_ok C_need_state hG (hr.mono (by decide)) tk rfl (yw_dat (xe_var 1) (yw_dat (xe_var 2) yw_nil))))
      (xs_cons (xs_setF T.no_Hearer_own_coder (xe_var 0) (xe_var 1) rfl)
      (xs_cons (xs_setF T.no_Hearer_own_state (xe_var 0) (xe_var 2) rfl)
      (xs_one (xs_setF T.no_Hearer_own_many (xe_var 0) xe_int rfl))))))
theorem ok_Hearer___init___10 (T : Tx K mg) (C_need_coder : Ok P w K mg base 5 "need_coder" ["thing"] (SF w_need_coder)) (C_need_state : Ok P w K mg base 3 "need_state" ["coder", "thing"] (SF w_need_state)) : OkI P w K mg base 6 "Hearer" ["self", "coder", "state"] 2 [] [start00] (SF w_Hearer___init__) := by
  rw [wd_Hearer___init__]
  obtain ⟨fd, F⟩ := T.d_Hearer___init__
  refine okI_of F (okf_Hearer___init__ (P := P) (w := w) (base := base) T C_need_coder C_need_state F) ?_
  obtain ⟨ds, hv, hb⟩ := F.binds0 (ps := ["self", "coder", "state"]) 2 (by simp) rfl (fun D doc pm an cdv ct us ks h1 h2 => match us, h1, ks, h2 with | [_, _], _, [_], _ => ⟨_, _, _, _, _, _, rfl, rfl, rfl⟩)
  exact BdM.binds (by have := hv.length; simp at this ⊢; omega) hv (fun G => .cons (tup00 T.z_Hearer___init__ G) .nil) hb
theorem ok_Hearer___init___11 (T : Tx K mg) (C_need_coder : Ok P w K mg base 5 "need_coder" ["thing"] (SF w_need_coder)) (C_need_state : Ok P w K mg base 3 "need_state" ["coder", "thing"] (SF w_need_state)) : OkI P w K mg base 6 "Hearer" ["self", "coder", "state"] 2 stN [] (SF w_Hearer___init__) := by
  rw [wd_Hearer___init__]
  obtain ⟨fd, F⟩ := T.d_Hearer___init__
  refine okI_of F (okf_Hearer___init__ (P := P) (w := w) (base := base) T C_need_coder C_need_state F) ?_
  exact BdM.kw F fun kV doc pm an cdv ct us ws h1 h2 => match us, h1, ws, h2 with | [_, _], _, [_], _ => rfl
theorem ok_Hearer_copy (T : Tx K mg) (C_Hearer___init___11 : OkI P w K mg base 6 "Hearer" ["self", "coder", "state"] 2 stN [] (SF w_Hearer___init__)) : OkM P w K mg base 8 "Hearer" "copy" ["self"] (SF w_Hearer_copy) := by
  rw [wd_Hearer_copy]
  apply OkM.ofX
  obtain ⟨fd, F⟩ := T.d_Hearer_copy
  have S := sc_Hearer_copy
  refine ⟨fd, fnV F S fun cdv A outer s H E hcv hg hr => ?_, F.bindsN fun _ _ _ _ _ _ us hl => match us, hl with | [_], _ => rfl⟩
  have hG : (cxOf (L2.CX P w) P w K mg base nm_Hearer_copy "Hearer.copy" (defScope s_Hearer_copy) (He.fAd K ("Hearer", some "copy")) cdv A outer s H E).A.guards = some [] := hg
  have hu := hr.units
  have hu5 := units5 hr
  have tk := takes_of (X := (cxOf (L2.CX P w) P w K mg base nm_Hearer_copy "Hearer.copy" (defScope s_Hearer_copy) (He.fAd K ("Hearer", some "copy")) cdv A outer s H E)) (E := E) rfl rfl rfl rfl
  have hp := passes_of (X := (cxOf (L2.CX P w) P w K mg base nm_Hearer_copy "Hearer.copy" (defScope s_Hearer_copy) (He.fAd K ("Hearer", some "copy")) cdv A outer s H E)) (K := fun e s2 => L2.CX P w outer H s E e s2) rfl
  exact (xs_cons (xs_set (i := 1) S.nd rfl (by first | exact Or.inl rfl | exact Or.inr rfl) (xe_mkS T.K_Hearer C_Hearer___init___11 T.mk_Hearer hG (hr.mono (by decide)) tk rfl T.g_Hearer (yw_dat (xe_fld T.no_Hearer_own_coder (xe_var 0) rfl) yw_nil) (by exact (yl_dat yl_nil)) (xe_fld T.no_Hearer_own_state (xe_var 0) rfl)))
      (xs_cons (xs_setF T.no_Hearer_own_many (xe_var 1) (xe_fld T.no_Hearer_own_many (xe_var 0) rfl) rfl)
      (xs_one (xs_ret (xe_var 1)))))
theorem ok_Hearer___call__ (T : Tx K mg) (C_need_code : Ok P w K mg base 3 "need_code" ["coder", "thing"] (SF w_need_code)) (C_next_state : Ok P w K mg base 3 "next_state" ["coder", "state", "code"] (SF w_next_state)) : OkM P w K mg base 4 "Hearer" "__call__" ["self", "code"] (SF w_Hearer___call__) := by
  rw [wd_Hearer___call__]
  apply OkM.ofX
  obtain ⟨fd, F⟩ := T.d_Hearer___call__
  have S := sc_Hearer___call__
  refine ⟨fd, fnV F S fun cdv A outer s H E hcv hg hr => ?_, F.bindsN fun _ _ _ _ _ _ us hl => match us, hl with | [_, _], _ => rfl⟩
  have hG : (cxOf (L2.CX P w) P w K mg base nm_Hearer___call__ "Hearer.__call__" (defScope s_Hearer___call__) (He.fAd K ("Hearer", some "__call__")) cdv A outer s H E).A.guards = some [] := hg
  have hu := hr.units
  have hu5 := units5 hr
  have tk := takes_of (X := (cxOf (L2.CX P w) P w K mg base nm_Hearer___call__ "Hearer.__call__" (defScope s_Hearer___call__) (He.fAd K ("Hearer", some "__call__")) cdv A outer s H E)) (E := E) rfl rfl rfl rfl
  have hp := passes_of (X := (cxOf (L2.CX P w) P w K mg base nm_Hearer___call__ "Hearer.__call__" (defScope s_Hearer___call__) (He.fAd K ("Hearer", some "__call__")) cdv A outer s H E)) (K := fun e s2 => L2.CX P w outer H s E e s2) rfl
  exact (xs_cons (xs_expr (xe_ok C_need_code hG (hr.mono (by decide)) tk rfl (yw_dat (xe_fld T.no_Hearer_own_coder (xe_var 0) rfl) (yw_dat (xe_var 1) yw_nil))))
      (xs_cons (xs_setF T.no_Hearer_own_state (xe_var 0) (xe_ok C_next_state hG (hr.mono (by decide)) tk rfl (yw_dat (xe_fld T.no_Hearer_own_coder (xe_var 0) rfl) (yw_dat (xe_fld T.no_Hearer_own_state (xe_var 0) rfl) (yw_dat (xe_var 1) yw_nil)))) rfl)
      (xs_cons (xs_augF T.no_Hearer_own_many (xe_var 0) xe_int)
      (xs_one (xs_ret (xe_ix (xe_fld T.no_Hearer_own_state (xe_var 0) rfl) xe_int))))))
theorem ok_law (T : Tx K mg) {fd : FuncData} (F : FunD K "law" "law" (defArgs s_law) (defBody s_law) (defScope s_law) [] [] (He.ga K "law") fd) (C_Hearer___call__ : OkM P w K mg base 4 "Hearer" "__call__" ["self", "code"] (SF w_Hearer___call__)) (C_Hearer_copy : OkM P w K mg base 8 "Hearer" "copy" ["self"] (SF w_Hearer_copy)) (C_Hearer_jump : OkM P w K mg base 4 "Hearer" "jump" ["self", "state"] (SF w_Hearer_jump)) (C__law_coder : Ok P w K mg base 2 "_law_coder" ["m", "wide", "places", "codes"] (SF w__law_coder)) (C__law_led : Ok P w K mg base 2 "_law_led" ["coder", "here", "code"] (SF w__law_led)) (C__law_next : Ok P w K mg base 1 "_law_next" ["m", "many"] (SF w__law_next)) (C__law_some_state : Ok P w K mg base 2 "_law_some_state" ["m", "coder"] (SF w__law_some_state)) (C__law_stands : Ok P w K mg base 3 "_law_stands" ["hearer", "here", "many"] (SF w__law_stands)) (C_Hearer___init___10 : OkI P w K mg base 6 "Hearer" ["self", "coder", "state"] 2 [] [start00] (SF w_Hearer___init__)) (C_Hearer___init___11 : OkI P w K mg base 6 "Hearer" ["self", "coder", "state"] 2 stN [] (SF w_Hearer___init__)) (ht : ∀ ns : List Int, ns.length ≤ 63 → SS t_law lawEnd ((startE 15 [.scr ns]).set 1 (some .tok)) 0) : FnG P w K mg base 10 (He.ga K "law") fd ["script"] (spLaw K) := by
  obtain ⟨fdB, FB, bB, kB, gB⟩ := okBegun (P := P) (w := w) (base := base) T
  have S := sc_law
  refine lawG (k := 9) F S (by decide) (fun cdv A outer s H E hcv hg hr => ?_) (fun cdv A outer s H E hcv hg hr => ?_) ht
  · have hG : (cxOf (L2.CX P w) P w K mg base nm_law "law" (defScope s_law) (He.ga K "law") cdv A outer s H E).A.guards = some [] := hg
    have tk := takes_of (X := cxOf (L2.CX P w) P w K mg base nm_law "law" (defScope s_law) (He.ga K "law") cdv A outer s H E) (E := E) rfl rfl rfl rfl
    exact ps_set (i := 1) S.nd rfl (by first | exact Or.inl rfl | exact Or.inr rfl) (pe_callG FB hG (hr.mono (by decide)) tk rfl gB kB bB .nil (pa_cons (pv 0) pa_nil))
  · have hG : (cxOf (L2.CX P w) P w K mg base nm_law "law" (defScope s_law) (He.ga K "law") cdv A outer s H E).A.guards = some [] := hg
    have hu := hr.units
    have hu5 := units5 hr
    have tk := takes_of (X := cxOf (L2.CX P w) P w K mg base nm_law "law" (defScope s_law) (He.ga K "law") cdv A outer s H E) (E := E) rfl rfl rfl rfl
    have hp := passes_of (X := cxOf (L2.CX P w) P w K mg base nm_law "law" (defScope s_law) (He.ga K "law") cdv A outer s H E) (K := fun e s2 => L2.CX P w outer H s E e s2) rfl
    exact (xs_cons (xs_for hp rfl (zi_range1 rfl T.b_range (xa_cons (xe_op p_add xe_int (xe_callB (pc_min2 rfl) rfl T.b_min (by decide +kernel) (xa_cons (xe_lenS (k := 0) rfl T.b_len (by decide +kernel)) (xa_cons xe_int xa_nil)))) xa_nil)) (yg_name (i := 2) S.nd rfl (by first | exact Or.inl rfl | exact Or.inr rfl)) (xs_cons (xs_set (i := 3) S.nd rfl (by first | exact Or.inl rfl | exact Or.inr rfl) (xe_ok C__law_coder hG (hr.mono (by decide)) tk rfl (yw_var 1 (yw_dat (xe_ix (xe_fz (xo_lst (xa_cons xe_int (xa_cons xe_int (xa_cons xe_int xa_nil))))) (xe_ok C__law_next hG (hr.mono (by decide)) tk rfl (yw_var 1 (yw_dat xe_int yw_nil)))) (yw_dat xe_int (yw_dat xe_int yw_nil))))))
      (xs_cons (xs_par (i := 4) (j := 5) rfl S.nd rfl rfl (by decide) rfl rfl (xa_cons (xe_ok C__law_some_state hG (hr.mono (by decide)) tk rfl (yw_var 1 (yw_dat (xe_var 3) yw_nil))) (xa_cons xe_int xa_nil)) rfl)
      (xs_cons (xs_par3W (i := 6) (j := 7) (l := 8) rfl S.nd rfl rfl rfl (by decide) (by decide) (by decide) rfl rfl rfl (xw_dat (xe_mkS T.K_Hearer C_Hearer___init___11 T.mk_Hearer hG (hr.mono (by decide)) tk rfl T.g_Hearer (yw_dat (xe_var 3) yw_nil) (by exact (yl_dat yl_nil)) (xe_var 4))) (xw_dat (xe_mk T.K_Hearer C_Hearer___init___10 T.mk_Hearer hG (hr.mono (by decide)) tk rfl T.g_Hearer (yw_dat (xe_var 3) yw_nil) (by exact (yl_dat yl_nil)))) (xw_own (xo_lst xa_nil)) rfl)
      (xs_cons (xs_if (xt_w (xw_or (xt_not (xt_val (xe_ok C__law_stands hG (hr.mono (by decide)) tk rfl (yw_dat (xe_var 6) (yw_dat (xe_var 4) (yw_dat xe_int yw_nil)))))) (xw_or1 (xt_not (xt_val (xe_ok C__law_stands hG (hr.mono (by decide)) tk rfl (yw_dat (xe_var 7) (yw_dat (xe_tup (xa_cons xe_int (xa_cons xe_int xa_nil))) (yw_dat xe_int yw_nil))))))))) (xs_one (xs_ret xe_bl)) xs_nil)
      (xs_cons (xs_for hp rfl (zi_range1 rfl T.b_range (xa_cons (xe_ok C__law_next hG (hr.mono (by decide)) tk rfl (yw_var 1 (yw_dat xe_int yw_nil))) xa_nil)) (yg_name (i := 9) S.nd rfl (by first | exact Or.inl rfl | exact Or.inr rfl)) (xs_cons (xs_set (i := 10) S.nd rfl (by first | exact Or.inl rfl | exact Or.inr rfl) (xe_ok C__law_next hG (hr.mono (by decide)) tk rfl (yw_var 1 (yw_dat xe_int yw_nil))))
      (xs_cons (xs_if (xt_cmp (p_eq hu) (xe_var 10) xe_int) (xs_cons (xs_set (i := 4) S.nd rfl (by first | exact Or.inl rfl | exact Or.inr rfl) (xe_ok C__law_some_state hG (hr.mono (by decide)) tk rfl (yw_var 1 (yw_dat (xe_var 3) yw_nil))))
      (xs_one (xs_expr (xe_meth C_Hearer_jump T.M_Hearer_jump hG (hr.mono (by decide)) tk (xe_var 6) (yw_dat (xe_var 4) yw_nil))))) (xs_one (xs_if (xt_cmp (p_eq hu) (xe_var 10) xe_int) (xs_one (xs_append (pe_bm PySem.F.plainAttrs_list PySem.F.slot_list_append PySem.F.type_list_append mt_append (pv 8) (pa_cons (xe_tup (xa_cons (xe_meth0 C_Hearer_copy T.M_Hearer_copy hG (hr.mono (by decide)) tk (xe_var 6)) (xa_cons (xe_var 4) (xa_cons (xe_var 5) xa_nil)))) pa_nil)))) (xs_cons (xs_set (i := 11) S.nd rfl (by first | exact Or.inl rfl | exact Or.inr rfl) (xe_ok C__law_next hG (hr.mono (by decide)) tk rfl (yw_var 1 (yw_dat (xe_callB pc_len rfl T.b_len (by decide +kernel) (xa_cons (xe_ix (xe_var 3) xe_int) xa_nil)) yw_nil))))
      (xs_cons (xs_par (i := 4) (j := 5) rfl S.nd rfl rfl (by decide) rfl rfl (xa_cons (xe_ok C__law_led hG (hr.mono (by decide)) tk rfl (yw_dat (xe_var 3) (yw_dat (xe_var 4) (yw_dat (xe_var 11) yw_nil)))) (xa_cons (xe_op p_add (xe_var 5) xe_int) xa_nil)) rfl)
      (xs_one (xs_if (xt_cmp (p_ne hu) (xe_callB (pc_repr hG hu) rfl T.b_repr (by decide +kernel) (xa_cons (xe_callI C_Hearer___call__ T.ca_Hearer hG (hr.mono (by decide)) tk (xe_var 6) (yw_dat (xe_var 11) yw_nil)) xa_nil)) (xe_callB (pc_repr hG hu) rfl T.b_repr (by decide +kernel) (xa_cons (xe_ix (xe_var 4) xe_int) xa_nil))) (xs_one (xs_ret xe_bl)) xs_nil)))))))
      (xs_one (xs_if (xt_not (xt_val (xe_ok C__law_stands hG (hr.mono (by decide)) tk rfl (yw_dat (xe_var 6) (yw_dat (xe_var 4) (yw_dat (xe_var 5) yw_nil)))))) (xs_one (xs_ret xe_bl)) xs_nil)))))
      (xs_cons (xs_frz 8 (xs_for hp rfl (zi_lst (xe_var 8)) (yg_tup rfl (ygs_cons (yg_name (i := 12) S.nd rfl (by first | exact Or.inl rfl | exact Or.inr rfl)) (ygs_cons (yg_name (i := 13) S.nd rfl (by first | exact Or.inl rfl | exact Or.inr rfl)) (ygs_cons (yg_name (i := 14) S.nd rfl (by first | exact Or.inl rfl | exact Or.inr rfl)) ygs_nil)))) (xs_cons (xs_set (i := 11) S.nd rfl (by first | exact Or.inl rfl | exact Or.inr rfl) (xe_ok C__law_next hG (hr.mono (by decide)) tk rfl (yw_var 1 (yw_dat (xe_callB pc_len rfl T.b_len (by decide +kernel) (xa_cons (xe_ix (xe_var 3) xe_int) xa_nil)) yw_nil))))
      (xs_cons (xs_if (xt_w (xw_or (xt_not (xt_val (xe_ok C__law_stands hG (hr.mono (by decide)) tk rfl (yw_dat (xe_var 12) (yw_dat (xe_var 13) (yw_dat (xe_var 14) yw_nil)))))) (xw_or1 (xt_cmp (p_ne hu) (xe_callI C_Hearer___call__ T.ca_Hearer hG (hr.mono (by decide)) tk (xe_var 12) (yw_dat (xe_var 11) yw_nil)) (xe_ix (xe_ok C__law_led hG (hr.mono (by decide)) tk rfl (yw_dat (xe_var 3) (yw_dat (xe_var 13) (yw_dat (xe_var 11) yw_nil)))) xe_int))))) (xs_one (xs_ret xe_bl)) xs_nil)
      (xs_one (xs_if (xt_not (xt_val (xe_ok C__law_stands hG (hr.mono (by decide)) tk rfl (yw_dat (xe_var 12) (yw_dat (xe_ok C__law_led hG (hr.mono (by decide)) tk rfl (yw_dat (xe_var 3) (yw_dat (xe_var 13) (yw_dat (xe_var 11) yw_nil)))) (yw_dat (xe_op p_add (xe_var 14) xe_int) yw_nil)))))) (xs_one (xs_ret xe_bl)) xs_nil))))))
      (xs_one (xs_if (xt_w (xw_or (xt_not (xt_val (xe_ok C__law_stands hG (hr.mono (by decide)) tk rfl (yw_dat (xe_var 6) (yw_dat (xe_var 4) (yw_dat (xe_var 5) yw_nil)))))) (xw_or1 (xt_not (xt_val (xe_ok C__law_stands hG (hr.mono (by decide)) tk rfl (yw_dat (xe_var 7) (yw_dat (xe_tup (xa_cons xe_int (xa_cons xe_int xa_nil))) (yw_dat xe_int yw_nil))))))))) (xs_one (xs_ret xe_bl)) xs_nil)))))))))
      (xs_one (xs_ret xe_bl)))
end
theorem all_ok {P : Program} {w : World} {K : PySem.W.Frag} {mg : Str → Option Value} {base : Heap} (T : Tx K mg) {fd : FuncData} (F : FunD K "law" "law" (defArgs s_law) (defBody s_law) (defScope s_law) [] [] (He.ga K "law") fd) (tb : ∀ p ∈ tf.map (He.cT K), LamX.TabB base mg p.1 p.2) (ht : ∀ ns : List Int, ns.length ≤ 63 → SS t_law lawEnd ((startE 15 [.scr ns]).set 1 (some .tok)) 0) : FnG P w K mg base 10 (He.ga K "law") fd ["script"] (spLaw K) := by
  have C__law_next := (okNext (P := P) (w := w) (base := base) T).weak (c' := SF w__law_next) nextX
  have Z_BadCoder := rz_BadCoder (P := P) (w := w) (base := base) T
  have Z_OutOfPlace := rz_OutOfPlace (P := P) (w := w) (base := base) T
  have C_is_whole := ok_is_whole (P := P) (w := w) (base := base) T
  have C_cd_is_move := ok_cd_is_move (P := P) (w := w) (base := base) T C_is_whole
  have C_cd_row_fault := ok_cd_row_fault (P := P) (w := w) (base := base) T C_cd_is_move C_is_whole
  have C_coder_fault := ok_coder_fault (P := P) (w := w) (base := base) T C_cd_row_fault C_is_whole
  have C_need_coder := ok_need_coder (P := P) (w := w) (base := base) T C_coder_fault Z_BadCoder
  have C_is_state := ok_is_state (P := P) (w := w) (base := base) T C_is_whole
  have C_need_state := ok_need_state (P := P) (w := w) (base := base) T C_is_state Z_OutOfPlace
  have C_is_code := ok_is_code (P := P) (w := w) (base := base) T C_is_whole
  have C_need_code := ok_need_code (P := P) (w := w) (base := base) T C_is_code Z_OutOfPlace
  have C_divided := ok_divided (P := P) (w := w) (base := base) T
  have C_moved_by := ok_moved_by (P := P) (w := w) (base := base) T C_divided
  have C_next_state := ok_next_state (P := P) (w := w) (base := base) T C_divided C_moved_by
  have C__law_coder := ok__law_coder (P := P) (w := w) (base := base) T C__law_next
  have C__law_parted := ok__law_parted (P := P) (w := w) (base := base) T
  have C__law_limited := ok__law_limited (P := P) (w := w) (base := base) T
  have C__law_led := ok__law_led (P := P) (w := w) (base := base) T C__law_limited C__law_parted
  have C__law_some_state := ok__law_some_state (P := P) (w := w) (base := base) T C__law_next
  have C__law_stands := ok__law_stands (P := P) (w := w) (base := base) T
  have C_Hearer_jump := ok_Hearer_jump (P := P) (w := w) (base := base) T C_need_state
  have C_Hearer___init___10 := ok_Hearer___init___10 (P := P) (w := w) (base := base) T C_need_coder C_need_state
  have C_Hearer___init___11 := ok_Hearer___init___11 (P := P) (w := w) (base := base) T C_need_coder C_need_state
  have C_Hearer_copy := ok_Hearer_copy (P := P) (w := w) (base := base) T C_Hearer___init___11
  have C_Hearer___call__ := ok_Hearer___call__ (P := P) (w := w) (base := base) T C_need_code C_next_state
  exact ok_law T F C_Hearer___call__ C_Hearer_copy C_Hearer_jump C__law_coder C__law_led C__law_next C__law_some_state C__law_stands C_Hearer___init___10 C_Hearer___init___11 ht
/-! ### the head -/
def e__law_begun : He.DefD := ⟨("_law_begun", none), "_law_begun", "_law_begun", defArgs s__law_begun, defBody s__law_begun, defScope s__law_begun, [], []⟩
def e__law_next : He.DefD := ⟨("_law_next", none), "_law_next", "_law_next", defArgs s__law_next, defBody s__law_next, defScope s__law_next, [], []⟩
def e_is_whole : He.DefD := ⟨("is_whole", none), "is_whole", "is_whole", defArgs s_is_whole, defBody s_is_whole, defScope s_is_whole, [], []⟩
def e_cd_is_move : He.DefD := ⟨("cd_is_move", none), "cd_is_move", "cd_is_move", defArgs s_cd_is_move, defBody s_cd_is_move, defScope s_cd_is_move, [], []⟩
def e_cd_row_fault : He.DefD := ⟨("cd_row_fault", none), "cd_row_fault", "cd_row_fault", defArgs s_cd_row_fault, defBody s_cd_row_fault, defScope s_cd_row_fault, [], []⟩
def e_coder_fault : He.DefD := ⟨("coder_fault", none), "coder_fault", "coder_fault", defArgs s_coder_fault, defBody s_coder_fault, defScope s_coder_fault, [], []⟩
def e_need_coder : He.DefD := ⟨("need_coder", none), "need_coder", "need_coder", defArgs s_need_coder, defBody s_need_coder, defScope s_need_coder, [], []⟩
def e_is_state : He.DefD := ⟨("is_state", none), "is_state", "is_state", defArgs s_is_state, defBody s_is_state, defScope s_is_state, [], []⟩
def e_need_state : He.DefD := ⟨("need_state", none), "need_state", "need_state", defArgs s_need_state, defBody s_need_state, defScope s_need_state, [], []⟩
def e_is_code : He.DefD := ⟨("is_code", none), "is_code", "is_code", defArgs s_is_code, defBody s_is_code, defScope s_is_code, [], []⟩
def e_need_code : He.DefD := ⟨("need_code", none), "need_code", "need_code", defArgs s_need_code, defBody s_need_code, defScope s_need_code, [], []⟩
def e_divided : He.DefD := ⟨("divided", none), "divided", "divided", defArgs s_divided, defBody s_divided, defScope s_divided, [], []⟩
def e_moved_by : He.DefD := ⟨("moved_by", none), "moved_by", "moved_by", defArgs s_moved_by, defBody s_moved_by, defScope s_moved_by, [], []⟩
def e_next_state : He.DefD := ⟨("next_state", none), "next_state", "next_state", defArgs s_next_state, defBody s_next_state, defScope s_next_state, [], []⟩
def e__law_coder : He.DefD := ⟨("_law_coder", none), "_law_coder", "_law_coder", defArgs s__law_coder, defBody s__law_coder, defScope s__law_coder, [], []⟩
def e__law_parted : He.DefD := ⟨("_law_parted", none), "_law_parted", "_law_parted", defArgs s__law_parted, defBody s__law_parted, defScope s__law_parted, [], []⟩
def e__law_limited : He.DefD := ⟨("_law_limited", none), "_law_limited", "_law_limited", defArgs s__law_limited, defBody s__law_limited, defScope s__law_limited, [], []⟩
def e__law_led : He.DefD := ⟨("_law_led", none), "_law_led", "_law_led", defArgs s__law_led, defBody s__law_led, defScope s__law_led, [], []⟩
def e__law_some_state : He.DefD := ⟨("_law_some_state", none), "_law_some_state", "_law_some_state", defArgs s__law_some_state, defBody s__law_some_state, defScope s__law_some_state, [], []⟩
def e__law_stands : He.DefD := ⟨("_law_stands", none), "_law_stands", "_law_stands", defArgs s__law_stands, defBody s__law_stands, defScope s__law_stands, [], []⟩
def e_Hearer_jump : He.DefD := ⟨("Hearer", some "jump"), "jump", "Hearer.jump", defArgs s_Hearer_jump, defBody s_Hearer_jump, defScope s_Hearer_jump, [], []⟩
def e_Hearer___init__ : He.DefD := ⟨("Hearer", some "__init__"), "__init__", "Hearer.__init__", defArgs s_Hearer___init__, defBody s_Hearer___init__, defScope s_Hearer___init__, [], [("state", .adr (kwAt ("Hearer", some "__init__") "state"))]⟩
def e_Hearer_copy : He.DefD := ⟨("Hearer", some "copy"), "copy", "Hearer.copy", defArgs s_Hearer_copy, defBody s_Hearer_copy, defScope s_Hearer_copy, [], []⟩
def e_Hearer___call__ : He.DefD := ⟨("Hearer", some "__call__"), "__call__", "Hearer.__call__", defArgs s_Hearer___call__, defBody s_Hearer___call__, defScope s_Hearer___call__, [], []⟩
def e_law : He.DefD := ⟨("law", none), "law", "law", defArgs s_law, defBody s_law, defScope s_law, [], []⟩
def e_BadCoder : He.DefD := ⟨("BadCoder", some "__init__"), "__init__", "BadCoder.__init__", defArgs i_BadCoder, defBody i_BadCoder, defScope i_BadCoder, [], []⟩
def e_OutOfPlace : He.DefD := ⟨("OutOfPlace", some "__init__"), "__init__", "OutOfPlace.__init__", defArgs i_OutOfPlace, defBody i_OutOfPlace, defScope i_OutOfPlace, [], []⟩
def fn : List He.DefD := [e__law_begun, e__law_next, e_is_whole, e_cd_is_move, e_cd_row_fault, e_coder_fault, e_need_coder, e_is_state, e_need_state, e_is_code, e_need_code, e_divided, e_moved_by, e_next_state, e__law_coder, e__law_parted, e__law_limited, e__law_led, e__law_some_state, e__law_stands, e_Hearer_jump, e_Hearer___init__, e_Hearer_copy, e_Hearer___call__, e_law, e_BadCoder, e_OutOfPlace]
def fa : List He.Fa := [.glo "_law_begun", .glo "_law_next", .glo "is_whole", .glo "cd_is_move", .glo "cd_row_fault", .glo "coder_fault", .glo "need_coder", .glo "is_state", .glo "need_state", .glo "is_code", .glo "need_code", .glo "divided", .glo "moved_by", .glo "next_state", .glo "_law_coder", .glo "_law_parted", .glo "_law_limited", .glo "_law_led", .glo "_law_some_state", .glo "_law_stands", .glo "law", .glo "BadCoder", .glo "OutOfPlace", .glo "Hearer", .free "bool", .free "enumerate", .free "int", .free "isinstance", .free "len", .free "list", .free "max", .free "min", .free "range", .free "repr", .free "tuple", .int "MOST_STEPS" 16, .int "MOST_MOVES" 16]
def ex (K : PySem.W.Frag) : Bool := tupAt K (kwAt ("Hearer", some "__init__") "state" K) [.int 0, .int 0] && (kitB K "bool" && (kitB K "int" && (kitB K "tuple" && (rzB K "BadCoder" ["part", "number"] && (rzB K "OutOfPlace" ["text"] && (knB K kn && (clsB K "Hearer" && (methB K "Hearer" "copy" && (methB K "Hearer" "jump" && (calB K "Hearer" && (getB K "Hearer" "many" "own_many" && (getB K "Hearer" "state" "own_state" && (makB K "Hearer" && (noB K "Hearer" "own_coder" && (noB K "Hearer" "own_many" && (noB K "Hearer" "own_state" && (ttB tf K)))))))))))))))))
abbrev R : PySem.W.OpenRow := PySem.W.OpenLaw.row PySem.Challenge.rw_stepsound_k44_hearers
def ts : List He.Tab := []
abbrev hk : PySem.W.Hook := He.hookX 6 fa fn ts tf ex
abbrev ob : PySem.W.SharedT → He.AlX := VL.obX 6 fa fn ts tf ex
def names : List PySem.Str := ([("BadCoder" : PySem.Str), ("OutOfPlace" : PySem.Str), ("MOST_STEPS" : PySem.Str), ("MOST_MOVES" : PySem.Str), ("is_whole" : PySem.Str), ("cd_is_move" : PySem.Str), ("cd_row_fault" : PySem.Str), ("coder_fault" : PySem.Str), ("need_coder" : PySem.Str), ("is_state" : PySem.Str), ("need_state" : PySem.Str), ("is_code" : PySem.Str), ("need_code" : PySem.Str), ("divided" : PySem.Str), ("moved_by" : PySem.Str), ("next_state" : PySem.Str), ("Hearer" : PySem.Str), ("_law_begun" : PySem.Str), ("_law_next" : PySem.Str), ("_law_coder" : PySem.Str)] : List PySem.Str) ++ ([("_law_parted" : PySem.Str), ("_law_limited" : PySem.Str), ("_law_led" : PySem.Str), ("_law_some_state" : PySem.Str), ("_law_stands" : PySem.Str)] : List PySem.Str)
theorem run (w : World) : HandSHeadRun.RunEq R (PySem.W.view R.prog [29]) hk ob 6000 names w := by
  intro os
  kernel_rfl
theorem tx {K : PySem.W.Frag} {w : World} {h : Heap} {mg : Str → Option Value} (X : K.In h) (G : h.Ns mainGlobals mg) (c0 : He.SaysX fa fn ts tf ex w h K) : Tx K mg ∧ ttB tf K = true := by
  have c := saysD_of c0
  have x := c0.more
  unfold ex at x
  obtain ⟨x0, x⟩ := He.ba x
  obtain ⟨x1, x⟩ := He.ba x
  obtain ⟨x2, x⟩ := He.ba x
  obtain ⟨x3, x⟩ := He.ba x
  obtain ⟨x4, x⟩ := He.ba x
  obtain ⟨x5, x⟩ := He.ba x
  obtain ⟨x6, x⟩ := He.ba x
  obtain ⟨x7, x⟩ := He.ba x
  obtain ⟨x8, x⟩ := He.ba x
  obtain ⟨x9, x⟩ := He.ba x
  obtain ⟨x10, x⟩ := He.ba x
  obtain ⟨x11, x⟩ := He.ba x
  obtain ⟨x12, x⟩ := He.ba x
  obtain ⟨x13, x⟩ := He.ba x
  obtain ⟨x14, x⟩ := He.ba x
  obtain ⟨x15, x⟩ := He.ba x
  obtain ⟨x16, x⟩ := He.ba x
  have x17 := x
  refine ⟨?_, x17⟩
  constructor
  · exact c.def_ 0 (d := e__law_begun) rfl
  · exact He.glo_ok X G (c.fact 0 (f := .glo "_law_begun") rfl)
  · exact c.def_ 1 (d := e__law_next) rfl
  · exact He.glo_ok X G (c.fact 1 (f := .glo "_law_next") rfl)
  · exact c.def_ 2 (d := e_is_whole) rfl
  · exact He.glo_ok X G (c.fact 2 (f := .glo "is_whole") rfl)
  · exact c.def_ 3 (d := e_cd_is_move) rfl
  · exact He.glo_ok X G (c.fact 3 (f := .glo "cd_is_move") rfl)
  · exact c.def_ 4 (d := e_cd_row_fault) rfl
  · exact He.glo_ok X G (c.fact 4 (f := .glo "cd_row_fault") rfl)
  · exact c.def_ 5 (d := e_coder_fault) rfl
  · exact He.glo_ok X G (c.fact 5 (f := .glo "coder_fault") rfl)
  · exact c.def_ 6 (d := e_need_coder) rfl
  · exact He.glo_ok X G (c.fact 6 (f := .glo "need_coder") rfl)
  · exact c.def_ 7 (d := e_is_state) rfl
  · exact He.glo_ok X G (c.fact 7 (f := .glo "is_state") rfl)
  · exact c.def_ 8 (d := e_need_state) rfl
  · exact He.glo_ok X G (c.fact 8 (f := .glo "need_state") rfl)
  · exact c.def_ 9 (d := e_is_code) rfl
  · exact He.glo_ok X G (c.fact 9 (f := .glo "is_code") rfl)
  · exact c.def_ 10 (d := e_need_code) rfl
  · exact He.glo_ok X G (c.fact 10 (f := .glo "need_code") rfl)
  · exact c.def_ 11 (d := e_divided) rfl
  · exact He.glo_ok X G (c.fact 11 (f := .glo "divided") rfl)
  · exact c.def_ 12 (d := e_moved_by) rfl
  · exact He.glo_ok X G (c.fact 12 (f := .glo "moved_by") rfl)
  · exact c.def_ 13 (d := e_next_state) rfl
  · exact He.glo_ok X G (c.fact 13 (f := .glo "next_state") rfl)
  · exact c.def_ 14 (d := e__law_coder) rfl
  · exact He.glo_ok X G (c.fact 14 (f := .glo "_law_coder") rfl)
  · exact c.def_ 15 (d := e__law_parted) rfl
  · exact He.glo_ok X G (c.fact 15 (f := .glo "_law_parted") rfl)
  · exact c.def_ 16 (d := e__law_limited) rfl
  · exact He.glo_ok X G (c.fact 16 (f := .glo "_law_limited") rfl)
  · exact c.def_ 17 (d := e__law_led) rfl
  · exact He.glo_ok X G (c.fact 17 (f := .glo "_law_led") rfl)
  · exact c.def_ 18 (d := e__law_some_state) rfl
  · exact He.glo_ok X G (c.fact 18 (f := .glo "_law_some_state") rfl)
  · exact c.def_ 19 (d := e__law_stands) rfl
  · exact He.glo_ok X G (c.fact 19 (f := .glo "_law_stands") rfl)
  · exact c.def_ 20 (d := e_Hearer_jump) rfl
  · exact c.def_ 21 (d := e_Hearer___init__) rfl
  · exact x0
  · exact c.def_ 22 (d := e_Hearer_copy) rfl
  · exact c.def_ 23 (d := e_Hearer___call__) rfl
  · exact c.def_ 24 (d := e_law) rfl
  · exact He.glo_ok X G (c.fact 20 (f := .glo "law") rfl)
  · exact He.glo_ok X G (c.fact 21 (f := .glo "BadCoder") rfl)
  · exact x4
  · exact c.def_ 25 (d := e_BadCoder) rfl
  · exact He.glo_ok X G (c.fact 22 (f := .glo "OutOfPlace") rfl)
  · exact x5
  · exact c.def_ 26 (d := e_OutOfPlace) rfl
  · exact knB_ok x6
  · exact He.free_ok X G (c.fact 24 (f := .free "bool") rfl)
  · exact He.free_ok X G (c.fact 25 (f := .free "enumerate") rfl)
  · exact He.free_ok X G (c.fact 26 (f := .free "int") rfl)
  · exact He.free_ok X G (c.fact 27 (f := .free "isinstance") rfl)
  · exact He.free_ok X G (c.fact 28 (f := .free "len") rfl)
  · exact He.free_ok X G (c.fact 29 (f := .free "list") rfl)
  · exact He.free_ok X G (c.fact 30 (f := .free "max") rfl)
  · exact He.free_ok X G (c.fact 31 (f := .free "min") rfl)
  · exact He.free_ok X G (c.fact 32 (f := .free "range") rfl)
  · exact He.free_ok X G (c.fact 33 (f := .free "repr") rfl)
  · exact He.free_ok X G (c.fact 34 (f := .free "tuple") rfl)
  · exact He.int_ok X G (c.fact 35 (f := .int "MOST_STEPS" 16) rfl)
  · exact He.int_ok X G (c.fact 36 (f := .int "MOST_MOVES" 16) rfl)
  · exact kitB_ok x1
  · exact kitB_ok x2
  · exact kitB_ok x3
  · exact clsB_ok x7
  · exact methB_ok x8
  · exact methB_ok x9
  · exact calB_ok x10
  · exact getB_ok x11
  · exact getB_ok x12
  · exact makB_ok x13
  · exact noB_ok x14
  · exact noB_ok x15
  · exact noB_ok x16
  · exact He.glo_ok X G (c.fact 23 (f := .glo "Hearer") rfl)
end LW


set_option maxRecDepth 100000
set_option maxHeartbeats 1000000
namespace LW
open PySem PySem.Spec PyProof.Rows L2 VL
/-! ### the plain side: coders -/
def inR (a v b : Int) : Bool := decide (a ≤ v) && decide (v ≤ b)
theorem inR_true {a v b : Int} : inR a v b = true ↔ a ≤ v ∧ v ≤ b := by simp [inR]
theorem inR_of {a v b : Int} (h1 : a ≤ v) (h2 : v ≤ b) : inR a v b = true := inR_true.mpr ⟨h1, h2⟩
def wh (d : Dt) (a b : Int) : Bool := match d with
  | .int v => inR a v b
  | _ => false
theorem r_whole (d : Dt) (a b : Int) : w_is_whole [.dat d, .dat (.int a), .dat (.int b)] = .ret (.dat (.bool (wh d a b))) := by
  rw [wd_is_whole]
  cases d <;> simp only [t_is_whole, wh, inR, xFld, fldK, asRf_rf, bd_rd, bx_rd, exS_rd, bd_wr, bx_wr, exS_wr, pIntB_b, xParW3, parW3a, parW3b, parW3c, dictW_c, pLtA_i, pSumT, pSumL, xwD, xwO, datK, ownK, capN, capC, ygT3c, opK2, opK, chK4, chK3, chK2, chK, unK, andK, orK, notK, andVK2, andVK, notVK2, notVK, ifVK, ifTK, consK2, consK, tupK, lstK, fzK, cbK, isiK, drpK, retK, ifSK, setK, setOK, nxK, asgK, parK, appK, wcK, wdK, callK, forK, lcK, raiseK, bodyX, startE, xSeq, sqF, xNext, xIfS, xRet, xSet, xSetO, xDrop, xAsg, ygT_t, ygsC, ygsN, ygN, xPar, xAppend, xFrz, xVar, xC, xOp, xUn, pNeg_i, xTest, asB_b, xAnd, xOr, xNot, xAndV, xNotV, xIf, xIfT, xChain, xNil, xCons, xTup, xLst, xFz, xCall, rOfT_d, rOfT_o, rOfT_c, rOwT_o, ywNil, ywDat, ywVar, xCB, xIsi, asI_i, xLenS, xFor, ziL, itT_t, itL_l, ziR1, ziET, enT_t, enL_l, xLc, noOwnB, wipeE, xYes, xRaise, pAdd_i, pAdd_t, pAdd_l, pSub_i, pLt_i, pLe_i, pGt_i, pGe_i, pIs_n, pIsNot_n, pIsB_b, pNotB_b, isN_n, isN_b, isN_i, isN_s, isN_t, isN_l, pIx_t, pIx_l, pLen_t, pLen_l, pMin2_i, pMax2_i, pAbs_i, pInt_i, pTuple_t, pTuple_l, pList_t, pList_l, pIadd_i, pSl_t, pSl_l, pEqI, pNeI, pEqS, pNeS, at0, at1, at2, at3, at4, at5, at6, at7, bx_ret, bx_exc, bx_fail, bd_ret, bd_exc, bd_fail, exS_ret, exS_exc, exS_fail, ofO_some, ofO_none, fnE, isi_T, isi_B, isi_I, isi_S, isi_L, sizeL, Option.bind_some, Option.map_some, Option.some.injEq, Int.reduceEq, Int.reduceLE, Int.reduceLT, Int.reduceNeg, Int.reduceAdd, Int.reduceSub, Int.reduceMul, decide_true, decide_false, decide_eq_true_eq, decide_not, eq_self, Int.cast_ofNat_Int, reduceCtorEq, List.length_cons, List.length_nil, List.map_cons, List.map_nil, List.replicate, List.cons_append, List.nil_append, List.append_nil, List.getElem?_cons_zero, List.getElem?_cons_succ, List.getElem?_nil, List.set_cons_zero, List.set_cons_succ, Nat.reduceAdd, Nat.reduceSub, Nat.reduceEqDiff, Nat.reduceLeDiff, Nat.reduceLT, Nat.zero_add, Nat.add_zero, true_and, and_true, false_and, and_false, Bool.not_true, Bool.not_false, Bool.true_and, Bool.and_true, Bool.false_and, Bool.and_false, Bool.or_false, Bool.false_or, Bool.or_true, Bool.true_or, Bool.not_eq_true', if_true, if_false, Bool.false_eq_true, Bool.not_eq_true, ↓reduceIte, ite_true, ite_false, Bool.true_eq_false, not_true_eq_false, not_false_eq_true, Nat.zero_le]
  next v =>
  by_cases h : a ≤ v <;> simp only [h, xFld, fldK, asRf_rf, bd_rd, bx_rd, exS_rd, bd_wr, bx_wr, exS_wr, pIntB_b, xParW3, parW3a, parW3b, parW3c, dictW_c, pLtA_i, pSumT, pSumL, xwD, xwO, datK, ownK, capN, capC, ygT3c, opK2, opK, chK4, chK3, chK2, chK, unK, andK, orK, notK, andVK2, andVK, notVK2, notVK, ifVK, ifTK, consK2, consK, tupK, lstK, fzK, cbK, isiK, drpK, retK, ifSK, setK, setOK, nxK, asgK, parK, appK, wcK, wdK, callK, forK, lcK, raiseK, bodyX, startE, xSeq, sqF, xNext, xIfS, xRet, xSet, xSetO, xDrop, xAsg, ygT_t, ygsC, ygsN, ygN, xPar, xAppend, xFrz, xVar, xC, xOp, xUn, pNeg_i, xTest, asB_b, xAnd, xOr, xNot, xAndV, xNotV, xIf, xIfT, xChain, xNil, xCons, xTup, xLst, xFz, xCall, rOfT_d, rOfT_o, rOfT_c, rOwT_o, ywNil, ywDat, ywVar, xCB, xIsi, asI_i, xLenS, xFor, ziL, itT_t, itL_l, ziR1, ziET, enT_t, enL_l, xLc, noOwnB, wipeE, xYes, xRaise, pAdd_i, pAdd_t, pAdd_l, pSub_i, pLt_i, pLe_i, pGt_i, pGe_i, pIs_n, pIsNot_n, pIsB_b, pNotB_b, isN_n, isN_b, isN_i, isN_s, isN_t, isN_l, pIx_t, pIx_l, pLen_t, pLen_l, pMin2_i, pMax2_i, pAbs_i, pInt_i, pTuple_t, pTuple_l, pList_t, pList_l, pIadd_i, pSl_t, pSl_l, pEqI, pNeI, pEqS, pNeS, at0, at1, at2, at3, at4, at5, at6, at7, bx_ret, bx_exc, bx_fail, bd_ret, bd_exc, bd_fail, exS_ret, exS_exc, exS_fail, ofO_some, ofO_none, fnE, isi_T, isi_B, isi_I, isi_S, isi_L, sizeL, Option.bind_some, Option.map_some, Option.some.injEq, Int.reduceEq, Int.reduceLE, Int.reduceLT, Int.reduceNeg, Int.reduceAdd, Int.reduceSub, Int.reduceMul, decide_true, decide_false, decide_eq_true_eq, decide_not, eq_self, Int.cast_ofNat_Int, reduceCtorEq, List.length_cons, List.length_nil, List.map_cons, List.map_nil, List.replicate, List.cons_append, List.nil_append, List.append_nil, List.getElem?_cons_zero, List.getElem?_cons_succ, List.getElem?_nil, List.set_cons_zero, List.set_cons_succ, Nat.reduceAdd, Nat.reduceSub, Nat.reduceEqDiff, Nat.reduceLeDiff, Nat.reduceLT, Nat.zero_add, Nat.add_zero, true_and, and_true, false_and, and_false, Bool.not_true, Bool.not_false, Bool.true_and, Bool.and_true, Bool.false_and, Bool.and_false, Bool.or_false, Bool.false_or, Bool.or_true, Bool.true_or, Bool.not_eq_true', if_true, if_false, Bool.false_eq_true, Bool.not_eq_true, ↓reduceIte, ite_true, ite_false, Bool.true_eq_false, not_true_eq_false, not_false_eq_true, Nat.zero_le]
def mvB (d : Dt) : Bool := match d with
  | .tuple [a, b] => wh a (-32) 32 && wh b (-15) 15
  | _ => false
theorem r_move (d : Dt) : w_cd_is_move [.dat d] = .ret (.dat (.bool (mvB d))) := by
  rw [wd_cd_is_move]
  cases d <;> simp only [t_cd_is_move, mvB, xFld, fldK, asRf_rf, bd_rd, bx_rd, exS_rd, bd_wr, bx_wr, exS_wr, pIntB_b, xParW3, parW3a, parW3b, parW3c, dictW_c, pLtA_i, pSumT, pSumL, xwD, xwO, datK, ownK, capN, capC, ygT3c, opK2, opK, chK4, chK3, chK2, chK, unK, andK, orK, notK, andVK2, andVK, notVK2, notVK, ifVK, ifTK, consK2, consK, tupK, lstK, fzK, cbK, isiK, drpK, retK, ifSK, setK, setOK, nxK, asgK, parK, appK, wcK, wdK, callK, forK, lcK, raiseK, bodyX, startE, xSeq, sqF, xNext, xIfS, xRet, xSet, xSetO, xDrop, xAsg, ygT_t, ygsC, ygsN, ygN, xPar, xAppend, xFrz, xVar, xC, xOp, xUn, pNeg_i, xTest, asB_b, xAnd, xOr, xNot, xAndV, xNotV, xIf, xIfT, xChain, xNil, xCons, xTup, xLst, xFz, xCall, rOfT_d, rOfT_o, rOfT_c, rOwT_o, ywNil, ywDat, ywVar, xCB, xIsi, asI_i, xLenS, xFor, ziL, itT_t, itL_l, ziR1, ziET, enT_t, enL_l, xLc, noOwnB, wipeE, xYes, xRaise, pAdd_i, pAdd_t, pAdd_l, pSub_i, pLt_i, pLe_i, pGt_i, pGe_i, pIs_n, pIsNot_n, pIsB_b, pNotB_b, isN_n, isN_b, isN_i, isN_s, isN_t, isN_l, pIx_t, pIx_l, pLen_t, pLen_l, pMin2_i, pMax2_i, pAbs_i, pInt_i, pTuple_t, pTuple_l, pList_t, pList_l, pIadd_i, pSl_t, pSl_l, pEqI, pNeI, pEqS, pNeS, at0, at1, at2, at3, at4, at5, at6, at7, bx_ret, bx_exc, bx_fail, bd_ret, bd_exc, bd_fail, exS_ret, exS_exc, exS_fail, ofO_some, ofO_none, fnE, isi_T, isi_B, isi_I, isi_S, isi_L, sizeL, Option.bind_some, Option.map_some, Option.some.injEq, Int.reduceEq, Int.reduceLE, Int.reduceLT, Int.reduceNeg, Int.reduceAdd, Int.reduceSub, Int.reduceMul, decide_true, decide_false, decide_eq_true_eq, decide_not, eq_self, Int.cast_ofNat_Int, reduceCtorEq, List.length_cons, List.length_nil, List.map_cons, List.map_nil, List.replicate, List.cons_append, List.nil_append, List.append_nil, List.getElem?_cons_zero, List.getElem?_cons_succ, List.getElem?_nil, List.set_cons_zero, List.set_cons_succ, Nat.reduceAdd, Nat.reduceSub, Nat.reduceEqDiff, Nat.reduceLeDiff, Nat.reduceLT, Nat.zero_add, Nat.add_zero, true_and, and_true, false_and, and_false, Bool.not_true, Bool.not_false, Bool.true_and, Bool.and_true, Bool.false_and, Bool.and_false, Bool.or_false, Bool.false_or, Bool.or_true, Bool.true_or, Bool.not_eq_true', if_true, if_false, Bool.false_eq_true, Bool.not_eq_true, ↓reduceIte, ite_true, ite_false, Bool.true_eq_false, not_true_eq_false, not_false_eq_true, Nat.zero_le]
  next ds =>
  match ds with
  | [] => simp only [mvB, xFld, fldK, asRf_rf, bd_rd, bx_rd, exS_rd, bd_wr, bx_wr, exS_wr, pIntB_b, xParW3, parW3a, parW3b, parW3c, dictW_c, pLtA_i, pSumT, pSumL, xwD, xwO, datK, ownK, capN, capC, ygT3c, opK2, opK, chK4, chK3, chK2, chK, unK, andK, orK, notK, andVK2, andVK, notVK2, notVK, ifVK, ifTK, consK2, consK, tupK, lstK, fzK, cbK, isiK, drpK, retK, ifSK, setK, setOK, nxK, asgK, parK, appK, wcK, wdK, callK, forK, lcK, raiseK, bodyX, startE, xSeq, sqF, xNext, xIfS, xRet, xSet, xSetO, xDrop, xAsg, ygT_t, ygsC, ygsN, ygN, xPar, xAppend, xFrz, xVar, xC, xOp, xUn, pNeg_i, xTest, asB_b, xAnd, xOr, xNot, xAndV, xNotV, xIf, xIfT, xChain, xNil, xCons, xTup, xLst, xFz, xCall, rOfT_d, rOfT_o, rOfT_c, rOwT_o, ywNil, ywDat, ywVar, xCB, xIsi, asI_i, xLenS, xFor, ziL, itT_t, itL_l, ziR1, ziET, enT_t, enL_l, xLc, noOwnB, wipeE, xYes, xRaise, pAdd_i, pAdd_t, pAdd_l, pSub_i, pLt_i, pLe_i, pGt_i, pGe_i, pIs_n, pIsNot_n, pIsB_b, pNotB_b, isN_n, isN_b, isN_i, isN_s, isN_t, isN_l, pIx_t, pIx_l, pLen_t, pLen_l, pMin2_i, pMax2_i, pAbs_i, pInt_i, pTuple_t, pTuple_l, pList_t, pList_l, pIadd_i, pSl_t, pSl_l, pEqI, pNeI, pEqS, pNeS, at0, at1, at2, at3, at4, at5, at6, at7, bx_ret, bx_exc, bx_fail, bd_ret, bd_exc, bd_fail, exS_ret, exS_exc, exS_fail, ofO_some, ofO_none, fnE, isi_T, isi_B, isi_I, isi_S, isi_L, sizeL, Option.bind_some, Option.map_some, Option.some.injEq, Int.reduceEq, Int.reduceLE, Int.reduceLT, Int.reduceNeg, Int.reduceAdd, Int.reduceSub, Int.reduceMul, decide_true, decide_false, decide_eq_true_eq, decide_not, eq_self, Int.cast_ofNat_Int, reduceCtorEq, List.length_cons, List.length_nil, List.map_cons, List.map_nil, List.replicate, List.cons_append, List.nil_append, List.append_nil, List.getElem?_cons_zero, List.getElem?_cons_succ, List.getElem?_nil, List.set_cons_zero, List.set_cons_succ, Nat.reduceAdd, Nat.reduceSub, Nat.reduceEqDiff, Nat.reduceLeDiff, Nat.reduceLT, Nat.zero_add, Nat.add_zero, true_and, and_true, false_and, and_false, Bool.not_true, Bool.not_false, Bool.true_and, Bool.and_true, Bool.false_and, Bool.and_false, Bool.or_false, Bool.false_or, Bool.or_true, Bool.true_or, Bool.not_eq_true', if_true, if_false, Bool.false_eq_true, Bool.not_eq_true, ↓reduceIte, ite_true, ite_false, Bool.true_eq_false, not_true_eq_false, not_false_eq_true, Nat.zero_le]
  | [a] => simp only [mvB, xFld, fldK, asRf_rf, bd_rd, bx_rd, exS_rd, bd_wr, bx_wr, exS_wr, pIntB_b, xParW3, parW3a, parW3b, parW3c, dictW_c, pLtA_i, pSumT, pSumL, xwD, xwO, datK, ownK, capN, capC, ygT3c, opK2, opK, chK4, chK3, chK2, chK, unK, andK, orK, notK, andVK2, andVK, notVK2, notVK, ifVK, ifTK, consK2, consK, tupK, lstK, fzK, cbK, isiK, drpK, retK, ifSK, setK, setOK, nxK, asgK, parK, appK, wcK, wdK, callK, forK, lcK, raiseK, bodyX, startE, xSeq, sqF, xNext, xIfS, xRet, xSet, xSetO, xDrop, xAsg, ygT_t, ygsC, ygsN, ygN, xPar, xAppend, xFrz, xVar, xC, xOp, xUn, pNeg_i, xTest, asB_b, xAnd, xOr, xNot, xAndV, xNotV, xIf, xIfT, xChain, xNil, xCons, xTup, xLst, xFz, xCall, rOfT_d, rOfT_o, rOfT_c, rOwT_o, ywNil, ywDat, ywVar, xCB, xIsi, asI_i, xLenS, xFor, ziL, itT_t, itL_l, ziR1, ziET, enT_t, enL_l, xLc, noOwnB, wipeE, xYes, xRaise, pAdd_i, pAdd_t, pAdd_l, pSub_i, pLt_i, pLe_i, pGt_i, pGe_i, pIs_n, pIsNot_n, pIsB_b, pNotB_b, isN_n, isN_b, isN_i, isN_s, isN_t, isN_l, pIx_t, pIx_l, pLen_t, pLen_l, pMin2_i, pMax2_i, pAbs_i, pInt_i, pTuple_t, pTuple_l, pList_t, pList_l, pIadd_i, pSl_t, pSl_l, pEqI, pNeI, pEqS, pNeS, at0, at1, at2, at3, at4, at5, at6, at7, bx_ret, bx_exc, bx_fail, bd_ret, bd_exc, bd_fail, exS_ret, exS_exc, exS_fail, ofO_some, ofO_none, fnE, isi_T, isi_B, isi_I, isi_S, isi_L, sizeL, Option.bind_some, Option.map_some, Option.some.injEq, Int.reduceEq, Int.reduceLE, Int.reduceLT, Int.reduceNeg, Int.reduceAdd, Int.reduceSub, Int.reduceMul, decide_true, decide_false, decide_eq_true_eq, decide_not, eq_self, Int.cast_ofNat_Int, reduceCtorEq, List.length_cons, List.length_nil, List.map_cons, List.map_nil, List.replicate, List.cons_append, List.nil_append, List.append_nil, List.getElem?_cons_zero, List.getElem?_cons_succ, List.getElem?_nil, List.set_cons_zero, List.set_cons_succ, Nat.reduceAdd, Nat.reduceSub, Nat.reduceEqDiff, Nat.reduceLeDiff, Nat.reduceLT, Nat.zero_add, Nat.add_zero, true_and, and_true, false_and, and_false, Bool.not_true, Bool.not_false, Bool.true_and, Bool.and_true, Bool.false_and, Bool.and_false, Bool.or_false, Bool.false_or, Bool.or_true, Bool.true_or, Bool.not_eq_true', if_true, if_false, Bool.false_eq_true, Bool.not_eq_true, ↓reduceIte, ite_true, ite_false, Bool.true_eq_false, not_true_eq_false, not_false_eq_true, Nat.zero_le]
  | [a, b] =>
    simp only [mvB, r_whole, xFld, fldK, asRf_rf, bd_rd, bx_rd, exS_rd, bd_wr, bx_wr, exS_wr, pIntB_b, xParW3, parW3a, parW3b, parW3c, dictW_c, pLtA_i, pSumT, pSumL, xwD, xwO, datK, ownK, capN, capC, ygT3c, opK2, opK, chK4, chK3, chK2, chK, unK, andK, orK, notK, andVK2, andVK, notVK2, notVK, ifVK, ifTK, consK2, consK, tupK, lstK, fzK, cbK, isiK, drpK, retK, ifSK, setK, setOK, nxK, asgK, parK, appK, wcK, wdK, callK, forK, lcK, raiseK, bodyX, startE, xSeq, sqF, xNext, xIfS, xRet, xSet, xSetO, xDrop, xAsg, ygT_t, ygsC, ygsN, ygN, xPar, xAppend, xFrz, xVar, xC, xOp, xUn, pNeg_i, xTest, asB_b, xAnd, xOr, xNot, xAndV, xNotV, xIf, xIfT, xChain, xNil, xCons, xTup, xLst, xFz, xCall, rOfT_d, rOfT_o, rOfT_c, rOwT_o, ywNil, ywDat, ywVar, xCB, xIsi, asI_i, xLenS, xFor, ziL, itT_t, itL_l, ziR1, ziET, enT_t, enL_l, xLc, noOwnB, wipeE, xYes, xRaise, pAdd_i, pAdd_t, pAdd_l, pSub_i, pLt_i, pLe_i, pGt_i, pGe_i, pIs_n, pIsNot_n, pIsB_b, pNotB_b, isN_n, isN_b, isN_i, isN_s, isN_t, isN_l, pIx_t, pIx_l, pLen_t, pLen_l, pMin2_i, pMax2_i, pAbs_i, pInt_i, pTuple_t, pTuple_l, pList_t, pList_l, pIadd_i, pSl_t, pSl_l, pEqI, pNeI, pEqS, pNeS, at0, at1, at2, at3, at4, at5, at6, at7, bx_ret, bx_exc, bx_fail, bd_ret, bd_exc, bd_fail, exS_ret, exS_exc, exS_fail, ofO_some, ofO_none, fnE, isi_T, isi_B, isi_I, isi_S, isi_L, sizeL, Option.bind_some, Option.map_some, Option.some.injEq, Int.reduceEq, Int.reduceLE, Int.reduceLT, Int.reduceNeg, Int.reduceAdd, Int.reduceSub, Int.reduceMul, decide_true, decide_false, decide_eq_true_eq, decide_not, eq_self, Int.cast_ofNat_Int, reduceCtorEq, List.length_cons, List.length_nil, List.map_cons, List.map_nil, List.replicate, List.cons_append, List.nil_append, List.append_nil, List.getElem?_cons_zero, List.getElem?_cons_succ, List.getElem?_nil, List.set_cons_zero, List.set_cons_succ, Nat.reduceAdd, Nat.reduceSub, Nat.reduceEqDiff, Nat.reduceLeDiff, Nat.reduceLT, Nat.zero_add, Nat.add_zero, true_and, and_true, false_and, and_false, Bool.not_true, Bool.not_false, Bool.true_and, Bool.and_true, Bool.false_and, Bool.and_false, Bool.or_false, Bool.false_or, Bool.or_true, Bool.true_or, Bool.not_eq_true', if_true, if_false, Bool.false_eq_true, Bool.not_eq_true, ↓reduceIte, ite_true, ite_false, Bool.true_eq_false, not_true_eq_false, not_false_eq_true, Nat.zero_le]
    cases wh a (-32) 32 <;> simp only [xFld, fldK, asRf_rf, bd_rd, bx_rd, exS_rd, bd_wr, bx_wr, exS_wr, pIntB_b, xParW3, parW3a, parW3b, parW3c, dictW_c, pLtA_i, pSumT, pSumL, xwD, xwO, datK, ownK, capN, capC, ygT3c, opK2, opK, chK4, chK3, chK2, chK, unK, andK, orK, notK, andVK2, andVK, notVK2, notVK, ifVK, ifTK, consK2, consK, tupK, lstK, fzK, cbK, isiK, drpK, retK, ifSK, setK, setOK, nxK, asgK, parK, appK, wcK, wdK, callK, forK, lcK, raiseK, bodyX, startE, xSeq, sqF, xNext, xIfS, xRet, xSet, xSetO, xDrop, xAsg, ygT_t, ygsC, ygsN, ygN, xPar, xAppend, xFrz, xVar, xC, xOp, xUn, pNeg_i, xTest, asB_b, xAnd, xOr, xNot, xAndV, xNotV, xIf, xIfT, xChain, xNil, xCons, xTup, xLst, xFz, xCall, rOfT_d, rOfT_o, rOfT_c, rOwT_o, ywNil, ywDat, ywVar, xCB, xIsi, asI_i, xLenS, xFor, ziL, itT_t, itL_l, ziR1, ziET, enT_t, enL_l, xLc, noOwnB, wipeE, xYes, xRaise, pAdd_i, pAdd_t, pAdd_l, pSub_i, pLt_i, pLe_i, pGt_i, pGe_i, pIs_n, pIsNot_n, pIsB_b, pNotB_b, isN_n, isN_b, isN_i, isN_s, isN_t, isN_l, pIx_t, pIx_l, pLen_t, pLen_l, pMin2_i, pMax2_i, pAbs_i, pInt_i, pTuple_t, pTuple_l, pList_t, pList_l, pIadd_i, pSl_t, pSl_l, pEqI, pNeI, pEqS, pNeS, at0, at1, at2, at3, at4, at5, at6, at7, bx_ret, bx_exc, bx_fail, bd_ret, bd_exc, bd_fail, exS_ret, exS_exc, exS_fail, ofO_some, ofO_none, fnE, isi_T, isi_B, isi_I, isi_S, isi_L, sizeL, Option.bind_some, Option.map_some, Option.some.injEq, Int.reduceEq, Int.reduceLE, Int.reduceLT, Int.reduceNeg, Int.reduceAdd, Int.reduceSub, Int.reduceMul, decide_true, decide_false, decide_eq_true_eq, decide_not, eq_self, Int.cast_ofNat_Int, reduceCtorEq, List.length_cons, List.length_nil, List.map_cons, List.map_nil, List.replicate, List.cons_append, List.nil_append, List.append_nil, List.getElem?_cons_zero, List.getElem?_cons_succ, List.getElem?_nil, List.set_cons_zero, List.set_cons_succ, Nat.reduceAdd, Nat.reduceSub, Nat.reduceEqDiff, Nat.reduceLeDiff, Nat.reduceLT, Nat.zero_add, Nat.add_zero, true_and, and_true, false_and, and_false, Bool.not_true, Bool.not_false, Bool.true_and, Bool.and_true, Bool.false_and, Bool.and_false, Bool.or_false, Bool.false_or, Bool.or_true, Bool.true_or, Bool.not_eq_true', if_true, if_false, Bool.false_eq_true, Bool.not_eq_true, ↓reduceIte, ite_true, ite_false, Bool.true_eq_false, not_true_eq_false, not_false_eq_true, Nat.zero_le]
  | a :: b :: c :: r =>
    have e : ¬ (((r.length + 1 + 1 + 1 : Nat) : Int) = 2) := by omega
    simp only [mvB, e, xFld, fldK, asRf_rf, bd_rd, bx_rd, exS_rd, bd_wr, bx_wr, exS_wr, pIntB_b, xParW3, parW3a, parW3b, parW3c, dictW_c, pLtA_i, pSumT, pSumL, xwD, xwO, datK, ownK, capN, capC, ygT3c, opK2, opK, chK4, chK3, chK2, chK, unK, andK, orK, notK, andVK2, andVK, notVK2, notVK, ifVK, ifTK, consK2, consK, tupK, lstK, fzK, cbK, isiK, drpK, retK, ifSK, setK, setOK, nxK, asgK, parK, appK, wcK, wdK, callK, forK, lcK, raiseK, bodyX, startE, xSeq, sqF, xNext, xIfS, xRet, xSet, xSetO, xDrop, xAsg, ygT_t, ygsC, ygsN, ygN, xPar, xAppend, xFrz, xVar, xC, xOp, xUn, pNeg_i, xTest, asB_b, xAnd, xOr, xNot, xAndV, xNotV, xIf, xIfT, xChain, xNil, xCons, xTup, xLst, xFz, xCall, rOfT_d, rOfT_o, rOfT_c, rOwT_o, ywNil, ywDat, ywVar, xCB, xIsi, asI_i, xLenS, xFor, ziL, itT_t, itL_l, ziR1, ziET, enT_t, enL_l, xLc, noOwnB, wipeE, xYes, xRaise, pAdd_i, pAdd_t, pAdd_l, pSub_i, pLt_i, pLe_i, pGt_i, pGe_i, pIs_n, pIsNot_n, pIsB_b, pNotB_b, isN_n, isN_b, isN_i, isN_s, isN_t, isN_l, pIx_t, pIx_l, pLen_t, pLen_l, pMin2_i, pMax2_i, pAbs_i, pInt_i, pTuple_t, pTuple_l, pList_t, pList_l, pIadd_i, pSl_t, pSl_l, pEqI, pNeI, pEqS, pNeS, at0, at1, at2, at3, at4, at5, at6, at7, bx_ret, bx_exc, bx_fail, bd_ret, bd_exc, bd_fail, exS_ret, exS_exc, exS_fail, ofO_some, ofO_none, fnE, isi_T, isi_B, isi_I, isi_S, isi_L, sizeL, Option.bind_some, Option.map_some, Option.some.injEq, Int.reduceEq, Int.reduceLE, Int.reduceLT, Int.reduceNeg, Int.reduceAdd, Int.reduceSub, Int.reduceMul, decide_true, decide_false, decide_eq_true_eq, decide_not, eq_self, Int.cast_ofNat_Int, reduceCtorEq, List.length_cons, List.length_nil, List.map_cons, List.map_nil, List.replicate, List.cons_append, List.nil_append, List.append_nil, List.getElem?_cons_zero, List.getElem?_cons_succ, List.getElem?_nil, List.set_cons_zero, List.set_cons_succ, Nat.reduceAdd, Nat.reduceSub, Nat.reduceEqDiff, Nat.reduceLeDiff, Nat.reduceLT, Nat.zero_add, Nat.add_zero, true_and, and_true, false_and, and_false, Bool.not_true, Bool.not_false, Bool.true_and, Bool.and_true, Bool.false_and, Bool.and_false, Bool.or_false, Bool.false_or, Bool.or_true, Bool.true_or, Bool.not_eq_true', if_true, if_false, Bool.false_eq_true, Bool.not_eq_true, ↓reduceIte, ite_true, ite_false, Bool.true_eq_false, not_true_eq_false, not_false_eq_true, Nat.zero_le]
/-- the fault of steps or moves -/
def rowF (part : Str) (ok : Dt → Bool) (least most : Int) (row : Dt) : Option (Str × Dt) := match row with
  | .tuple xs => if inR least xs.length most = true then (xs.findIdx? fun x => !ok x).map fun (i : Nat) => (part, PyData.int (i : Int)) else some (part, .none)
  | _ => some (part, .none)
def ftD : Option (Str × Dt) → Dt
  | none => .none
  | some (p, n) => .tuple [.str p, n]
theorem r_rowF (part : Str) (ok : Dt → Bool) (hb : ∀ (x : Dt) (ρ1 ρ2 ρ3 ρ4 : Option VL.W), (if PyData.eqv (.str part) (.str "steps") = true then w_is_whole [.dat x, .dat (.int 1), .dat (.int 9999)] else w_cd_is_move [.dat x]) = .ret (.dat (.bool (ok x)))) (row : Dt) (least most : Int) :
    w_cd_row_fault [.dat (.str part), .dat row, .dat (.int least), .dat (.int most)] = .ret (.dat (ftD (rowF part ok least most row))) := by
  rw [wd_cd_row_fault]
  cases row <;> simp only [t_cd_row_fault, rowF, ftD, xFld, fldK, asRf_rf, bd_rd, bx_rd, exS_rd, bd_wr, bx_wr, exS_wr, pIntB_b, xParW3, parW3a, parW3b, parW3c, dictW_c, pLtA_i, pSumT, pSumL, xwD, xwO, datK, ownK, capN, capC, ygT3c, opK2, opK, chK4, chK3, chK2, chK, unK, andK, orK, notK, andVK2, andVK, notVK2, notVK, ifVK, ifTK, consK2, consK, tupK, lstK, fzK, cbK, isiK, drpK, retK, ifSK, setK, setOK, nxK, asgK, parK, appK, wcK, wdK, callK, forK, lcK, raiseK, bodyX, startE, xSeq, sqF, xNext, xIfS, xRet, xSet, xSetO, xDrop, xAsg, ygT_t, ygsC, ygsN, ygN, xPar, xAppend, xFrz, xVar, xC, xOp, xUn, pNeg_i, xTest, asB_b, xAnd, xOr, xNot, xAndV, xNotV, xIf, xIfT, xChain, xNil, xCons, xTup, xLst, xFz, xCall, rOfT_d, rOfT_o, rOfT_c, rOwT_o, ywNil, ywDat, ywVar, xCB, xIsi, asI_i, xLenS, xFor, ziL, itT_t, itL_l, ziR1, ziET, enT_t, enL_l, xLc, noOwnB, wipeE, xYes, xRaise, pAdd_i, pAdd_t, pAdd_l, pSub_i, pLt_i, pLe_i, pGt_i, pGe_i, pIs_n, pIsNot_n, pIsB_b, pNotB_b, isN_n, isN_b, isN_i, isN_s, isN_t, isN_l, pIx_t, pIx_l, pLen_t, pLen_l, pMin2_i, pMax2_i, pAbs_i, pInt_i, pTuple_t, pTuple_l, pList_t, pList_l, pIadd_i, pSl_t, pSl_l, pEqI, pNeI, pEqS, pNeS, at0, at1, at2, at3, at4, at5, at6, at7, bx_ret, bx_exc, bx_fail, bd_ret, bd_exc, bd_fail, exS_ret, exS_exc, exS_fail, ofO_some, ofO_none, fnE, isi_T, isi_B, isi_I, isi_S, isi_L, sizeL, Option.bind_some, Option.map_some, Option.some.injEq, Int.reduceEq, Int.reduceLE, Int.reduceLT, Int.reduceNeg, Int.reduceAdd, Int.reduceSub, Int.reduceMul, decide_true, decide_false, decide_eq_true_eq, decide_not, eq_self, Int.cast_ofNat_Int, reduceCtorEq, List.length_cons, List.length_nil, List.map_cons, List.map_nil, List.replicate, List.cons_append, List.nil_append, List.append_nil, List.getElem?_cons_zero, List.getElem?_cons_succ, List.getElem?_nil, List.set_cons_zero, List.set_cons_succ, Nat.reduceAdd, Nat.reduceSub, Nat.reduceEqDiff, Nat.reduceLeDiff, Nat.reduceLT, Nat.zero_add, Nat.add_zero, true_and, and_true, false_and, and_false, Bool.not_true, Bool.not_false, Bool.true_and, Bool.and_true, Bool.false_and, Bool.and_false, Bool.or_false, Bool.false_or, Bool.or_true, Bool.true_or, Bool.not_eq_true', if_true, if_false, Bool.false_eq_true, Bool.not_eq_true, ↓reduceIte, ite_true, ite_false, Bool.true_eq_false, not_true_eq_false, not_false_eq_true, Nat.zero_le]
  next xs =>
  by_cases h : inR least xs.length most = true
  · obtain ⟨h1, h2⟩ := inR_true.mp h
    simp only [h, h1, h2, xFld, fldK, asRf_rf, bd_rd, bx_rd, exS_rd, bd_wr, bx_wr, exS_wr, pIntB_b, xParW3, parW3a, parW3b, parW3c, dictW_c, pLtA_i, pSumT, pSumL, xwD, xwO, datK, ownK, capN, capC, ygT3c, opK2, opK, chK4, chK3, chK2, chK, unK, andK, orK, notK, andVK2, andVK, notVK2, notVK, ifVK, ifTK, consK2, consK, tupK, lstK, fzK, cbK, isiK, drpK, retK, ifSK, setK, setOK, nxK, asgK, parK, appK, wcK, wdK, callK, forK, lcK, raiseK, bodyX, startE, xSeq, sqF, xNext, xIfS, xRet, xSet, xSetO, xDrop, xAsg, ygT_t, ygsC, ygsN, ygN, xPar, xAppend, xFrz, xVar, xC, xOp, xUn, pNeg_i, xTest, asB_b, xAnd, xOr, xNot, xAndV, xNotV, xIf, xIfT, xChain, xNil, xCons, xTup, xLst, xFz, xCall, rOfT_d, rOfT_o, rOfT_c, rOwT_o, ywNil, ywDat, ywVar, xCB, xIsi, asI_i, xLenS, xFor, ziL, itT_t, itL_l, ziR1, ziET, enT_t, enL_l, xLc, noOwnB, wipeE, xYes, xRaise, pAdd_i, pAdd_t, pAdd_l, pSub_i, pLt_i, pLe_i, pGt_i, pGe_i, pIs_n, pIsNot_n, pIsB_b, pNotB_b, isN_n, isN_b, isN_i, isN_s, isN_t, isN_l, pIx_t, pIx_l, pLen_t, pLen_l, pMin2_i, pMax2_i, pAbs_i, pInt_i, pTuple_t, pTuple_l, pList_t, pList_l, pIadd_i, pSl_t, pSl_l, pEqI, pNeI, pEqS, pNeS, at0, at1, at2, at3, at4, at5, at6, at7, bx_ret, bx_exc, bx_fail, bd_ret, bd_exc, bd_fail, exS_ret, exS_exc, exS_fail, ofO_some, ofO_none, fnE, isi_T, isi_B, isi_I, isi_S, isi_L, sizeL, Option.bind_some, Option.map_some, Option.some.injEq, Int.reduceEq, Int.reduceLE, Int.reduceLT, Int.reduceNeg, Int.reduceAdd, Int.reduceSub, Int.reduceMul, decide_true, decide_false, decide_eq_true_eq, decide_not, eq_self, Int.cast_ofNat_Int, reduceCtorEq, List.length_cons, List.length_nil, List.map_cons, List.map_nil, List.replicate, List.cons_append, List.nil_append, List.append_nil, List.getElem?_cons_zero, List.getElem?_cons_succ, List.getElem?_nil, List.set_cons_zero, List.set_cons_succ, Nat.reduceAdd, Nat.reduceSub, Nat.reduceEqDiff, Nat.reduceLeDiff, Nat.reduceLT, Nat.zero_add, Nat.add_zero, true_and, and_true, false_and, and_false, Bool.not_true, Bool.not_false, Bool.true_and, Bool.and_true, Bool.false_and, Bool.and_false, Bool.or_false, Bool.false_or, Bool.or_true, Bool.true_or, Bool.not_eq_true', if_true, if_false, Bool.false_eq_true, Bool.not_eq_true, ↓reduceIte, ite_true, ite_false, Bool.true_eq_false, not_true_eq_false, not_false_eq_true, Nat.zero_le]
    have key := for_first (g := ygT 2 (ygsC (ygN 4) (ygsC (ygN 5) ygsN))) (tb := b_cd_row_fault_0) (fun v : Option VL.W × Option VL.W => [some (.dat (.str part)), some (.dat (.tuple xs)), some (.dat (.int least)), some (.dat (.int most)), v.1, v.2])
      (fun q : Dt × Nat => PyData.tuple [.int (q.2 : Int), q.1]) (fun q => if (!ok q.1) = true then some (Fl.rt (.dat (.tuple [.str part, .int (q.2 : Int)]))) else none) xs.zipIdx (none, none) (fun v q hq => by
        obtain ⟨x, i⟩ := q
        have hx := hb x none none none none
        have e0 : PyData.eqv (.str part) (.str "steps") = (part == "steps") := by simp only [PyData.eqv]
        rw [e0] at hx
        unfold turnT b_cd_row_fault_0
        cases hp : (part == ("steps" : Str)) with
        | true =>
          rw [hp, if_pos rfl] at hx
          cases ho : ok x with
          | true => exact .inr ⟨by simp [ho], (some (.dat (.int (i : Int))), some (.dat x)), by simp only [hp, hx, ho, lpF, xFld, fldK, asRf_rf, bd_rd, bx_rd, exS_rd, bd_wr, bx_wr, exS_wr, pIntB_b, xParW3, parW3a, parW3b, parW3c, dictW_c, pLtA_i, pSumT, pSumL, xwD, xwO, datK, ownK, capN, capC, ygT3c, opK2, opK, chK4, chK3, chK2, chK, unK, andK, orK, notK, andVK2, andVK, notVK2, notVK, ifVK, ifTK, consK2, consK, tupK, lstK, fzK, cbK, isiK, drpK, retK, ifSK, setK, setOK, nxK, asgK, parK, appK, wcK, wdK, callK, forK, lcK, raiseK, bodyX, startE, xSeq, sqF, xNext, xIfS, xRet, xSet, xSetO, xDrop, xAsg, ygT_t, ygsC, ygsN, ygN, xPar, xAppend, xFrz, xVar, xC, xOp, xUn, pNeg_i, xTest, asB_b, xAnd, xOr, xNot, xAndV, xNotV, xIf, xIfT, xChain, xNil, xCons, xTup, xLst, xFz, xCall, rOfT_d, rOfT_o, rOfT_c, rOwT_o, ywNil, ywDat, ywVar, xCB, xIsi, asI_i, xLenS, xFor, ziL, itT_t, itL_l, ziR1, ziET, enT_t, enL_l, xLc, noOwnB, wipeE, xYes, xRaise, pAdd_i, pAdd_t, pAdd_l, pSub_i, pLt_i, pLe_i, pGt_i, pGe_i, pIs_n, pIsNot_n, pIsB_b, pNotB_b, isN_n, isN_b, isN_i, isN_s, isN_t, isN_l, pIx_t, pIx_l, pLen_t, pLen_l, pMin2_i, pMax2_i, pAbs_i, pInt_i, pTuple_t, pTuple_l, pList_t, pList_l, pIadd_i, pSl_t, pSl_l, pEqI, pNeI, pEqS, pNeS, at0, at1, at2, at3, at4, at5, at6, at7, bx_ret, bx_exc, bx_fail, bd_ret, bd_exc, bd_fail, exS_ret, exS_exc, exS_fail, ofO_some, ofO_none, fnE, isi_T, isi_B, isi_I, isi_S, isi_L, sizeL, Option.bind_some, Option.map_some, Option.some.injEq, Int.reduceEq, Int.reduceLE, Int.reduceLT, Int.reduceNeg, Int.reduceAdd, Int.reduceSub, Int.reduceMul, decide_true, decide_false, decide_eq_true_eq, decide_not, eq_self, Int.cast_ofNat_Int, reduceCtorEq, List.length_cons, List.length_nil, List.map_cons, List.map_nil, List.replicate, List.cons_append, List.nil_append, List.append_nil, List.getElem?_cons_zero, List.getElem?_cons_succ, List.getElem?_nil, List.set_cons_zero, List.set_cons_succ, Nat.reduceAdd, Nat.reduceSub, Nat.reduceEqDiff, Nat.reduceLeDiff, Nat.reduceLT, Nat.zero_add, Nat.add_zero, true_and, and_true, false_and, and_false, Bool.not_true, Bool.not_false, Bool.true_and, Bool.and_true, Bool.false_and, Bool.and_false, Bool.or_false, Bool.false_or, Bool.or_true, Bool.true_or, Bool.not_eq_true', if_true, if_false, Bool.false_eq_true, Bool.not_eq_true, ↓reduceIte, ite_true, ite_false, Bool.true_eq_false, not_true_eq_false, not_false_eq_true, Nat.zero_le]⟩
          | false => exact .inl ⟨.rt (.dat (.tuple [.str part, .int (i : Int)])), by simp [ho], fun ρ => by simp, by simp only [hp, hx, ho, lpF, xFld, fldK, asRf_rf, bd_rd, bx_rd, exS_rd, bd_wr, bx_wr, exS_wr, pIntB_b, xParW3, parW3a, parW3b, parW3c, dictW_c, pLtA_i, pSumT, pSumL, xwD, xwO, datK, ownK, capN, capC, ygT3c, opK2, opK, chK4, chK3, chK2, chK, unK, andK, orK, notK, andVK2, andVK, notVK2, notVK, ifVK, ifTK, consK2, consK, tupK, lstK, fzK, cbK, isiK, drpK, retK, ifSK, setK, setOK, nxK, asgK, parK, appK, wcK, wdK, callK, forK, lcK, raiseK, bodyX, startE, xSeq, sqF, xNext, xIfS, xRet, xSet, xSetO, xDrop, xAsg, ygT_t, ygsC, ygsN, ygN, xPar, xAppend, xFrz, xVar, xC, xOp, xUn, pNeg_i, xTest, asB_b, xAnd, xOr, xNot, xAndV, xNotV, xIf, xIfT, xChain, xNil, xCons, xTup, xLst, xFz, xCall, rOfT_d, rOfT_o, rOfT_c, rOwT_o, ywNil, ywDat, ywVar, xCB, xIsi, asI_i, xLenS, xFor, ziL, itT_t, itL_l, ziR1, ziET, enT_t, enL_l, xLc, noOwnB, wipeE, xYes, xRaise, pAdd_i, pAdd_t, pAdd_l, pSub_i, pLt_i, pLe_i, pGt_i, pGe_i, pIs_n, pIsNot_n, pIsB_b, pNotB_b, isN_n, isN_b, isN_i, isN_s, isN_t, isN_l, pIx_t, pIx_l, pLen_t, pLen_l, pMin2_i, pMax2_i, pAbs_i, pInt_i, pTuple_t, pTuple_l, pList_t, pList_l, pIadd_i, pSl_t, pSl_l, pEqI, pNeI, pEqS, pNeS, at0, at1, at2, at3, at4, at5, at6, at7, bx_ret, bx_exc, bx_fail, bd_ret, bd_exc, bd_fail, exS_ret, exS_exc, exS_fail, ofO_some, ofO_none, fnE, isi_T, isi_B, isi_I, isi_S, isi_L, sizeL, Option.bind_some, Option.map_some, Option.some.injEq, Int.reduceEq, Int.reduceLE, Int.reduceLT, Int.reduceNeg, Int.reduceAdd, Int.reduceSub, Int.reduceMul, decide_true, decide_false, decide_eq_true_eq, decide_not, eq_self, Int.cast_ofNat_Int, reduceCtorEq, List.length_cons, List.length_nil, List.map_cons, List.map_nil, List.replicate, List.cons_append, List.nil_append, List.append_nil, List.getElem?_cons_zero, List.getElem?_cons_succ, List.getElem?_nil, List.set_cons_zero, List.set_cons_succ, Nat.reduceAdd, Nat.reduceSub, Nat.reduceEqDiff, Nat.reduceLeDiff, Nat.reduceLT, Nat.zero_add, Nat.add_zero, true_and, and_true, false_and, and_false, Bool.not_true, Bool.not_false, Bool.true_and, Bool.and_true, Bool.false_and, Bool.and_false, Bool.or_false, Bool.false_or, Bool.or_true, Bool.true_or, Bool.not_eq_true', if_true, if_false, Bool.false_eq_true, Bool.not_eq_true, ↓reduceIte, ite_true, ite_false, Bool.true_eq_false, not_true_eq_false, not_false_eq_true, Nat.zero_le]⟩
        | false =>
          rw [hp, if_neg (by simp)] at hx
          cases ho : ok x with
          | true => exact .inr ⟨by simp [ho], (some (.dat (.int (i : Int))), some (.dat x)), by simp only [hp, hx, ho, lpF, xFld, fldK, asRf_rf, bd_rd, bx_rd, exS_rd, bd_wr, bx_wr, exS_wr, pIntB_b, xParW3, parW3a, parW3b, parW3c, dictW_c, pLtA_i, pSumT, pSumL, xwD, xwO, datK, ownK, capN, capC, ygT3c, opK2, opK, chK4, chK3, chK2, chK, unK, andK, orK, notK, andVK2, andVK, notVK2, notVK, ifVK, ifTK, consK2, consK, tupK, lstK, fzK, cbK, isiK, drpK, retK, ifSK, setK, setOK, nxK, asgK, parK, appK, wcK, wdK, callK, forK, lcK, raiseK, bodyX, startE, xSeq, sqF, xNext, xIfS, xRet, xSet, xSetO, xDrop, xAsg, ygT_t, ygsC, ygsN, ygN, xPar, xAppend, xFrz, xVar, xC, xOp, xUn, pNeg_i, xTest, asB_b, xAnd, xOr, xNot, xAndV, xNotV, xIf, xIfT, xChain, xNil, xCons, xTup, xLst, xFz, xCall, rOfT_d, rOfT_o, rOfT_c, rOwT_o, ywNil, ywDat, ywVar, xCB, xIsi, asI_i, xLenS, xFor, ziL, itT_t, itL_l, ziR1, ziET, enT_t, enL_l, xLc, noOwnB, wipeE, xYes, xRaise, pAdd_i, pAdd_t, pAdd_l, pSub_i, pLt_i, pLe_i, pGt_i, pGe_i, pIs_n, pIsNot_n, pIsB_b, pNotB_b, isN_n, isN_b, isN_i, isN_s, isN_t, isN_l, pIx_t, pIx_l, pLen_t, pLen_l, pMin2_i, pMax2_i, pAbs_i, pInt_i, pTuple_t, pTuple_l, pList_t, pList_l, pIadd_i, pSl_t, pSl_l, pEqI, pNeI, pEqS, pNeS, at0, at1, at2, at3, at4, at5, at6, at7, bx_ret, bx_exc, bx_fail, bd_ret, bd_exc, bd_fail, exS_ret, exS_exc, exS_fail, ofO_some, ofO_none, fnE, isi_T, isi_B, isi_I, isi_S, isi_L, sizeL, Option.bind_some, Option.map_some, Option.some.injEq, Int.reduceEq, Int.reduceLE, Int.reduceLT, Int.reduceNeg, Int.reduceAdd, Int.reduceSub, Int.reduceMul, decide_true, decide_false, decide_eq_true_eq, decide_not, eq_self, Int.cast_ofNat_Int, reduceCtorEq, List.length_cons, List.length_nil, List.map_cons, List.map_nil, List.replicate, List.cons_append, List.nil_append, List.append_nil, List.getElem?_cons_zero, List.getElem?_cons_succ, List.getElem?_nil, List.set_cons_zero, List.set_cons_succ, Nat.reduceAdd, Nat.reduceSub, Nat.reduceEqDiff, Nat.reduceLeDiff, Nat.reduceLT, Nat.zero_add, Nat.add_zero, true_and, and_true, false_and, and_false, Bool.not_true, Bool.not_false, Bool.true_and, Bool.and_true, Bool.false_and, Bool.and_false, Bool.or_false, Bool.false_or, Bool.or_true, Bool.true_or, Bool.not_eq_true', if_true, if_false, Bool.false_eq_true, Bool.not_eq_true, ↓reduceIte, ite_true, ite_false, Bool.true_eq_false, not_true_eq_false, not_false_eq_true, Nat.zero_le]⟩
          | false => exact .inl ⟨.rt (.dat (.tuple [.str part, .int (i : Int)])), by simp [ho], fun ρ => by simp, by simp only [hp, hx, ho, lpF, xFld, fldK, asRf_rf, bd_rd, bx_rd, exS_rd, bd_wr, bx_wr, exS_wr, pIntB_b, xParW3, parW3a, parW3b, parW3c, dictW_c, pLtA_i, pSumT, pSumL, xwD, xwO, datK, ownK, capN, capC, ygT3c, opK2, opK, chK4, chK3, chK2, chK, unK, andK, orK, notK, andVK2, andVK, notVK2, notVK, ifVK, ifTK, consK2, consK, tupK, lstK, fzK, cbK, isiK, drpK, retK, ifSK, setK, setOK, nxK, asgK, parK, appK, wcK, wdK, callK, forK, lcK, raiseK, bodyX, startE, xSeq, sqF, xNext, xIfS, xRet, xSet, xSetO, xDrop, xAsg, ygT_t, ygsC, ygsN, ygN, xPar, xAppend, xFrz, xVar, xC, xOp, xUn, pNeg_i, xTest, asB_b, xAnd, xOr, xNot, xAndV, xNotV, xIf, xIfT, xChain, xNil, xCons, xTup, xLst, xFz, xCall, rOfT_d, rOfT_o, rOfT_c, rOwT_o, ywNil, ywDat, ywVar, xCB, xIsi, asI_i, xLenS, xFor, ziL, itT_t, itL_l, ziR1, ziET, enT_t, enL_l, xLc, noOwnB, wipeE, xYes, xRaise, pAdd_i, pAdd_t, pAdd_l, pSub_i, pLt_i, pLe_i, pGt_i, pGe_i, pIs_n, pIsNot_n, pIsB_b, pNotB_b, isN_n, isN_b, isN_i, isN_s, isN_t, isN_l, pIx_t, pIx_l, pLen_t, pLen_l, pMin2_i, pMax2_i, pAbs_i, pInt_i, pTuple_t, pTuple_l, pList_t, pList_l, pIadd_i, pSl_t, pSl_l, pEqI, pNeI, pEqS, pNeS, at0, at1, at2, at3, at4, at5, at6, at7, bx_ret, bx_exc, bx_fail, bd_ret, bd_exc, bd_fail, exS_ret, exS_exc, exS_fail, ofO_some, ofO_none, fnE, isi_T, isi_B, isi_I, isi_S, isi_L, sizeL, Option.bind_some, Option.map_some, Option.some.injEq, Int.reduceEq, Int.reduceLE, Int.reduceLT, Int.reduceNeg, Int.reduceAdd, Int.reduceSub, Int.reduceMul, decide_true, decide_false, decide_eq_true_eq, decide_not, eq_self, Int.cast_ofNat_Int, reduceCtorEq, List.length_cons, List.length_nil, List.map_cons, List.map_nil, List.replicate, List.cons_append, List.nil_append, List.append_nil, List.getElem?_cons_zero, List.getElem?_cons_succ, List.getElem?_nil, List.set_cons_zero, List.set_cons_succ, Nat.reduceAdd, Nat.reduceSub, Nat.reduceEqDiff, Nat.reduceLeDiff, Nat.reduceLT, Nat.zero_add, Nat.add_zero, true_and, and_true, false_and, and_false, Bool.not_true, Bool.not_false, Bool.true_and, Bool.and_true, Bool.false_and, Bool.and_false, Bool.or_false, Bool.false_or, Bool.or_true, Bool.true_or, Bool.not_eq_true', if_true, if_false, Bool.false_eq_true, Bool.not_eq_true, ↓reduceIte, ite_true, ite_false, Bool.true_eq_false, not_true_eq_false, not_false_eq_true, Nat.zero_le]⟩)
    rw [enumD_zip]
    have fz := findSome_zip (fun x => !ok x) (fun i => Fl.rt (.dat (.tuple [.str part, .int (i : Int)]))) xs 0
    rcases key with ⟨f, e1, e2⟩ | ⟨e1, v', e2⟩
    · rw [e1] at fz
      cases hf : xs.findIdx? (fun x => !ok x) with
      | none => rw [hf] at fz; cases fz
      | some i =>
        rw [hf] at fz
        simp only [Option.map_some, Option.some.injEq, Nat.zero_add] at fz
        rw [e2, fz]
        simp only [ftD, xFld, fldK, asRf_rf, bd_rd, bx_rd, exS_rd, bd_wr, bx_wr, exS_wr, pIntB_b, xParW3, parW3a, parW3b, parW3c, dictW_c, pLtA_i, pSumT, pSumL, xwD, xwO, datK, ownK, capN, capC, ygT3c, opK2, opK, chK4, chK3, chK2, chK, unK, andK, orK, notK, andVK2, andVK, notVK2, notVK, ifVK, ifTK, consK2, consK, tupK, lstK, fzK, cbK, isiK, drpK, retK, ifSK, setK, setOK, nxK, asgK, parK, appK, wcK, wdK, callK, forK, lcK, raiseK, bodyX, startE, xSeq, sqF, xNext, xIfS, xRet, xSet, xSetO, xDrop, xAsg, ygT_t, ygsC, ygsN, ygN, xPar, xAppend, xFrz, xVar, xC, xOp, xUn, pNeg_i, xTest, asB_b, xAnd, xOr, xNot, xAndV, xNotV, xIf, xIfT, xChain, xNil, xCons, xTup, xLst, xFz, xCall, rOfT_d, rOfT_o, rOfT_c, rOwT_o, ywNil, ywDat, ywVar, xCB, xIsi, asI_i, xLenS, xFor, ziL, itT_t, itL_l, ziR1, ziET, enT_t, enL_l, xLc, noOwnB, wipeE, xYes, xRaise, pAdd_i, pAdd_t, pAdd_l, pSub_i, pLt_i, pLe_i, pGt_i, pGe_i, pIs_n, pIsNot_n, pIsB_b, pNotB_b, isN_n, isN_b, isN_i, isN_s, isN_t, isN_l, pIx_t, pIx_l, pLen_t, pLen_l, pMin2_i, pMax2_i, pAbs_i, pInt_i, pTuple_t, pTuple_l, pList_t, pList_l, pIadd_i, pSl_t, pSl_l, pEqI, pNeI, pEqS, pNeS, at0, at1, at2, at3, at4, at5, at6, at7, bx_ret, bx_exc, bx_fail, bd_ret, bd_exc, bd_fail, exS_ret, exS_exc, exS_fail, ofO_some, ofO_none, fnE, isi_T, isi_B, isi_I, isi_S, isi_L, sizeL, Option.bind_some, Option.map_some, Option.some.injEq, Int.reduceEq, Int.reduceLE, Int.reduceLT, Int.reduceNeg, Int.reduceAdd, Int.reduceSub, Int.reduceMul, decide_true, decide_false, decide_eq_true_eq, decide_not, eq_self, Int.cast_ofNat_Int, reduceCtorEq, List.length_cons, List.length_nil, List.map_cons, List.map_nil, List.replicate, List.cons_append, List.nil_append, List.append_nil, List.getElem?_cons_zero, List.getElem?_cons_succ, List.getElem?_nil, List.set_cons_zero, List.set_cons_succ, Nat.reduceAdd, Nat.reduceSub, Nat.reduceEqDiff, Nat.reduceLeDiff, Nat.reduceLT, Nat.zero_add, Nat.add_zero, true_and, and_true, false_and, and_false, Bool.not_true, Bool.not_false, Bool.true_and, Bool.and_true, Bool.false_and, Bool.and_false, Bool.or_false, Bool.false_or, Bool.or_true, Bool.true_or, Bool.not_eq_true', if_true, if_false, Bool.false_eq_true, Bool.not_eq_true, ↓reduceIte, ite_true, ite_false, Bool.true_eq_false, not_true_eq_false, not_false_eq_true, Nat.zero_le]
    · rw [e1] at fz
      cases hf : xs.findIdx? (fun x => !ok x) with
      | some i => rw [hf] at fz; cases fz
      | none =>
        rw [e2]
        simp only [ftD, Option.map_none, xFld, fldK, asRf_rf, bd_rd, bx_rd, exS_rd, bd_wr, bx_wr, exS_wr, pIntB_b, xParW3, parW3a, parW3b, parW3c, dictW_c, pLtA_i, pSumT, pSumL, xwD, xwO, datK, ownK, capN, capC, ygT3c, opK2, opK, chK4, chK3, chK2, chK, unK, andK, orK, notK, andVK2, andVK, notVK2, notVK, ifVK, ifTK, consK2, consK, tupK, lstK, fzK, cbK, isiK, drpK, retK, ifSK, setK, setOK, nxK, asgK, parK, appK, wcK, wdK, callK, forK, lcK, raiseK, bodyX, startE, xSeq, sqF, xNext, xIfS, xRet, xSet, xSetO, xDrop, xAsg, ygT_t, ygsC, ygsN, ygN, xPar, xAppend, xFrz, xVar, xC, xOp, xUn, pNeg_i, xTest, asB_b, xAnd, xOr, xNot, xAndV, xNotV, xIf, xIfT, xChain, xNil, xCons, xTup, xLst, xFz, xCall, rOfT_d, rOfT_o, rOfT_c, rOwT_o, ywNil, ywDat, ywVar, xCB, xIsi, asI_i, xLenS, xFor, ziL, itT_t, itL_l, ziR1, ziET, enT_t, enL_l, xLc, noOwnB, wipeE, xYes, xRaise, pAdd_i, pAdd_t, pAdd_l, pSub_i, pLt_i, pLe_i, pGt_i, pGe_i, pIs_n, pIsNot_n, pIsB_b, pNotB_b, isN_n, isN_b, isN_i, isN_s, isN_t, isN_l, pIx_t, pIx_l, pLen_t, pLen_l, pMin2_i, pMax2_i, pAbs_i, pInt_i, pTuple_t, pTuple_l, pList_t, pList_l, pIadd_i, pSl_t, pSl_l, pEqI, pNeI, pEqS, pNeS, at0, at1, at2, at3, at4, at5, at6, at7, bx_ret, bx_exc, bx_fail, bd_ret, bd_exc, bd_fail, exS_ret, exS_exc, exS_fail, ofO_some, ofO_none, fnE, isi_T, isi_B, isi_I, isi_S, isi_L, sizeL, Option.bind_some, Option.map_some, Option.some.injEq, Int.reduceEq, Int.reduceLE, Int.reduceLT, Int.reduceNeg, Int.reduceAdd, Int.reduceSub, Int.reduceMul, decide_true, decide_false, decide_eq_true_eq, decide_not, eq_self, Int.cast_ofNat_Int, reduceCtorEq, List.length_cons, List.length_nil, List.map_cons, List.map_nil, List.replicate, List.cons_append, List.nil_append, List.append_nil, List.getElem?_cons_zero, List.getElem?_cons_succ, List.getElem?_nil, List.set_cons_zero, List.set_cons_succ, Nat.reduceAdd, Nat.reduceSub, Nat.reduceEqDiff, Nat.reduceLeDiff, Nat.reduceLT, Nat.zero_add, Nat.add_zero, true_and, and_true, false_and, and_false, Bool.not_true, Bool.not_false, Bool.true_and, Bool.and_true, Bool.false_and, Bool.and_false, Bool.or_false, Bool.false_or, Bool.or_true, Bool.true_or, Bool.not_eq_true', if_true, if_false, Bool.false_eq_true, Bool.not_eq_true, ↓reduceIte, ite_true, ite_false, Bool.true_eq_false, not_true_eq_false, not_false_eq_true, Nat.zero_le]
  · rw [Bool.not_eq_true] at h
    simp only [h, ftD, xFld, fldK, asRf_rf, bd_rd, bx_rd, exS_rd, bd_wr, bx_wr, exS_wr, pIntB_b, xParW3, parW3a, parW3b, parW3c, dictW_c, pLtA_i, pSumT, pSumL, xwD, xwO, datK, ownK, capN, capC, ygT3c, opK2, opK, chK4, chK3, chK2, chK, unK, andK, orK, notK, andVK2, andVK, notVK2, notVK, ifVK, ifTK, consK2, consK, tupK, lstK, fzK, cbK, isiK, drpK, retK, ifSK, setK, setOK, nxK, asgK, parK, appK, wcK, wdK, callK, forK, lcK, raiseK, bodyX, startE, xSeq, sqF, xNext, xIfS, xRet, xSet, xSetO, xDrop, xAsg, ygT_t, ygsC, ygsN, ygN, xPar, xAppend, xFrz, xVar, xC, xOp, xUn, pNeg_i, xTest, asB_b, xAnd, xOr, xNot, xAndV, xNotV, xIf, xIfT, xChain, xNil, xCons, xTup, xLst, xFz, xCall, rOfT_d, rOfT_o, rOfT_c, rOwT_o, ywNil, ywDat, ywVar, xCB, xIsi, asI_i, xLenS, xFor, ziL, itT_t, itL_l, ziR1, ziET, enT_t, enL_l, xLc, noOwnB, wipeE, xYes, xRaise, pAdd_i, pAdd_t, pAdd_l, pSub_i, pLt_i, pLe_i, pGt_i, pGe_i, pIs_n, pIsNot_n, pIsB_b, pNotB_b, isN_n, isN_b, isN_i, isN_s, isN_t, isN_l, pIx_t, pIx_l, pLen_t, pLen_l, pMin2_i, pMax2_i, pAbs_i, pInt_i, pTuple_t, pTuple_l, pList_t, pList_l, pIadd_i, pSl_t, pSl_l, pEqI, pNeI, pEqS, pNeS, at0, at1, at2, at3, at4, at5, at6, at7, bx_ret, bx_exc, bx_fail, bd_ret, bd_exc, bd_fail, exS_ret, exS_exc, exS_fail, ofO_some, ofO_none, fnE, isi_T, isi_B, isi_I, isi_S, isi_L, sizeL, Option.bind_some, Option.map_some, Option.some.injEq, Int.reduceEq, Int.reduceLE, Int.reduceLT, Int.reduceNeg, Int.reduceAdd, Int.reduceSub, Int.reduceMul, decide_true, decide_false, decide_eq_true_eq, decide_not, eq_self, Int.cast_ofNat_Int, reduceCtorEq, List.length_cons, List.length_nil, List.map_cons, List.map_nil, List.replicate, List.cons_append, List.nil_append, List.append_nil, List.getElem?_cons_zero, List.getElem?_cons_succ, List.getElem?_nil, List.set_cons_zero, List.set_cons_succ, Nat.reduceAdd, Nat.reduceSub, Nat.reduceEqDiff, Nat.reduceLeDiff, Nat.reduceLT, Nat.zero_add, Nat.add_zero, true_and, and_true, false_and, and_false, Bool.not_true, Bool.not_false, Bool.true_and, Bool.and_true, Bool.false_and, Bool.and_false, Bool.or_false, Bool.false_or, Bool.or_true, Bool.true_or, Bool.not_eq_true', if_true, if_false, Bool.false_eq_true, Bool.not_eq_true, ↓reduceIte, ite_true, ite_false, Bool.true_eq_false, not_true_eq_false, not_false_eq_true, Nat.zero_le]
    by_cases h1 : least ≤ (xs.length : Int)
    · have h2 : ¬ (xs.length : Int) ≤ most := fun h2 => by rw [inR_of h1 h2] at h; cases h
      simp only [h1, h2, xFld, fldK, asRf_rf, bd_rd, bx_rd, exS_rd, bd_wr, bx_wr, exS_wr, pIntB_b, xParW3, parW3a, parW3b, parW3c, dictW_c, pLtA_i, pSumT, pSumL, xwD, xwO, datK, ownK, capN, capC, ygT3c, opK2, opK, chK4, chK3, chK2, chK, unK, andK, orK, notK, andVK2, andVK, notVK2, notVK, ifVK, ifTK, consK2, consK, tupK, lstK, fzK, cbK, isiK, drpK, retK, ifSK, setK, setOK, nxK, asgK, parK, appK, wcK, wdK, callK, forK, lcK, raiseK, bodyX, startE, xSeq, sqF, xNext, xIfS, xRet, xSet, xSetO, xDrop, xAsg, ygT_t, ygsC, ygsN, ygN, xPar, xAppend, xFrz, xVar, xC, xOp, xUn, pNeg_i, xTest, asB_b, xAnd, xOr, xNot, xAndV, xNotV, xIf, xIfT, xChain, xNil, xCons, xTup, xLst, xFz, xCall, rOfT_d, rOfT_o, rOfT_c, rOwT_o, ywNil, ywDat, ywVar, xCB, xIsi, asI_i, xLenS, xFor, ziL, itT_t, itL_l, ziR1, ziET, enT_t, enL_l, xLc, noOwnB, wipeE, xYes, xRaise, pAdd_i, pAdd_t, pAdd_l, pSub_i, pLt_i, pLe_i, pGt_i, pGe_i, pIs_n, pIsNot_n, pIsB_b, pNotB_b, isN_n, isN_b, isN_i, isN_s, isN_t, isN_l, pIx_t, pIx_l, pLen_t, pLen_l, pMin2_i, pMax2_i, pAbs_i, pInt_i, pTuple_t, pTuple_l, pList_t, pList_l, pIadd_i, pSl_t, pSl_l, pEqI, pNeI, pEqS, pNeS, at0, at1, at2, at3, at4, at5, at6, at7, bx_ret, bx_exc, bx_fail, bd_ret, bd_exc, bd_fail, exS_ret, exS_exc, exS_fail, ofO_some, ofO_none, fnE, isi_T, isi_B, isi_I, isi_S, isi_L, sizeL, Option.bind_some, Option.map_some, Option.some.injEq, Int.reduceEq, Int.reduceLE, Int.reduceLT, Int.reduceNeg, Int.reduceAdd, Int.reduceSub, Int.reduceMul, decide_true, decide_false, decide_eq_true_eq, decide_not, eq_self, Int.cast_ofNat_Int, reduceCtorEq, List.length_cons, List.length_nil, List.map_cons, List.map_nil, List.replicate, List.cons_append, List.nil_append, List.append_nil, List.getElem?_cons_zero, List.getElem?_cons_succ, List.getElem?_nil, List.set_cons_zero, List.set_cons_succ, Nat.reduceAdd, Nat.reduceSub, Nat.reduceEqDiff, Nat.reduceLeDiff, Nat.reduceLT, Nat.zero_add, Nat.add_zero, true_and, and_true, false_and, and_false, Bool.not_true, Bool.not_false, Bool.true_and, Bool.and_true, Bool.false_and, Bool.and_false, Bool.or_false, Bool.false_or, Bool.or_true, Bool.true_or, Bool.not_eq_true', if_true, if_false, Bool.false_eq_true, Bool.not_eq_true, ↓reduceIte, ite_true, ite_false, Bool.true_eq_false, not_true_eq_false, not_false_eq_true, Nat.zero_le]
    · simp only [h1, xFld, fldK, asRf_rf, bd_rd, bx_rd, exS_rd, bd_wr, bx_wr, exS_wr, pIntB_b, xParW3, parW3a, parW3b, parW3c, dictW_c, pLtA_i, pSumT, pSumL, xwD, xwO, datK, ownK, capN, capC, ygT3c, opK2, opK, chK4, chK3, chK2, chK, unK, andK, orK, notK, andVK2, andVK, notVK2, notVK, ifVK, ifTK, consK2, consK, tupK, lstK, fzK, cbK, isiK, drpK, retK, ifSK, setK, setOK, nxK, asgK, parK, appK, wcK, wdK, callK, forK, lcK, raiseK, bodyX, startE, xSeq, sqF, xNext, xIfS, xRet, xSet, xSetO, xDrop, xAsg, ygT_t, ygsC, ygsN, ygN, xPar, xAppend, xFrz, xVar, xC, xOp, xUn, pNeg_i, xTest, asB_b, xAnd, xOr, xNot, xAndV, xNotV, xIf, xIfT, xChain, xNil, xCons, xTup, xLst, xFz, xCall, rOfT_d, rOfT_o, rOfT_c, rOwT_o, ywNil, ywDat, ywVar, xCB, xIsi, asI_i, xLenS, xFor, ziL, itT_t, itL_l, ziR1, ziET, enT_t, enL_l, xLc, noOwnB, wipeE, xYes, xRaise, pAdd_i, pAdd_t, pAdd_l, pSub_i, pLt_i, pLe_i, pGt_i, pGe_i, pIs_n, pIsNot_n, pIsB_b, pNotB_b, isN_n, isN_b, isN_i, isN_s, isN_t, isN_l, pIx_t, pIx_l, pLen_t, pLen_l, pMin2_i, pMax2_i, pAbs_i, pInt_i, pTuple_t, pTuple_l, pList_t, pList_l, pIadd_i, pSl_t, pSl_l, pEqI, pNeI, pEqS, pNeS, at0, at1, at2, at3, at4, at5, at6, at7, bx_ret, bx_exc, bx_fail, bd_ret, bd_exc, bd_fail, exS_ret, exS_exc, exS_fail, ofO_some, ofO_none, fnE, isi_T, isi_B, isi_I, isi_S, isi_L, sizeL, Option.bind_some, Option.map_some, Option.some.injEq, Int.reduceEq, Int.reduceLE, Int.reduceLT, Int.reduceNeg, Int.reduceAdd, Int.reduceSub, Int.reduceMul, decide_true, decide_false, decide_eq_true_eq, decide_not, eq_self, Int.cast_ofNat_Int, reduceCtorEq, List.length_cons, List.length_nil, List.map_cons, List.map_nil, List.replicate, List.cons_append, List.nil_append, List.append_nil, List.getElem?_cons_zero, List.getElem?_cons_succ, List.getElem?_nil, List.set_cons_zero, List.set_cons_succ, Nat.reduceAdd, Nat.reduceSub, Nat.reduceEqDiff, Nat.reduceLeDiff, Nat.reduceLT, Nat.zero_add, Nat.add_zero, true_and, and_true, false_and, and_false, Bool.not_true, Bool.not_false, Bool.true_and, Bool.and_true, Bool.false_and, Bool.and_false, Bool.or_false, Bool.false_or, Bool.or_true, Bool.true_or, Bool.not_eq_true', if_true, if_false, Bool.false_eq_true, Bool.not_eq_true, ↓reduceIte, ite_true, ite_false, Bool.true_eq_false, not_true_eq_false, not_false_eq_true, Nat.zero_le]
theorem r_rowS (row : Dt) : w_cd_row_fault [.dat (.str "steps"), .dat row, .dat (.int 1), .dat (.int 16)] = .ret (.dat (ftD (rowF "steps" (fun d => wh d 1 9999) 1 16 row))) :=
  r_rowF _ _ (fun x _ _ _ _ => by
    have e : PyData.eqv (.str "steps") (.str "steps") = true := by simp only [PyData.eqv]; decide +kernel
    rw [e, if_pos rfl, r_whole]) row 1 16
theorem r_rowM (row : Dt) : w_cd_row_fault [.dat (.str "moves"), .dat row, .dat (.int 2), .dat (.int 16)] = .ret (.dat (ftD (rowF "moves" mvB 2 16 row))) :=
  r_rowF _ _ (fun x _ _ _ _ => by
    have e : PyData.eqv (.str "moves") (.str "steps") = false := by simp only [PyData.eqv]; decide +kernel
    rw [e, if_neg (by simp), r_move]) row 2 16
/-- the fault of a thing that is no coder -/
def cf (d : Dt) : Option (Str × Dt) := match d with
  | .tuple [low, high, steps, moves, fade] =>
    if wh low (-32768) 0 = true then
      if wh high 0 32767 = true then
        match rowF "steps" (fun d => wh d 1 9999) 1 16 steps with
        | some f => some f
        | none => match rowF "moves" mvB 2 16 moves with
          | some f => some f
          | none => if (wh fade 2 99 || wh fade 0 0) = true then none else some ("fade", .none)
      else some ("high", .none)
    else some ("low", .none)
  | _ => some ("form", .none)
theorem r_fault (d : Dt) : w_coder_fault [.dat d] = .ret (.dat (ftD (cf d))) := by
  rw [wd_coder_fault]
  cases d <;> simp only [t_coder_fault, cf, ftD, xFld, fldK, asRf_rf, bd_rd, bx_rd, exS_rd, bd_wr, bx_wr, exS_wr, pIntB_b, xParW3, parW3a, parW3b, parW3c, dictW_c, pLtA_i, pSumT, pSumL, xwD, xwO, datK, ownK, capN, capC, ygT3c, opK2, opK, chK4, chK3, chK2, chK, unK, andK, orK, notK, andVK2, andVK, notVK2, notVK, ifVK, ifTK, consK2, consK, tupK, lstK, fzK, cbK, isiK, drpK, retK, ifSK, setK, setOK, nxK, asgK, parK, appK, wcK, wdK, callK, forK, lcK, raiseK, bodyX, startE, xSeq, sqF, xNext, xIfS, xRet, xSet, xSetO, xDrop, xAsg, ygT_t, ygsC, ygsN, ygN, xPar, xAppend, xFrz, xVar, xC, xOp, xUn, pNeg_i, xTest, asB_b, xAnd, xOr, xNot, xAndV, xNotV, xIf, xIfT, xChain, xNil, xCons, xTup, xLst, xFz, xCall, rOfT_d, rOfT_o, rOfT_c, rOwT_o, ywNil, ywDat, ywVar, xCB, xIsi, asI_i, xLenS, xFor, ziL, itT_t, itL_l, ziR1, ziET, enT_t, enL_l, xLc, noOwnB, wipeE, xYes, xRaise, pAdd_i, pAdd_t, pAdd_l, pSub_i, pLt_i, pLe_i, pGt_i, pGe_i, pIs_n, pIsNot_n, pIsB_b, pNotB_b, isN_n, isN_b, isN_i, isN_s, isN_t, isN_l, pIx_t, pIx_l, pLen_t, pLen_l, pMin2_i, pMax2_i, pAbs_i, pInt_i, pTuple_t, pTuple_l, pList_t, pList_l, pIadd_i, pSl_t, pSl_l, pEqI, pNeI, pEqS, pNeS, at0, at1, at2, at3, at4, at5, at6, at7, bx_ret, bx_exc, bx_fail, bd_ret, bd_exc, bd_fail, exS_ret, exS_exc, exS_fail, ofO_some, ofO_none, fnE, isi_T, isi_B, isi_I, isi_S, isi_L, sizeL, Option.bind_some, Option.map_some, Option.some.injEq, Int.reduceEq, Int.reduceLE, Int.reduceLT, Int.reduceNeg, Int.reduceAdd, Int.reduceSub, Int.reduceMul, decide_true, decide_false, decide_eq_true_eq, decide_not, eq_self, Int.cast_ofNat_Int, reduceCtorEq, List.length_cons, List.length_nil, List.map_cons, List.map_nil, List.replicate, List.cons_append, List.nil_append, List.append_nil, List.getElem?_cons_zero, List.getElem?_cons_succ, List.getElem?_nil, List.set_cons_zero, List.set_cons_succ, Nat.reduceAdd, Nat.reduceSub, Nat.reduceEqDiff, Nat.reduceLeDiff, Nat.reduceLT, Nat.zero_add, Nat.add_zero, true_and, and_true, false_and, and_false, Bool.not_true, Bool.not_false, Bool.true_and, Bool.and_true, Bool.false_and, Bool.and_false, Bool.or_false, Bool.false_or, Bool.or_true, Bool.true_or, Bool.not_eq_true', if_true, if_false, Bool.false_eq_true, Bool.not_eq_true, ↓reduceIte, ite_true, ite_false, Bool.true_eq_false, not_true_eq_false, not_false_eq_true, Nat.zero_le]
  next ds =>
  match ds with
  | [] => simp only [cf, ftD, xFld, fldK, asRf_rf, bd_rd, bx_rd, exS_rd, bd_wr, bx_wr, exS_wr, pIntB_b, xParW3, parW3a, parW3b, parW3c, dictW_c, pLtA_i, pSumT, pSumL, xwD, xwO, datK, ownK, capN, capC, ygT3c, opK2, opK, chK4, chK3, chK2, chK, unK, andK, orK, notK, andVK2, andVK, notVK2, notVK, ifVK, ifTK, consK2, consK, tupK, lstK, fzK, cbK, isiK, drpK, retK, ifSK, setK, setOK, nxK, asgK, parK, appK, wcK, wdK, callK, forK, lcK, raiseK, bodyX, startE, xSeq, sqF, xNext, xIfS, xRet, xSet, xSetO, xDrop, xAsg, ygT_t, ygsC, ygsN, ygN, xPar, xAppend, xFrz, xVar, xC, xOp, xUn, pNeg_i, xTest, asB_b, xAnd, xOr, xNot, xAndV, xNotV, xIf, xIfT, xChain, xNil, xCons, xTup, xLst, xFz, xCall, rOfT_d, rOfT_o, rOfT_c, rOwT_o, ywNil, ywDat, ywVar, xCB, xIsi, asI_i, xLenS, xFor, ziL, itT_t, itL_l, ziR1, ziET, enT_t, enL_l, xLc, noOwnB, wipeE, xYes, xRaise, pAdd_i, pAdd_t, pAdd_l, pSub_i, pLt_i, pLe_i, pGt_i, pGe_i, pIs_n, pIsNot_n, pIsB_b, pNotB_b, isN_n, isN_b, isN_i, isN_s, isN_t, isN_l, pIx_t, pIx_l, pLen_t, pLen_l, pMin2_i, pMax2_i, pAbs_i, pInt_i, pTuple_t, pTuple_l, pList_t, pList_l, pIadd_i, pSl_t, pSl_l, pEqI, pNeI, pEqS, pNeS, at0, at1, at2, at3, at4, at5, at6, at7, bx_ret, bx_exc, bx_fail, bd_ret, bd_exc, bd_fail, exS_ret, exS_exc, exS_fail, ofO_some, ofO_none, fnE, isi_T, isi_B, isi_I, isi_S, isi_L, sizeL, Option.bind_some, Option.map_some, Option.some.injEq, Int.reduceEq, Int.reduceLE, Int.reduceLT, Int.reduceNeg, Int.reduceAdd, Int.reduceSub, Int.reduceMul, decide_true, decide_false, decide_eq_true_eq, decide_not, eq_self, Int.cast_ofNat_Int, reduceCtorEq, List.length_cons, List.length_nil, List.map_cons, List.map_nil, List.replicate, List.cons_append, List.nil_append, List.append_nil, List.getElem?_cons_zero, List.getElem?_cons_succ, List.getElem?_nil, List.set_cons_zero, List.set_cons_succ, Nat.reduceAdd, Nat.reduceSub, Nat.reduceEqDiff, Nat.reduceLeDiff, Nat.reduceLT, Nat.zero_add, Nat.add_zero, true_and, and_true, false_and, and_false, Bool.not_true, Bool.not_false, Bool.true_and, Bool.and_true, Bool.false_and, Bool.and_false, Bool.or_false, Bool.false_or, Bool.or_true, Bool.true_or, Bool.not_eq_true', if_true, if_false, Bool.false_eq_true, Bool.not_eq_true, ↓reduceIte, ite_true, ite_false, Bool.true_eq_false, not_true_eq_false, not_false_eq_true, Nat.zero_le]
  | [_] => simp only [cf, ftD, xFld, fldK, asRf_rf, bd_rd, bx_rd, exS_rd, bd_wr, bx_wr, exS_wr, pIntB_b, xParW3, parW3a, parW3b, parW3c, dictW_c, pLtA_i, pSumT, pSumL, xwD, xwO, datK, ownK, capN, capC, ygT3c, opK2, opK, chK4, chK3, chK2, chK, unK, andK, orK, notK, andVK2, andVK, notVK2, notVK, ifVK, ifTK, consK2, consK, tupK, lstK, fzK, cbK, isiK, drpK, retK, ifSK, setK, setOK, nxK, asgK, parK, appK, wcK, wdK, callK, forK, lcK, raiseK, bodyX, startE, xSeq, sqF, xNext, xIfS, xRet, xSet, xSetO, xDrop, xAsg, ygT_t, ygsC, ygsN, ygN, xPar, xAppend, xFrz, xVar, xC, xOp, xUn, pNeg_i, xTest, asB_b, xAnd, xOr, xNot, xAndV, xNotV, xIf, xIfT, xChain, xNil, xCons, xTup, xLst, xFz, xCall, rOfT_d, rOfT_o, rOfT_c, rOwT_o, ywNil, ywDat, ywVar, xCB, xIsi, asI_i, xLenS, xFor, ziL, itT_t, itL_l, ziR1, ziET, enT_t, enL_l, xLc, noOwnB, wipeE, xYes, xRaise, pAdd_i, pAdd_t, pAdd_l, pSub_i, pLt_i, pLe_i, pGt_i, pGe_i, pIs_n, pIsNot_n, pIsB_b, pNotB_b, isN_n, isN_b, isN_i, isN_s, isN_t, isN_l, pIx_t, pIx_l, pLen_t, pLen_l, pMin2_i, pMax2_i, pAbs_i, pInt_i, pTuple_t, pTuple_l, pList_t, pList_l, pIadd_i, pSl_t, pSl_l, pEqI, pNeI, pEqS, pNeS, at0, at1, at2, at3, at4, at5, at6, at7, bx_ret, bx_exc, bx_fail, bd_ret, bd_exc, bd_fail, exS_ret, exS_exc, exS_fail, ofO_some, ofO_none, fnE, isi_T, isi_B, isi_I, isi_S, isi_L, sizeL, Option.bind_some, Option.map_some, Option.some.injEq, Int.reduceEq, Int.reduceLE, Int.reduceLT, Int.reduceNeg, Int.reduceAdd, Int.reduceSub, Int.reduceMul, decide_true, decide_false, decide_eq_true_eq, decide_not, eq_self, Int.cast_ofNat_Int, reduceCtorEq, List.length_cons, List.length_nil, List.map_cons, List.map_nil, List.replicate, List.cons_append, List.nil_append, List.append_nil, List.getElem?_cons_zero, List.getElem?_cons_succ, List.getElem?_nil, List.set_cons_zero, List.set_cons_succ, Nat.reduceAdd, Nat.reduceSub, Nat.reduceEqDiff, Nat.reduceLeDiff, Nat.reduceLT, Nat.zero_add, Nat.add_zero, true_and, and_true, false_and, and_false, Bool.not_true, Bool.not_false, Bool.true_and, Bool.and_true, Bool.false_and, Bool.and_false, Bool.or_false, Bool.false_or, Bool.or_true, Bool.true_or, Bool.not_eq_true', if_true, if_false, Bool.false_eq_true, Bool.not_eq_true, ↓reduceIte, ite_true, ite_false, Bool.true_eq_false, not_true_eq_false, not_false_eq_true, Nat.zero_le]
  | [_, _] => simp only [cf, ftD, xFld, fldK, asRf_rf, bd_rd, bx_rd, exS_rd, bd_wr, bx_wr, exS_wr, pIntB_b, xParW3, parW3a, parW3b, parW3c, dictW_c, pLtA_i, pSumT, pSumL, xwD, xwO, datK, ownK, capN, capC, ygT3c, opK2, opK, chK4, chK3, chK2, chK, unK, andK, orK, notK, andVK2, andVK, notVK2, notVK, ifVK, ifTK, consK2, consK, tupK, lstK, fzK, cbK, isiK, drpK, retK, ifSK, setK, setOK, nxK, asgK, parK, appK, wcK, wdK, callK, forK, lcK, raiseK, bodyX, startE, xSeq, sqF, xNext, xIfS, xRet, xSet, xSetO, xDrop, xAsg, ygT_t, ygsC, ygsN, ygN, xPar, xAppend, xFrz, xVar, xC, xOp, xUn, pNeg_i, xTest, asB_b, xAnd, xOr, xNot, xAndV, xNotV, xIf, xIfT, xChain, xNil, xCons, xTup, xLst, xFz, xCall, rOfT_d, rOfT_o, rOfT_c, rOwT_o, ywNil, ywDat, ywVar, xCB, xIsi, asI_i, xLenS, xFor, ziL, itT_t, itL_l, ziR1, ziET, enT_t, enL_l, xLc, noOwnB, wipeE, xYes, xRaise, pAdd_i, pAdd_t, pAdd_l, pSub_i, pLt_i, pLe_i, pGt_i, pGe_i, pIs_n, pIsNot_n, pIsB_b, pNotB_b, isN_n, isN_b, isN_i, isN_s, isN_t, isN_l, pIx_t, pIx_l, pLen_t, pLen_l, pMin2_i, pMax2_i, pAbs_i, pInt_i, pTuple_t, pTuple_l, pList_t, pList_l, pIadd_i, pSl_t, pSl_l, pEqI, pNeI, pEqS, pNeS, at0, at1, at2, at3, at4, at5, at6, at7, bx_ret, bx_exc, bx_fail, bd_ret, bd_exc, bd_fail, exS_ret, exS_exc, exS_fail, ofO_some, ofO_none, fnE, isi_T, isi_B, isi_I, isi_S, isi_L, sizeL, Option.bind_some, Option.map_some, Option.some.injEq, Int.reduceEq, Int.reduceLE, Int.reduceLT, Int.reduceNeg, Int.reduceAdd, Int.reduceSub, Int.reduceMul, decide_true, decide_false, decide_eq_true_eq, decide_not, eq_self, Int.cast_ofNat_Int, reduceCtorEq, List.length_cons, List.length_nil, List.map_cons, List.map_nil, List.replicate, List.cons_append, List.nil_append, List.append_nil, List.getElem?_cons_zero, List.getElem?_cons_succ, List.getElem?_nil, List.set_cons_zero, List.set_cons_succ, Nat.reduceAdd, Nat.reduceSub, Nat.reduceEqDiff, Nat.reduceLeDiff, Nat.reduceLT, Nat.zero_add, Nat.add_zero, true_and, and_true, false_and, and_false, Bool.not_true, Bool.not_false, Bool.true_and, Bool.and_true, Bool.false_and, Bool.and_false, Bool.or_false, Bool.false_or, Bool.or_true, Bool.true_or, Bool.not_eq_true', if_true, if_false, Bool.false_eq_true, Bool.not_eq_true, ↓reduceIte, ite_true, ite_false, Bool.true_eq_false, not_true_eq_false, not_false_eq_true, Nat.zero_le]
  | [_, _, _] => simp only [cf, ftD, xFld, fldK, asRf_rf, bd_rd, bx_rd, exS_rd, bd_wr, bx_wr, exS_wr, pIntB_b, xParW3, parW3a, parW3b, parW3c, dictW_c, pLtA_i, pSumT, pSumL, xwD, xwO, datK, ownK, capN, capC, ygT3c, opK2, opK, chK4, chK3, chK2, chK, unK, andK, orK, notK, andVK2, andVK, notVK2, notVK, ifVK, ifTK, consK2, consK, tupK, lstK, fzK, cbK, isiK, drpK, retK, ifSK, setK, setOK, nxK, asgK, parK, appK, wcK, wdK, callK, forK, lcK, raiseK, bodyX, startE, xSeq, sqF, xNext, xIfS, xRet, xSet, xSetO, xDrop, xAsg, ygT_t, ygsC, ygsN, ygN, xPar, xAppend, xFrz, xVar, xC, xOp, xUn, pNeg_i, xTest, asB_b, xAnd, xOr, xNot, xAndV, xNotV, xIf, xIfT, xChain, xNil, xCons, xTup, xLst, xFz, xCall, rOfT_d, rOfT_o, rOfT_c, rOwT_o, ywNil, ywDat, ywVar, xCB, xIsi, asI_i, xLenS, xFor, ziL, itT_t, itL_l, ziR1, ziET, enT_t, enL_l, xLc, noOwnB, wipeE, xYes, xRaise, pAdd_i, pAdd_t, pAdd_l, pSub_i, pLt_i, pLe_i, pGt_i, pGe_i, pIs_n, pIsNot_n, pIsB_b, pNotB_b, isN_n, isN_b, isN_i, isN_s, isN_t, isN_l, pIx_t, pIx_l, pLen_t, pLen_l, pMin2_i, pMax2_i, pAbs_i, pInt_i, pTuple_t, pTuple_l, pList_t, pList_l, pIadd_i, pSl_t, pSl_l, pEqI, pNeI, pEqS, pNeS, at0, at1, at2, at3, at4, at5, at6, at7, bx_ret, bx_exc, bx_fail, bd_ret, bd_exc, bd_fail, exS_ret, exS_exc, exS_fail, ofO_some, ofO_none, fnE, isi_T, isi_B, isi_I, isi_S, isi_L, sizeL, Option.bind_some, Option.map_some, Option.some.injEq, Int.reduceEq, Int.reduceLE, Int.reduceLT, Int.reduceNeg, Int.reduceAdd, Int.reduceSub, Int.reduceMul, decide_true, decide_false, decide_eq_true_eq, decide_not, eq_self, Int.cast_ofNat_Int, reduceCtorEq, List.length_cons, List.length_nil, List.map_cons, List.map_nil, List.replicate, List.cons_append, List.nil_append, List.append_nil, List.getElem?_cons_zero, List.getElem?_cons_succ, List.getElem?_nil, List.set_cons_zero, List.set_cons_succ, Nat.reduceAdd, Nat.reduceSub, Nat.reduceEqDiff, Nat.reduceLeDiff, Nat.reduceLT, Nat.zero_add, Nat.add_zero, true_and, and_true, false_and, and_false, Bool.not_true, Bool.not_false, Bool.true_and, Bool.and_true, Bool.false_and, Bool.and_false, Bool.or_false, Bool.false_or, Bool.or_true, Bool.true_or, Bool.not_eq_true', if_true, if_false, Bool.false_eq_true, Bool.not_eq_true, ↓reduceIte, ite_true, ite_false, Bool.true_eq_false, not_true_eq_false, not_false_eq_true, Nat.zero_le]
  | [_, _, _, _] => simp only [cf, ftD, xFld, fldK, asRf_rf, bd_rd, bx_rd, exS_rd, bd_wr, bx_wr, exS_wr, pIntB_b, xParW3, parW3a, parW3b, parW3c, dictW_c, pLtA_i, pSumT, pSumL, xwD, xwO, datK, ownK, capN, capC, ygT3c, opK2, opK, chK4, chK3, chK2, chK, unK, andK, orK, notK, andVK2, andVK, notVK2, notVK, ifVK, ifTK, consK2, consK, tupK, lstK, fzK, cbK, isiK, drpK, retK, ifSK, setK, setOK, nxK, asgK, parK, appK, wcK, wdK, callK, forK, lcK, raiseK, bodyX, startE, xSeq, sqF, xNext, xIfS, xRet, xSet, xSetO, xDrop, xAsg, ygT_t, ygsC, ygsN, ygN, xPar, xAppend, xFrz, xVar, xC, xOp, xUn, pNeg_i, xTest, asB_b, xAnd, xOr, xNot, xAndV, xNotV, xIf, xIfT, xChain, xNil, xCons, xTup, xLst, xFz, xCall, rOfT_d, rOfT_o, rOfT_c, rOwT_o, ywNil, ywDat, ywVar, xCB, xIsi, asI_i, xLenS, xFor, ziL, itT_t, itL_l, ziR1, ziET, enT_t, enL_l, xLc, noOwnB, wipeE, xYes, xRaise, pAdd_i, pAdd_t, pAdd_l, pSub_i, pLt_i, pLe_i, pGt_i, pGe_i, pIs_n, pIsNot_n, pIsB_b, pNotB_b, isN_n, isN_b, isN_i, isN_s, isN_t, isN_l, pIx_t, pIx_l, pLen_t, pLen_l, pMin2_i, pMax2_i, pAbs_i, pInt_i, pTuple_t, pTuple_l, pList_t, pList_l, pIadd_i, pSl_t, pSl_l, pEqI, pNeI, pEqS, pNeS, at0, at1, at2, at3, at4, at5, at6, at7, bx_ret, bx_exc, bx_fail, bd_ret, bd_exc, bd_fail, exS_ret, exS_exc, exS_fail, ofO_some, ofO_none, fnE, isi_T, isi_B, isi_I, isi_S, isi_L, sizeL, Option.bind_some, Option.map_some, Option.some.injEq, Int.reduceEq, Int.reduceLE, Int.reduceLT, Int.reduceNeg, Int.reduceAdd, Int.reduceSub, Int.reduceMul, decide_true, decide_false, decide_eq_true_eq, decide_not, eq_self, Int.cast_ofNat_Int, reduceCtorEq, List.length_cons, List.length_nil, List.map_cons, List.map_nil, List.replicate, List.cons_append, List.nil_append, List.append_nil, List.getElem?_cons_zero, List.getElem?_cons_succ, List.getElem?_nil, List.set_cons_zero, List.set_cons_succ, Nat.reduceAdd, Nat.reduceSub, Nat.reduceEqDiff, Nat.reduceLeDiff, Nat.reduceLT, Nat.zero_add, Nat.add_zero, true_and, and_true, false_and, and_false, Bool.not_true, Bool.not_false, Bool.true_and, Bool.and_true, Bool.false_and, Bool.and_false, Bool.or_false, Bool.false_or, Bool.or_true, Bool.true_or, Bool.not_eq_true', if_true, if_false, Bool.false_eq_true, Bool.not_eq_true, ↓reduceIte, ite_true, ite_false, Bool.true_eq_false, not_true_eq_false, not_false_eq_true, Nat.zero_le]
  | _ :: _ :: _ :: _ :: _ :: _ :: r =>
    have e : ¬ (((r.length + 1 + 1 + 1 + 1 + 1 + 1 : Nat) : Int) = 5) := by omega
    simp only [cf, ftD, e, xFld, fldK, asRf_rf, bd_rd, bx_rd, exS_rd, bd_wr, bx_wr, exS_wr, pIntB_b, xParW3, parW3a, parW3b, parW3c, dictW_c, pLtA_i, pSumT, pSumL, xwD, xwO, datK, ownK, capN, capC, ygT3c, opK2, opK, chK4, chK3, chK2, chK, unK, andK, orK, notK, andVK2, andVK, notVK2, notVK, ifVK, ifTK, consK2, consK, tupK, lstK, fzK, cbK, isiK, drpK, retK, ifSK, setK, setOK, nxK, asgK, parK, appK, wcK, wdK, callK, forK, lcK, raiseK, bodyX, startE, xSeq, sqF, xNext, xIfS, xRet, xSet, xSetO, xDrop, xAsg, ygT_t, ygsC, ygsN, ygN, xPar, xAppend, xFrz, xVar, xC, xOp, xUn, pNeg_i, xTest, asB_b, xAnd, xOr, xNot, xAndV, xNotV, xIf, xIfT, xChain, xNil, xCons, xTup, xLst, xFz, xCall, rOfT_d, rOfT_o, rOfT_c, rOwT_o, ywNil, ywDat, ywVar, xCB, xIsi, asI_i, xLenS, xFor, ziL, itT_t, itL_l, ziR1, ziET, enT_t, enL_l, xLc, noOwnB, wipeE, xYes, xRaise, pAdd_i, pAdd_t, pAdd_l, pSub_i, pLt_i, pLe_i, pGt_i, pGe_i, pIs_n, pIsNot_n, pIsB_b, pNotB_b, isN_n, isN_b, isN_i, isN_s, isN_t, isN_l, pIx_t, pIx_l, pLen_t, pLen_l, pMin2_i, pMax2_i, pAbs_i, pInt_i, pTuple_t, pTuple_l, pList_t, pList_l, pIadd_i, pSl_t, pSl_l, pEqI, pNeI, pEqS, pNeS, at0, at1, at2, at3, at4, at5, at6, at7, bx_ret, bx_exc, bx_fail, bd_ret, bd_exc, bd_fail, exS_ret, exS_exc, exS_fail, ofO_some, ofO_none, fnE, isi_T, isi_B, isi_I, isi_S, isi_L, sizeL, Option.bind_some, Option.map_some, Option.some.injEq, Int.reduceEq, Int.reduceLE, Int.reduceLT, Int.reduceNeg, Int.reduceAdd, Int.reduceSub, Int.reduceMul, decide_true, decide_false, decide_eq_true_eq, decide_not, eq_self, Int.cast_ofNat_Int, reduceCtorEq, List.length_cons, List.length_nil, List.map_cons, List.map_nil, List.replicate, List.cons_append, List.nil_append, List.append_nil, List.getElem?_cons_zero, List.getElem?_cons_succ, List.getElem?_nil, List.set_cons_zero, List.set_cons_succ, Nat.reduceAdd, Nat.reduceSub, Nat.reduceEqDiff, Nat.reduceLeDiff, Nat.reduceLT, Nat.zero_add, Nat.add_zero, true_and, and_true, false_and, and_false, Bool.not_true, Bool.not_false, Bool.true_and, Bool.and_true, Bool.false_and, Bool.and_false, Bool.or_false, Bool.false_or, Bool.or_true, Bool.true_or, Bool.not_eq_true', if_true, if_false, Bool.false_eq_true, Bool.not_eq_true, ↓reduceIte, ite_true, ite_false, Bool.true_eq_false, not_true_eq_false, not_false_eq_true, Nat.zero_le]
  | [low, high, steps, moves, fade] =>
    simp only [cf, r_whole, r_rowS, xFld, fldK, asRf_rf, bd_rd, bx_rd, exS_rd, bd_wr, bx_wr, exS_wr, pIntB_b, xParW3, parW3a, parW3b, parW3c, dictW_c, pLtA_i, pSumT, pSumL, xwD, xwO, datK, ownK, capN, capC, ygT3c, opK2, opK, chK4, chK3, chK2, chK, unK, andK, orK, notK, andVK2, andVK, notVK2, notVK, ifVK, ifTK, consK2, consK, tupK, lstK, fzK, cbK, isiK, drpK, retK, ifSK, setK, setOK, nxK, asgK, parK, appK, wcK, wdK, callK, forK, lcK, raiseK, bodyX, startE, xSeq, sqF, xNext, xIfS, xRet, xSet, xSetO, xDrop, xAsg, ygT_t, ygsC, ygsN, ygN, xPar, xAppend, xFrz, xVar, xC, xOp, xUn, pNeg_i, xTest, asB_b, xAnd, xOr, xNot, xAndV, xNotV, xIf, xIfT, xChain, xNil, xCons, xTup, xLst, xFz, xCall, rOfT_d, rOfT_o, rOfT_c, rOwT_o, ywNil, ywDat, ywVar, xCB, xIsi, asI_i, xLenS, xFor, ziL, itT_t, itL_l, ziR1, ziET, enT_t, enL_l, xLc, noOwnB, wipeE, xYes, xRaise, pAdd_i, pAdd_t, pAdd_l, pSub_i, pLt_i, pLe_i, pGt_i, pGe_i, pIs_n, pIsNot_n, pIsB_b, pNotB_b, isN_n, isN_b, isN_i, isN_s, isN_t, isN_l, pIx_t, pIx_l, pLen_t, pLen_l, pMin2_i, pMax2_i, pAbs_i, pInt_i, pTuple_t, pTuple_l, pList_t, pList_l, pIadd_i, pSl_t, pSl_l, pEqI, pNeI, pEqS, pNeS, at0, at1, at2, at3, at4, at5, at6, at7, bx_ret, bx_exc, bx_fail, bd_ret, bd_exc, bd_fail, exS_ret, exS_exc, exS_fail, ofO_some, ofO_none, fnE, isi_T, isi_B, isi_I, isi_S, isi_L, sizeL, Option.bind_some, Option.map_some, Option.some.injEq, Int.reduceEq, Int.reduceLE, Int.reduceLT, Int.reduceNeg, Int.reduceAdd, Int.reduceSub, Int.reduceMul, decide_true, decide_false, decide_eq_true_eq, decide_not, eq_self, Int.cast_ofNat_Int, reduceCtorEq, List.length_cons, List.length_nil, List.map_cons, List.map_nil, List.replicate, List.cons_append, List.nil_append, List.append_nil, List.getElem?_cons_zero, List.getElem?_cons_succ, List.getElem?_nil, List.set_cons_zero, List.set_cons_succ, Nat.reduceAdd, Nat.reduceSub, Nat.reduceEqDiff, Nat.reduceLeDiff, Nat.reduceLT, Nat.zero_add, Nat.add_zero, true_and, and_true, false_and, and_false, Bool.not_true, Bool.not_false, Bool.true_and, Bool.and_true, Bool.false_and, Bool.and_false, Bool.or_false, Bool.false_or, Bool.or_true, Bool.true_or, Bool.not_eq_true', if_true, if_false, Bool.false_eq_true, Bool.not_eq_true, ↓reduceIte, ite_true, ite_false, Bool.true_eq_false, not_true_eq_false, not_false_eq_true, Nat.zero_le]
    cases wh low (-32768) 0 with
    | false => simp only [ftD, xFld, fldK, asRf_rf, bd_rd, bx_rd, exS_rd, bd_wr, bx_wr, exS_wr, pIntB_b, xParW3, parW3a, parW3b, parW3c, dictW_c, pLtA_i, pSumT, pSumL, xwD, xwO, datK, ownK, capN, capC, ygT3c, opK2, opK, chK4, chK3, chK2, chK, unK, andK, orK, notK, andVK2, andVK, notVK2, notVK, ifVK, ifTK, consK2, consK, tupK, lstK, fzK, cbK, isiK, drpK, retK, ifSK, setK, setOK, nxK, asgK, parK, appK, wcK, wdK, callK, forK, lcK, raiseK, bodyX, startE, xSeq, sqF, xNext, xIfS, xRet, xSet, xSetO, xDrop, xAsg, ygT_t, ygsC, ygsN, ygN, xPar, xAppend, xFrz, xVar, xC, xOp, xUn, pNeg_i, xTest, asB_b, xAnd, xOr, xNot, xAndV, xNotV, xIf, xIfT, xChain, xNil, xCons, xTup, xLst, xFz, xCall, rOfT_d, rOfT_o, rOfT_c, rOwT_o, ywNil, ywDat, ywVar, xCB, xIsi, asI_i, xLenS, xFor, ziL, itT_t, itL_l, ziR1, ziET, enT_t, enL_l, xLc, noOwnB, wipeE, xYes, xRaise, pAdd_i, pAdd_t, pAdd_l, pSub_i, pLt_i, pLe_i, pGt_i, pGe_i, pIs_n, pIsNot_n, pIsB_b, pNotB_b, isN_n, isN_b, isN_i, isN_s, isN_t, isN_l, pIx_t, pIx_l, pLen_t, pLen_l, pMin2_i, pMax2_i, pAbs_i, pInt_i, pTuple_t, pTuple_l, pList_t, pList_l, pIadd_i, pSl_t, pSl_l, pEqI, pNeI, pEqS, pNeS, at0, at1, at2, at3, at4, at5, at6, at7, bx_ret, bx_exc, bx_fail, bd_ret, bd_exc, bd_fail, exS_ret, exS_exc, exS_fail, ofO_some, ofO_none, fnE, isi_T, isi_B, isi_I, isi_S, isi_L, sizeL, Option.bind_some, Option.map_some, Option.some.injEq, Int.reduceEq, Int.reduceLE, Int.reduceLT, Int.reduceNeg, Int.reduceAdd, Int.reduceSub, Int.reduceMul, decide_true, decide_false, decide_eq_true_eq, decide_not, eq_self, Int.cast_ofNat_Int, reduceCtorEq, List.length_cons, List.length_nil, List.map_cons, List.map_nil, List.replicate, List.cons_append, List.nil_append, List.append_nil, List.getElem?_cons_zero, List.getElem?_cons_succ, List.getElem?_nil, List.set_cons_zero, List.set_cons_succ, Nat.reduceAdd, Nat.reduceSub, Nat.reduceEqDiff, Nat.reduceLeDiff, Nat.reduceLT, Nat.zero_add, Nat.add_zero, true_and, and_true, false_and, and_false, Bool.not_true, Bool.not_false, Bool.true_and, Bool.and_true, Bool.false_and, Bool.and_false, Bool.or_false, Bool.false_or, Bool.or_true, Bool.true_or, Bool.not_eq_true', if_true, if_false, Bool.false_eq_true, Bool.not_eq_true, ↓reduceIte, ite_true, ite_false, Bool.true_eq_false, not_true_eq_false, not_false_eq_true, Nat.zero_le]
    | true =>
      simp only [r_whole, r_rowS, xFld, fldK, asRf_rf, bd_rd, bx_rd, exS_rd, bd_wr, bx_wr, exS_wr, pIntB_b, xParW3, parW3a, parW3b, parW3c, dictW_c, pLtA_i, pSumT, pSumL, xwD, xwO, datK, ownK, capN, capC, ygT3c, opK2, opK, chK4, chK3, chK2, chK, unK, andK, orK, notK, andVK2, andVK, notVK2, notVK, ifVK, ifTK, consK2, consK, tupK, lstK, fzK, cbK, isiK, drpK, retK, ifSK, setK, setOK, nxK, asgK, parK, appK, wcK, wdK, callK, forK, lcK, raiseK, bodyX, startE, xSeq, sqF, xNext, xIfS, xRet, xSet, xSetO, xDrop, xAsg, ygT_t, ygsC, ygsN, ygN, xPar, xAppend, xFrz, xVar, xC, xOp, xUn, pNeg_i, xTest, asB_b, xAnd, xOr, xNot, xAndV, xNotV, xIf, xIfT, xChain, xNil, xCons, xTup, xLst, xFz, xCall, rOfT_d, rOfT_o, rOfT_c, rOwT_o, ywNil, ywDat, ywVar, xCB, xIsi, asI_i, xLenS, xFor, ziL, itT_t, itL_l, ziR1, ziET, enT_t, enL_l, xLc, noOwnB, wipeE, xYes, xRaise, pAdd_i, pAdd_t, pAdd_l, pSub_i, pLt_i, pLe_i, pGt_i, pGe_i, pIs_n, pIsNot_n, pIsB_b, pNotB_b, isN_n, isN_b, isN_i, isN_s, isN_t, isN_l, pIx_t, pIx_l, pLen_t, pLen_l, pMin2_i, pMax2_i, pAbs_i, pInt_i, pTuple_t, pTuple_l, pList_t, pList_l, pIadd_i, pSl_t, pSl_l, pEqI, pNeI, pEqS, pNeS, at0, at1, at2, at3, at4, at5, at6, at7, bx_ret, bx_exc, bx_fail, bd_ret, bd_exc, bd_fail, exS_ret, exS_exc, exS_fail, ofO_some, ofO_none, fnE, isi_T, isi_B, isi_I, isi_S, isi_L, sizeL, Option.bind_some, Option.map_some, Option.some.injEq, Int.reduceEq, Int.reduceLE, Int.reduceLT, Int.reduceNeg, Int.reduceAdd, Int.reduceSub, Int.reduceMul, decide_true, decide_false, decide_eq_true_eq, decide_not, eq_self, Int.cast_ofNat_Int, reduceCtorEq, List.length_cons, List.length_nil, List.map_cons, List.map_nil, List.replicate, List.cons_append, List.nil_append, List.append_nil, List.getElem?_cons_zero, List.getElem?_cons_succ, List.getElem?_nil, List.set_cons_zero, List.set_cons_succ, Nat.reduceAdd, Nat.reduceSub, Nat.reduceEqDiff, Nat.reduceLeDiff, Nat.reduceLT, Nat.zero_add, Nat.add_zero, true_and, and_true, false_and, and_false, Bool.not_true, Bool.not_false, Bool.true_and, Bool.and_true, Bool.false_and, Bool.and_false, Bool.or_false, Bool.false_or, Bool.or_true, Bool.true_or, Bool.not_eq_true', if_true, if_false, Bool.false_eq_true, Bool.not_eq_true, ↓reduceIte, ite_true, ite_false, Bool.true_eq_false, not_true_eq_false, not_false_eq_true, Nat.zero_le]
      cases wh high 0 32767 with
      | false => simp only [ftD, xFld, fldK, asRf_rf, bd_rd, bx_rd, exS_rd, bd_wr, bx_wr, exS_wr, pIntB_b, xParW3, parW3a, parW3b, parW3c, dictW_c, pLtA_i, pSumT, pSumL, xwD, xwO, datK, ownK, capN, capC, ygT3c, opK2, opK, chK4, chK3, chK2, chK, unK, andK, orK, notK, andVK2, andVK, notVK2, notVK, ifVK, ifTK, consK2, consK, tupK, lstK, fzK, cbK, isiK, drpK, retK, ifSK, setK, setOK, nxK, asgK, parK, appK, wcK, wdK, callK, forK, lcK, raiseK, bodyX, startE, xSeq, sqF, xNext, xIfS, xRet, xSet, xSetO, xDrop, xAsg, ygT_t, ygsC, ygsN, ygN, xPar, xAppend, xFrz, xVar, xC, xOp, xUn, pNeg_i, xTest, asB_b, xAnd, xOr, xNot, xAndV, xNotV, xIf, xIfT, xChain, xNil, xCons, xTup, xLst, xFz, xCall, rOfT_d, rOfT_o, rOfT_c, rOwT_o, ywNil, ywDat, ywVar, xCB, xIsi, asI_i, xLenS, xFor, ziL, itT_t, itL_l, ziR1, ziET, enT_t, enL_l, xLc, noOwnB, wipeE, xYes, xRaise, pAdd_i, pAdd_t, pAdd_l, pSub_i, pLt_i, pLe_i, pGt_i, pGe_i, pIs_n, pIsNot_n, pIsB_b, pNotB_b, isN_n, isN_b, isN_i, isN_s, isN_t, isN_l, pIx_t, pIx_l, pLen_t, pLen_l, pMin2_i, pMax2_i, pAbs_i, pInt_i, pTuple_t, pTuple_l, pList_t, pList_l, pIadd_i, pSl_t, pSl_l, pEqI, pNeI, pEqS, pNeS, at0, at1, at2, at3, at4, at5, at6, at7, bx_ret, bx_exc, bx_fail, bd_ret, bd_exc, bd_fail, exS_ret, exS_exc, exS_fail, ofO_some, ofO_none, fnE, isi_T, isi_B, isi_I, isi_S, isi_L, sizeL, Option.bind_some, Option.map_some, Option.some.injEq, Int.reduceEq, Int.reduceLE, Int.reduceLT, Int.reduceNeg, Int.reduceAdd, Int.reduceSub, Int.reduceMul, decide_true, decide_false, decide_eq_true_eq, decide_not, eq_self, Int.cast_ofNat_Int, reduceCtorEq, List.length_cons, List.length_nil, List.map_cons, List.map_nil, List.replicate, List.cons_append, List.nil_append, List.append_nil, List.getElem?_cons_zero, List.getElem?_cons_succ, List.getElem?_nil, List.set_cons_zero, List.set_cons_succ, Nat.reduceAdd, Nat.reduceSub, Nat.reduceEqDiff, Nat.reduceLeDiff, Nat.reduceLT, Nat.zero_add, Nat.add_zero, true_and, and_true, false_and, and_false, Bool.not_true, Bool.not_false, Bool.true_and, Bool.and_true, Bool.false_and, Bool.and_false, Bool.or_false, Bool.false_or, Bool.or_true, Bool.true_or, Bool.not_eq_true', if_true, if_false, Bool.false_eq_true, Bool.not_eq_true, ↓reduceIte, ite_true, ite_false, Bool.true_eq_false, not_true_eq_false, not_false_eq_true, Nat.zero_le]
      | true =>
        simp only [r_whole, r_rowS, r_rowM, xFld, fldK, asRf_rf, bd_rd, bx_rd, exS_rd, bd_wr, bx_wr, exS_wr, pIntB_b, xParW3, parW3a, parW3b, parW3c, dictW_c, pLtA_i, pSumT, pSumL, xwD, xwO, datK, ownK, capN, capC, ygT3c, opK2, opK, chK4, chK3, chK2, chK, unK, andK, orK, notK, andVK2, andVK, notVK2, notVK, ifVK, ifTK, consK2, consK, tupK, lstK, fzK, cbK, isiK, drpK, retK, ifSK, setK, setOK, nxK, asgK, parK, appK, wcK, wdK, callK, forK, lcK, raiseK, bodyX, startE, xSeq, sqF, xNext, xIfS, xRet, xSet, xSetO, xDrop, xAsg, ygT_t, ygsC, ygsN, ygN, xPar, xAppend, xFrz, xVar, xC, xOp, xUn, pNeg_i, xTest, asB_b, xAnd, xOr, xNot, xAndV, xNotV, xIf, xIfT, xChain, xNil, xCons, xTup, xLst, xFz, xCall, rOfT_d, rOfT_o, rOfT_c, rOwT_o, ywNil, ywDat, ywVar, xCB, xIsi, asI_i, xLenS, xFor, ziL, itT_t, itL_l, ziR1, ziET, enT_t, enL_l, xLc, noOwnB, wipeE, xYes, xRaise, pAdd_i, pAdd_t, pAdd_l, pSub_i, pLt_i, pLe_i, pGt_i, pGe_i, pIs_n, pIsNot_n, pIsB_b, pNotB_b, isN_n, isN_b, isN_i, isN_s, isN_t, isN_l, pIx_t, pIx_l, pLen_t, pLen_l, pMin2_i, pMax2_i, pAbs_i, pInt_i, pTuple_t, pTuple_l, pList_t, pList_l, pIadd_i, pSl_t, pSl_l, pEqI, pNeI, pEqS, pNeS, at0, at1, at2, at3, at4, at5, at6, at7, bx_ret, bx_exc, bx_fail, bd_ret, bd_exc, bd_fail, exS_ret, exS_exc, exS_fail, ofO_some, ofO_none, fnE, isi_T, isi_B, isi_I, isi_S, isi_L, sizeL, Option.bind_some, Option.map_some, Option.some.injEq, Int.reduceEq, Int.reduceLE, Int.reduceLT, Int.reduceNeg, Int.reduceAdd, Int.reduceSub, Int.reduceMul, decide_true, decide_false, decide_eq_true_eq, decide_not, eq_self, Int.cast_ofNat_Int, reduceCtorEq, List.length_cons, List.length_nil, List.map_cons, List.map_nil, List.replicate, List.cons_append, List.nil_append, List.append_nil, List.getElem?_cons_zero, List.getElem?_cons_succ, List.getElem?_nil, List.set_cons_zero, List.set_cons_succ, Nat.reduceAdd, Nat.reduceSub, Nat.reduceEqDiff, Nat.reduceLeDiff, Nat.reduceLT, Nat.zero_add, Nat.add_zero, true_and, and_true, false_and, and_false, Bool.not_true, Bool.not_false, Bool.true_and, Bool.and_true, Bool.false_and, Bool.and_false, Bool.or_false, Bool.false_or, Bool.or_true, Bool.true_or, Bool.not_eq_true', if_true, if_false, Bool.false_eq_true, Bool.not_eq_true, ↓reduceIte, ite_true, ite_false, Bool.true_eq_false, not_true_eq_false, not_false_eq_true, Nat.zero_le]
        cases rowF "steps" (fun d => wh d 1 9999) 1 16 steps with
        | some f => obtain ⟨p, n⟩ := f; simp only [ftD, xFld, fldK, asRf_rf, bd_rd, bx_rd, exS_rd, bd_wr, bx_wr, exS_wr, pIntB_b, xParW3, parW3a, parW3b, parW3c, dictW_c, pLtA_i, pSumT, pSumL, xwD, xwO, datK, ownK, capN, capC, ygT3c, opK2, opK, chK4, chK3, chK2, chK, unK, andK, orK, notK, andVK2, andVK, notVK2, notVK, ifVK, ifTK, consK2, consK, tupK, lstK, fzK, cbK, isiK, drpK, retK, ifSK, setK, setOK, nxK, asgK, parK, appK, wcK, wdK, callK, forK, lcK, raiseK, bodyX, startE, xSeq, sqF, xNext, xIfS, xRet, xSet, xSetO, xDrop, xAsg, ygT_t, ygsC, ygsN, ygN, xPar, xAppend, xFrz, xVar, xC, xOp, xUn, pNeg_i, xTest, asB_b, xAnd, xOr, xNot, xAndV, xNotV, xIf, xIfT, xChain, xNil, xCons, xTup, xLst, xFz, xCall, rOfT_d, rOfT_o, rOfT_c, rOwT_o, ywNil, ywDat, ywVar, xCB, xIsi, asI_i, xLenS, xFor, ziL, itT_t, itL_l, ziR1, ziET, enT_t, enL_l, xLc, noOwnB, wipeE, xYes, xRaise, pAdd_i, pAdd_t, pAdd_l, pSub_i, pLt_i, pLe_i, pGt_i, pGe_i, pIs_n, pIsNot_n, pIsB_b, pNotB_b, isN_n, isN_b, isN_i, isN_s, isN_t, isN_l, pIx_t, pIx_l, pLen_t, pLen_l, pMin2_i, pMax2_i, pAbs_i, pInt_i, pTuple_t, pTuple_l, pList_t, pList_l, pIadd_i, pSl_t, pSl_l, pEqI, pNeI, pEqS, pNeS, at0, at1, at2, at3, at4, at5, at6, at7, bx_ret, bx_exc, bx_fail, bd_ret, bd_exc, bd_fail, exS_ret, exS_exc, exS_fail, ofO_some, ofO_none, fnE, isi_T, isi_B, isi_I, isi_S, isi_L, sizeL, Option.bind_some, Option.map_some, Option.some.injEq, Int.reduceEq, Int.reduceLE, Int.reduceLT, Int.reduceNeg, Int.reduceAdd, Int.reduceSub, Int.reduceMul, decide_true, decide_false, decide_eq_true_eq, decide_not, eq_self, Int.cast_ofNat_Int, reduceCtorEq, List.length_cons, List.length_nil, List.map_cons, List.map_nil, List.replicate, List.cons_append, List.nil_append, List.append_nil, List.getElem?_cons_zero, List.getElem?_cons_succ, List.getElem?_nil, List.set_cons_zero, List.set_cons_succ, Nat.reduceAdd, Nat.reduceSub, Nat.reduceEqDiff, Nat.reduceLeDiff, Nat.reduceLT, Nat.zero_add, Nat.add_zero, true_and, and_true, false_and, and_false, Bool.not_true, Bool.not_false, Bool.true_and, Bool.and_true, Bool.false_and, Bool.and_false, Bool.or_false, Bool.false_or, Bool.or_true, Bool.true_or, Bool.not_eq_true', if_true, if_false, Bool.false_eq_true, Bool.not_eq_true, ↓reduceIte, ite_true, ite_false, Bool.true_eq_false, not_true_eq_false, not_false_eq_true, Nat.zero_le]
        | none =>
          simp only [ftD, r_rowM, xFld, fldK, asRf_rf, bd_rd, bx_rd, exS_rd, bd_wr, bx_wr, exS_wr, pIntB_b, xParW3, parW3a, parW3b, parW3c, dictW_c, pLtA_i, pSumT, pSumL, xwD, xwO, datK, ownK, capN, capC, ygT3c, opK2, opK, chK4, chK3, chK2, chK, unK, andK, orK, notK, andVK2, andVK, notVK2, notVK, ifVK, ifTK, consK2, consK, tupK, lstK, fzK, cbK, isiK, drpK, retK, ifSK, setK, setOK, nxK, asgK, parK, appK, wcK, wdK, callK, forK, lcK, raiseK, bodyX, startE, xSeq, sqF, xNext, xIfS, xRet, xSet, xSetO, xDrop, xAsg, ygT_t, ygsC, ygsN, ygN, xPar, xAppend, xFrz, xVar, xC, xOp, xUn, pNeg_i, xTest, asB_b, xAnd, xOr, xNot, xAndV, xNotV, xIf, xIfT, xChain, xNil, xCons, xTup, xLst, xFz, xCall, rOfT_d, rOfT_o, rOfT_c, rOwT_o, ywNil, ywDat, ywVar, xCB, xIsi, asI_i, xLenS, xFor, ziL, itT_t, itL_l, ziR1, ziET, enT_t, enL_l, xLc, noOwnB, wipeE, xYes, xRaise, pAdd_i, pAdd_t, pAdd_l, pSub_i, pLt_i, pLe_i, pGt_i, pGe_i, pIs_n, pIsNot_n, pIsB_b, pNotB_b, isN_n, isN_b, isN_i, isN_s, isN_t, isN_l, pIx_t, pIx_l, pLen_t, pLen_l, pMin2_i, pMax2_i, pAbs_i, pInt_i, pTuple_t, pTuple_l, pList_t, pList_l, pIadd_i, pSl_t, pSl_l, pEqI, pNeI, pEqS, pNeS, at0, at1, at2, at3, at4, at5, at6, at7, bx_ret, bx_exc, bx_fail, bd_ret, bd_exc, bd_fail, exS_ret, exS_exc, exS_fail, ofO_some, ofO_none, fnE, isi_T, isi_B, isi_I, isi_S, isi_L, sizeL, Option.bind_some, Option.map_some, Option.some.injEq, Int.reduceEq, Int.reduceLE, Int.reduceLT, Int.reduceNeg, Int.reduceAdd, Int.reduceSub, Int.reduceMul, decide_true, decide_false, decide_eq_true_eq, decide_not, eq_self, Int.cast_ofNat_Int, reduceCtorEq, List.length_cons, List.length_nil, List.map_cons, List.map_nil, List.replicate, List.cons_append, List.nil_append, List.append_nil, List.getElem?_cons_zero, List.getElem?_cons_succ, List.getElem?_nil, List.set_cons_zero, List.set_cons_succ, Nat.reduceAdd, Nat.reduceSub, Nat.reduceEqDiff, Nat.reduceLeDiff, Nat.reduceLT, Nat.zero_add, Nat.add_zero, true_and, and_true, false_and, and_false, Bool.not_true, Bool.not_false, Bool.true_and, Bool.and_true, Bool.false_and, Bool.and_false, Bool.or_false, Bool.false_or, Bool.or_true, Bool.true_or, Bool.not_eq_true', if_true, if_false, Bool.false_eq_true, Bool.not_eq_true, ↓reduceIte, ite_true, ite_false, Bool.true_eq_false, not_true_eq_false, not_false_eq_true, Nat.zero_le]
          cases rowF "moves" mvB 2 16 moves with
          | some f => obtain ⟨p, n⟩ := f; simp only [ftD, xFld, fldK, asRf_rf, bd_rd, bx_rd, exS_rd, bd_wr, bx_wr, exS_wr, pIntB_b, xParW3, parW3a, parW3b, parW3c, dictW_c, pLtA_i, pSumT, pSumL, xwD, xwO, datK, ownK, capN, capC, ygT3c, opK2, opK, chK4, chK3, chK2, chK, unK, andK, orK, notK, andVK2, andVK, notVK2, notVK, ifVK, ifTK, consK2, consK, tupK, lstK, fzK, cbK, isiK, drpK, retK, ifSK, setK, setOK, nxK, asgK, parK, appK, wcK, wdK, callK, forK, lcK, raiseK, bodyX, startE, xSeq, sqF, xNext, xIfS, xRet, xSet, xSetO, xDrop, xAsg, ygT_t, ygsC, ygsN, ygN, xPar, xAppend, xFrz, xVar, xC, xOp, xUn, pNeg_i, xTest, asB_b, xAnd, xOr, xNot, xAndV, xNotV, xIf, xIfT, xChain, xNil, xCons, xTup, xLst, xFz, xCall, rOfT_d, rOfT_o, rOfT_c, rOwT_o, ywNil, ywDat, ywVar, xCB, xIsi, asI_i, xLenS, xFor, ziL, itT_t, itL_l, ziR1, ziET, enT_t, enL_l, xLc, noOwnB, wipeE, xYes, xRaise, pAdd_i, pAdd_t, pAdd_l, pSub_i, pLt_i, pLe_i, pGt_i, pGe_i, pIs_n, pIsNot_n, pIsB_b, pNotB_b, isN_n, isN_b, isN_i, isN_s, isN_t, isN_l, pIx_t, pIx_l, pLen_t, pLen_l, pMin2_i, pMax2_i, pAbs_i, pInt_i, pTuple_t, pTuple_l, pList_t, pList_l, pIadd_i, pSl_t, pSl_l, pEqI, pNeI, pEqS, pNeS, at0, at1, at2, at3, at4, at5, at6, at7, bx_ret, bx_exc, bx_fail, bd_ret, bd_exc, bd_fail, exS_ret, exS_exc, exS_fail, ofO_some, ofO_none, fnE, isi_T, isi_B, isi_I, isi_S, isi_L, sizeL, Option.bind_some, Option.map_some, Option.some.injEq, Int.reduceEq, Int.reduceLE, Int.reduceLT, Int.reduceNeg, Int.reduceAdd, Int.reduceSub, Int.reduceMul, decide_true, decide_false, decide_eq_true_eq, decide_not, eq_self, Int.cast_ofNat_Int, reduceCtorEq, List.length_cons, List.length_nil, List.map_cons, List.map_nil, List.replicate, List.cons_append, List.nil_append, List.append_nil, List.getElem?_cons_zero, List.getElem?_cons_succ, List.getElem?_nil, List.set_cons_zero, List.set_cons_succ, Nat.reduceAdd, Nat.reduceSub, Nat.reduceEqDiff, Nat.reduceLeDiff, Nat.reduceLT, Nat.zero_add, Nat.add_zero, true_and, and_true, false_and, and_false, Bool.not_true, Bool.not_false, Bool.true_and, Bool.and_true, Bool.false_and, Bool.and_false, Bool.or_false, Bool.false_or, Bool.or_true, Bool.true_or, Bool.not_eq_true', if_true, if_false, Bool.false_eq_true, Bool.not_eq_true, ↓reduceIte, ite_true, ite_false, Bool.true_eq_false, not_true_eq_false, not_false_eq_true, Nat.zero_le]
          | none =>
            simp only [ftD, r_whole, xFld, fldK, asRf_rf, bd_rd, bx_rd, exS_rd, bd_wr, bx_wr, exS_wr, pIntB_b, xParW3, parW3a, parW3b, parW3c, dictW_c, pLtA_i, pSumT, pSumL, xwD, xwO, datK, ownK, capN, capC, ygT3c, opK2, opK, chK4, chK3, chK2, chK, unK, andK, orK, notK, andVK2, andVK, notVK2, notVK, ifVK, ifTK, consK2, consK, tupK, lstK, fzK, cbK, isiK, drpK, retK, ifSK, setK, setOK, nxK, asgK, parK, appK, wcK, wdK, callK, forK, lcK, raiseK, bodyX, startE, xSeq, sqF, xNext, xIfS, xRet, xSet, xSetO, xDrop, xAsg, ygT_t, ygsC, ygsN, ygN, xPar, xAppend, xFrz, xVar, xC, xOp, xUn, pNeg_i, xTest, asB_b, xAnd, xOr, xNot, xAndV, xNotV, xIf, xIfT, xChain, xNil, xCons, xTup, xLst, xFz, xCall, rOfT_d, rOfT_o, rOfT_c, rOwT_o, ywNil, ywDat, ywVar, xCB, xIsi, asI_i, xLenS, xFor, ziL, itT_t, itL_l, ziR1, ziET, enT_t, enL_l, xLc, noOwnB, wipeE, xYes, xRaise, pAdd_i, pAdd_t, pAdd_l, pSub_i, pLt_i, pLe_i, pGt_i, pGe_i, pIs_n, pIsNot_n, pIsB_b, pNotB_b, isN_n, isN_b, isN_i, isN_s, isN_t, isN_l, pIx_t, pIx_l, pLen_t, pLen_l, pMin2_i, pMax2_i, pAbs_i, pInt_i, pTuple_t, pTuple_l, pList_t, pList_l, pIadd_i, pSl_t, pSl_l, pEqI, pNeI, pEqS, pNeS, at0, at1, at2, at3, at4, at5, at6, at7, bx_ret, bx_exc, bx_fail, bd_ret, bd_exc, bd_fail, exS_ret, exS_exc, exS_fail, ofO_some, ofO_none, fnE, isi_T, isi_B, isi_I, isi_S, isi_L, sizeL, Option.bind_some, Option.map_some, Option.some.injEq, Int.reduceEq, Int.reduceLE, Int.reduceLT, Int.reduceNeg, Int.reduceAdd, Int.reduceSub, Int.reduceMul, decide_true, decide_false, decide_eq_true_eq, decide_not, eq_self, Int.cast_ofNat_Int, reduceCtorEq, List.length_cons, List.length_nil, List.map_cons, List.map_nil, List.replicate, List.cons_append, List.nil_append, List.append_nil, List.getElem?_cons_zero, List.getElem?_cons_succ, List.getElem?_nil, List.set_cons_zero, List.set_cons_succ, Nat.reduceAdd, Nat.reduceSub, Nat.reduceEqDiff, Nat.reduceLeDiff, Nat.reduceLT, Nat.zero_add, Nat.add_zero, true_and, and_true, false_and, and_false, Bool.not_true, Bool.not_false, Bool.true_and, Bool.and_true, Bool.false_and, Bool.and_false, Bool.or_false, Bool.false_or, Bool.or_true, Bool.true_or, Bool.not_eq_true', if_true, if_false, Bool.false_eq_true, Bool.not_eq_true, ↓reduceIte, ite_true, ite_false, Bool.true_eq_false, not_true_eq_false, not_false_eq_true, Nat.zero_le]
            cases wh fade 2 99 with
            | true => simp only [ftD, xFld, fldK, asRf_rf, bd_rd, bx_rd, exS_rd, bd_wr, bx_wr, exS_wr, pIntB_b, xParW3, parW3a, parW3b, parW3c, dictW_c, pLtA_i, pSumT, pSumL, xwD, xwO, datK, ownK, capN, capC, ygT3c, opK2, opK, chK4, chK3, chK2, chK, unK, andK, orK, notK, andVK2, andVK, notVK2, notVK, ifVK, ifTK, consK2, consK, tupK, lstK, fzK, cbK, isiK, drpK, retK, ifSK, setK, setOK, nxK, asgK, parK, appK, wcK, wdK, callK, forK, lcK, raiseK, bodyX, startE, xSeq, sqF, xNext, xIfS, xRet, xSet, xSetO, xDrop, xAsg, ygT_t, ygsC, ygsN, ygN, xPar, xAppend, xFrz, xVar, xC, xOp, xUn, pNeg_i, xTest, asB_b, xAnd, xOr, xNot, xAndV, xNotV, xIf, xIfT, xChain, xNil, xCons, xTup, xLst, xFz, xCall, rOfT_d, rOfT_o, rOfT_c, rOwT_o, ywNil, ywDat, ywVar, xCB, xIsi, asI_i, xLenS, xFor, ziL, itT_t, itL_l, ziR1, ziET, enT_t, enL_l, xLc, noOwnB, wipeE, xYes, xRaise, pAdd_i, pAdd_t, pAdd_l, pSub_i, pLt_i, pLe_i, pGt_i, pGe_i, pIs_n, pIsNot_n, pIsB_b, pNotB_b, isN_n, isN_b, isN_i, isN_s, isN_t, isN_l, pIx_t, pIx_l, pLen_t, pLen_l, pMin2_i, pMax2_i, pAbs_i, pInt_i, pTuple_t, pTuple_l, pList_t, pList_l, pIadd_i, pSl_t, pSl_l, pEqI, pNeI, pEqS, pNeS, at0, at1, at2, at3, at4, at5, at6, at7, bx_ret, bx_exc, bx_fail, bd_ret, bd_exc, bd_fail, exS_ret, exS_exc, exS_fail, ofO_some, ofO_none, fnE, isi_T, isi_B, isi_I, isi_S, isi_L, sizeL, Option.bind_some, Option.map_some, Option.some.injEq, Int.reduceEq, Int.reduceLE, Int.reduceLT, Int.reduceNeg, Int.reduceAdd, Int.reduceSub, Int.reduceMul, decide_true, decide_false, decide_eq_true_eq, decide_not, eq_self, Int.cast_ofNat_Int, reduceCtorEq, List.length_cons, List.length_nil, List.map_cons, List.map_nil, List.replicate, List.cons_append, List.nil_append, List.append_nil, List.getElem?_cons_zero, List.getElem?_cons_succ, List.getElem?_nil, List.set_cons_zero, List.set_cons_succ, Nat.reduceAdd, Nat.reduceSub, Nat.reduceEqDiff, Nat.reduceLeDiff, Nat.reduceLT, Nat.zero_add, Nat.add_zero, true_and, and_true, false_and, and_false, Bool.not_true, Bool.not_false, Bool.true_and, Bool.and_true, Bool.false_and, Bool.and_false, Bool.or_false, Bool.false_or, Bool.or_true, Bool.true_or, Bool.not_eq_true', if_true, if_false, Bool.false_eq_true, Bool.not_eq_true, ↓reduceIte, ite_true, ite_false, Bool.true_eq_false, not_true_eq_false, not_false_eq_true, Nat.zero_le]
            | false =>
              simp only [r_whole, xFld, fldK, asRf_rf, bd_rd, bx_rd, exS_rd, bd_wr, bx_wr, exS_wr, pIntB_b, xParW3, parW3a, parW3b, parW3c, dictW_c, pLtA_i, pSumT, pSumL, xwD, xwO, datK, ownK, capN, capC, ygT3c, opK2, opK, chK4, chK3, chK2, chK, unK, andK, orK, notK, andVK2, andVK, notVK2, notVK, ifVK, ifTK, consK2, consK, tupK, lstK, fzK, cbK, isiK, drpK, retK, ifSK, setK, setOK, nxK, asgK, parK, appK, wcK, wdK, callK, forK, lcK, raiseK, bodyX, startE, xSeq, sqF, xNext, xIfS, xRet, xSet, xSetO, xDrop, xAsg, ygT_t, ygsC, ygsN, ygN, xPar, xAppend, xFrz, xVar, xC, xOp, xUn, pNeg_i, xTest, asB_b, xAnd, xOr, xNot, xAndV, xNotV, xIf, xIfT, xChain, xNil, xCons, xTup, xLst, xFz, xCall, rOfT_d, rOfT_o, rOfT_c, rOwT_o, ywNil, ywDat, ywVar, xCB, xIsi, asI_i, xLenS, xFor, ziL, itT_t, itL_l, ziR1, ziET, enT_t, enL_l, xLc, noOwnB, wipeE, xYes, xRaise, pAdd_i, pAdd_t, pAdd_l, pSub_i, pLt_i, pLe_i, pGt_i, pGe_i, pIs_n, pIsNot_n, pIsB_b, pNotB_b, isN_n, isN_b, isN_i, isN_s, isN_t, isN_l, pIx_t, pIx_l, pLen_t, pLen_l, pMin2_i, pMax2_i, pAbs_i, pInt_i, pTuple_t, pTuple_l, pList_t, pList_l, pIadd_i, pSl_t, pSl_l, pEqI, pNeI, pEqS, pNeS, at0, at1, at2, at3, at4, at5, at6, at7, bx_ret, bx_exc, bx_fail, bd_ret, bd_exc, bd_fail, exS_ret, exS_exc, exS_fail, ofO_some, ofO_none, fnE, isi_T, isi_B, isi_I, isi_S, isi_L, sizeL, Option.bind_some, Option.map_some, Option.some.injEq, Int.reduceEq, Int.reduceLE, Int.reduceLT, Int.reduceNeg, Int.reduceAdd, Int.reduceSub, Int.reduceMul, decide_true, decide_false, decide_eq_true_eq, decide_not, eq_self, Int.cast_ofNat_Int, reduceCtorEq, List.length_cons, List.length_nil, List.map_cons, List.map_nil, List.replicate, List.cons_append, List.nil_append, List.append_nil, List.getElem?_cons_zero, List.getElem?_cons_succ, List.getElem?_nil, List.set_cons_zero, List.set_cons_succ, Nat.reduceAdd, Nat.reduceSub, Nat.reduceEqDiff, Nat.reduceLeDiff, Nat.reduceLT, Nat.zero_add, Nat.add_zero, true_and, and_true, false_and, and_false, Bool.not_true, Bool.not_false, Bool.true_and, Bool.and_true, Bool.false_and, Bool.and_false, Bool.or_false, Bool.false_or, Bool.or_true, Bool.true_or, Bool.not_eq_true', if_true, if_false, Bool.false_eq_true, Bool.not_eq_true, ↓reduceIte, ite_true, ite_false, Bool.true_eq_false, not_true_eq_false, not_false_eq_true, Nat.zero_le]
              cases wh fade 0 0 <;> simp only [ftD, xFld, fldK, asRf_rf, bd_rd, bx_rd, exS_rd, bd_wr, bx_wr, exS_wr, pIntB_b, xParW3, parW3a, parW3b, parW3c, dictW_c, pLtA_i, pSumT, pSumL, xwD, xwO, datK, ownK, capN, capC, ygT3c, opK2, opK, chK4, chK3, chK2, chK, unK, andK, orK, notK, andVK2, andVK, notVK2, notVK, ifVK, ifTK, consK2, consK, tupK, lstK, fzK, cbK, isiK, drpK, retK, ifSK, setK, setOK, nxK, asgK, parK, appK, wcK, wdK, callK, forK, lcK, raiseK, bodyX, startE, xSeq, sqF, xNext, xIfS, xRet, xSet, xSetO, xDrop, xAsg, ygT_t, ygsC, ygsN, ygN, xPar, xAppend, xFrz, xVar, xC, xOp, xUn, pNeg_i, xTest, asB_b, xAnd, xOr, xNot, xAndV, xNotV, xIf, xIfT, xChain, xNil, xCons, xTup, xLst, xFz, xCall, rOfT_d, rOfT_o, rOfT_c, rOwT_o, ywNil, ywDat, ywVar, xCB, xIsi, asI_i, xLenS, xFor, ziL, itT_t, itL_l, ziR1, ziET, enT_t, enL_l, xLc, noOwnB, wipeE, xYes, xRaise, pAdd_i, pAdd_t, pAdd_l, pSub_i, pLt_i, pLe_i, pGt_i, pGe_i, pIs_n, pIsNot_n, pIsB_b, pNotB_b, isN_n, isN_b, isN_i, isN_s, isN_t, isN_l, pIx_t, pIx_l, pLen_t, pLen_l, pMin2_i, pMax2_i, pAbs_i, pInt_i, pTuple_t, pTuple_l, pList_t, pList_l, pIadd_i, pSl_t, pSl_l, pEqI, pNeI, pEqS, pNeS, at0, at1, at2, at3, at4, at5, at6, at7, bx_ret, bx_exc, bx_fail, bd_ret, bd_exc, bd_fail, exS_ret, exS_exc, exS_fail, ofO_some, ofO_none, fnE, isi_T, isi_B, isi_I, isi_S, isi_L, sizeL, Option.bind_some, Option.map_some, Option.some.injEq, Int.reduceEq, Int.reduceLE, Int.reduceLT, Int.reduceNeg, Int.reduceAdd, Int.reduceSub, Int.reduceMul, decide_true, decide_false, decide_eq_true_eq, decide_not, eq_self, Int.cast_ofNat_Int, reduceCtorEq, List.length_cons, List.length_nil, List.map_cons, List.map_nil, List.replicate, List.cons_append, List.nil_append, List.append_nil, List.getElem?_cons_zero, List.getElem?_cons_succ, List.getElem?_nil, List.set_cons_zero, List.set_cons_succ, Nat.reduceAdd, Nat.reduceSub, Nat.reduceEqDiff, Nat.reduceLeDiff, Nat.reduceLT, Nat.zero_add, Nat.add_zero, true_and, and_true, false_and, and_false, Bool.not_true, Bool.not_false, Bool.true_and, Bool.and_true, Bool.false_and, Bool.and_false, Bool.or_false, Bool.false_or, Bool.or_true, Bool.true_or, Bool.not_eq_true', if_true, if_false, Bool.false_eq_true, Bool.not_eq_true, ↓reduceIte, ite_true, ite_false, Bool.true_eq_false, not_true_eq_false, not_false_eq_true, Nat.zero_le]
/-! right coders -/
def mvD (p : Int × Int) : Dt := .tuple [.int p.1, .int p.2]
def stD (p : Int × Int) : Dt := .tuple [.int p.1, .int p.2]
theorem st0 (s : Int × Int) : pIx (stD s) (.int 0) = some (.int s.1) := at0
theorem st1 (s : Int × Int) : pIx (stD s) (.int 1) = some (.int s.2) := at1
structure Cd where
  low : Int
  high : Int
  steps : List Int
  moves : List (Int × Int)
  fade : Int
def Cd.d (c : Cd) : Dt := .tuple [.int c.low, .int c.high, .tuple (c.steps.map .int), .tuple (c.moves.map mvD), .int c.fade]
structure Cd.Ok (c : Cd) : Prop where
  l0 : -32768 ≤ c.low
  l1 : c.low ≤ 0
  h0 : 0 ≤ c.high
  h1 : c.high ≤ 32767
  s0 : 1 ≤ c.steps.length
  s1 : c.steps.length ≤ 16
  sv : ∀ s ∈ c.steps, 1 ≤ s ∧ s ≤ 9999
  m0 : 2 ≤ c.moves.length
  m1 : c.moves.length ≤ 16
  mv : ∀ p ∈ c.moves, -32 ≤ p.1 ∧ p.1 ≤ 32 ∧ -15 ≤ p.2 ∧ p.2 ≤ 15
  f : c.fade = 0 ∨ 2 ≤ c.fade ∧ c.fade ≤ 99
def Cd.St (c : Cd) (s : Int × Int) : Prop := c.low ≤ s.1 ∧ s.1 ≤ c.high ∧ 0 ≤ s.2 ∧ s.2 < c.steps.length
theorem rowF_ok {part : Str} {ok : Dt → Bool} {least most : Int} {xs : List Dt} (h0 : least ≤ xs.length) (h1 : (xs.length : Int) ≤ most) (h : ∀ x ∈ xs, ok x = true) : rowF part ok least most (.tuple xs) = none := by
  unfold rowF
  simp only [inR_of h0 h1, if_true]
  rw [List.findIdx?_eq_none_iff.mpr fun x hx => by rw [h x hx]; rfl]
  rfl
theorem cf_ok {c : Cd} (h : c.Ok) : cf c.d = none := by
  have h0 := h.s0; have h1 := h.s1; have h2 := h.m0; have h3 := h.m1
  have a : rowF "steps" (fun d => wh d 1 9999) 1 16 (.tuple (c.steps.map .int)) = none := rowF_ok (by rw [List.length_map]; omega) (by rw [List.length_map]; omega) fun x hx => by
    obtain ⟨i, hi, rfl⟩ := List.mem_map.mp hx
    exact inR_of (h.sv i hi).1 (h.sv i hi).2
  have b : rowF "moves" mvB 2 16 (.tuple (c.moves.map mvD)) = none := rowF_ok (by rw [List.length_map]; omega) (by rw [List.length_map]; omega) fun x hx => by
    obtain ⟨p, hp, rfl⟩ := List.mem_map.mp hx
    have := h.mv p hp
    simp only [mvB, mvD, wh, Bool.and_eq_true, inR_true]
    omega
  have f : (wh (.int c.fade) 2 99 || wh (.int c.fade) 0 0) = true := by
    rcases h.f with f | f
    · simp only [f, wh]; decide
    · simp only [wh, inR_of f.1 f.2, Bool.true_or]
  have w1 : wh (.int c.low) (-32768) 0 = true := inR_of h.l0 h.l1
  have w2 : wh (.int c.high) 0 32767 = true := inR_of h.h0 h.h1
  simp only [cf, Cd.d, w1, w2, a, b, f, if_true]
def Cd.Co (c : Cd) (k : Int) : Prop := 0 ≤ k ∧ k < c.moves.length
theorem sh_st {c : Cd} (h : c.Ok) {s : Int × Int} (hs : c.St s) : Sh 82 1 (stD s) := by
  have := h.l0; have := h.h1; have := h.s1; have := hs.1; have := hs.2.1; have := hs.2.2.1; have := hs.2.2.2
  exact Sh.tup (.cons (.int (by omega)) (.cons (.int (by omega)) .nil))
abbrev xPlace (t : Str) : Exc := mkX "OutOfPlace" ["text"] [.str t]
theorem ix0 (c : Cd) : pIx c.d (.int 0) = some (.int c.low) := at0
theorem ix1 (c : Cd) : pIx c.d (.int 1) = some (.int c.high) := at1
theorem ix2 (c : Cd) : pIx c.d (.int 2) = some (.tuple (c.steps.map .int)) := at2
theorem ix3 (c : Cd) : pIx c.d (.int 3) = some (.tuple (c.moves.map mvD)) := at3
theorem ix4 (c : Cd) : pIx c.d (.int 4) = some (.int c.fade) := at4
theorem mvG (s : Int × Int) (r : XGs) (ρ : Nv) : ygT 2 r (mvD s) ρ = r [.int s.1, .int s.2] ρ := rfl
abbrev xCoder (p : Str) (n : Dt) : Exc := mkX "BadCoder" ["part", "number"] [.str p, n]
theorem r_need_coder (d : Dt) : w_need_coder [.dat d] = match cf d with | none => .ret (.dat d) | some (p, n) => .exc (xCoder p n) := by
  rw [wd_need_coder]
  simp only [t_need_coder, r_fault, xFld, fldK, asRf_rf, bd_rd, bx_rd, exS_rd, bd_wr, bx_wr, exS_wr, pIntB_b, xParW3, parW3a, parW3b, parW3c, dictW_c, pLtA_i, pSumT, pSumL, xwD, xwO, datK, ownK, capN, capC, ygT3c, opK2, opK, chK4, chK3, chK2, chK, unK, andK, orK, notK, andVK2, andVK, notVK2, notVK, ifVK, ifTK, consK2, consK, tupK, lstK, fzK, cbK, isiK, drpK, retK, ifSK, setK, setOK, nxK, asgK, parK, appK, wcK, wdK, callK, forK, lcK, raiseK, bodyX, startE, xSeq, sqF, xNext, xIfS, xRet, xSet, xSetO, xDrop, xAsg, ygT_t, ygsC, ygsN, ygN, xPar, xAppend, xFrz, xVar, xC, xOp, xUn, pNeg_i, xTest, asB_b, xAnd, xOr, xNot, xAndV, xNotV, xIf, xIfT, xChain, xNil, xCons, xTup, xLst, xFz, xCall, rOfT_d, rOfT_o, rOfT_c, rOwT_o, ywNil, ywDat, ywVar, xCB, xIsi, asI_i, xLenS, xFor, ziL, itT_t, itL_l, ziR1, ziET, enT_t, enL_l, xLc, noOwnB, wipeE, xYes, xRaise, pAdd_i, pAdd_t, pAdd_l, pSub_i, pLt_i, pLe_i, pGt_i, pGe_i, pIs_n, pIsNot_n, pIsB_b, pNotB_b, isN_n, isN_b, isN_i, isN_s, isN_t, isN_l, pIx_t, pIx_l, pLen_t, pLen_l, pMin2_i, pMax2_i, pAbs_i, pInt_i, pTuple_t, pTuple_l, pList_t, pList_l, pIadd_i, pSl_t, pSl_l, pEqI, pNeI, pEqS, pNeS, at0, at1, at2, at3, at4, at5, at6, at7, bx_ret, bx_exc, bx_fail, bd_ret, bd_exc, bd_fail, exS_ret, exS_exc, exS_fail, ofO_some, ofO_none, fnE, isi_T, isi_B, isi_I, isi_S, isi_L, sizeL, Option.bind_some, Option.map_some, Option.some.injEq, Int.reduceEq, Int.reduceLE, Int.reduceLT, Int.reduceNeg, Int.reduceAdd, Int.reduceSub, Int.reduceMul, decide_true, decide_false, decide_eq_true_eq, decide_not, eq_self, Int.cast_ofNat_Int, reduceCtorEq, List.length_cons, List.length_nil, List.map_cons, List.map_nil, List.replicate, List.cons_append, List.nil_append, List.append_nil, List.getElem?_cons_zero, List.getElem?_cons_succ, List.getElem?_nil, List.set_cons_zero, List.set_cons_succ, Nat.reduceAdd, Nat.reduceSub, Nat.reduceEqDiff, Nat.reduceLeDiff, Nat.reduceLT, Nat.zero_add, Nat.add_zero, true_and, and_true, false_and, and_false, Bool.not_true, Bool.not_false, Bool.true_and, Bool.and_true, Bool.false_and, Bool.and_false, Bool.or_false, Bool.false_or, Bool.or_true, Bool.true_or, Bool.not_eq_true', if_true, if_false, Bool.false_eq_true, Bool.not_eq_true, ↓reduceIte, ite_true, ite_false, Bool.true_eq_false, not_true_eq_false, not_false_eq_true, Nat.zero_le]
  cases cf d with
  | none => simp only [ftD, xFld, fldK, asRf_rf, bd_rd, bx_rd, exS_rd, bd_wr, bx_wr, exS_wr, pIntB_b, xParW3, parW3a, parW3b, parW3c, dictW_c, pLtA_i, pSumT, pSumL, xwD, xwO, datK, ownK, capN, capC, ygT3c, opK2, opK, chK4, chK3, chK2, chK, unK, andK, orK, notK, andVK2, andVK, notVK2, notVK, ifVK, ifTK, consK2, consK, tupK, lstK, fzK, cbK, isiK, drpK, retK, ifSK, setK, setOK, nxK, asgK, parK, appK, wcK, wdK, callK, forK, lcK, raiseK, bodyX, startE, xSeq, sqF, xNext, xIfS, xRet, xSet, xSetO, xDrop, xAsg, ygT_t, ygsC, ygsN, ygN, xPar, xAppend, xFrz, xVar, xC, xOp, xUn, pNeg_i, xTest, asB_b, xAnd, xOr, xNot, xAndV, xNotV, xIf, xIfT, xChain, xNil, xCons, xTup, xLst, xFz, xCall, rOfT_d, rOfT_o, rOfT_c, rOwT_o, ywNil, ywDat, ywVar, xCB, xIsi, asI_i, xLenS, xFor, ziL, itT_t, itL_l, ziR1, ziET, enT_t, enL_l, xLc, noOwnB, wipeE, xYes, xRaise, pAdd_i, pAdd_t, pAdd_l, pSub_i, pLt_i, pLe_i, pGt_i, pGe_i, pIs_n, pIsNot_n, pIsB_b, pNotB_b, isN_n, isN_b, isN_i, isN_s, isN_t, isN_l, pIx_t, pIx_l, pLen_t, pLen_l, pMin2_i, pMax2_i, pAbs_i, pInt_i, pTuple_t, pTuple_l, pList_t, pList_l, pIadd_i, pSl_t, pSl_l, pEqI, pNeI, pEqS, pNeS, at0, at1, at2, at3, at4, at5, at6, at7, bx_ret, bx_exc, bx_fail, bd_ret, bd_exc, bd_fail, exS_ret, exS_exc, exS_fail, ofO_some, ofO_none, fnE, isi_T, isi_B, isi_I, isi_S, isi_L, sizeL, Option.bind_some, Option.map_some, Option.some.injEq, Int.reduceEq, Int.reduceLE, Int.reduceLT, Int.reduceNeg, Int.reduceAdd, Int.reduceSub, Int.reduceMul, decide_true, decide_false, decide_eq_true_eq, decide_not, eq_self, Int.cast_ofNat_Int, reduceCtorEq, List.length_cons, List.length_nil, List.map_cons, List.map_nil, List.replicate, List.cons_append, List.nil_append, List.append_nil, List.getElem?_cons_zero, List.getElem?_cons_succ, List.getElem?_nil, List.set_cons_zero, List.set_cons_succ, Nat.reduceAdd, Nat.reduceSub, Nat.reduceEqDiff, Nat.reduceLeDiff, Nat.reduceLT, Nat.zero_add, Nat.add_zero, true_and, and_true, false_and, and_false, Bool.not_true, Bool.not_false, Bool.true_and, Bool.and_true, Bool.false_and, Bool.and_false, Bool.or_false, Bool.false_or, Bool.or_true, Bool.true_or, Bool.not_eq_true', if_true, if_false, Bool.false_eq_true, Bool.not_eq_true, ↓reduceIte, ite_true, ite_false, Bool.true_eq_false, not_true_eq_false, not_false_eq_true, Nat.zero_le]
  | some q => obtain ⟨p, n⟩ := q; simp only [ftD, xFld, fldK, asRf_rf, bd_rd, bx_rd, exS_rd, bd_wr, bx_wr, exS_wr, pIntB_b, xParW3, parW3a, parW3b, parW3c, dictW_c, pLtA_i, pSumT, pSumL, xwD, xwO, datK, ownK, capN, capC, ygT3c, opK2, opK, chK4, chK3, chK2, chK, unK, andK, orK, notK, andVK2, andVK, notVK2, notVK, ifVK, ifTK, consK2, consK, tupK, lstK, fzK, cbK, isiK, drpK, retK, ifSK, setK, setOK, nxK, asgK, parK, appK, wcK, wdK, callK, forK, lcK, raiseK, bodyX, startE, xSeq, sqF, xNext, xIfS, xRet, xSet, xSetO, xDrop, xAsg, ygT_t, ygsC, ygsN, ygN, xPar, xAppend, xFrz, xVar, xC, xOp, xUn, pNeg_i, xTest, asB_b, xAnd, xOr, xNot, xAndV, xNotV, xIf, xIfT, xChain, xNil, xCons, xTup, xLst, xFz, xCall, rOfT_d, rOfT_o, rOfT_c, rOwT_o, ywNil, ywDat, ywVar, xCB, xIsi, asI_i, xLenS, xFor, ziL, itT_t, itL_l, ziR1, ziET, enT_t, enL_l, xLc, noOwnB, wipeE, xYes, xRaise, pAdd_i, pAdd_t, pAdd_l, pSub_i, pLt_i, pLe_i, pGt_i, pGe_i, pIs_n, pIsNot_n, pIsB_b, pNotB_b, isN_n, isN_b, isN_i, isN_s, isN_t, isN_l, pIx_t, pIx_l, pLen_t, pLen_l, pMin2_i, pMax2_i, pAbs_i, pInt_i, pTuple_t, pTuple_l, pList_t, pList_l, pIadd_i, pSl_t, pSl_l, pEqI, pNeI, pEqS, pNeS, at0, at1, at2, at3, at4, at5, at6, at7, bx_ret, bx_exc, bx_fail, bd_ret, bd_exc, bd_fail, exS_ret, exS_exc, exS_fail, ofO_some, ofO_none, fnE, isi_T, isi_B, isi_I, isi_S, isi_L, sizeL, Option.bind_some, Option.map_some, Option.some.injEq, Int.reduceEq, Int.reduceLE, Int.reduceLT, Int.reduceNeg, Int.reduceAdd, Int.reduceSub, Int.reduceMul, decide_true, decide_false, decide_eq_true_eq, decide_not, eq_self, Int.cast_ofNat_Int, reduceCtorEq, List.length_cons, List.length_nil, List.map_cons, List.map_nil, List.replicate, List.cons_append, List.nil_append, List.append_nil, List.getElem?_cons_zero, List.getElem?_cons_succ, List.getElem?_nil, List.set_cons_zero, List.set_cons_succ, Nat.reduceAdd, Nat.reduceSub, Nat.reduceEqDiff, Nat.reduceLeDiff, Nat.reduceLT, Nat.zero_add, Nat.add_zero, true_and, and_true, false_and, and_false, Bool.not_true, Bool.not_false, Bool.true_and, Bool.and_true, Bool.false_and, Bool.and_false, Bool.or_false, Bool.false_or, Bool.or_true, Bool.true_or, Bool.not_eq_true', if_true, if_false, Bool.false_eq_true, Bool.not_eq_true, ↓reduceIte, ite_true, ite_false, Bool.true_eq_false, not_true_eq_false, not_false_eq_true, Nat.zero_le]
theorem r_needC {c : Cd} (h : c.Ok) : w_need_coder [.dat c.d] = .ret (.dat c.d) := by rw [r_need_coder, cf_ok h]
def Cd.stB (c : Cd) (d : Dt) : Bool := match d with
  | .tuple [a, b] => wh a c.low c.high && wh b 0 (c.steps.length - 1)
  | _ => false
theorem Cd.stB_ok {c : Cd} {s : Int × Int} (h : c.St s) : c.stB (stD s) = true := by
  obtain ⟨h1, h2, h3, h4⟩ := h
  simp only [Cd.stB, stD, wh, Bool.and_eq_true, inR_true]
  omega
theorem r_is_state (c : Cd) (d : Dt) : w_is_state [.dat c.d, .dat d] = .ret (.dat (.bool (c.stB d))) := by
  rw [wd_is_state]
  cases d <;> simp only [t_is_state, Cd.stB, xFld, fldK, asRf_rf, bd_rd, bx_rd, exS_rd, bd_wr, bx_wr, exS_wr, pIntB_b, xParW3, parW3a, parW3b, parW3c, dictW_c, pLtA_i, pSumT, pSumL, xwD, xwO, datK, ownK, capN, capC, ygT3c, opK2, opK, chK4, chK3, chK2, chK, unK, andK, orK, notK, andVK2, andVK, notVK2, notVK, ifVK, ifTK, consK2, consK, tupK, lstK, fzK, cbK, isiK, drpK, retK, ifSK, setK, setOK, nxK, asgK, parK, appK, wcK, wdK, callK, forK, lcK, raiseK, bodyX, startE, xSeq, sqF, xNext, xIfS, xRet, xSet, xSetO, xDrop, xAsg, ygT_t, ygsC, ygsN, ygN, xPar, xAppend, xFrz, xVar, xC, xOp, xUn, pNeg_i, xTest, asB_b, xAnd, xOr, xNot, xAndV, xNotV, xIf, xIfT, xChain, xNil, xCons, xTup, xLst, xFz, xCall, rOfT_d, rOfT_o, rOfT_c, rOwT_o, ywNil, ywDat, ywVar, xCB, xIsi, asI_i, xLenS, xFor, ziL, itT_t, itL_l, ziR1, ziET, enT_t, enL_l, xLc, noOwnB, wipeE, xYes, xRaise, pAdd_i, pAdd_t, pAdd_l, pSub_i, pLt_i, pLe_i, pGt_i, pGe_i, pIs_n, pIsNot_n, pIsB_b, pNotB_b, isN_n, isN_b, isN_i, isN_s, isN_t, isN_l, pIx_t, pIx_l, pLen_t, pLen_l, pMin2_i, pMax2_i, pAbs_i, pInt_i, pTuple_t, pTuple_l, pList_t, pList_l, pIadd_i, pSl_t, pSl_l, pEqI, pNeI, pEqS, pNeS, at0, at1, at2, at3, at4, at5, at6, at7, bx_ret, bx_exc, bx_fail, bd_ret, bd_exc, bd_fail, exS_ret, exS_exc, exS_fail, ofO_some, ofO_none, fnE, isi_T, isi_B, isi_I, isi_S, isi_L, sizeL, Option.bind_some, Option.map_some, Option.some.injEq, Int.reduceEq, Int.reduceLE, Int.reduceLT, Int.reduceNeg, Int.reduceAdd, Int.reduceSub, Int.reduceMul, decide_true, decide_false, decide_eq_true_eq, decide_not, eq_self, Int.cast_ofNat_Int, reduceCtorEq, List.length_cons, List.length_nil, List.map_cons, List.map_nil, List.replicate, List.cons_append, List.nil_append, List.append_nil, List.getElem?_cons_zero, List.getElem?_cons_succ, List.getElem?_nil, List.set_cons_zero, List.set_cons_succ, Nat.reduceAdd, Nat.reduceSub, Nat.reduceEqDiff, Nat.reduceLeDiff, Nat.reduceLT, Nat.zero_add, Nat.add_zero, true_and, and_true, false_and, and_false, Bool.not_true, Bool.not_false, Bool.true_and, Bool.and_true, Bool.false_and, Bool.and_false, Bool.or_false, Bool.false_or, Bool.or_true, Bool.true_or, Bool.not_eq_true', if_true, if_false, Bool.false_eq_true, Bool.not_eq_true, ↓reduceIte, ite_true, ite_false, Bool.true_eq_false, not_true_eq_false, not_false_eq_true, Nat.zero_le]
  next ds =>
  match ds with
  | [] => simp only [Cd.stB, xFld, fldK, asRf_rf, bd_rd, bx_rd, exS_rd, bd_wr, bx_wr, exS_wr, pIntB_b, xParW3, parW3a, parW3b, parW3c, dictW_c, pLtA_i, pSumT, pSumL, xwD, xwO, datK, ownK, capN, capC, ygT3c, opK2, opK, chK4, chK3, chK2, chK, unK, andK, orK, notK, andVK2, andVK, notVK2, notVK, ifVK, ifTK, consK2, consK, tupK, lstK, fzK, cbK, isiK, drpK, retK, ifSK, setK, setOK, nxK, asgK, parK, appK, wcK, wdK, callK, forK, lcK, raiseK, bodyX, startE, xSeq, sqF, xNext, xIfS, xRet, xSet, xSetO, xDrop, xAsg, ygT_t, ygsC, ygsN, ygN, xPar, xAppend, xFrz, xVar, xC, xOp, xUn, pNeg_i, xTest, asB_b, xAnd, xOr, xNot, xAndV, xNotV, xIf, xIfT, xChain, xNil, xCons, xTup, xLst, xFz, xCall, rOfT_d, rOfT_o, rOfT_c, rOwT_o, ywNil, ywDat, ywVar, xCB, xIsi, asI_i, xLenS, xFor, ziL, itT_t, itL_l, ziR1, ziET, enT_t, enL_l, xLc, noOwnB, wipeE, xYes, xRaise, pAdd_i, pAdd_t, pAdd_l, pSub_i, pLt_i, pLe_i, pGt_i, pGe_i, pIs_n, pIsNot_n, pIsB_b, pNotB_b, isN_n, isN_b, isN_i, isN_s, isN_t, isN_l, pIx_t, pIx_l, pLen_t, pLen_l, pMin2_i, pMax2_i, pAbs_i, pInt_i, pTuple_t, pTuple_l, pList_t, pList_l, pIadd_i, pSl_t, pSl_l, pEqI, pNeI, pEqS, pNeS, at0, at1, at2, at3, at4, at5, at6, at7, bx_ret, bx_exc, bx_fail, bd_ret, bd_exc, bd_fail, exS_ret, exS_exc, exS_fail, ofO_some, ofO_none, fnE, isi_T, isi_B, isi_I, isi_S, isi_L, sizeL, Option.bind_some, Option.map_some, Option.some.injEq, Int.reduceEq, Int.reduceLE, Int.reduceLT, Int.reduceNeg, Int.reduceAdd, Int.reduceSub, Int.reduceMul, decide_true, decide_false, decide_eq_true_eq, decide_not, eq_self, Int.cast_ofNat_Int, reduceCtorEq, List.length_cons, List.length_nil, List.map_cons, List.map_nil, List.replicate, List.cons_append, List.nil_append, List.append_nil, List.getElem?_cons_zero, List.getElem?_cons_succ, List.getElem?_nil, List.set_cons_zero, List.set_cons_succ, Nat.reduceAdd, Nat.reduceSub, Nat.reduceEqDiff, Nat.reduceLeDiff, Nat.reduceLT, Nat.zero_add, Nat.add_zero, true_and, and_true, false_and, and_false, Bool.not_true, Bool.not_false, Bool.true_and, Bool.and_true, Bool.false_and, Bool.and_false, Bool.or_false, Bool.false_or, Bool.or_true, Bool.true_or, Bool.not_eq_true', if_true, if_false, Bool.false_eq_true, Bool.not_eq_true, ↓reduceIte, ite_true, ite_false, Bool.true_eq_false, not_true_eq_false, not_false_eq_true, Nat.zero_le]
  | [_] => simp only [Cd.stB, xFld, fldK, asRf_rf, bd_rd, bx_rd, exS_rd, bd_wr, bx_wr, exS_wr, pIntB_b, xParW3, parW3a, parW3b, parW3c, dictW_c, pLtA_i, pSumT, pSumL, xwD, xwO, datK, ownK, capN, capC, ygT3c, opK2, opK, chK4, chK3, chK2, chK, unK, andK, orK, notK, andVK2, andVK, notVK2, notVK, ifVK, ifTK, consK2, consK, tupK, lstK, fzK, cbK, isiK, drpK, retK, ifSK, setK, setOK, nxK, asgK, parK, appK, wcK, wdK, callK, forK, lcK, raiseK, bodyX, startE, xSeq, sqF, xNext, xIfS, xRet, xSet, xSetO, xDrop, xAsg, ygT_t, ygsC, ygsN, ygN, xPar, xAppend, xFrz, xVar, xC, xOp, xUn, pNeg_i, xTest, asB_b, xAnd, xOr, xNot, xAndV, xNotV, xIf, xIfT, xChain, xNil, xCons, xTup, xLst, xFz, xCall, rOfT_d, rOfT_o, rOfT_c, rOwT_o, ywNil, ywDat, ywVar, xCB, xIsi, asI_i, xLenS, xFor, ziL, itT_t, itL_l, ziR1, ziET, enT_t, enL_l, xLc, noOwnB, wipeE, xYes, xRaise, pAdd_i, pAdd_t, pAdd_l, pSub_i, pLt_i, pLe_i, pGt_i, pGe_i, pIs_n, pIsNot_n, pIsB_b, pNotB_b, isN_n, isN_b, isN_i, isN_s, isN_t, isN_l, pIx_t, pIx_l, pLen_t, pLen_l, pMin2_i, pMax2_i, pAbs_i, pInt_i, pTuple_t, pTuple_l, pList_t, pList_l, pIadd_i, pSl_t, pSl_l, pEqI, pNeI, pEqS, pNeS, at0, at1, at2, at3, at4, at5, at6, at7, bx_ret, bx_exc, bx_fail, bd_ret, bd_exc, bd_fail, exS_ret, exS_exc, exS_fail, ofO_some, ofO_none, fnE, isi_T, isi_B, isi_I, isi_S, isi_L, sizeL, Option.bind_some, Option.map_some, Option.some.injEq, Int.reduceEq, Int.reduceLE, Int.reduceLT, Int.reduceNeg, Int.reduceAdd, Int.reduceSub, Int.reduceMul, decide_true, decide_false, decide_eq_true_eq, decide_not, eq_self, Int.cast_ofNat_Int, reduceCtorEq, List.length_cons, List.length_nil, List.map_cons, List.map_nil, List.replicate, List.cons_append, List.nil_append, List.append_nil, List.getElem?_cons_zero, List.getElem?_cons_succ, List.getElem?_nil, List.set_cons_zero, List.set_cons_succ, Nat.reduceAdd, Nat.reduceSub, Nat.reduceEqDiff, Nat.reduceLeDiff, Nat.reduceLT, Nat.zero_add, Nat.add_zero, true_and, and_true, false_and, and_false, Bool.not_true, Bool.not_false, Bool.true_and, Bool.and_true, Bool.false_and, Bool.and_false, Bool.or_false, Bool.false_or, Bool.or_true, Bool.true_or, Bool.not_eq_true', if_true, if_false, Bool.false_eq_true, Bool.not_eq_true, ↓reduceIte, ite_true, ite_false, Bool.true_eq_false, not_true_eq_false, not_false_eq_true, Nat.zero_le]
  | [a, b] =>
    simp only [Cd.stB, Cd.d, r_whole, List.length_map, xFld, fldK, asRf_rf, bd_rd, bx_rd, exS_rd, bd_wr, bx_wr, exS_wr, pIntB_b, xParW3, parW3a, parW3b, parW3c, dictW_c, pLtA_i, pSumT, pSumL, xwD, xwO, datK, ownK, capN, capC, ygT3c, opK2, opK, chK4, chK3, chK2, chK, unK, andK, orK, notK, andVK2, andVK, notVK2, notVK, ifVK, ifTK, consK2, consK, tupK, lstK, fzK, cbK, isiK, drpK, retK, ifSK, setK, setOK, nxK, asgK, parK, appK, wcK, wdK, callK, forK, lcK, raiseK, bodyX, startE, xSeq, sqF, xNext, xIfS, xRet, xSet, xSetO, xDrop, xAsg, ygT_t, ygsC, ygsN, ygN, xPar, xAppend, xFrz, xVar, xC, xOp, xUn, pNeg_i, xTest, asB_b, xAnd, xOr, xNot, xAndV, xNotV, xIf, xIfT, xChain, xNil, xCons, xTup, xLst, xFz, xCall, rOfT_d, rOfT_o, rOfT_c, rOwT_o, ywNil, ywDat, ywVar, xCB, xIsi, asI_i, xLenS, xFor, ziL, itT_t, itL_l, ziR1, ziET, enT_t, enL_l, xLc, noOwnB, wipeE, xYes, xRaise, pAdd_i, pAdd_t, pAdd_l, pSub_i, pLt_i, pLe_i, pGt_i, pGe_i, pIs_n, pIsNot_n, pIsB_b, pNotB_b, isN_n, isN_b, isN_i, isN_s, isN_t, isN_l, pIx_t, pIx_l, pLen_t, pLen_l, pMin2_i, pMax2_i, pAbs_i, pInt_i, pTuple_t, pTuple_l, pList_t, pList_l, pIadd_i, pSl_t, pSl_l, pEqI, pNeI, pEqS, pNeS, at0, at1, at2, at3, at4, at5, at6, at7, bx_ret, bx_exc, bx_fail, bd_ret, bd_exc, bd_fail, exS_ret, exS_exc, exS_fail, ofO_some, ofO_none, fnE, isi_T, isi_B, isi_I, isi_S, isi_L, sizeL, Option.bind_some, Option.map_some, Option.some.injEq, Int.reduceEq, Int.reduceLE, Int.reduceLT, Int.reduceNeg, Int.reduceAdd, Int.reduceSub, Int.reduceMul, decide_true, decide_false, decide_eq_true_eq, decide_not, eq_self, Int.cast_ofNat_Int, reduceCtorEq, List.length_cons, List.length_nil, List.map_cons, List.map_nil, List.replicate, List.cons_append, List.nil_append, List.append_nil, List.getElem?_cons_zero, List.getElem?_cons_succ, List.getElem?_nil, List.set_cons_zero, List.set_cons_succ, Nat.reduceAdd, Nat.reduceSub, Nat.reduceEqDiff, Nat.reduceLeDiff, Nat.reduceLT, Nat.zero_add, Nat.add_zero, true_and, and_true, false_and, and_false, Bool.not_true, Bool.not_false, Bool.true_and, Bool.and_true, Bool.false_and, Bool.and_false, Bool.or_false, Bool.false_or, Bool.or_true, Bool.true_or, Bool.not_eq_true', if_true, if_false, Bool.false_eq_true, Bool.not_eq_true, ↓reduceIte, ite_true, ite_false, Bool.true_eq_false, not_true_eq_false, not_false_eq_true, Nat.zero_le]
    cases wh a c.low c.high <;> simp only [r_whole, List.length_map, xFld, fldK, asRf_rf, bd_rd, bx_rd, exS_rd, bd_wr, bx_wr, exS_wr, pIntB_b, xParW3, parW3a, parW3b, parW3c, dictW_c, pLtA_i, pSumT, pSumL, xwD, xwO, datK, ownK, capN, capC, ygT3c, opK2, opK, chK4, chK3, chK2, chK, unK, andK, orK, notK, andVK2, andVK, notVK2, notVK, ifVK, ifTK, consK2, consK, tupK, lstK, fzK, cbK, isiK, drpK, retK, ifSK, setK, setOK, nxK, asgK, parK, appK, wcK, wdK, callK, forK, lcK, raiseK, bodyX, startE, xSeq, sqF, xNext, xIfS, xRet, xSet, xSetO, xDrop, xAsg, ygT_t, ygsC, ygsN, ygN, xPar, xAppend, xFrz, xVar, xC, xOp, xUn, pNeg_i, xTest, asB_b, xAnd, xOr, xNot, xAndV, xNotV, xIf, xIfT, xChain, xNil, xCons, xTup, xLst, xFz, xCall, rOfT_d, rOfT_o, rOfT_c, rOwT_o, ywNil, ywDat, ywVar, xCB, xIsi, asI_i, xLenS, xFor, ziL, itT_t, itL_l, ziR1, ziET, enT_t, enL_l, xLc, noOwnB, wipeE, xYes, xRaise, pAdd_i, pAdd_t, pAdd_l, pSub_i, pLt_i, pLe_i, pGt_i, pGe_i, pIs_n, pIsNot_n, pIsB_b, pNotB_b, isN_n, isN_b, isN_i, isN_s, isN_t, isN_l, pIx_t, pIx_l, pLen_t, pLen_l, pMin2_i, pMax2_i, pAbs_i, pInt_i, pTuple_t, pTuple_l, pList_t, pList_l, pIadd_i, pSl_t, pSl_l, pEqI, pNeI, pEqS, pNeS, at0, at1, at2, at3, at4, at5, at6, at7, bx_ret, bx_exc, bx_fail, bd_ret, bd_exc, bd_fail, exS_ret, exS_exc, exS_fail, ofO_some, ofO_none, fnE, isi_T, isi_B, isi_I, isi_S, isi_L, sizeL, Option.bind_some, Option.map_some, Option.some.injEq, Int.reduceEq, Int.reduceLE, Int.reduceLT, Int.reduceNeg, Int.reduceAdd, Int.reduceSub, Int.reduceMul, decide_true, decide_false, decide_eq_true_eq, decide_not, eq_self, Int.cast_ofNat_Int, reduceCtorEq, List.length_cons, List.length_nil, List.map_cons, List.map_nil, List.replicate, List.cons_append, List.nil_append, List.append_nil, List.getElem?_cons_zero, List.getElem?_cons_succ, List.getElem?_nil, List.set_cons_zero, List.set_cons_succ, Nat.reduceAdd, Nat.reduceSub, Nat.reduceEqDiff, Nat.reduceLeDiff, Nat.reduceLT, Nat.zero_add, Nat.add_zero, true_and, and_true, false_and, and_false, Bool.not_true, Bool.not_false, Bool.true_and, Bool.and_true, Bool.false_and, Bool.and_false, Bool.or_false, Bool.false_or, Bool.or_true, Bool.true_or, Bool.not_eq_true', if_true, if_false, Bool.false_eq_true, Bool.not_eq_true, ↓reduceIte, ite_true, ite_false, Bool.true_eq_false, not_true_eq_false, not_false_eq_true, Nat.zero_le]
  | _ :: _ :: _ :: r =>
    have e : ¬ (((r.length + 1 + 1 + 1 : Nat) : Int) = 2) := by omega
    simp only [Cd.stB, e, xFld, fldK, asRf_rf, bd_rd, bx_rd, exS_rd, bd_wr, bx_wr, exS_wr, pIntB_b, xParW3, parW3a, parW3b, parW3c, dictW_c, pLtA_i, pSumT, pSumL, xwD, xwO, datK, ownK, capN, capC, ygT3c, opK2, opK, chK4, chK3, chK2, chK, unK, andK, orK, notK, andVK2, andVK, notVK2, notVK, ifVK, ifTK, consK2, consK, tupK, lstK, fzK, cbK, isiK, drpK, retK, ifSK, setK, setOK, nxK, asgK, parK, appK, wcK, wdK, callK, forK, lcK, raiseK, bodyX, startE, xSeq, sqF, xNext, xIfS, xRet, xSet, xSetO, xDrop, xAsg, ygT_t, ygsC, ygsN, ygN, xPar, xAppend, xFrz, xVar, xC, xOp, xUn, pNeg_i, xTest, asB_b, xAnd, xOr, xNot, xAndV, xNotV, xIf, xIfT, xChain, xNil, xCons, xTup, xLst, xFz, xCall, rOfT_d, rOfT_o, rOfT_c, rOwT_o, ywNil, ywDat, ywVar, xCB, xIsi, asI_i, xLenS, xFor, ziL, itT_t, itL_l, ziR1, ziET, enT_t, enL_l, xLc, noOwnB, wipeE, xYes, xRaise, pAdd_i, pAdd_t, pAdd_l, pSub_i, pLt_i, pLe_i, pGt_i, pGe_i, pIs_n, pIsNot_n, pIsB_b, pNotB_b, isN_n, isN_b, isN_i, isN_s, isN_t, isN_l, pIx_t, pIx_l, pLen_t, pLen_l, pMin2_i, pMax2_i, pAbs_i, pInt_i, pTuple_t, pTuple_l, pList_t, pList_l, pIadd_i, pSl_t, pSl_l, pEqI, pNeI, pEqS, pNeS, at0, at1, at2, at3, at4, at5, at6, at7, bx_ret, bx_exc, bx_fail, bd_ret, bd_exc, bd_fail, exS_ret, exS_exc, exS_fail, ofO_some, ofO_none, fnE, isi_T, isi_B, isi_I, isi_S, isi_L, sizeL, Option.bind_some, Option.map_some, Option.some.injEq, Int.reduceEq, Int.reduceLE, Int.reduceLT, Int.reduceNeg, Int.reduceAdd, Int.reduceSub, Int.reduceMul, decide_true, decide_false, decide_eq_true_eq, decide_not, eq_self, Int.cast_ofNat_Int, reduceCtorEq, List.length_cons, List.length_nil, List.map_cons, List.map_nil, List.replicate, List.cons_append, List.nil_append, List.append_nil, List.getElem?_cons_zero, List.getElem?_cons_succ, List.getElem?_nil, List.set_cons_zero, List.set_cons_succ, Nat.reduceAdd, Nat.reduceSub, Nat.reduceEqDiff, Nat.reduceLeDiff, Nat.reduceLT, Nat.zero_add, Nat.add_zero, true_and, and_true, false_and, and_false, Bool.not_true, Bool.not_false, Bool.true_and, Bool.and_true, Bool.false_and, Bool.and_false, Bool.or_false, Bool.false_or, Bool.or_true, Bool.true_or, Bool.not_eq_true', if_true, if_false, Bool.false_eq_true, Bool.not_eq_true, ↓reduceIte, ite_true, ite_false, Bool.true_eq_false, not_true_eq_false, not_false_eq_true, Nat.zero_le]
theorem r_need_state (c : Cd) (d : Dt) : w_need_state [.dat c.d, .dat d] = if c.stB d = true then .ret (.dat .none) else .exc (xPlace "no state of the coder") := by
  rw [wd_need_state]
  simp only [t_need_state, r_is_state, xFld, fldK, asRf_rf, bd_rd, bx_rd, exS_rd, bd_wr, bx_wr, exS_wr, pIntB_b, xParW3, parW3a, parW3b, parW3c, dictW_c, pLtA_i, pSumT, pSumL, xwD, xwO, datK, ownK, capN, capC, ygT3c, opK2, opK, chK4, chK3, chK2, chK, unK, andK, orK, notK, andVK2, andVK, notVK2, notVK, ifVK, ifTK, consK2, consK, tupK, lstK, fzK, cbK, isiK, drpK, retK, ifSK, setK, setOK, nxK, asgK, parK, appK, wcK, wdK, callK, forK, lcK, raiseK, bodyX, startE, xSeq, sqF, xNext, xIfS, xRet, xSet, xSetO, xDrop, xAsg, ygT_t, ygsC, ygsN, ygN, xPar, xAppend, xFrz, xVar, xC, xOp, xUn, pNeg_i, xTest, asB_b, xAnd, xOr, xNot, xAndV, xNotV, xIf, xIfT, xChain, xNil, xCons, xTup, xLst, xFz, xCall, rOfT_d, rOfT_o, rOfT_c, rOwT_o, ywNil, ywDat, ywVar, xCB, xIsi, asI_i, xLenS, xFor, ziL, itT_t, itL_l, ziR1, ziET, enT_t, enL_l, xLc, noOwnB, wipeE, xYes, xRaise, pAdd_i, pAdd_t, pAdd_l, pSub_i, pLt_i, pLe_i, pGt_i, pGe_i, pIs_n, pIsNot_n, pIsB_b, pNotB_b, isN_n, isN_b, isN_i, isN_s, isN_t, isN_l, pIx_t, pIx_l, pLen_t, pLen_l, pMin2_i, pMax2_i, pAbs_i, pInt_i, pTuple_t, pTuple_l, pList_t, pList_l, pIadd_i, pSl_t, pSl_l, pEqI, pNeI, pEqS, pNeS, at0, at1, at2, at3, at4, at5, at6, at7, bx_ret, bx_exc, bx_fail, bd_ret, bd_exc, bd_fail, exS_ret, exS_exc, exS_fail, ofO_some, ofO_none, fnE, isi_T, isi_B, isi_I, isi_S, isi_L, sizeL, Option.bind_some, Option.map_some, Option.some.injEq, Int.reduceEq, Int.reduceLE, Int.reduceLT, Int.reduceNeg, Int.reduceAdd, Int.reduceSub, Int.reduceMul, decide_true, decide_false, decide_eq_true_eq, decide_not, eq_self, Int.cast_ofNat_Int, reduceCtorEq, List.length_cons, List.length_nil, List.map_cons, List.map_nil, List.replicate, List.cons_append, List.nil_append, List.append_nil, List.getElem?_cons_zero, List.getElem?_cons_succ, List.getElem?_nil, List.set_cons_zero, List.set_cons_succ, Nat.reduceAdd, Nat.reduceSub, Nat.reduceEqDiff, Nat.reduceLeDiff, Nat.reduceLT, Nat.zero_add, Nat.add_zero, true_and, and_true, false_and, and_false, Bool.not_true, Bool.not_false, Bool.true_and, Bool.and_true, Bool.false_and, Bool.and_false, Bool.or_false, Bool.false_or, Bool.or_true, Bool.true_or, Bool.not_eq_true', if_true, if_false, Bool.false_eq_true, Bool.not_eq_true, ↓reduceIte, ite_true, ite_false, Bool.true_eq_false, not_true_eq_false, not_false_eq_true, Nat.zero_le]
  cases c.stB d <;> simp only [xFld, fldK, asRf_rf, bd_rd, bx_rd, exS_rd, bd_wr, bx_wr, exS_wr, pIntB_b, xParW3, parW3a, parW3b, parW3c, dictW_c, pLtA_i, pSumT, pSumL, xwD, xwO, datK, ownK, capN, capC, ygT3c, opK2, opK, chK4, chK3, chK2, chK, unK, andK, orK, notK, andVK2, andVK, notVK2, notVK, ifVK, ifTK, consK2, consK, tupK, lstK, fzK, cbK, isiK, drpK, retK, ifSK, setK, setOK, nxK, asgK, parK, appK, wcK, wdK, callK, forK, lcK, raiseK, bodyX, startE, xSeq, sqF, xNext, xIfS, xRet, xSet, xSetO, xDrop, xAsg, ygT_t, ygsC, ygsN, ygN, xPar, xAppend, xFrz, xVar, xC, xOp, xUn, pNeg_i, xTest, asB_b, xAnd, xOr, xNot, xAndV, xNotV, xIf, xIfT, xChain, xNil, xCons, xTup, xLst, xFz, xCall, rOfT_d, rOfT_o, rOfT_c, rOwT_o, ywNil, ywDat, ywVar, xCB, xIsi, asI_i, xLenS, xFor, ziL, itT_t, itL_l, ziR1, ziET, enT_t, enL_l, xLc, noOwnB, wipeE, xYes, xRaise, pAdd_i, pAdd_t, pAdd_l, pSub_i, pLt_i, pLe_i, pGt_i, pGe_i, pIs_n, pIsNot_n, pIsB_b, pNotB_b, isN_n, isN_b, isN_i, isN_s, isN_t, isN_l, pIx_t, pIx_l, pLen_t, pLen_l, pMin2_i, pMax2_i, pAbs_i, pInt_i, pTuple_t, pTuple_l, pList_t, pList_l, pIadd_i, pSl_t, pSl_l, pEqI, pNeI, pEqS, pNeS, at0, at1, at2, at3, at4, at5, at6, at7, bx_ret, bx_exc, bx_fail, bd_ret, bd_exc, bd_fail, exS_ret, exS_exc, exS_fail, ofO_some, ofO_none, fnE, isi_T, isi_B, isi_I, isi_S, isi_L, sizeL, Option.bind_some, Option.map_some, Option.some.injEq, Int.reduceEq, Int.reduceLE, Int.reduceLT, Int.reduceNeg, Int.reduceAdd, Int.reduceSub, Int.reduceMul, decide_true, decide_false, decide_eq_true_eq, decide_not, eq_self, Int.cast_ofNat_Int, reduceCtorEq, List.length_cons, List.length_nil, List.map_cons, List.map_nil, List.replicate, List.cons_append, List.nil_append, List.append_nil, List.getElem?_cons_zero, List.getElem?_cons_succ, List.getElem?_nil, List.set_cons_zero, List.set_cons_succ, Nat.reduceAdd, Nat.reduceSub, Nat.reduceEqDiff, Nat.reduceLeDiff, Nat.reduceLT, Nat.zero_add, Nat.add_zero, true_and, and_true, false_and, and_false, Bool.not_true, Bool.not_false, Bool.true_and, Bool.and_true, Bool.false_and, Bool.and_false, Bool.or_false, Bool.false_or, Bool.or_true, Bool.true_or, Bool.not_eq_true', if_true, if_false, Bool.false_eq_true, Bool.not_eq_true, ↓reduceIte, ite_true, ite_false, Bool.true_eq_false, not_true_eq_false, not_false_eq_true, Nat.zero_le]
theorem r_needS {c : Cd} {s : Int × Int} (h : c.St s) : w_need_state [.dat c.d, .dat (stD s)] = .ret (.dat .none) := by rw [r_need_state, Cd.stB_ok h]; rfl
def Cd.coB (c : Cd) (d : Dt) : Bool := wh d 0 (c.moves.length - 1)
theorem Cd.coB_ok {c : Cd} {k : Int} (h : c.Co k) : c.coB (.int k) = true := inR_of h.1 (by have := h.2; omega)
theorem r_is_code (c : Cd) (d : Dt) : w_is_code [.dat c.d, .dat d] = .ret (.dat (.bool (c.coB d))) := by
  rw [wd_is_code]
  simp only [t_is_code, Cd.d, Cd.coB, r_whole, List.length_map, xFld, fldK, asRf_rf, bd_rd, bx_rd, exS_rd, bd_wr, bx_wr, exS_wr, pIntB_b, xParW3, parW3a, parW3b, parW3c, dictW_c, pLtA_i, pSumT, pSumL, xwD, xwO, datK, ownK, capN, capC, ygT3c, opK2, opK, chK4, chK3, chK2, chK, unK, andK, orK, notK, andVK2, andVK, notVK2, notVK, ifVK, ifTK, consK2, consK, tupK, lstK, fzK, cbK, isiK, drpK, retK, ifSK, setK, setOK, nxK, asgK, parK, appK, wcK, wdK, callK, forK, lcK, raiseK, bodyX, startE, xSeq, sqF, xNext, xIfS, xRet, xSet, xSetO, xDrop, xAsg, ygT_t, ygsC, ygsN, ygN, xPar, xAppend, xFrz, xVar, xC, xOp, xUn, pNeg_i, xTest, asB_b, xAnd, xOr, xNot, xAndV, xNotV, xIf, xIfT, xChain, xNil, xCons, xTup, xLst, xFz, xCall, rOfT_d, rOfT_o, rOfT_c, rOwT_o, ywNil, ywDat, ywVar, xCB, xIsi, asI_i, xLenS, xFor, ziL, itT_t, itL_l, ziR1, ziET, enT_t, enL_l, xLc, noOwnB, wipeE, xYes, xRaise, pAdd_i, pAdd_t, pAdd_l, pSub_i, pLt_i, pLe_i, pGt_i, pGe_i, pIs_n, pIsNot_n, pIsB_b, pNotB_b, isN_n, isN_b, isN_i, isN_s, isN_t, isN_l, pIx_t, pIx_l, pLen_t, pLen_l, pMin2_i, pMax2_i, pAbs_i, pInt_i, pTuple_t, pTuple_l, pList_t, pList_l, pIadd_i, pSl_t, pSl_l, pEqI, pNeI, pEqS, pNeS, at0, at1, at2, at3, at4, at5, at6, at7, bx_ret, bx_exc, bx_fail, bd_ret, bd_exc, bd_fail, exS_ret, exS_exc, exS_fail, ofO_some, ofO_none, fnE, isi_T, isi_B, isi_I, isi_S, isi_L, sizeL, Option.bind_some, Option.map_some, Option.some.injEq, Int.reduceEq, Int.reduceLE, Int.reduceLT, Int.reduceNeg, Int.reduceAdd, Int.reduceSub, Int.reduceMul, decide_true, decide_false, decide_eq_true_eq, decide_not, eq_self, Int.cast_ofNat_Int, reduceCtorEq, List.length_cons, List.length_nil, List.map_cons, List.map_nil, List.replicate, List.cons_append, List.nil_append, List.append_nil, List.getElem?_cons_zero, List.getElem?_cons_succ, List.getElem?_nil, List.set_cons_zero, List.set_cons_succ, Nat.reduceAdd, Nat.reduceSub, Nat.reduceEqDiff, Nat.reduceLeDiff, Nat.reduceLT, Nat.zero_add, Nat.add_zero, true_and, and_true, false_and, and_false, Bool.not_true, Bool.not_false, Bool.true_and, Bool.and_true, Bool.false_and, Bool.and_false, Bool.or_false, Bool.false_or, Bool.or_true, Bool.true_or, Bool.not_eq_true', if_true, if_false, Bool.false_eq_true, Bool.not_eq_true, ↓reduceIte, ite_true, ite_false, Bool.true_eq_false, not_true_eq_false, not_false_eq_true, Nat.zero_le]
theorem r_need_code (c : Cd) (d : Dt) : w_need_code [.dat c.d, .dat d] = if c.coB d = true then .ret (.dat .none) else .exc (mkX "OutOfPlace" ["text"] [.str "no code of the coder"]) := by
  rw [wd_need_code]
  simp only [t_need_code, r_is_code, xFld, fldK, asRf_rf, bd_rd, bx_rd, exS_rd, bd_wr, bx_wr, exS_wr, pIntB_b, xParW3, parW3a, parW3b, parW3c, dictW_c, pLtA_i, pSumT, pSumL, xwD, xwO, datK, ownK, capN, capC, ygT3c, opK2, opK, chK4, chK3, chK2, chK, unK, andK, orK, notK, andVK2, andVK, notVK2, notVK, ifVK, ifTK, consK2, consK, tupK, lstK, fzK, cbK, isiK, drpK, retK, ifSK, setK, setOK, nxK, asgK, parK, appK, wcK, wdK, callK, forK, lcK, raiseK, bodyX, startE, xSeq, sqF, xNext, xIfS, xRet, xSet, xSetO, xDrop, xAsg, ygT_t, ygsC, ygsN, ygN, xPar, xAppend, xFrz, xVar, xC, xOp, xUn, pNeg_i, xTest, asB_b, xAnd, xOr, xNot, xAndV, xNotV, xIf, xIfT, xChain, xNil, xCons, xTup, xLst, xFz, xCall, rOfT_d, rOfT_o, rOfT_c, rOwT_o, ywNil, ywDat, ywVar, xCB, xIsi, asI_i, xLenS, xFor, ziL, itT_t, itL_l, ziR1, ziET, enT_t, enL_l, xLc, noOwnB, wipeE, xYes, xRaise, pAdd_i, pAdd_t, pAdd_l, pSub_i, pLt_i, pLe_i, pGt_i, pGe_i, pIs_n, pIsNot_n, pIsB_b, pNotB_b, isN_n, isN_b, isN_i, isN_s, isN_t, isN_l, pIx_t, pIx_l, pLen_t, pLen_l, pMin2_i, pMax2_i, pAbs_i, pInt_i, pTuple_t, pTuple_l, pList_t, pList_l, pIadd_i, pSl_t, pSl_l, pEqI, pNeI, pEqS, pNeS, at0, at1, at2, at3, at4, at5, at6, at7, bx_ret, bx_exc, bx_fail, bd_ret, bd_exc, bd_fail, exS_ret, exS_exc, exS_fail, ofO_some, ofO_none, fnE, isi_T, isi_B, isi_I, isi_S, isi_L, sizeL, Option.bind_some, Option.map_some, Option.some.injEq, Int.reduceEq, Int.reduceLE, Int.reduceLT, Int.reduceNeg, Int.reduceAdd, Int.reduceSub, Int.reduceMul, decide_true, decide_false, decide_eq_true_eq, decide_not, eq_self, Int.cast_ofNat_Int, reduceCtorEq, List.length_cons, List.length_nil, List.map_cons, List.map_nil, List.replicate, List.cons_append, List.nil_append, List.append_nil, List.getElem?_cons_zero, List.getElem?_cons_succ, List.getElem?_nil, List.set_cons_zero, List.set_cons_succ, Nat.reduceAdd, Nat.reduceSub, Nat.reduceEqDiff, Nat.reduceLeDiff, Nat.reduceLT, Nat.zero_add, Nat.add_zero, true_and, and_true, false_and, and_false, Bool.not_true, Bool.not_false, Bool.true_and, Bool.and_true, Bool.false_and, Bool.and_false, Bool.or_false, Bool.false_or, Bool.or_true, Bool.true_or, Bool.not_eq_true', if_true, if_false, Bool.false_eq_true, Bool.not_eq_true, ↓reduceIte, ite_true, ite_false, Bool.true_eq_false, not_true_eq_false, not_false_eq_true, Nat.zero_le]
  cases c.coB d <;> simp only [xFld, fldK, asRf_rf, bd_rd, bx_rd, exS_rd, bd_wr, bx_wr, exS_wr, pIntB_b, xParW3, parW3a, parW3b, parW3c, dictW_c, pLtA_i, pSumT, pSumL, xwD, xwO, datK, ownK, capN, capC, ygT3c, opK2, opK, chK4, chK3, chK2, chK, unK, andK, orK, notK, andVK2, andVK, notVK2, notVK, ifVK, ifTK, consK2, consK, tupK, lstK, fzK, cbK, isiK, drpK, retK, ifSK, setK, setOK, nxK, asgK, parK, appK, wcK, wdK, callK, forK, lcK, raiseK, bodyX, startE, xSeq, sqF, xNext, xIfS, xRet, xSet, xSetO, xDrop, xAsg, ygT_t, ygsC, ygsN, ygN, xPar, xAppend, xFrz, xVar, xC, xOp, xUn, pNeg_i, xTest, asB_b, xAnd, xOr, xNot, xAndV, xNotV, xIf, xIfT, xChain, xNil, xCons, xTup, xLst, xFz, xCall, rOfT_d, rOfT_o, rOfT_c, rOwT_o, ywNil, ywDat, ywVar, xCB, xIsi, asI_i, xLenS, xFor, ziL, itT_t, itL_l, ziR1, ziET, enT_t, enL_l, xLc, noOwnB, wipeE, xYes, xRaise, pAdd_i, pAdd_t, pAdd_l, pSub_i, pLt_i, pLe_i, pGt_i, pGe_i, pIs_n, pIsNot_n, pIsB_b, pNotB_b, isN_n, isN_b, isN_i, isN_s, isN_t, isN_l, pIx_t, pIx_l, pLen_t, pLen_l, pMin2_i, pMax2_i, pAbs_i, pInt_i, pTuple_t, pTuple_l, pList_t, pList_l, pIadd_i, pSl_t, pSl_l, pEqI, pNeI, pEqS, pNeS, at0, at1, at2, at3, at4, at5, at6, at7, bx_ret, bx_exc, bx_fail, bd_ret, bd_exc, bd_fail, exS_ret, exS_exc, exS_fail, ofO_some, ofO_none, fnE, isi_T, isi_B, isi_I, isi_S, isi_L, sizeL, Option.bind_some, Option.map_some, Option.some.injEq, Int.reduceEq, Int.reduceLE, Int.reduceLT, Int.reduceNeg, Int.reduceAdd, Int.reduceSub, Int.reduceMul, decide_true, decide_false, decide_eq_true_eq, decide_not, eq_self, Int.cast_ofNat_Int, reduceCtorEq, List.length_cons, List.length_nil, List.map_cons, List.map_nil, List.replicate, List.cons_append, List.nil_append, List.append_nil, List.getElem?_cons_zero, List.getElem?_cons_succ, List.getElem?_nil, List.set_cons_zero, List.set_cons_succ, Nat.reduceAdd, Nat.reduceSub, Nat.reduceEqDiff, Nat.reduceLeDiff, Nat.reduceLT, Nat.zero_add, Nat.add_zero, true_and, and_true, false_and, and_false, Bool.not_true, Bool.not_false, Bool.true_and, Bool.and_true, Bool.false_and, Bool.and_false, Bool.or_false, Bool.false_or, Bool.or_true, Bool.true_or, Bool.not_eq_true', if_true, if_false, Bool.false_eq_true, Bool.not_eq_true, ↓reduceIte, ite_true, ite_false, Bool.true_eq_false, not_true_eq_false, not_false_eq_true, Nat.zero_le]
def dv (a b : Int) : Int := if 0 ≤ a then a / b else -(-a / b)
theorem r_divided (a b : Int) (h0 : 0 < b) (h1 : b < 1073741824) : w_divided [.dat (.int a), .dat (.int b)] = .ret (.dat (.int (dv a b))) := by
  have e : ∀ x, CDiv x b := fun x => ⟨h0, h1⟩
  rw [wd_divided]
  unfold dv
  by_cases h : 0 ≤ a <;> simp only [t_divided, pDiv, e, h, xFld, fldK, asRf_rf, bd_rd, bx_rd, exS_rd, bd_wr, bx_wr, exS_wr, pIntB_b, xParW3, parW3a, parW3b, parW3c, dictW_c, pLtA_i, pSumT, pSumL, xwD, xwO, datK, ownK, capN, capC, ygT3c, opK2, opK, chK4, chK3, chK2, chK, unK, andK, orK, notK, andVK2, andVK, notVK2, notVK, ifVK, ifTK, consK2, consK, tupK, lstK, fzK, cbK, isiK, drpK, retK, ifSK, setK, setOK, nxK, asgK, parK, appK, wcK, wdK, callK, forK, lcK, raiseK, bodyX, startE, xSeq, sqF, xNext, xIfS, xRet, xSet, xSetO, xDrop, xAsg, ygT_t, ygsC, ygsN, ygN, xPar, xAppend, xFrz, xVar, xC, xOp, xUn, pNeg_i, xTest, asB_b, xAnd, xOr, xNot, xAndV, xNotV, xIf, xIfT, xChain, xNil, xCons, xTup, xLst, xFz, xCall, rOfT_d, rOfT_o, rOfT_c, rOwT_o, ywNil, ywDat, ywVar, xCB, xIsi, asI_i, xLenS, xFor, ziL, itT_t, itL_l, ziR1, ziET, enT_t, enL_l, xLc, noOwnB, wipeE, xYes, xRaise, pAdd_i, pAdd_t, pAdd_l, pSub_i, pLt_i, pLe_i, pGt_i, pGe_i, pIs_n, pIsNot_n, pIsB_b, pNotB_b, isN_n, isN_b, isN_i, isN_s, isN_t, isN_l, pIx_t, pIx_l, pLen_t, pLen_l, pMin2_i, pMax2_i, pAbs_i, pInt_i, pTuple_t, pTuple_l, pList_t, pList_l, pIadd_i, pSl_t, pSl_l, pEqI, pNeI, pEqS, pNeS, at0, at1, at2, at3, at4, at5, at6, at7, bx_ret, bx_exc, bx_fail, bd_ret, bd_exc, bd_fail, exS_ret, exS_exc, exS_fail, ofO_some, ofO_none, fnE, isi_T, isi_B, isi_I, isi_S, isi_L, sizeL, Option.bind_some, Option.map_some, Option.some.injEq, Int.reduceEq, Int.reduceLE, Int.reduceLT, Int.reduceNeg, Int.reduceAdd, Int.reduceSub, Int.reduceMul, decide_true, decide_false, decide_eq_true_eq, decide_not, eq_self, Int.cast_ofNat_Int, reduceCtorEq, List.length_cons, List.length_nil, List.map_cons, List.map_nil, List.replicate, List.cons_append, List.nil_append, List.append_nil, List.getElem?_cons_zero, List.getElem?_cons_succ, List.getElem?_nil, List.set_cons_zero, List.set_cons_succ, Nat.reduceAdd, Nat.reduceSub, Nat.reduceEqDiff, Nat.reduceLeDiff, Nat.reduceLT, Nat.zero_add, Nat.add_zero, true_and, and_true, false_and, and_false, Bool.not_true, Bool.not_false, Bool.true_and, Bool.and_true, Bool.false_and, Bool.and_false, Bool.or_false, Bool.false_or, Bool.or_true, Bool.true_or, Bool.not_eq_true', if_true, if_false, Bool.false_eq_true, Bool.not_eq_true, ↓reduceIte, ite_true, ite_false, Bool.true_eq_false, not_true_eq_false, not_false_eq_true, Nat.zero_le]
theorem pIx_tup [Inhabited α] {xs : List α} {f : α → Dt} {i : Int} (h0 : 0 ≤ i) (h1 : i < xs.length) : atI (xs.map f) i = some (f (nth xs i)) := atI_map h0 h1
def Cd.mb (c : Cd) (k p : Int) : Int := dv ((nth c.moves k).1 * nth c.steps p) 8
theorem r_moved {c : Cd} (h : c.Ok) {k p : Int} (hk : 0 ≤ k ∧ k < c.moves.length) (hp0 : 0 ≤ p) (hp1 : p < c.steps.length) : w_moved_by [.dat c.d, .dat (.int k), .dat (.int p)] = .ret (.dat (.int (c.mb k p))) := by
  have m := h.mv _ (nth_mem hk.1 hk.2)
  have e : CMul (nth c.moves k).1 (nth c.steps p) := .inl ⟨by omega, by omega⟩
  rw [wd_moved_by]
  simp only [t_moved_by, Cd.d, pMul, pIx_tup (f := mvD) hk.1 hk.2, pIx_tup (f := PyData.int) hp0 hp1, mvD, e, r_divided _ 8 (by decide) (by decide), Cd.mb, xFld, fldK, asRf_rf, bd_rd, bx_rd, exS_rd, bd_wr, bx_wr, exS_wr, pIntB_b, xParW3, parW3a, parW3b, parW3c, dictW_c, pLtA_i, pSumT, pSumL, xwD, xwO, datK, ownK, capN, capC, ygT3c, opK2, opK, chK4, chK3, chK2, chK, unK, andK, orK, notK, andVK2, andVK, notVK2, notVK, ifVK, ifTK, consK2, consK, tupK, lstK, fzK, cbK, isiK, drpK, retK, ifSK, setK, setOK, nxK, asgK, parK, appK, wcK, wdK, callK, forK, lcK, raiseK, bodyX, startE, xSeq, sqF, xNext, xIfS, xRet, xSet, xSetO, xDrop, xAsg, ygT_t, ygsC, ygsN, ygN, xPar, xAppend, xFrz, xVar, xC, xOp, xUn, pNeg_i, xTest, asB_b, xAnd, xOr, xNot, xAndV, xNotV, xIf, xIfT, xChain, xNil, xCons, xTup, xLst, xFz, xCall, rOfT_d, rOfT_o, rOfT_c, rOwT_o, ywNil, ywDat, ywVar, xCB, xIsi, asI_i, xLenS, xFor, ziL, itT_t, itL_l, ziR1, ziET, enT_t, enL_l, xLc, noOwnB, wipeE, xYes, xRaise, pAdd_i, pAdd_t, pAdd_l, pSub_i, pLt_i, pLe_i, pGt_i, pGe_i, pIs_n, pIsNot_n, pIsB_b, pNotB_b, isN_n, isN_b, isN_i, isN_s, isN_t, isN_l, pIx_t, pIx_l, pLen_t, pLen_l, pMin2_i, pMax2_i, pAbs_i, pInt_i, pTuple_t, pTuple_l, pList_t, pList_l, pIadd_i, pSl_t, pSl_l, pEqI, pNeI, pEqS, pNeS, at0, at1, at2, at3, at4, at5, at6, at7, bx_ret, bx_exc, bx_fail, bd_ret, bd_exc, bd_fail, exS_ret, exS_exc, exS_fail, ofO_some, ofO_none, fnE, isi_T, isi_B, isi_I, isi_S, isi_L, sizeL, Option.bind_some, Option.map_some, Option.some.injEq, Int.reduceEq, Int.reduceLE, Int.reduceLT, Int.reduceNeg, Int.reduceAdd, Int.reduceSub, Int.reduceMul, decide_true, decide_false, decide_eq_true_eq, decide_not, eq_self, Int.cast_ofNat_Int, reduceCtorEq, List.length_cons, List.length_nil, List.map_cons, List.map_nil, List.replicate, List.cons_append, List.nil_append, List.append_nil, List.getElem?_cons_zero, List.getElem?_cons_succ, List.getElem?_nil, List.set_cons_zero, List.set_cons_succ, Nat.reduceAdd, Nat.reduceSub, Nat.reduceEqDiff, Nat.reduceLeDiff, Nat.reduceLT, Nat.zero_add, Nat.add_zero, true_and, and_true, false_and, and_false, Bool.not_true, Bool.not_false, Bool.true_and, Bool.and_true, Bool.false_and, Bool.and_false, Bool.or_false, Bool.false_or, Bool.or_true, Bool.true_or, Bool.not_eq_true', if_true, if_false, Bool.false_eq_true, Bool.not_eq_true, ↓reduceIte, ite_true, ite_false, Bool.true_eq_false, not_true_eq_false, not_false_eq_true, Nat.zero_le]
def Cd.fa (c : Cd) (v : Int) : Int := if c.fade = 0 then v else v - dv v c.fade
def Cd.nx (c : Cd) (s : Int × Int) (k : Int) : Int × Int := (mn c.high (mx c.low (c.fa s.1 + c.mb k s.2)), mn (c.steps.length - 1) (mx 0 (s.2 + (nth c.moves k).2)))
theorem Cd.nx_st {c : Cd} (h : c.Ok) (s : Int × Int) (k : Int) : c.St (c.nx s k) := by
  have := h.l1; have := h.h0; have := h.s0
  unfold Cd.nx Cd.St
  generalize c.fa s.1 + c.mb k s.2 = x
  generalize s.2 + (nth c.moves k).2 = y
  refine ⟨?_, ?_, ?_, ?_⟩ <;> simp only [mn, mx] <;> split <;> split <;> omega
def Cd.wk (c : Cd) (s : Int × Int) (r : List Int) : Int × Int := r.foldl c.nx s
theorem r_next {c : Cd} (h : c.Ok) {s : Int × Int} (hs : c.St s) {k : Int} (hk : 0 ≤ k ∧ k < c.moves.length) : w_next_state [.dat c.d, .dat (stD s), .dat (.int k)] = .ret (.dat (stD (c.nx s k))) := by
  have hm := r_moved h hk hs.2.2.1 hs.2.2.2
  rw [wd_next_state]
  unfold t_next_state
  have e1 : ∀ x : Option VL.W, xAsg (xVar 0) (ygT 5 (ygsC (ygN 3) (ygsC (ygN 4) (ygsC (ygN 5) (ygsC (ygN 6) (ygsC (ygN 7) (ygsN))))))) [some (.dat c.d), some (.dat (stD s)), some (.dat (.int k)), none, none, none, none, none, none, none, none, none] = .ret (.nx [some (.dat c.d), some (.dat (stD s)), some (.dat (.int k)), some (.dat (.int c.low)), some (.dat (.int c.high)), some (.dat (.tuple (c.steps.map .int))), some (.dat (.tuple (c.moves.map mvD))), some (.dat (.int c.fade)), none, none, none, none]) := fun _ => by
    simp only [Cd.d, xFld, fldK, asRf_rf, bd_rd, bx_rd, exS_rd, bd_wr, bx_wr, exS_wr, pIntB_b, xParW3, parW3a, parW3b, parW3c, dictW_c, pLtA_i, pSumT, pSumL, xwD, xwO, datK, ownK, capN, capC, ygT3c, opK2, opK, chK4, chK3, chK2, chK, unK, andK, orK, notK, andVK2, andVK, notVK2, notVK, ifVK, ifTK, consK2, consK, tupK, lstK, fzK, cbK, isiK, drpK, retK, ifSK, setK, setOK, nxK, asgK, parK, appK, wcK, wdK, callK, forK, lcK, raiseK, bodyX, startE, xSeq, sqF, xNext, xIfS, xRet, xSet, xSetO, xDrop, xAsg, ygT_t, ygsC, ygsN, ygN, xPar, xAppend, xFrz, xVar, xC, xOp, xUn, pNeg_i, xTest, asB_b, xAnd, xOr, xNot, xAndV, xNotV, xIf, xIfT, xChain, xNil, xCons, xTup, xLst, xFz, xCall, rOfT_d, rOfT_o, rOfT_c, rOwT_o, ywNil, ywDat, ywVar, xCB, xIsi, asI_i, xLenS, xFor, ziL, itT_t, itL_l, ziR1, ziET, enT_t, enL_l, xLc, noOwnB, wipeE, xYes, xRaise, pAdd_i, pAdd_t, pAdd_l, pSub_i, pLt_i, pLe_i, pGt_i, pGe_i, pIs_n, pIsNot_n, pIsB_b, pNotB_b, isN_n, isN_b, isN_i, isN_s, isN_t, isN_l, pIx_t, pIx_l, pLen_t, pLen_l, pMin2_i, pMax2_i, pAbs_i, pInt_i, pTuple_t, pTuple_l, pList_t, pList_l, pIadd_i, pSl_t, pSl_l, pEqI, pNeI, pEqS, pNeS, at0, at1, at2, at3, at4, at5, at6, at7, bx_ret, bx_exc, bx_fail, bd_ret, bd_exc, bd_fail, exS_ret, exS_exc, exS_fail, ofO_some, ofO_none, fnE, isi_T, isi_B, isi_I, isi_S, isi_L, sizeL, Option.bind_some, Option.map_some, Option.some.injEq, Int.reduceEq, Int.reduceLE, Int.reduceLT, Int.reduceNeg, Int.reduceAdd, Int.reduceSub, Int.reduceMul, decide_true, decide_false, decide_eq_true_eq, decide_not, eq_self, Int.cast_ofNat_Int, reduceCtorEq, List.length_cons, List.length_nil, List.map_cons, List.map_nil, List.replicate, List.cons_append, List.nil_append, List.append_nil, List.getElem?_cons_zero, List.getElem?_cons_succ, List.getElem?_nil, List.set_cons_zero, List.set_cons_succ, Nat.reduceAdd, Nat.reduceSub, Nat.reduceEqDiff, Nat.reduceLeDiff, Nat.reduceLT, Nat.zero_add, Nat.add_zero, true_and, and_true, false_and, and_false, Bool.not_true, Bool.not_false, Bool.true_and, Bool.and_true, Bool.false_and, Bool.and_false, Bool.or_false, Bool.false_or, Bool.or_true, Bool.true_or, Bool.not_eq_true', if_true, if_false, Bool.false_eq_true, Bool.not_eq_true, ↓reduceIte, ite_true, ite_false, Bool.true_eq_false, not_true_eq_false, not_false_eq_true, Nat.zero_le]
  have e2 : atI (c.moves.map mvD) k = some (mvD (nth c.moves k)) := pIx_tup hk.1 hk.2
  have e3 : c.fade ≠ 0 → 0 < c.fade ∧ c.fade < 1073741824 := fun z => by rcases h.f with f | f <;> omega
  simp only [bodyX, startE, xSeq, List.length_cons, List.length_nil, Nat.reduceAdd, Nat.reduceSub, List.map_cons, List.map_nil, List.replicate, List.cons_append, List.nil_append, if_true, e1 none, bd_ret, sqF]
  by_cases hf : c.fade = 0
  · simp only [stD, hf, e2, mvD, hm, Cd.nx, Cd.fa, List.length_map, xFld, fldK, asRf_rf, bd_rd, bx_rd, exS_rd, bd_wr, bx_wr, exS_wr, pIntB_b, xParW3, parW3a, parW3b, parW3c, dictW_c, pLtA_i, pSumT, pSumL, xwD, xwO, datK, ownK, capN, capC, ygT3c, opK2, opK, chK4, chK3, chK2, chK, unK, andK, orK, notK, andVK2, andVK, notVK2, notVK, ifVK, ifTK, consK2, consK, tupK, lstK, fzK, cbK, isiK, drpK, retK, ifSK, setK, setOK, nxK, asgK, parK, appK, wcK, wdK, callK, forK, lcK, raiseK, bodyX, startE, xSeq, sqF, xNext, xIfS, xRet, xSet, xSetO, xDrop, xAsg, ygT_t, ygsC, ygsN, ygN, xPar, xAppend, xFrz, xVar, xC, xOp, xUn, pNeg_i, xTest, asB_b, xAnd, xOr, xNot, xAndV, xNotV, xIf, xIfT, xChain, xNil, xCons, xTup, xLst, xFz, xCall, rOfT_d, rOfT_o, rOfT_c, rOwT_o, ywNil, ywDat, ywVar, xCB, xIsi, asI_i, xLenS, xFor, ziL, itT_t, itL_l, ziR1, ziET, enT_t, enL_l, xLc, noOwnB, wipeE, xYes, xRaise, pAdd_i, pAdd_t, pAdd_l, pSub_i, pLt_i, pLe_i, pGt_i, pGe_i, pIs_n, pIsNot_n, pIsB_b, pNotB_b, isN_n, isN_b, isN_i, isN_s, isN_t, isN_l, pIx_t, pIx_l, pLen_t, pLen_l, pMin2_i, pMax2_i, pAbs_i, pInt_i, pTuple_t, pTuple_l, pList_t, pList_l, pIadd_i, pSl_t, pSl_l, pEqI, pNeI, pEqS, pNeS, at0, at1, at2, at3, at4, at5, at6, at7, bx_ret, bx_exc, bx_fail, bd_ret, bd_exc, bd_fail, exS_ret, exS_exc, exS_fail, ofO_some, ofO_none, fnE, isi_T, isi_B, isi_I, isi_S, isi_L, sizeL, Option.bind_some, Option.map_some, Option.some.injEq, Int.reduceEq, Int.reduceLE, Int.reduceLT, Int.reduceNeg, Int.reduceAdd, Int.reduceSub, Int.reduceMul, decide_true, decide_false, decide_eq_true_eq, decide_not, eq_self, Int.cast_ofNat_Int, reduceCtorEq, List.length_cons, List.length_nil, List.map_cons, List.map_nil, List.replicate, List.cons_append, List.nil_append, List.append_nil, List.getElem?_cons_zero, List.getElem?_cons_succ, List.getElem?_nil, List.set_cons_zero, List.set_cons_succ, Nat.reduceAdd, Nat.reduceSub, Nat.reduceEqDiff, Nat.reduceLeDiff, Nat.reduceLT, Nat.zero_add, Nat.add_zero, true_and, and_true, false_and, and_false, Bool.not_true, Bool.not_false, Bool.true_and, Bool.and_true, Bool.false_and, Bool.and_false, Bool.or_false, Bool.false_or, Bool.or_true, Bool.true_or, Bool.not_eq_true', if_true, if_false, Bool.false_eq_true, Bool.not_eq_true, ↓reduceIte, ite_true, ite_false, Bool.true_eq_false, not_true_eq_false, not_false_eq_true, Nat.zero_le]
  · simp only [stD, hf, e2, mvD, hm, r_divided _ c.fade (e3 hf).1 (e3 hf).2, Cd.nx, Cd.fa, List.length_map, xFld, fldK, asRf_rf, bd_rd, bx_rd, exS_rd, bd_wr, bx_wr, exS_wr, pIntB_b, xParW3, parW3a, parW3b, parW3c, dictW_c, pLtA_i, pSumT, pSumL, xwD, xwO, datK, ownK, capN, capC, ygT3c, opK2, opK, chK4, chK3, chK2, chK, unK, andK, orK, notK, andVK2, andVK, notVK2, notVK, ifVK, ifTK, consK2, consK, tupK, lstK, fzK, cbK, isiK, drpK, retK, ifSK, setK, setOK, nxK, asgK, parK, appK, wcK, wdK, callK, forK, lcK, raiseK, bodyX, startE, xSeq, sqF, xNext, xIfS, xRet, xSet, xSetO, xDrop, xAsg, ygT_t, ygsC, ygsN, ygN, xPar, xAppend, xFrz, xVar, xC, xOp, xUn, pNeg_i, xTest, asB_b, xAnd, xOr, xNot, xAndV, xNotV, xIf, xIfT, xChain, xNil, xCons, xTup, xLst, xFz, xCall, rOfT_d, rOfT_o, rOfT_c, rOwT_o, ywNil, ywDat, ywVar, xCB, xIsi, asI_i, xLenS, xFor, ziL, itT_t, itL_l, ziR1, ziET, enT_t, enL_l, xLc, noOwnB, wipeE, xYes, xRaise, pAdd_i, pAdd_t, pAdd_l, pSub_i, pLt_i, pLe_i, pGt_i, pGe_i, pIs_n, pIsNot_n, pIsB_b, pNotB_b, isN_n, isN_b, isN_i, isN_s, isN_t, isN_l, pIx_t, pIx_l, pLen_t, pLen_l, pMin2_i, pMax2_i, pAbs_i, pInt_i, pTuple_t, pTuple_l, pList_t, pList_l, pIadd_i, pSl_t, pSl_l, pEqI, pNeI, pEqS, pNeS, at0, at1, at2, at3, at4, at5, at6, at7, bx_ret, bx_exc, bx_fail, bd_ret, bd_exc, bd_fail, exS_ret, exS_exc, exS_fail, ofO_some, ofO_none, fnE, isi_T, isi_B, isi_I, isi_S, isi_L, sizeL, Option.bind_some, Option.map_some, Option.some.injEq, Int.reduceEq, Int.reduceLE, Int.reduceLT, Int.reduceNeg, Int.reduceAdd, Int.reduceSub, Int.reduceMul, decide_true, decide_false, decide_eq_true_eq, decide_not, eq_self, Int.cast_ofNat_Int, reduceCtorEq, List.length_cons, List.length_nil, List.map_cons, List.map_nil, List.replicate, List.cons_append, List.nil_append, List.append_nil, List.getElem?_cons_zero, List.getElem?_cons_succ, List.getElem?_nil, List.set_cons_zero, List.set_cons_succ, Nat.reduceAdd, Nat.reduceSub, Nat.reduceEqDiff, Nat.reduceLeDiff, Nat.reduceLT, Nat.zero_add, Nat.add_zero, true_and, and_true, false_and, and_false, Bool.not_true, Bool.not_false, Bool.true_and, Bool.and_true, Bool.false_and, Bool.and_false, Bool.or_false, Bool.false_or, Bool.or_true, Bool.true_or, Bool.not_eq_true', if_true, if_false, Bool.false_eq_true, Bool.not_eq_true, ↓reduceIte, ite_true, ite_false, Bool.true_eq_false, not_true_eq_false, not_false_eq_true, Nat.zero_le]
theorem r_draw {m : Int} : w__law_next [.tok, .dat (.int m)] = .draw m fun r => .ret (.dat (.int r)) := rfl
/-- a drawn coder -/
structure Cd.Dn (c : Cd) (wide places codes : Int) : Prop where
  ok : c.Ok
  lo : -wide ≤ c.low
  hi : c.high ≤ wide
  pl : (c.steps.length : Int) ≤ places
  sv : ∀ s ∈ c.steps, s ≤ 2 * wide + 2
  co : (c.moves.length : Int) ≤ codes
  mv : ∀ p ∈ c.moves, -16 ≤ p.1 ∧ p.1 ≤ 16 ∧ -2 ≤ p.2 ∧ p.2 ≤ 2
  fa : c.fade = 0 ∨ 2 ≤ c.fade ∧ c.fade ≤ 5
theorem d_coder (wide places codes : Int) (hw0 : 0 ≤ wide) (hw1 : wide ≤ 4000) (hp0 : 1 ≤ places) (hp1 : places ≤ 16) (hc0 : 2 ≤ codes) (hc1 : codes ≤ 16) :
    Dr 60 (w__law_coder [.tok, .dat (.int wide), .dat (.int places), .dat (.int codes)]) (fun w => ∃ d, w = .dat d ∧ ∃ c : Cd, d = c.d ∧ c.Dn wide places codes) := by
  rw [wd__law_coder]
  refine Dr.body rfl ?_
  unfold t__law_coder
  refine Dr.le (k := 2 + (17 + (0 + (33 + (2 + 0))))) ?_ (by decide)
  refine Dr.seq (J := fun ρ => ∃ low high : Int, -wide ≤ low ∧ low ≤ 0 ∧ 0 ≤ high ∧ high ≤ wide ∧ ρ = [some .tok, some (.dat (.int wide)), some (.dat (.int places)), some (.dat (.int codes)), some (.dat (.int low)), some (.dat (.int high)), none, none, none, none]) 2 _ ?_ ?_
  · simp only [r_draw, bx_draw, bd_draw, exS_draw, xFld, fldK, asRf_rf, bd_rd, bx_rd, exS_rd, bd_wr, bx_wr, exS_wr, pIntB_b, xParW3, parW3a, parW3b, parW3c, dictW_c, pLtA_i, pSumT, pSumL, xwD, xwO, datK, ownK, capN, capC, ygT3c, opK2, opK, chK4, chK3, chK2, chK, unK, andK, orK, notK, andVK2, andVK, notVK2, notVK, ifVK, ifTK, consK2, consK, tupK, lstK, fzK, cbK, isiK, drpK, retK, ifSK, setK, setOK, nxK, asgK, parK, appK, wcK, wdK, callK, forK, lcK, raiseK, bodyX, startE, xSeq, sqF, xNext, xIfS, xRet, xSet, xSetO, xDrop, xAsg, ygT_t, ygsC, ygsN, ygN, xPar, xAppend, xFrz, xVar, xC, xOp, xUn, pNeg_i, xTest, asB_b, xAnd, xOr, xNot, xAndV, xNotV, xIf, xIfT, xChain, xNil, xCons, xTup, xLst, xFz, xCall, rOfT_d, rOfT_o, rOfT_c, rOwT_o, ywNil, ywDat, ywVar, xCB, xIsi, asI_i, xLenS, xFor, ziL, itT_t, itL_l, ziR1, ziET, enT_t, enL_l, xLc, noOwnB, wipeE, xYes, xRaise, pAdd_i, pAdd_t, pAdd_l, pSub_i, pLt_i, pLe_i, pGt_i, pGe_i, pIs_n, pIsNot_n, pIsB_b, pNotB_b, isN_n, isN_b, isN_i, isN_s, isN_t, isN_l, pIx_t, pIx_l, pLen_t, pLen_l, pMin2_i, pMax2_i, pAbs_i, pInt_i, pTuple_t, pTuple_l, pList_t, pList_l, pIadd_i, pSl_t, pSl_l, pEqI, pNeI, pEqS, pNeS, at0, at1, at2, at3, at4, at5, at6, at7, bx_ret, bx_exc, bx_fail, bd_ret, bd_exc, bd_fail, exS_ret, exS_exc, exS_fail, ofO_some, ofO_none, fnE, isi_T, isi_B, isi_I, isi_S, isi_L, sizeL, Option.bind_some, Option.map_some, Option.some.injEq, Int.reduceEq, Int.reduceLE, Int.reduceLT, Int.reduceNeg, Int.reduceAdd, Int.reduceSub, Int.reduceMul, decide_true, decide_false, decide_eq_true_eq, decide_not, eq_self, Int.cast_ofNat_Int, reduceCtorEq, List.length_cons, List.length_nil, List.map_cons, List.map_nil, List.replicate, List.cons_append, List.nil_append, List.append_nil, List.getElem?_cons_zero, List.getElem?_cons_succ, List.getElem?_nil, List.set_cons_zero, List.set_cons_succ, Nat.reduceAdd, Nat.reduceSub, Nat.reduceEqDiff, Nat.reduceLeDiff, Nat.reduceLT, Nat.zero_add, Nat.add_zero, true_and, and_true, false_and, and_false, Bool.not_true, Bool.not_false, Bool.true_and, Bool.and_true, Bool.false_and, Bool.and_false, Bool.or_false, Bool.false_or, Bool.or_true, Bool.true_or, Bool.not_eq_true', if_true, if_false, Bool.false_eq_true, Bool.not_eq_true, ↓reduceIte, ite_true, ite_false, Bool.true_eq_false, not_true_eq_false, not_false_eq_true, Nat.zero_le]
    refine Dr.draw (by omega) (by omega) fun r r0 r1 => ?_
    try simp only [r_draw, bx_draw, bd_draw, exS_draw, xFld, fldK, asRf_rf, bd_rd, bx_rd, exS_rd, bd_wr, bx_wr, exS_wr, pIntB_b, xParW3, parW3a, parW3b, parW3c, dictW_c, pLtA_i, pSumT, pSumL, xwD, xwO, datK, ownK, capN, capC, ygT3c, opK2, opK, chK4, chK3, chK2, chK, unK, andK, orK, notK, andVK2, andVK, notVK2, notVK, ifVK, ifTK, consK2, consK, tupK, lstK, fzK, cbK, isiK, drpK, retK, ifSK, setK, setOK, nxK, asgK, parK, appK, wcK, wdK, callK, forK, lcK, raiseK, bodyX, startE, xSeq, sqF, xNext, xIfS, xRet, xSet, xSetO, xDrop, xAsg, ygT_t, ygsC, ygsN, ygN, xPar, xAppend, xFrz, xVar, xC, xOp, xUn, pNeg_i, xTest, asB_b, xAnd, xOr, xNot, xAndV, xNotV, xIf, xIfT, xChain, xNil, xCons, xTup, xLst, xFz, xCall, rOfT_d, rOfT_o, rOfT_c, rOwT_o, ywNil, ywDat, ywVar, xCB, xIsi, asI_i, xLenS, xFor, ziL, itT_t, itL_l, ziR1, ziET, enT_t, enL_l, xLc, noOwnB, wipeE, xYes, xRaise, pAdd_i, pAdd_t, pAdd_l, pSub_i, pLt_i, pLe_i, pGt_i, pGe_i, pIs_n, pIsNot_n, pIsB_b, pNotB_b, isN_n, isN_b, isN_i, isN_s, isN_t, isN_l, pIx_t, pIx_l, pLen_t, pLen_l, pMin2_i, pMax2_i, pAbs_i, pInt_i, pTuple_t, pTuple_l, pList_t, pList_l, pIadd_i, pSl_t, pSl_l, pEqI, pNeI, pEqS, pNeS, at0, at1, at2, at3, at4, at5, at6, at7, bx_ret, bx_exc, bx_fail, bd_ret, bd_exc, bd_fail, exS_ret, exS_exc, exS_fail, ofO_some, ofO_none, fnE, isi_T, isi_B, isi_I, isi_S, isi_L, sizeL, Option.bind_some, Option.map_some, Option.some.injEq, Int.reduceEq, Int.reduceLE, Int.reduceLT, Int.reduceNeg, Int.reduceAdd, Int.reduceSub, Int.reduceMul, decide_true, decide_false, decide_eq_true_eq, decide_not, eq_self, Int.cast_ofNat_Int, reduceCtorEq, List.length_cons, List.length_nil, List.map_cons, List.map_nil, List.replicate, List.cons_append, List.nil_append, List.append_nil, List.getElem?_cons_zero, List.getElem?_cons_succ, List.getElem?_nil, List.set_cons_zero, List.set_cons_succ, Nat.reduceAdd, Nat.reduceSub, Nat.reduceEqDiff, Nat.reduceLeDiff, Nat.reduceLT, Nat.zero_add, Nat.add_zero, true_and, and_true, false_and, and_false, Bool.not_true, Bool.not_false, Bool.true_and, Bool.and_true, Bool.false_and, Bool.and_false, Bool.or_false, Bool.false_or, Bool.or_true, Bool.true_or, Bool.not_eq_true', if_true, if_false, Bool.false_eq_true, Bool.not_eq_true, ↓reduceIte, ite_true, ite_false, Bool.true_eq_false, not_true_eq_false, not_false_eq_true, Nat.zero_le]
    refine Dr.draw (by omega) (by omega) fun r' r0' r1' => ?_
    try simp only [r_draw, bx_draw, bd_draw, exS_draw, xFld, fldK, asRf_rf, bd_rd, bx_rd, exS_rd, bd_wr, bx_wr, exS_wr, pIntB_b, xParW3, parW3a, parW3b, parW3c, dictW_c, pLtA_i, pSumT, pSumL, xwD, xwO, datK, ownK, capN, capC, ygT3c, opK2, opK, chK4, chK3, chK2, chK, unK, andK, orK, notK, andVK2, andVK, notVK2, notVK, ifVK, ifTK, consK2, consK, tupK, lstK, fzK, cbK, isiK, drpK, retK, ifSK, setK, setOK, nxK, asgK, parK, appK, wcK, wdK, callK, forK, lcK, raiseK, bodyX, startE, xSeq, sqF, xNext, xIfS, xRet, xSet, xSetO, xDrop, xAsg, ygT_t, ygsC, ygsN, ygN, xPar, xAppend, xFrz, xVar, xC, xOp, xUn, pNeg_i, xTest, asB_b, xAnd, xOr, xNot, xAndV, xNotV, xIf, xIfT, xChain, xNil, xCons, xTup, xLst, xFz, xCall, rOfT_d, rOfT_o, rOfT_c, rOwT_o, ywNil, ywDat, ywVar, xCB, xIsi, asI_i, xLenS, xFor, ziL, itT_t, itL_l, ziR1, ziET, enT_t, enL_l, xLc, noOwnB, wipeE, xYes, xRaise, pAdd_i, pAdd_t, pAdd_l, pSub_i, pLt_i, pLe_i, pGt_i, pGe_i, pIs_n, pIsNot_n, pIsB_b, pNotB_b, isN_n, isN_b, isN_i, isN_s, isN_t, isN_l, pIx_t, pIx_l, pLen_t, pLen_l, pMin2_i, pMax2_i, pAbs_i, pInt_i, pTuple_t, pTuple_l, pList_t, pList_l, pIadd_i, pSl_t, pSl_l, pEqI, pNeI, pEqS, pNeS, at0, at1, at2, at3, at4, at5, at6, at7, bx_ret, bx_exc, bx_fail, bd_ret, bd_exc, bd_fail, exS_ret, exS_exc, exS_fail, ofO_some, ofO_none, fnE, isi_T, isi_B, isi_I, isi_S, isi_L, sizeL, Option.bind_some, Option.map_some, Option.some.injEq, Int.reduceEq, Int.reduceLE, Int.reduceLT, Int.reduceNeg, Int.reduceAdd, Int.reduceSub, Int.reduceMul, decide_true, decide_false, decide_eq_true_eq, decide_not, eq_self, Int.cast_ofNat_Int, reduceCtorEq, List.length_cons, List.length_nil, List.map_cons, List.map_nil, List.replicate, List.cons_append, List.nil_append, List.append_nil, List.getElem?_cons_zero, List.getElem?_cons_succ, List.getElem?_nil, List.set_cons_zero, List.set_cons_succ, Nat.reduceAdd, Nat.reduceSub, Nat.reduceEqDiff, Nat.reduceLeDiff, Nat.reduceLT, Nat.zero_add, Nat.add_zero, true_and, and_true, false_and, and_false, Bool.not_true, Bool.not_false, Bool.true_and, Bool.and_true, Bool.false_and, Bool.and_false, Bool.or_false, Bool.false_or, Bool.or_true, Bool.true_or, Bool.not_eq_true', if_true, if_false, Bool.false_eq_true, Bool.not_eq_true, ↓reduceIte, ite_true, ite_false, Bool.true_eq_false, not_true_eq_false, not_false_eq_true, Nat.zero_le]
    exact Dr.ret ⟨_, rfl, 0 - r, r', by omega, by omega, by omega, by omega, rfl⟩
  rintro ρ ⟨low, high, l0, l1, h0, h1, rfl⟩
  refine Dr.seq (J := fun ρ => ∃ steps : List Int, 1 ≤ steps.length ∧ (steps.length : Int) ≤ places ∧ (∀ s ∈ steps, 1 ≤ s ∧ s ≤ 2 * wide + 2) ∧ ρ = [some .tok, some (.dat (.int wide)), some (.dat (.int places)), some (.dat (.int codes)), some (.dat (.int low)), some (.dat (.int high)), some (.dat (.list (steps.map .int))), none, none, none]) 17 _ ?_ ?_
  · simp only [r_draw, bx_draw, bd_draw, exS_draw, xFld, fldK, asRf_rf, bd_rd, bx_rd, exS_rd, bd_wr, bx_wr, exS_wr, pIntB_b, xParW3, parW3a, parW3b, parW3c, dictW_c, pLtA_i, pSumT, pSumL, xwD, xwO, datK, ownK, capN, capC, ygT3c, opK2, opK, chK4, chK3, chK2, chK, unK, andK, orK, notK, andVK2, andVK, notVK2, notVK, ifVK, ifTK, consK2, consK, tupK, lstK, fzK, cbK, isiK, drpK, retK, ifSK, setK, setOK, nxK, asgK, parK, appK, wcK, wdK, callK, forK, lcK, raiseK, bodyX, startE, xSeq, sqF, xNext, xIfS, xRet, xSet, xSetO, xDrop, xAsg, ygT_t, ygsC, ygsN, ygN, xPar, xAppend, xFrz, xVar, xC, xOp, xUn, pNeg_i, xTest, asB_b, xAnd, xOr, xNot, xAndV, xNotV, xIf, xIfT, xChain, xNil, xCons, xTup, xLst, xFz, xCall, rOfT_d, rOfT_o, rOfT_c, rOwT_o, ywNil, ywDat, ywVar, xCB, xIsi, asI_i, xLenS, xFor, ziL, itT_t, itL_l, ziR1, ziET, enT_t, enL_l, xLc, noOwnB, wipeE, xYes, xRaise, pAdd_i, pAdd_t, pAdd_l, pSub_i, pLt_i, pLe_i, pGt_i, pGe_i, pIs_n, pIsNot_n, pIsB_b, pNotB_b, isN_n, isN_b, isN_i, isN_s, isN_t, isN_l, pIx_t, pIx_l, pLen_t, pLen_l, pMin2_i, pMax2_i, pAbs_i, pInt_i, pTuple_t, pTuple_l, pList_t, pList_l, pIadd_i, pSl_t, pSl_l, pEqI, pNeI, pEqS, pNeS, at0, at1, at2, at3, at4, at5, at6, at7, bx_ret, bx_exc, bx_fail, bd_ret, bd_exc, bd_fail, exS_ret, exS_exc, exS_fail, ofO_some, ofO_none, fnE, isi_T, isi_B, isi_I, isi_S, isi_L, sizeL, Option.bind_some, Option.map_some, Option.some.injEq, Int.reduceEq, Int.reduceLE, Int.reduceLT, Int.reduceNeg, Int.reduceAdd, Int.reduceSub, Int.reduceMul, decide_true, decide_false, decide_eq_true_eq, decide_not, eq_self, Int.cast_ofNat_Int, reduceCtorEq, List.length_cons, List.length_nil, List.map_cons, List.map_nil, List.replicate, List.cons_append, List.nil_append, List.append_nil, List.getElem?_cons_zero, List.getElem?_cons_succ, List.getElem?_nil, List.set_cons_zero, List.set_cons_succ, Nat.reduceAdd, Nat.reduceSub, Nat.reduceEqDiff, Nat.reduceLeDiff, Nat.reduceLT, Nat.zero_add, Nat.add_zero, true_and, and_true, false_and, and_false, Bool.not_true, Bool.not_false, Bool.true_and, Bool.and_true, Bool.false_and, Bool.and_false, Bool.or_false, Bool.false_or, Bool.or_true, Bool.true_or, Bool.not_eq_true', if_true, if_false, Bool.false_eq_true, Bool.not_eq_true, ↓reduceIte, ite_true, ite_false, Bool.true_eq_false, not_true_eq_false, not_false_eq_true, Nat.zero_le]
    refine Dr.draw (k := 16) (by omega) (by omega) fun r r0 r1 => ?_
    simp only [rgT1_i (j := 1 + r) (by omega) (by omega), r_draw, bx_draw, bd_draw, exS_draw, xFld, fldK, asRf_rf, bd_rd, bx_rd, exS_rd, bd_wr, bx_wr, exS_wr, pIntB_b, xParW3, parW3a, parW3b, parW3c, dictW_c, pLtA_i, pSumT, pSumL, xwD, xwO, datK, ownK, capN, capC, ygT3c, opK2, opK, chK4, chK3, chK2, chK, unK, andK, orK, notK, andVK2, andVK, notVK2, notVK, ifVK, ifTK, consK2, consK, tupK, lstK, fzK, cbK, isiK, drpK, retK, ifSK, setK, setOK, nxK, asgK, parK, appK, wcK, wdK, callK, forK, lcK, raiseK, bodyX, startE, xSeq, sqF, xNext, xIfS, xRet, xSet, xSetO, xDrop, xAsg, ygT_t, ygsC, ygsN, ygN, xPar, xAppend, xFrz, xVar, xC, xOp, xUn, pNeg_i, xTest, asB_b, xAnd, xOr, xNot, xAndV, xNotV, xIf, xIfT, xChain, xNil, xCons, xTup, xLst, xFz, xCall, rOfT_d, rOfT_o, rOfT_c, rOwT_o, ywNil, ywDat, ywVar, xCB, xIsi, asI_i, xLenS, xFor, ziL, itT_t, itL_l, ziR1, ziET, enT_t, enL_l, xLc, noOwnB, wipeE, xYes, xRaise, pAdd_i, pAdd_t, pAdd_l, pSub_i, pLt_i, pLe_i, pGt_i, pGe_i, pIs_n, pIsNot_n, pIsB_b, pNotB_b, isN_n, isN_b, isN_i, isN_s, isN_t, isN_l, pIx_t, pIx_l, pLen_t, pLen_l, pMin2_i, pMax2_i, pAbs_i, pInt_i, pTuple_t, pTuple_l, pList_t, pList_l, pIadd_i, pSl_t, pSl_l, pEqI, pNeI, pEqS, pNeS, at0, at1, at2, at3, at4, at5, at6, at7, bx_ret, bx_exc, bx_fail, bd_ret, bd_exc, bd_fail, exS_ret, exS_exc, exS_fail, ofO_some, ofO_none, fnE, isi_T, isi_B, isi_I, isi_S, isi_L, sizeL, Option.bind_some, Option.map_some, Option.some.injEq, Int.reduceEq, Int.reduceLE, Int.reduceLT, Int.reduceNeg, Int.reduceAdd, Int.reduceSub, Int.reduceMul, decide_true, decide_false, decide_eq_true_eq, decide_not, eq_self, Int.cast_ofNat_Int, reduceCtorEq, List.length_cons, List.length_nil, List.map_cons, List.map_nil, List.replicate, List.cons_append, List.nil_append, List.append_nil, List.getElem?_cons_zero, List.getElem?_cons_succ, List.getElem?_nil, List.set_cons_zero, List.set_cons_succ, Nat.reduceAdd, Nat.reduceSub, Nat.reduceEqDiff, Nat.reduceLeDiff, Nat.reduceLT, Nat.zero_add, Nat.add_zero, true_and, and_true, false_and, and_false, Bool.not_true, Bool.not_false, Bool.true_and, Bool.and_true, Bool.false_and, Bool.and_false, Bool.or_false, Bool.false_or, Bool.or_true, Bool.true_or, Bool.not_eq_true', if_true, if_false, Bool.false_eq_true, Bool.not_eq_true, ↓reduceIte, ite_true, ite_false, Bool.true_eq_false, not_true_eq_false, not_false_eq_true, Nat.zero_le]
    have hlen : (rngD 0 (1 + r).toNat).length = (1 + r).toNat := rngD_len _ _
    refine Dr.le (k := 1 * (rngD 0 (1 + r).toNat).length + 0) ?_ (by rw [hlen]; omega)
    refine Dr.exS (P := fun d => ∃ steps : List Int, d = .list (steps.map .int) ∧ steps.length = (1 + r).toNat ∧ ∀ s ∈ steps, 1 ≤ s ∧ s ≤ 2 * wide + 2) ?_ ?_
    · refine Dr.bd (j := 0) (Dr.lcT (k := 1) (R := fun z => ∃ i : Int, z = .int i ∧ 1 ≤ i ∧ i ≤ 2 * wide + 2) _ [] (by rw [hlen, sizeL]; simp only [List.length_nil]; omega) fun d hd => ⟨_, rfl, ?_⟩) fun ys hys => ?_
      · unfold e__law_coder_0
        have e : CMul 2 wide := .inl ⟨by omega, by omega⟩
        simp only [pMul_i e, r_draw, bx_draw, bd_draw, exS_draw, xFld, fldK, asRf_rf, bd_rd, bx_rd, exS_rd, bd_wr, bx_wr, exS_wr, pIntB_b, xParW3, parW3a, parW3b, parW3c, dictW_c, pLtA_i, pSumT, pSumL, xwD, xwO, datK, ownK, capN, capC, ygT3c, opK2, opK, chK4, chK3, chK2, chK, unK, andK, orK, notK, andVK2, andVK, notVK2, notVK, ifVK, ifTK, consK2, consK, tupK, lstK, fzK, cbK, isiK, drpK, retK, ifSK, setK, setOK, nxK, asgK, parK, appK, wcK, wdK, callK, forK, lcK, raiseK, bodyX, startE, xSeq, sqF, xNext, xIfS, xRet, xSet, xSetO, xDrop, xAsg, ygT_t, ygsC, ygsN, ygN, xPar, xAppend, xFrz, xVar, xC, xOp, xUn, pNeg_i, xTest, asB_b, xAnd, xOr, xNot, xAndV, xNotV, xIf, xIfT, xChain, xNil, xCons, xTup, xLst, xFz, xCall, rOfT_d, rOfT_o, rOfT_c, rOwT_o, ywNil, ywDat, ywVar, xCB, xIsi, asI_i, xLenS, xFor, ziL, itT_t, itL_l, ziR1, ziET, enT_t, enL_l, xLc, noOwnB, wipeE, xYes, xRaise, pAdd_i, pAdd_t, pAdd_l, pSub_i, pLt_i, pLe_i, pGt_i, pGe_i, pIs_n, pIsNot_n, pIsB_b, pNotB_b, isN_n, isN_b, isN_i, isN_s, isN_t, isN_l, pIx_t, pIx_l, pLen_t, pLen_l, pMin2_i, pMax2_i, pAbs_i, pInt_i, pTuple_t, pTuple_l, pList_t, pList_l, pIadd_i, pSl_t, pSl_l, pEqI, pNeI, pEqS, pNeS, at0, at1, at2, at3, at4, at5, at6, at7, bx_ret, bx_exc, bx_fail, bd_ret, bd_exc, bd_fail, exS_ret, exS_exc, exS_fail, ofO_some, ofO_none, fnE, isi_T, isi_B, isi_I, isi_S, isi_L, sizeL, Option.bind_some, Option.map_some, Option.some.injEq, Int.reduceEq, Int.reduceLE, Int.reduceLT, Int.reduceNeg, Int.reduceAdd, Int.reduceSub, Int.reduceMul, decide_true, decide_false, decide_eq_true_eq, decide_not, eq_self, Int.cast_ofNat_Int, reduceCtorEq, List.length_cons, List.length_nil, List.map_cons, List.map_nil, List.replicate, List.cons_append, List.nil_append, List.append_nil, List.getElem?_cons_zero, List.getElem?_cons_succ, List.getElem?_nil, List.set_cons_zero, List.set_cons_succ, Nat.reduceAdd, Nat.reduceSub, Nat.reduceEqDiff, Nat.reduceLeDiff, Nat.reduceLT, Nat.zero_add, Nat.add_zero, true_and, and_true, false_and, and_false, Bool.not_true, Bool.not_false, Bool.true_and, Bool.and_true, Bool.false_and, Bool.and_false, Bool.or_false, Bool.false_or, Bool.or_true, Bool.true_or, Bool.not_eq_true', if_true, if_false, Bool.false_eq_true, Bool.not_eq_true, ↓reduceIte, ite_true, ite_false, Bool.true_eq_false, not_true_eq_false, not_false_eq_true, Nat.zero_le]
        refine Dr.draw (by omega) (by omega) fun q q0 q1 => ?_
        try simp only [r_draw, bx_draw, bd_draw, exS_draw, xFld, fldK, asRf_rf, bd_rd, bx_rd, exS_rd, bd_wr, bx_wr, exS_wr, pIntB_b, xParW3, parW3a, parW3b, parW3c, dictW_c, pLtA_i, pSumT, pSumL, xwD, xwO, datK, ownK, capN, capC, ygT3c, opK2, opK, chK4, chK3, chK2, chK, unK, andK, orK, notK, andVK2, andVK, notVK2, notVK, ifVK, ifTK, consK2, consK, tupK, lstK, fzK, cbK, isiK, drpK, retK, ifSK, setK, setOK, nxK, asgK, parK, appK, wcK, wdK, callK, forK, lcK, raiseK, bodyX, startE, xSeq, sqF, xNext, xIfS, xRet, xSet, xSetO, xDrop, xAsg, ygT_t, ygsC, ygsN, ygN, xPar, xAppend, xFrz, xVar, xC, xOp, xUn, pNeg_i, xTest, asB_b, xAnd, xOr, xNot, xAndV, xNotV, xIf, xIfT, xChain, xNil, xCons, xTup, xLst, xFz, xCall, rOfT_d, rOfT_o, rOfT_c, rOwT_o, ywNil, ywDat, ywVar, xCB, xIsi, asI_i, xLenS, xFor, ziL, itT_t, itL_l, ziR1, ziET, enT_t, enL_l, xLc, noOwnB, wipeE, xYes, xRaise, pAdd_i, pAdd_t, pAdd_l, pSub_i, pLt_i, pLe_i, pGt_i, pGe_i, pIs_n, pIsNot_n, pIsB_b, pNotB_b, isN_n, isN_b, isN_i, isN_s, isN_t, isN_l, pIx_t, pIx_l, pLen_t, pLen_l, pMin2_i, pMax2_i, pAbs_i, pInt_i, pTuple_t, pTuple_l, pList_t, pList_l, pIadd_i, pSl_t, pSl_l, pEqI, pNeI, pEqS, pNeS, at0, at1, at2, at3, at4, at5, at6, at7, bx_ret, bx_exc, bx_fail, bd_ret, bd_exc, bd_fail, exS_ret, exS_exc, exS_fail, ofO_some, ofO_none, fnE, isi_T, isi_B, isi_I, isi_S, isi_L, sizeL, Option.bind_some, Option.map_some, Option.some.injEq, Int.reduceEq, Int.reduceLE, Int.reduceLT, Int.reduceNeg, Int.reduceAdd, Int.reduceSub, Int.reduceMul, decide_true, decide_false, decide_eq_true_eq, decide_not, eq_self, Int.cast_ofNat_Int, reduceCtorEq, List.length_cons, List.length_nil, List.map_cons, List.map_nil, List.replicate, List.cons_append, List.nil_append, List.append_nil, List.getElem?_cons_zero, List.getElem?_cons_succ, List.getElem?_nil, List.set_cons_zero, List.set_cons_succ, Nat.reduceAdd, Nat.reduceSub, Nat.reduceEqDiff, Nat.reduceLeDiff, Nat.reduceLT, Nat.zero_add, Nat.add_zero, true_and, and_true, false_and, and_false, Bool.not_true, Bool.not_false, Bool.true_and, Bool.and_true, Bool.false_and, Bool.and_false, Bool.or_false, Bool.false_or, Bool.or_true, Bool.true_or, Bool.not_eq_true', if_true, if_false, Bool.false_eq_true, Bool.not_eq_true, ↓reduceIte, ite_true, ite_false, Bool.true_eq_false, not_true_eq_false, not_false_eq_true, Nat.zero_le]
        exact Dr.ret ⟨_, rfl, by omega, by omega⟩
      · obtain ⟨zs, rfl, hz, hR⟩ := hys
        obtain ⟨ns, rfl, hn⟩ := ints_of hR
        rw [List.length_map, hlen] at hz
        exact Dr.ret ⟨ns, rfl, hz, hn⟩
    · rintro d ⟨steps, rfl, hs, hv⟩
      try simp only [xFld, fldK, asRf_rf, bd_rd, bx_rd, exS_rd, bd_wr, bx_wr, exS_wr, pIntB_b, xParW3, parW3a, parW3b, parW3c, dictW_c, pLtA_i, pSumT, pSumL, xwD, xwO, datK, ownK, capN, capC, ygT3c, opK2, opK, chK4, chK3, chK2, chK, unK, andK, orK, notK, andVK2, andVK, notVK2, notVK, ifVK, ifTK, consK2, consK, tupK, lstK, fzK, cbK, isiK, drpK, retK, ifSK, setK, setOK, nxK, asgK, parK, appK, wcK, wdK, callK, forK, lcK, raiseK, bodyX, startE, xSeq, sqF, xNext, xIfS, xRet, xSet, xSetO, xDrop, xAsg, ygT_t, ygsC, ygsN, ygN, xPar, xAppend, xFrz, xVar, xC, xOp, xUn, pNeg_i, xTest, asB_b, xAnd, xOr, xNot, xAndV, xNotV, xIf, xIfT, xChain, xNil, xCons, xTup, xLst, xFz, xCall, rOfT_d, rOfT_o, rOfT_c, rOwT_o, ywNil, ywDat, ywVar, xCB, xIsi, asI_i, xLenS, xFor, ziL, itT_t, itL_l, ziR1, ziET, enT_t, enL_l, xLc, noOwnB, wipeE, xYes, xRaise, pAdd_i, pAdd_t, pAdd_l, pSub_i, pLt_i, pLe_i, pGt_i, pGe_i, pIs_n, pIsNot_n, pIsB_b, pNotB_b, isN_n, isN_b, isN_i, isN_s, isN_t, isN_l, pIx_t, pIx_l, pLen_t, pLen_l, pMin2_i, pMax2_i, pAbs_i, pInt_i, pTuple_t, pTuple_l, pList_t, pList_l, pIadd_i, pSl_t, pSl_l, pEqI, pNeI, pEqS, pNeS, at0, at1, at2, at3, at4, at5, at6, at7, bx_ret, bx_exc, bx_fail, bd_ret, bd_exc, bd_fail, exS_ret, exS_exc, exS_fail, ofO_some, ofO_none, fnE, isi_T, isi_B, isi_I, isi_S, isi_L, sizeL, Option.bind_some, Option.map_some, Option.some.injEq, Int.reduceEq, Int.reduceLE, Int.reduceLT, Int.reduceNeg, Int.reduceAdd, Int.reduceSub, Int.reduceMul, decide_true, decide_false, decide_eq_true_eq, decide_not, eq_self, Int.cast_ofNat_Int, reduceCtorEq, List.length_cons, List.length_nil, List.map_cons, List.map_nil, List.replicate, List.cons_append, List.nil_append, List.append_nil, List.getElem?_cons_zero, List.getElem?_cons_succ, List.getElem?_nil, List.set_cons_zero, List.set_cons_succ, Nat.reduceAdd, Nat.reduceSub, Nat.reduceEqDiff, Nat.reduceLeDiff, Nat.reduceLT, Nat.zero_add, Nat.add_zero, true_and, and_true, false_and, and_false, Bool.not_true, Bool.not_false, Bool.true_and, Bool.and_true, Bool.false_and, Bool.and_false, Bool.or_false, Bool.false_or, Bool.or_true, Bool.true_or, Bool.not_eq_true', if_true, if_false, Bool.false_eq_true, Bool.not_eq_true, ↓reduceIte, ite_true, ite_false, Bool.true_eq_false, not_true_eq_false, not_false_eq_true, Nat.zero_le]
      exact Dr.ret ⟨_, rfl, steps, by omega, by omega, hv, rfl⟩
  rintro ρ ⟨steps, s0, s1, sv, rfl⟩
  refine Dr.seq (J := fun ρ => ρ = [some .tok, some (.dat (.int wide)), some (.dat (.int places)), some (.dat (.int codes)), some (.dat (.int low)), some (.dat (.int high)), some (.dat (.list (steps.map .int))), none, some (.own []), none]) 0 _ ?_ ?_
  · simp only [xFld, fldK, asRf_rf, bd_rd, bx_rd, exS_rd, bd_wr, bx_wr, exS_wr, pIntB_b, xParW3, parW3a, parW3b, parW3c, dictW_c, pLtA_i, pSumT, pSumL, xwD, xwO, datK, ownK, capN, capC, ygT3c, opK2, opK, chK4, chK3, chK2, chK, unK, andK, orK, notK, andVK2, andVK, notVK2, notVK, ifVK, ifTK, consK2, consK, tupK, lstK, fzK, cbK, isiK, drpK, retK, ifSK, setK, setOK, nxK, asgK, parK, appK, wcK, wdK, callK, forK, lcK, raiseK, bodyX, startE, xSeq, sqF, xNext, xIfS, xRet, xSet, xSetO, xDrop, xAsg, ygT_t, ygsC, ygsN, ygN, xPar, xAppend, xFrz, xVar, xC, xOp, xUn, pNeg_i, xTest, asB_b, xAnd, xOr, xNot, xAndV, xNotV, xIf, xIfT, xChain, xNil, xCons, xTup, xLst, xFz, xCall, rOfT_d, rOfT_o, rOfT_c, rOwT_o, ywNil, ywDat, ywVar, xCB, xIsi, asI_i, xLenS, xFor, ziL, itT_t, itL_l, ziR1, ziET, enT_t, enL_l, xLc, noOwnB, wipeE, xYes, xRaise, pAdd_i, pAdd_t, pAdd_l, pSub_i, pLt_i, pLe_i, pGt_i, pGe_i, pIs_n, pIsNot_n, pIsB_b, pNotB_b, isN_n, isN_b, isN_i, isN_s, isN_t, isN_l, pIx_t, pIx_l, pLen_t, pLen_l, pMin2_i, pMax2_i, pAbs_i, pInt_i, pTuple_t, pTuple_l, pList_t, pList_l, pIadd_i, pSl_t, pSl_l, pEqI, pNeI, pEqS, pNeS, at0, at1, at2, at3, at4, at5, at6, at7, bx_ret, bx_exc, bx_fail, bd_ret, bd_exc, bd_fail, exS_ret, exS_exc, exS_fail, ofO_some, ofO_none, fnE, isi_T, isi_B, isi_I, isi_S, isi_L, sizeL, Option.bind_some, Option.map_some, Option.some.injEq, Int.reduceEq, Int.reduceLE, Int.reduceLT, Int.reduceNeg, Int.reduceAdd, Int.reduceSub, Int.reduceMul, decide_true, decide_false, decide_eq_true_eq, decide_not, eq_self, Int.cast_ofNat_Int, reduceCtorEq, List.length_cons, List.length_nil, List.map_cons, List.map_nil, List.replicate, List.cons_append, List.nil_append, List.append_nil, List.getElem?_cons_zero, List.getElem?_cons_succ, List.getElem?_nil, List.set_cons_zero, List.set_cons_succ, Nat.reduceAdd, Nat.reduceSub, Nat.reduceEqDiff, Nat.reduceLeDiff, Nat.reduceLT, Nat.zero_add, Nat.add_zero, true_and, and_true, false_and, and_false, Bool.not_true, Bool.not_false, Bool.true_and, Bool.and_true, Bool.false_and, Bool.and_false, Bool.or_false, Bool.false_or, Bool.or_true, Bool.true_or, Bool.not_eq_true', if_true, if_false, Bool.false_eq_true, Bool.not_eq_true, ↓reduceIte, ite_true, ite_false, Bool.true_eq_false, not_true_eq_false, not_false_eq_true, Nat.zero_le]
    exact Dr.ret ⟨_, rfl, rfl⟩
  rintro ρ rfl
  refine Dr.seq (J := fun ρ => ∃ (moves : List (Int × Int)) (x : Option VL.W), 2 ≤ moves.length ∧ (moves.length : Int) ≤ codes ∧ (∀ p ∈ moves, -16 ≤ p.1 ∧ p.1 ≤ 16 ∧ -2 ≤ p.2 ∧ p.2 ≤ 2) ∧ ρ = [some .tok, some (.dat (.int wide)), some (.dat (.int places)), some (.dat (.int codes)), some (.dat (.int low)), some (.dat (.int high)), some (.dat (.list (steps.map .int))), x, some (.own (moves.map mvD)), none]) 33 _ ?_ ?_
  · simp only [r_draw, bx_draw, bd_draw, exS_draw, xFld, fldK, asRf_rf, bd_rd, bx_rd, exS_rd, bd_wr, bx_wr, exS_wr, pIntB_b, xParW3, parW3a, parW3b, parW3c, dictW_c, pLtA_i, pSumT, pSumL, xwD, xwO, datK, ownK, capN, capC, ygT3c, opK2, opK, chK4, chK3, chK2, chK, unK, andK, orK, notK, andVK2, andVK, notVK2, notVK, ifVK, ifTK, consK2, consK, tupK, lstK, fzK, cbK, isiK, drpK, retK, ifSK, setK, setOK, nxK, asgK, parK, appK, wcK, wdK, callK, forK, lcK, raiseK, bodyX, startE, xSeq, sqF, xNext, xIfS, xRet, xSet, xSetO, xDrop, xAsg, ygT_t, ygsC, ygsN, ygN, xPar, xAppend, xFrz, xVar, xC, xOp, xUn, pNeg_i, xTest, asB_b, xAnd, xOr, xNot, xAndV, xNotV, xIf, xIfT, xChain, xNil, xCons, xTup, xLst, xFz, xCall, rOfT_d, rOfT_o, rOfT_c, rOwT_o, ywNil, ywDat, ywVar, xCB, xIsi, asI_i, xLenS, xFor, ziL, itT_t, itL_l, ziR1, ziET, enT_t, enL_l, xLc, noOwnB, wipeE, xYes, xRaise, pAdd_i, pAdd_t, pAdd_l, pSub_i, pLt_i, pLe_i, pGt_i, pGe_i, pIs_n, pIsNot_n, pIsB_b, pNotB_b, isN_n, isN_b, isN_i, isN_s, isN_t, isN_l, pIx_t, pIx_l, pLen_t, pLen_l, pMin2_i, pMax2_i, pAbs_i, pInt_i, pTuple_t, pTuple_l, pList_t, pList_l, pIadd_i, pSl_t, pSl_l, pEqI, pNeI, pEqS, pNeS, at0, at1, at2, at3, at4, at5, at6, at7, bx_ret, bx_exc, bx_fail, bd_ret, bd_exc, bd_fail, exS_ret, exS_exc, exS_fail, ofO_some, ofO_none, fnE, isi_T, isi_B, isi_I, isi_S, isi_L, sizeL, Option.bind_some, Option.map_some, Option.some.injEq, Int.reduceEq, Int.reduceLE, Int.reduceLT, Int.reduceNeg, Int.reduceAdd, Int.reduceSub, Int.reduceMul, decide_true, decide_false, decide_eq_true_eq, decide_not, eq_self, Int.cast_ofNat_Int, reduceCtorEq, List.length_cons, List.length_nil, List.map_cons, List.map_nil, List.replicate, List.cons_append, List.nil_append, List.append_nil, List.getElem?_cons_zero, List.getElem?_cons_succ, List.getElem?_nil, List.set_cons_zero, List.set_cons_succ, Nat.reduceAdd, Nat.reduceSub, Nat.reduceEqDiff, Nat.reduceLeDiff, Nat.reduceLT, Nat.zero_add, Nat.add_zero, true_and, and_true, false_and, and_false, Bool.not_true, Bool.not_false, Bool.true_and, Bool.and_true, Bool.false_and, Bool.and_false, Bool.or_false, Bool.false_or, Bool.or_true, Bool.true_or, Bool.not_eq_true', if_true, if_false, Bool.false_eq_true, Bool.not_eq_true, ↓reduceIte, ite_true, ite_false, Bool.true_eq_false, not_true_eq_false, not_false_eq_true, Nat.zero_le]
    refine Dr.draw (k := 32) (by omega) (by omega) fun r r0 r1 => ?_
    simp only [rgT1_i (j := 2 + r) (by omega) (by omega), r_draw, bx_draw, bd_draw, exS_draw, xFld, fldK, asRf_rf, bd_rd, bx_rd, exS_rd, bd_wr, bx_wr, exS_wr, pIntB_b, xParW3, parW3a, parW3b, parW3c, dictW_c, pLtA_i, pSumT, pSumL, xwD, xwO, datK, ownK, capN, capC, ygT3c, opK2, opK, chK4, chK3, chK2, chK, unK, andK, orK, notK, andVK2, andVK, notVK2, notVK, ifVK, ifTK, consK2, consK, tupK, lstK, fzK, cbK, isiK, drpK, retK, ifSK, setK, setOK, nxK, asgK, parK, appK, wcK, wdK, callK, forK, lcK, raiseK, bodyX, startE, xSeq, sqF, xNext, xIfS, xRet, xSet, xSetO, xDrop, xAsg, ygT_t, ygsC, ygsN, ygN, xPar, xAppend, xFrz, xVar, xC, xOp, xUn, pNeg_i, xTest, asB_b, xAnd, xOr, xNot, xAndV, xNotV, xIf, xIfT, xChain, xNil, xCons, xTup, xLst, xFz, xCall, rOfT_d, rOfT_o, rOfT_c, rOwT_o, ywNil, ywDat, ywVar, xCB, xIsi, asI_i, xLenS, xFor, ziL, itT_t, itL_l, ziR1, ziET, enT_t, enL_l, xLc, noOwnB, wipeE, xYes, xRaise, pAdd_i, pAdd_t, pAdd_l, pSub_i, pLt_i, pLe_i, pGt_i, pGe_i, pIs_n, pIsNot_n, pIsB_b, pNotB_b, isN_n, isN_b, isN_i, isN_s, isN_t, isN_l, pIx_t, pIx_l, pLen_t, pLen_l, pMin2_i, pMax2_i, pAbs_i, pInt_i, pTuple_t, pTuple_l, pList_t, pList_l, pIadd_i, pSl_t, pSl_l, pEqI, pNeI, pEqS, pNeS, at0, at1, at2, at3, at4, at5, at6, at7, bx_ret, bx_exc, bx_fail, bd_ret, bd_exc, bd_fail, exS_ret, exS_exc, exS_fail, ofO_some, ofO_none, fnE, isi_T, isi_B, isi_I, isi_S, isi_L, sizeL, Option.bind_some, Option.map_some, Option.some.injEq, Int.reduceEq, Int.reduceLE, Int.reduceLT, Int.reduceNeg, Int.reduceAdd, Int.reduceSub, Int.reduceMul, decide_true, decide_false, decide_eq_true_eq, decide_not, eq_self, Int.cast_ofNat_Int, reduceCtorEq, List.length_cons, List.length_nil, List.map_cons, List.map_nil, List.replicate, List.cons_append, List.nil_append, List.append_nil, List.getElem?_cons_zero, List.getElem?_cons_succ, List.getElem?_nil, List.set_cons_zero, List.set_cons_succ, Nat.reduceAdd, Nat.reduceSub, Nat.reduceEqDiff, Nat.reduceLeDiff, Nat.reduceLT, Nat.zero_add, Nat.add_zero, true_and, and_true, false_and, and_false, Bool.not_true, Bool.not_false, Bool.true_and, Bool.and_true, Bool.false_and, Bool.and_false, Bool.or_false, Bool.false_or, Bool.or_true, Bool.true_or, Bool.not_eq_true', if_true, if_false, Bool.false_eq_true, Bool.not_eq_true, ↓reduceIte, ite_true, ite_false, Bool.true_eq_false, not_true_eq_false, not_false_eq_true, Nat.zero_le]
    have hlen : (rngD 0 (2 + r).toNat).length = (2 + r).toNat := rngD_len _ _
    refine Dr.le (k := 2 * (rngD 0 (2 + r).toNat).length) ?_ (by rw [hlen]; omega)
    refine Dr.forT (J := fun ds ρ => ∃ (moves : List (Int × Int)) (x : Option VL.W), moves.length + ds.length = (2 + r).toNat ∧ (∀ p ∈ moves, -16 ≤ p.1 ∧ p.1 ≤ 16 ∧ -2 ≤ p.2 ∧ p.2 ≤ 2) ∧ ρ = [some .tok, some (.dat (.int wide)), some (.dat (.int places)), some (.dat (.int codes)), some (.dat (.int low)), some (.dat (.int high)), some (.dat (.list (steps.map .int))), x, some (.own (moves.map mvD)), none]) ?_ ?_ _ _ ⟨[], none, by rw [hlen]; simp, by simp, rfl⟩
    · rintro ρ ⟨moves, x, hm, hv, rfl⟩
      simp only [List.length_nil] at hm
      exact ⟨_, rfl, moves, x, by omega, by omega, hv, rfl⟩
    · rintro d ds ρ ⟨moves, x, hm, hv, rfl⟩
      rw [List.length_cons] at hm
      refine ⟨_, rfl, ?_⟩
      unfold b__law_coder_1
      try simp only [r_draw, bx_draw, bd_draw, exS_draw, xFld, fldK, asRf_rf, bd_rd, bx_rd, exS_rd, bd_wr, bx_wr, exS_wr, pIntB_b, xParW3, parW3a, parW3b, parW3c, dictW_c, pLtA_i, pSumT, pSumL, xwD, xwO, datK, ownK, capN, capC, ygT3c, opK2, opK, chK4, chK3, chK2, chK, unK, andK, orK, notK, andVK2, andVK, notVK2, notVK, ifVK, ifTK, consK2, consK, tupK, lstK, fzK, cbK, isiK, drpK, retK, ifSK, setK, setOK, nxK, asgK, parK, appK, wcK, wdK, callK, forK, lcK, raiseK, bodyX, startE, xSeq, sqF, xNext, xIfS, xRet, xSet, xSetO, xDrop, xAsg, ygT_t, ygsC, ygsN, ygN, xPar, xAppend, xFrz, xVar, xC, xOp, xUn, pNeg_i, xTest, asB_b, xAnd, xOr, xNot, xAndV, xNotV, xIf, xIfT, xChain, xNil, xCons, xTup, xLst, xFz, xCall, rOfT_d, rOfT_o, rOfT_c, rOwT_o, ywNil, ywDat, ywVar, xCB, xIsi, asI_i, xLenS, xFor, ziL, itT_t, itL_l, ziR1, ziET, enT_t, enL_l, xLc, noOwnB, wipeE, xYes, xRaise, pAdd_i, pAdd_t, pAdd_l, pSub_i, pLt_i, pLe_i, pGt_i, pGe_i, pIs_n, pIsNot_n, pIsB_b, pNotB_b, isN_n, isN_b, isN_i, isN_s, isN_t, isN_l, pIx_t, pIx_l, pLen_t, pLen_l, pMin2_i, pMax2_i, pAbs_i, pInt_i, pTuple_t, pTuple_l, pList_t, pList_l, pIadd_i, pSl_t, pSl_l, pEqI, pNeI, pEqS, pNeS, at0, at1, at2, at3, at4, at5, at6, at7, bx_ret, bx_exc, bx_fail, bd_ret, bd_exc, bd_fail, exS_ret, exS_exc, exS_fail, ofO_some, ofO_none, fnE, isi_T, isi_B, isi_I, isi_S, isi_L, sizeL, Option.bind_some, Option.map_some, Option.some.injEq, Int.reduceEq, Int.reduceLE, Int.reduceLT, Int.reduceNeg, Int.reduceAdd, Int.reduceSub, Int.reduceMul, decide_true, decide_false, decide_eq_true_eq, decide_not, eq_self, Int.cast_ofNat_Int, reduceCtorEq, List.length_cons, List.length_nil, List.map_cons, List.map_nil, List.replicate, List.cons_append, List.nil_append, List.append_nil, List.getElem?_cons_zero, List.getElem?_cons_succ, List.getElem?_nil, List.set_cons_zero, List.set_cons_succ, Nat.reduceAdd, Nat.reduceSub, Nat.reduceEqDiff, Nat.reduceLeDiff, Nat.reduceLT, Nat.zero_add, Nat.add_zero, true_and, and_true, false_and, and_false, Bool.not_true, Bool.not_false, Bool.true_and, Bool.and_true, Bool.false_and, Bool.and_false, Bool.or_false, Bool.false_or, Bool.or_true, Bool.true_or, Bool.not_eq_true', if_true, if_false, Bool.false_eq_true, Bool.not_eq_true, ↓reduceIte, ite_true, ite_false, Bool.true_eq_false, not_true_eq_false, not_false_eq_true, Nat.zero_le]
      refine Dr.draw (by omega) (by omega) fun a a0 a1 => ?_
      try simp only [r_draw, bx_draw, bd_draw, exS_draw, xFld, fldK, asRf_rf, bd_rd, bx_rd, exS_rd, bd_wr, bx_wr, exS_wr, pIntB_b, xParW3, parW3a, parW3b, parW3c, dictW_c, pLtA_i, pSumT, pSumL, xwD, xwO, datK, ownK, capN, capC, ygT3c, opK2, opK, chK4, chK3, chK2, chK, unK, andK, orK, notK, andVK2, andVK, notVK2, notVK, ifVK, ifTK, consK2, consK, tupK, lstK, fzK, cbK, isiK, drpK, retK, ifSK, setK, setOK, nxK, asgK, parK, appK, wcK, wdK, callK, forK, lcK, raiseK, bodyX, startE, xSeq, sqF, xNext, xIfS, xRet, xSet, xSetO, xDrop, xAsg, ygT_t, ygsC, ygsN, ygN, xPar, xAppend, xFrz, xVar, xC, xOp, xUn, pNeg_i, xTest, asB_b, xAnd, xOr, xNot, xAndV, xNotV, xIf, xIfT, xChain, xNil, xCons, xTup, xLst, xFz, xCall, rOfT_d, rOfT_o, rOfT_c, rOwT_o, ywNil, ywDat, ywVar, xCB, xIsi, asI_i, xLenS, xFor, ziL, itT_t, itL_l, ziR1, ziET, enT_t, enL_l, xLc, noOwnB, wipeE, xYes, xRaise, pAdd_i, pAdd_t, pAdd_l, pSub_i, pLt_i, pLe_i, pGt_i, pGe_i, pIs_n, pIsNot_n, pIsB_b, pNotB_b, isN_n, isN_b, isN_i, isN_s, isN_t, isN_l, pIx_t, pIx_l, pLen_t, pLen_l, pMin2_i, pMax2_i, pAbs_i, pInt_i, pTuple_t, pTuple_l, pList_t, pList_l, pIadd_i, pSl_t, pSl_l, pEqI, pNeI, pEqS, pNeS, at0, at1, at2, at3, at4, at5, at6, at7, bx_ret, bx_exc, bx_fail, bd_ret, bd_exc, bd_fail, exS_ret, exS_exc, exS_fail, ofO_some, ofO_none, fnE, isi_T, isi_B, isi_I, isi_S, isi_L, sizeL, Option.bind_some, Option.map_some, Option.some.injEq, Int.reduceEq, Int.reduceLE, Int.reduceLT, Int.reduceNeg, Int.reduceAdd, Int.reduceSub, Int.reduceMul, decide_true, decide_false, decide_eq_true_eq, decide_not, eq_self, Int.cast_ofNat_Int, reduceCtorEq, List.length_cons, List.length_nil, List.map_cons, List.map_nil, List.replicate, List.cons_append, List.nil_append, List.append_nil, List.getElem?_cons_zero, List.getElem?_cons_succ, List.getElem?_nil, List.set_cons_zero, List.set_cons_succ, Nat.reduceAdd, Nat.reduceSub, Nat.reduceEqDiff, Nat.reduceLeDiff, Nat.reduceLT, Nat.zero_add, Nat.add_zero, true_and, and_true, false_and, and_false, Bool.not_true, Bool.not_false, Bool.true_and, Bool.and_true, Bool.false_and, Bool.and_false, Bool.or_false, Bool.false_or, Bool.or_true, Bool.true_or, Bool.not_eq_true', if_true, if_false, Bool.false_eq_true, Bool.not_eq_true, ↓reduceIte, ite_true, ite_false, Bool.true_eq_false, not_true_eq_false, not_false_eq_true, Nat.zero_le]
      refine Dr.draw (by omega) (by omega) fun b b0 b1 => ?_
      have lt : (moves.map mvD).length < 16777216 := by rw [List.length_map]; omega
      simp only [lt, r_draw, bx_draw, bd_draw, exS_draw, xFld, fldK, asRf_rf, bd_rd, bx_rd, exS_rd, bd_wr, bx_wr, exS_wr, pIntB_b, xParW3, parW3a, parW3b, parW3c, dictW_c, pLtA_i, pSumT, pSumL, xwD, xwO, datK, ownK, capN, capC, ygT3c, opK2, opK, chK4, chK3, chK2, chK, unK, andK, orK, notK, andVK2, andVK, notVK2, notVK, ifVK, ifTK, consK2, consK, tupK, lstK, fzK, cbK, isiK, drpK, retK, ifSK, setK, setOK, nxK, asgK, parK, appK, wcK, wdK, callK, forK, lcK, raiseK, bodyX, startE, xSeq, sqF, xNext, xIfS, xRet, xSet, xSetO, xDrop, xAsg, ygT_t, ygsC, ygsN, ygN, xPar, xAppend, xFrz, xVar, xC, xOp, xUn, pNeg_i, xTest, asB_b, xAnd, xOr, xNot, xAndV, xNotV, xIf, xIfT, xChain, xNil, xCons, xTup, xLst, xFz, xCall, rOfT_d, rOfT_o, rOfT_c, rOwT_o, ywNil, ywDat, ywVar, xCB, xIsi, asI_i, xLenS, xFor, ziL, itT_t, itL_l, ziR1, ziET, enT_t, enL_l, xLc, noOwnB, wipeE, xYes, xRaise, pAdd_i, pAdd_t, pAdd_l, pSub_i, pLt_i, pLe_i, pGt_i, pGe_i, pIs_n, pIsNot_n, pIsB_b, pNotB_b, isN_n, isN_b, isN_i, isN_s, isN_t, isN_l, pIx_t, pIx_l, pLen_t, pLen_l, pMin2_i, pMax2_i, pAbs_i, pInt_i, pTuple_t, pTuple_l, pList_t, pList_l, pIadd_i, pSl_t, pSl_l, pEqI, pNeI, pEqS, pNeS, at0, at1, at2, at3, at4, at5, at6, at7, bx_ret, bx_exc, bx_fail, bd_ret, bd_exc, bd_fail, exS_ret, exS_exc, exS_fail, ofO_some, ofO_none, fnE, isi_T, isi_B, isi_I, isi_S, isi_L, sizeL, Option.bind_some, Option.map_some, Option.some.injEq, Int.reduceEq, Int.reduceLE, Int.reduceLT, Int.reduceNeg, Int.reduceAdd, Int.reduceSub, Int.reduceMul, decide_true, decide_false, decide_eq_true_eq, decide_not, eq_self, Int.cast_ofNat_Int, reduceCtorEq, List.length_cons, List.length_nil, List.map_cons, List.map_nil, List.replicate, List.cons_append, List.nil_append, List.append_nil, List.getElem?_cons_zero, List.getElem?_cons_succ, List.getElem?_nil, List.set_cons_zero, List.set_cons_succ, Nat.reduceAdd, Nat.reduceSub, Nat.reduceEqDiff, Nat.reduceLeDiff, Nat.reduceLT, Nat.zero_add, Nat.add_zero, true_and, and_true, false_and, and_false, Bool.not_true, Bool.not_false, Bool.true_and, Bool.and_true, Bool.false_and, Bool.and_false, Bool.or_false, Bool.false_or, Bool.or_true, Bool.true_or, Bool.not_eq_true', if_true, if_false, Bool.false_eq_true, Bool.not_eq_true, ↓reduceIte, ite_true, ite_false, Bool.true_eq_false, not_true_eq_false, not_false_eq_true, Nat.zero_le]
      refine Dr.ret (.inl ⟨_, .inl rfl, moves ++ [(a - 16, b - 2)], some (.dat d), by simp only [List.length_append, List.length_cons, List.length_nil]; omega, fun p hp => ?_, by rw [List.map_append]; rfl⟩)
      rcases List.mem_append.mp hp with hp | hp
      · exact hv p hp
      · rw [List.mem_singleton] at hp
        subst hp
        exact ⟨by dsimp only; omega, by dsimp only; omega, by dsimp only; omega, by dsimp only; omega⟩
  rintro ρ ⟨moves, x, m0, m1, mv, rfl⟩
  refine Dr.seq (J := fun ρ => ∃ fade : Int, (fade = 0 ∨ 2 ≤ fade ∧ fade ≤ 5) ∧ ρ = [some .tok, some (.dat (.int wide)), some (.dat (.int places)), some (.dat (.int codes)), some (.dat (.int low)), some (.dat (.int high)), some (.dat (.list (steps.map .int))), x, some (.own (moves.map mvD)), some (.dat (.int fade))]) 2 _ ?_ ?_
  · simp only [r_draw, bx_draw, bd_draw, exS_draw, xFld, fldK, asRf_rf, bd_rd, bx_rd, exS_rd, bd_wr, bx_wr, exS_wr, pIntB_b, xParW3, parW3a, parW3b, parW3c, dictW_c, pLtA_i, pSumT, pSumL, xwD, xwO, datK, ownK, capN, capC, ygT3c, opK2, opK, chK4, chK3, chK2, chK, unK, andK, orK, notK, andVK2, andVK, notVK2, notVK, ifVK, ifTK, consK2, consK, tupK, lstK, fzK, cbK, isiK, drpK, retK, ifSK, setK, setOK, nxK, asgK, parK, appK, wcK, wdK, callK, forK, lcK, raiseK, bodyX, startE, xSeq, sqF, xNext, xIfS, xRet, xSet, xSetO, xDrop, xAsg, ygT_t, ygsC, ygsN, ygN, xPar, xAppend, xFrz, xVar, xC, xOp, xUn, pNeg_i, xTest, asB_b, xAnd, xOr, xNot, xAndV, xNotV, xIf, xIfT, xChain, xNil, xCons, xTup, xLst, xFz, xCall, rOfT_d, rOfT_o, rOfT_c, rOwT_o, ywNil, ywDat, ywVar, xCB, xIsi, asI_i, xLenS, xFor, ziL, itT_t, itL_l, ziR1, ziET, enT_t, enL_l, xLc, noOwnB, wipeE, xYes, xRaise, pAdd_i, pAdd_t, pAdd_l, pSub_i, pLt_i, pLe_i, pGt_i, pGe_i, pIs_n, pIsNot_n, pIsB_b, pNotB_b, isN_n, isN_b, isN_i, isN_s, isN_t, isN_l, pIx_t, pIx_l, pLen_t, pLen_l, pMin2_i, pMax2_i, pAbs_i, pInt_i, pTuple_t, pTuple_l, pList_t, pList_l, pIadd_i, pSl_t, pSl_l, pEqI, pNeI, pEqS, pNeS, at0, at1, at2, at3, at4, at5, at6, at7, bx_ret, bx_exc, bx_fail, bd_ret, bd_exc, bd_fail, exS_ret, exS_exc, exS_fail, ofO_some, ofO_none, fnE, isi_T, isi_B, isi_I, isi_S, isi_L, sizeL, Option.bind_some, Option.map_some, Option.some.injEq, Int.reduceEq, Int.reduceLE, Int.reduceLT, Int.reduceNeg, Int.reduceAdd, Int.reduceSub, Int.reduceMul, decide_true, decide_false, decide_eq_true_eq, decide_not, eq_self, Int.cast_ofNat_Int, reduceCtorEq, List.length_cons, List.length_nil, List.map_cons, List.map_nil, List.replicate, List.cons_append, List.nil_append, List.append_nil, List.getElem?_cons_zero, List.getElem?_cons_succ, List.getElem?_nil, List.set_cons_zero, List.set_cons_succ, Nat.reduceAdd, Nat.reduceSub, Nat.reduceEqDiff, Nat.reduceLeDiff, Nat.reduceLT, Nat.zero_add, Nat.add_zero, true_and, and_true, false_and, and_false, Bool.not_true, Bool.not_false, Bool.true_and, Bool.and_true, Bool.false_and, Bool.and_false, Bool.or_false, Bool.false_or, Bool.or_true, Bool.true_or, Bool.not_eq_true', if_true, if_false, Bool.false_eq_true, Bool.not_eq_true, ↓reduceIte, ite_true, ite_false, Bool.true_eq_false, not_true_eq_false, not_false_eq_true, Nat.zero_le]
    refine Dr.draw (by omega) (by omega) fun r r0 r1 => ?_
    try simp only [r_draw, bx_draw, bd_draw, exS_draw, xFld, fldK, asRf_rf, bd_rd, bx_rd, exS_rd, bd_wr, bx_wr, exS_wr, pIntB_b, xParW3, parW3a, parW3b, parW3c, dictW_c, pLtA_i, pSumT, pSumL, xwD, xwO, datK, ownK, capN, capC, ygT3c, opK2, opK, chK4, chK3, chK2, chK, unK, andK, orK, notK, andVK2, andVK, notVK2, notVK, ifVK, ifTK, consK2, consK, tupK, lstK, fzK, cbK, isiK, drpK, retK, ifSK, setK, setOK, nxK, asgK, parK, appK, wcK, wdK, callK, forK, lcK, raiseK, bodyX, startE, xSeq, sqF, xNext, xIfS, xRet, xSet, xSetO, xDrop, xAsg, ygT_t, ygsC, ygsN, ygN, xPar, xAppend, xFrz, xVar, xC, xOp, xUn, pNeg_i, xTest, asB_b, xAnd, xOr, xNot, xAndV, xNotV, xIf, xIfT, xChain, xNil, xCons, xTup, xLst, xFz, xCall, rOfT_d, rOfT_o, rOfT_c, rOwT_o, ywNil, ywDat, ywVar, xCB, xIsi, asI_i, xLenS, xFor, ziL, itT_t, itL_l, ziR1, ziET, enT_t, enL_l, xLc, noOwnB, wipeE, xYes, xRaise, pAdd_i, pAdd_t, pAdd_l, pSub_i, pLt_i, pLe_i, pGt_i, pGe_i, pIs_n, pIsNot_n, pIsB_b, pNotB_b, isN_n, isN_b, isN_i, isN_s, isN_t, isN_l, pIx_t, pIx_l, pLen_t, pLen_l, pMin2_i, pMax2_i, pAbs_i, pInt_i, pTuple_t, pTuple_l, pList_t, pList_l, pIadd_i, pSl_t, pSl_l, pEqI, pNeI, pEqS, pNeS, at0, at1, at2, at3, at4, at5, at6, at7, bx_ret, bx_exc, bx_fail, bd_ret, bd_exc, bd_fail, exS_ret, exS_exc, exS_fail, ofO_some, ofO_none, fnE, isi_T, isi_B, isi_I, isi_S, isi_L, sizeL, Option.bind_some, Option.map_some, Option.some.injEq, Int.reduceEq, Int.reduceLE, Int.reduceLT, Int.reduceNeg, Int.reduceAdd, Int.reduceSub, Int.reduceMul, decide_true, decide_false, decide_eq_true_eq, decide_not, eq_self, Int.cast_ofNat_Int, reduceCtorEq, List.length_cons, List.length_nil, List.map_cons, List.map_nil, List.replicate, List.cons_append, List.nil_append, List.append_nil, List.getElem?_cons_zero, List.getElem?_cons_succ, List.getElem?_nil, List.set_cons_zero, List.set_cons_succ, Nat.reduceAdd, Nat.reduceSub, Nat.reduceEqDiff, Nat.reduceLeDiff, Nat.reduceLT, Nat.zero_add, Nat.add_zero, true_and, and_true, false_and, and_false, Bool.not_true, Bool.not_false, Bool.true_and, Bool.and_true, Bool.false_and, Bool.and_false, Bool.or_false, Bool.false_or, Bool.or_true, Bool.true_or, Bool.not_eq_true', if_true, if_false, Bool.false_eq_true, Bool.not_eq_true, ↓reduceIte, ite_true, ite_false, Bool.true_eq_false, not_true_eq_false, not_false_eq_true, Nat.zero_le]
    refine Dr.draw (by omega) (by omega) fun q q0 q1 => ?_
    have hq : q = 0 ∨ q = 1 ∨ q = 2 ∨ q = 3 := by omega
    rcases hq with rfl | rfl | rfl | rfl
    · simp only [xFld, fldK, asRf_rf, bd_rd, bx_rd, exS_rd, bd_wr, bx_wr, exS_wr, pIntB_b, xParW3, parW3a, parW3b, parW3c, dictW_c, pLtA_i, pSumT, pSumL, xwD, xwO, datK, ownK, capN, capC, ygT3c, opK2, opK, chK4, chK3, chK2, chK, unK, andK, orK, notK, andVK2, andVK, notVK2, notVK, ifVK, ifTK, consK2, consK, tupK, lstK, fzK, cbK, isiK, drpK, retK, ifSK, setK, setOK, nxK, asgK, parK, appK, wcK, wdK, callK, forK, lcK, raiseK, bodyX, startE, xSeq, sqF, xNext, xIfS, xRet, xSet, xSetO, xDrop, xAsg, ygT_t, ygsC, ygsN, ygN, xPar, xAppend, xFrz, xVar, xC, xOp, xUn, pNeg_i, xTest, asB_b, xAnd, xOr, xNot, xAndV, xNotV, xIf, xIfT, xChain, xNil, xCons, xTup, xLst, xFz, xCall, rOfT_d, rOfT_o, rOfT_c, rOwT_o, ywNil, ywDat, ywVar, xCB, xIsi, asI_i, xLenS, xFor, ziL, itT_t, itL_l, ziR1, ziET, enT_t, enL_l, xLc, noOwnB, wipeE, xYes, xRaise, pAdd_i, pAdd_t, pAdd_l, pSub_i, pLt_i, pLe_i, pGt_i, pGe_i, pIs_n, pIsNot_n, pIsB_b, pNotB_b, isN_n, isN_b, isN_i, isN_s, isN_t, isN_l, pIx_t, pIx_l, pLen_t, pLen_l, pMin2_i, pMax2_i, pAbs_i, pInt_i, pTuple_t, pTuple_l, pList_t, pList_l, pIadd_i, pSl_t, pSl_l, pEqI, pNeI, pEqS, pNeS, at0, at1, at2, at3, at4, at5, at6, at7, bx_ret, bx_exc, bx_fail, bd_ret, bd_exc, bd_fail, exS_ret, exS_exc, exS_fail, ofO_some, ofO_none, fnE, isi_T, isi_B, isi_I, isi_S, isi_L, sizeL, Option.bind_some, Option.map_some, Option.some.injEq, Int.reduceEq, Int.reduceLE, Int.reduceLT, Int.reduceNeg, Int.reduceAdd, Int.reduceSub, Int.reduceMul, decide_true, decide_false, decide_eq_true_eq, decide_not, eq_self, Int.cast_ofNat_Int, reduceCtorEq, List.length_cons, List.length_nil, List.map_cons, List.map_nil, List.replicate, List.cons_append, List.nil_append, List.append_nil, List.getElem?_cons_zero, List.getElem?_cons_succ, List.getElem?_nil, List.set_cons_zero, List.set_cons_succ, Nat.reduceAdd, Nat.reduceSub, Nat.reduceEqDiff, Nat.reduceLeDiff, Nat.reduceLT, Nat.zero_add, Nat.add_zero, true_and, and_true, false_and, and_false, Bool.not_true, Bool.not_false, Bool.true_and, Bool.and_true, Bool.false_and, Bool.and_false, Bool.or_false, Bool.false_or, Bool.or_true, Bool.true_or, Bool.not_eq_true', if_true, if_false, Bool.false_eq_true, Bool.not_eq_true, ↓reduceIte, ite_true, ite_false, Bool.true_eq_false, not_true_eq_false, not_false_eq_true, Nat.zero_le]; exact Dr.ret ⟨_, rfl, 0, .inl rfl, rfl⟩
    · simp only [xFld, fldK, asRf_rf, bd_rd, bx_rd, exS_rd, bd_wr, bx_wr, exS_wr, pIntB_b, xParW3, parW3a, parW3b, parW3c, dictW_c, pLtA_i, pSumT, pSumL, xwD, xwO, datK, ownK, capN, capC, ygT3c, opK2, opK, chK4, chK3, chK2, chK, unK, andK, orK, notK, andVK2, andVK, notVK2, notVK, ifVK, ifTK, consK2, consK, tupK, lstK, fzK, cbK, isiK, drpK, retK, ifSK, setK, setOK, nxK, asgK, parK, appK, wcK, wdK, callK, forK, lcK, raiseK, bodyX, startE, xSeq, sqF, xNext, xIfS, xRet, xSet, xSetO, xDrop, xAsg, ygT_t, ygsC, ygsN, ygN, xPar, xAppend, xFrz, xVar, xC, xOp, xUn, pNeg_i, xTest, asB_b, xAnd, xOr, xNot, xAndV, xNotV, xIf, xIfT, xChain, xNil, xCons, xTup, xLst, xFz, xCall, rOfT_d, rOfT_o, rOfT_c, rOwT_o, ywNil, ywDat, ywVar, xCB, xIsi, asI_i, xLenS, xFor, ziL, itT_t, itL_l, ziR1, ziET, enT_t, enL_l, xLc, noOwnB, wipeE, xYes, xRaise, pAdd_i, pAdd_t, pAdd_l, pSub_i, pLt_i, pLe_i, pGt_i, pGe_i, pIs_n, pIsNot_n, pIsB_b, pNotB_b, isN_n, isN_b, isN_i, isN_s, isN_t, isN_l, pIx_t, pIx_l, pLen_t, pLen_l, pMin2_i, pMax2_i, pAbs_i, pInt_i, pTuple_t, pTuple_l, pList_t, pList_l, pIadd_i, pSl_t, pSl_l, pEqI, pNeI, pEqS, pNeS, at0, at1, at2, at3, at4, at5, at6, at7, bx_ret, bx_exc, bx_fail, bd_ret, bd_exc, bd_fail, exS_ret, exS_exc, exS_fail, ofO_some, ofO_none, fnE, isi_T, isi_B, isi_I, isi_S, isi_L, sizeL, Option.bind_some, Option.map_some, Option.some.injEq, Int.reduceEq, Int.reduceLE, Int.reduceLT, Int.reduceNeg, Int.reduceAdd, Int.reduceSub, Int.reduceMul, decide_true, decide_false, decide_eq_true_eq, decide_not, eq_self, Int.cast_ofNat_Int, reduceCtorEq, List.length_cons, List.length_nil, List.map_cons, List.map_nil, List.replicate, List.cons_append, List.nil_append, List.append_nil, List.getElem?_cons_zero, List.getElem?_cons_succ, List.getElem?_nil, List.set_cons_zero, List.set_cons_succ, Nat.reduceAdd, Nat.reduceSub, Nat.reduceEqDiff, Nat.reduceLeDiff, Nat.reduceLT, Nat.zero_add, Nat.add_zero, true_and, and_true, false_and, and_false, Bool.not_true, Bool.not_false, Bool.true_and, Bool.and_true, Bool.false_and, Bool.and_false, Bool.or_false, Bool.false_or, Bool.or_true, Bool.true_or, Bool.not_eq_true', if_true, if_false, Bool.false_eq_true, Bool.not_eq_true, ↓reduceIte, ite_true, ite_false, Bool.true_eq_false, not_true_eq_false, not_false_eq_true, Nat.zero_le]; exact Dr.ret ⟨_, rfl, 0, .inl rfl, rfl⟩
    · simp only [xFld, fldK, asRf_rf, bd_rd, bx_rd, exS_rd, bd_wr, bx_wr, exS_wr, pIntB_b, xParW3, parW3a, parW3b, parW3c, dictW_c, pLtA_i, pSumT, pSumL, xwD, xwO, datK, ownK, capN, capC, ygT3c, opK2, opK, chK4, chK3, chK2, chK, unK, andK, orK, notK, andVK2, andVK, notVK2, notVK, ifVK, ifTK, consK2, consK, tupK, lstK, fzK, cbK, isiK, drpK, retK, ifSK, setK, setOK, nxK, asgK, parK, appK, wcK, wdK, callK, forK, lcK, raiseK, bodyX, startE, xSeq, sqF, xNext, xIfS, xRet, xSet, xSetO, xDrop, xAsg, ygT_t, ygsC, ygsN, ygN, xPar, xAppend, xFrz, xVar, xC, xOp, xUn, pNeg_i, xTest, asB_b, xAnd, xOr, xNot, xAndV, xNotV, xIf, xIfT, xChain, xNil, xCons, xTup, xLst, xFz, xCall, rOfT_d, rOfT_o, rOfT_c, rOwT_o, ywNil, ywDat, ywVar, xCB, xIsi, asI_i, xLenS, xFor, ziL, itT_t, itL_l, ziR1, ziET, enT_t, enL_l, xLc, noOwnB, wipeE, xYes, xRaise, pAdd_i, pAdd_t, pAdd_l, pSub_i, pLt_i, pLe_i, pGt_i, pGe_i, pIs_n, pIsNot_n, pIsB_b, pNotB_b, isN_n, isN_b, isN_i, isN_s, isN_t, isN_l, pIx_t, pIx_l, pLen_t, pLen_l, pMin2_i, pMax2_i, pAbs_i, pInt_i, pTuple_t, pTuple_l, pList_t, pList_l, pIadd_i, pSl_t, pSl_l, pEqI, pNeI, pEqS, pNeS, at0, at1, at2, at3, at4, at5, at6, at7, bx_ret, bx_exc, bx_fail, bd_ret, bd_exc, bd_fail, exS_ret, exS_exc, exS_fail, ofO_some, ofO_none, fnE, isi_T, isi_B, isi_I, isi_S, isi_L, sizeL, Option.bind_some, Option.map_some, Option.some.injEq, Int.reduceEq, Int.reduceLE, Int.reduceLT, Int.reduceNeg, Int.reduceAdd, Int.reduceSub, Int.reduceMul, decide_true, decide_false, decide_eq_true_eq, decide_not, eq_self, Int.cast_ofNat_Int, reduceCtorEq, List.length_cons, List.length_nil, List.map_cons, List.map_nil, List.replicate, List.cons_append, List.nil_append, List.append_nil, List.getElem?_cons_zero, List.getElem?_cons_succ, List.getElem?_nil, List.set_cons_zero, List.set_cons_succ, Nat.reduceAdd, Nat.reduceSub, Nat.reduceEqDiff, Nat.reduceLeDiff, Nat.reduceLT, Nat.zero_add, Nat.add_zero, true_and, and_true, false_and, and_false, Bool.not_true, Bool.not_false, Bool.true_and, Bool.and_true, Bool.false_and, Bool.and_false, Bool.or_false, Bool.false_or, Bool.or_true, Bool.true_or, Bool.not_eq_true', if_true, if_false, Bool.false_eq_true, Bool.not_eq_true, ↓reduceIte, ite_true, ite_false, Bool.true_eq_false, not_true_eq_false, not_false_eq_true, Nat.zero_le]; exact Dr.ret ⟨_, rfl, 2, .inr ⟨by omega, by omega⟩, rfl⟩
    · simp only [xFld, fldK, asRf_rf, bd_rd, bx_rd, exS_rd, bd_wr, bx_wr, exS_wr, pIntB_b, xParW3, parW3a, parW3b, parW3c, dictW_c, pLtA_i, pSumT, pSumL, xwD, xwO, datK, ownK, capN, capC, ygT3c, opK2, opK, chK4, chK3, chK2, chK, unK, andK, orK, notK, andVK2, andVK, notVK2, notVK, ifVK, ifTK, consK2, consK, tupK, lstK, fzK, cbK, isiK, drpK, retK, ifSK, setK, setOK, nxK, asgK, parK, appK, wcK, wdK, callK, forK, lcK, raiseK, bodyX, startE, xSeq, sqF, xNext, xIfS, xRet, xSet, xSetO, xDrop, xAsg, ygT_t, ygsC, ygsN, ygN, xPar, xAppend, xFrz, xVar, xC, xOp, xUn, pNeg_i, xTest, asB_b, xAnd, xOr, xNot, xAndV, xNotV, xIf, xIfT, xChain, xNil, xCons, xTup, xLst, xFz, xCall, rOfT_d, rOfT_o, rOfT_c, rOwT_o, ywNil, ywDat, ywVar, xCB, xIsi, asI_i, xLenS, xFor, ziL, itT_t, itL_l, ziR1, ziET, enT_t, enL_l, xLc, noOwnB, wipeE, xYes, xRaise, pAdd_i, pAdd_t, pAdd_l, pSub_i, pLt_i, pLe_i, pGt_i, pGe_i, pIs_n, pIsNot_n, pIsB_b, pNotB_b, isN_n, isN_b, isN_i, isN_s, isN_t, isN_l, pIx_t, pIx_l, pLen_t, pLen_l, pMin2_i, pMax2_i, pAbs_i, pInt_i, pTuple_t, pTuple_l, pList_t, pList_l, pIadd_i, pSl_t, pSl_l, pEqI, pNeI, pEqS, pNeS, at0, at1, at2, at3, at4, at5, at6, at7, bx_ret, bx_exc, bx_fail, bd_ret, bd_exc, bd_fail, exS_ret, exS_exc, exS_fail, ofO_some, ofO_none, fnE, isi_T, isi_B, isi_I, isi_S, isi_L, sizeL, Option.bind_some, Option.map_some, Option.some.injEq, Int.reduceEq, Int.reduceLE, Int.reduceLT, Int.reduceNeg, Int.reduceAdd, Int.reduceSub, Int.reduceMul, decide_true, decide_false, decide_eq_true_eq, decide_not, eq_self, Int.cast_ofNat_Int, reduceCtorEq, List.length_cons, List.length_nil, List.map_cons, List.map_nil, List.replicate, List.cons_append, List.nil_append, List.append_nil, List.getElem?_cons_zero, List.getElem?_cons_succ, List.getElem?_nil, List.set_cons_zero, List.set_cons_succ, Nat.reduceAdd, Nat.reduceSub, Nat.reduceEqDiff, Nat.reduceLeDiff, Nat.reduceLT, Nat.zero_add, Nat.add_zero, true_and, and_true, false_and, and_false, Bool.not_true, Bool.not_false, Bool.true_and, Bool.and_true, Bool.false_and, Bool.and_false, Bool.or_false, Bool.false_or, Bool.or_true, Bool.true_or, Bool.not_eq_true', if_true, if_false, Bool.false_eq_true, Bool.not_eq_true, ↓reduceIte, ite_true, ite_false, Bool.true_eq_false, not_true_eq_false, not_false_eq_true, Nat.zero_le]; exact Dr.ret ⟨_, rfl, 2 + r, .inr ⟨by omega, by omega⟩, rfl⟩
  rintro ρ ⟨fade, hf, rfl⟩
  simp only [xFld, fldK, asRf_rf, bd_rd, bx_rd, exS_rd, bd_wr, bx_wr, exS_wr, pIntB_b, xParW3, parW3a, parW3b, parW3c, dictW_c, pLtA_i, pSumT, pSumL, xwD, xwO, datK, ownK, capN, capC, ygT3c, opK2, opK, chK4, chK3, chK2, chK, unK, andK, orK, notK, andVK2, andVK, notVK2, notVK, ifVK, ifTK, consK2, consK, tupK, lstK, fzK, cbK, isiK, drpK, retK, ifSK, setK, setOK, nxK, asgK, parK, appK, wcK, wdK, callK, forK, lcK, raiseK, bodyX, startE, xSeq, sqF, xNext, xIfS, xRet, xSet, xSetO, xDrop, xAsg, ygT_t, ygsC, ygsN, ygN, xPar, xAppend, xFrz, xVar, xC, xOp, xUn, pNeg_i, xTest, asB_b, xAnd, xOr, xNot, xAndV, xNotV, xIf, xIfT, xChain, xNil, xCons, xTup, xLst, xFz, xCall, rOfT_d, rOfT_o, rOfT_c, rOwT_o, ywNil, ywDat, ywVar, xCB, xIsi, asI_i, xLenS, xFor, ziL, itT_t, itL_l, ziR1, ziET, enT_t, enL_l, xLc, noOwnB, wipeE, xYes, xRaise, pAdd_i, pAdd_t, pAdd_l, pSub_i, pLt_i, pLe_i, pGt_i, pGe_i, pIs_n, pIsNot_n, pIsB_b, pNotB_b, isN_n, isN_b, isN_i, isN_s, isN_t, isN_l, pIx_t, pIx_l, pLen_t, pLen_l, pMin2_i, pMax2_i, pAbs_i, pInt_i, pTuple_t, pTuple_l, pList_t, pList_l, pIadd_i, pSl_t, pSl_l, pEqI, pNeI, pEqS, pNeS, at0, at1, at2, at3, at4, at5, at6, at7, bx_ret, bx_exc, bx_fail, bd_ret, bd_exc, bd_fail, exS_ret, exS_exc, exS_fail, ofO_some, ofO_none, fnE, isi_T, isi_B, isi_I, isi_S, isi_L, sizeL, Option.bind_some, Option.map_some, Option.some.injEq, Int.reduceEq, Int.reduceLE, Int.reduceLT, Int.reduceNeg, Int.reduceAdd, Int.reduceSub, Int.reduceMul, decide_true, decide_false, decide_eq_true_eq, decide_not, eq_self, Int.cast_ofNat_Int, reduceCtorEq, List.length_cons, List.length_nil, List.map_cons, List.map_nil, List.replicate, List.cons_append, List.nil_append, List.append_nil, List.getElem?_cons_zero, List.getElem?_cons_succ, List.getElem?_nil, List.set_cons_zero, List.set_cons_succ, Nat.reduceAdd, Nat.reduceSub, Nat.reduceEqDiff, Nat.reduceLeDiff, Nat.reduceLT, Nat.zero_add, Nat.add_zero, true_and, and_true, false_and, and_false, Bool.not_true, Bool.not_false, Bool.true_and, Bool.and_true, Bool.false_and, Bool.and_false, Bool.or_false, Bool.false_or, Bool.or_true, Bool.true_or, Bool.not_eq_true', if_true, if_false, Bool.false_eq_true, Bool.not_eq_true, ↓reduceIte, ite_true, ite_false, Bool.true_eq_false, not_true_eq_false, not_false_eq_true, Nat.zero_le]
  refine Dr.ret ⟨_, rfl, _, rfl, ⟨low, high, steps, moves, fade⟩, rfl, ⟨⟨?_, ?_, ?_, ?_, ?_, ?_, ?_, ?_, ?_, ?_, ?_⟩, l0, h1, s1, fun s hs => (sv s hs).2, m1, mv, hf⟩⟩ <;> dsimp only
  · omega
  · omega
  · omega
  · omega
  · omega
  · omega
  · intro s hs; have := sv s hs; omega
  · omega
  · omega
  · intro p hp; have := mv p hp; omega
  · omega
theorem r_parted (a b : Int) (h0 : 0 < b) (h1 : b < 1073741824) : w__law_parted [.dat (.int a), .dat (.int b)] = .ret (.dat (.int (dv a b))) := by
  rw [wd__law_parted]
  unfold dv
  by_cases h : 0 ≤ a <;> simp only [t__law_parted, pDiv_i h0 h1, h, Int.zero_sub, xFld, fldK, asRf_rf, bd_rd, bx_rd, exS_rd, bd_wr, bx_wr, exS_wr, pIntB_b, xParW3, parW3a, parW3b, parW3c, dictW_c, pLtA_i, pSumT, pSumL, xwD, xwO, datK, ownK, capN, capC, ygT3c, opK2, opK, chK4, chK3, chK2, chK, unK, andK, orK, notK, andVK2, andVK, notVK2, notVK, ifVK, ifTK, consK2, consK, tupK, lstK, fzK, cbK, isiK, drpK, retK, ifSK, setK, setOK, nxK, asgK, parK, appK, wcK, wdK, callK, forK, lcK, raiseK, bodyX, startE, xSeq, sqF, xNext, xIfS, xRet, xSet, xSetO, xDrop, xAsg, ygT_t, ygsC, ygsN, ygN, xPar, xAppend, xFrz, xVar, xC, xOp, xUn, pNeg_i, xTest, asB_b, xAnd, xOr, xNot, xAndV, xNotV, xIf, xIfT, xChain, xNil, xCons, xTup, xLst, xFz, xCall, rOfT_d, rOfT_o, rOfT_c, rOwT_o, ywNil, ywDat, ywVar, xCB, xIsi, asI_i, xLenS, xFor, ziL, itT_t, itL_l, ziR1, ziET, enT_t, enL_l, xLc, noOwnB, wipeE, xYes, xRaise, pAdd_i, pAdd_t, pAdd_l, pSub_i, pLt_i, pLe_i, pGt_i, pGe_i, pIs_n, pIsNot_n, pIsB_b, pNotB_b, isN_n, isN_b, isN_i, isN_s, isN_t, isN_l, pIx_t, pIx_l, pLen_t, pLen_l, pMin2_i, pMax2_i, pAbs_i, pInt_i, pTuple_t, pTuple_l, pList_t, pList_l, pIadd_i, pSl_t, pSl_l, pEqI, pNeI, pEqS, pNeS, at0, at1, at2, at3, at4, at5, at6, at7, bx_ret, bx_exc, bx_fail, bd_ret, bd_exc, bd_fail, exS_ret, exS_exc, exS_fail, ofO_some, ofO_none, fnE, isi_T, isi_B, isi_I, isi_S, isi_L, sizeL, Option.bind_some, Option.map_some, Option.some.injEq, Int.reduceEq, Int.reduceLE, Int.reduceLT, Int.reduceNeg, Int.reduceAdd, Int.reduceSub, Int.reduceMul, decide_true, decide_false, decide_eq_true_eq, decide_not, eq_self, Int.cast_ofNat_Int, reduceCtorEq, List.length_cons, List.length_nil, List.map_cons, List.map_nil, List.replicate, List.cons_append, List.nil_append, List.append_nil, List.getElem?_cons_zero, List.getElem?_cons_succ, List.getElem?_nil, List.set_cons_zero, List.set_cons_succ, Nat.reduceAdd, Nat.reduceSub, Nat.reduceEqDiff, Nat.reduceLeDiff, Nat.reduceLT, Nat.zero_add, Nat.add_zero, true_and, and_true, false_and, and_false, Bool.not_true, Bool.not_false, Bool.true_and, Bool.and_true, Bool.false_and, Bool.and_false, Bool.or_false, Bool.false_or, Bool.or_true, Bool.true_or, Bool.not_eq_true', if_true, if_false, Bool.false_eq_true, Bool.not_eq_true, ↓reduceIte, ite_true, ite_false, Bool.true_eq_false, not_true_eq_false, not_false_eq_true, Nat.zero_le]
def lim (x a b : Int) : Int := if x < a then a else if b < x then b else x
theorem r_limited (x a b : Int) : w__law_limited [.dat (.int x), .dat (.int a), .dat (.int b)] = .ret (.dat (.int (lim x a b))) := by
  rw [wd__law_limited]
  unfold lim
  by_cases h : x < a
  · simp only [t__law_limited, h, xFld, fldK, asRf_rf, bd_rd, bx_rd, exS_rd, bd_wr, bx_wr, exS_wr, pIntB_b, xParW3, parW3a, parW3b, parW3c, dictW_c, pLtA_i, pSumT, pSumL, xwD, xwO, datK, ownK, capN, capC, ygT3c, opK2, opK, chK4, chK3, chK2, chK, unK, andK, orK, notK, andVK2, andVK, notVK2, notVK, ifVK, ifTK, consK2, consK, tupK, lstK, fzK, cbK, isiK, drpK, retK, ifSK, setK, setOK, nxK, asgK, parK, appK, wcK, wdK, callK, forK, lcK, raiseK, bodyX, startE, xSeq, sqF, xNext, xIfS, xRet, xSet, xSetO, xDrop, xAsg, ygT_t, ygsC, ygsN, ygN, xPar, xAppend, xFrz, xVar, xC, xOp, xUn, pNeg_i, xTest, asB_b, xAnd, xOr, xNot, xAndV, xNotV, xIf, xIfT, xChain, xNil, xCons, xTup, xLst, xFz, xCall, rOfT_d, rOfT_o, rOfT_c, rOwT_o, ywNil, ywDat, ywVar, xCB, xIsi, asI_i, xLenS, xFor, ziL, itT_t, itL_l, ziR1, ziET, enT_t, enL_l, xLc, noOwnB, wipeE, xYes, xRaise, pAdd_i, pAdd_t, pAdd_l, pSub_i, pLt_i, pLe_i, pGt_i, pGe_i, pIs_n, pIsNot_n, pIsB_b, pNotB_b, isN_n, isN_b, isN_i, isN_s, isN_t, isN_l, pIx_t, pIx_l, pLen_t, pLen_l, pMin2_i, pMax2_i, pAbs_i, pInt_i, pTuple_t, pTuple_l, pList_t, pList_l, pIadd_i, pSl_t, pSl_l, pEqI, pNeI, pEqS, pNeS, at0, at1, at2, at3, at4, at5, at6, at7, bx_ret, bx_exc, bx_fail, bd_ret, bd_exc, bd_fail, exS_ret, exS_exc, exS_fail, ofO_some, ofO_none, fnE, isi_T, isi_B, isi_I, isi_S, isi_L, sizeL, Option.bind_some, Option.map_some, Option.some.injEq, Int.reduceEq, Int.reduceLE, Int.reduceLT, Int.reduceNeg, Int.reduceAdd, Int.reduceSub, Int.reduceMul, decide_true, decide_false, decide_eq_true_eq, decide_not, eq_self, Int.cast_ofNat_Int, reduceCtorEq, List.length_cons, List.length_nil, List.map_cons, List.map_nil, List.replicate, List.cons_append, List.nil_append, List.append_nil, List.getElem?_cons_zero, List.getElem?_cons_succ, List.getElem?_nil, List.set_cons_zero, List.set_cons_succ, Nat.reduceAdd, Nat.reduceSub, Nat.reduceEqDiff, Nat.reduceLeDiff, Nat.reduceLT, Nat.zero_add, Nat.add_zero, true_and, and_true, false_and, and_false, Bool.not_true, Bool.not_false, Bool.true_and, Bool.and_true, Bool.false_and, Bool.and_false, Bool.or_false, Bool.false_or, Bool.or_true, Bool.true_or, Bool.not_eq_true', if_true, if_false, Bool.false_eq_true, Bool.not_eq_true, ↓reduceIte, ite_true, ite_false, Bool.true_eq_false, not_true_eq_false, not_false_eq_true, Nat.zero_le]
  · by_cases h' : b < x <;> simp only [t__law_limited, h, h', xFld, fldK, asRf_rf, bd_rd, bx_rd, exS_rd, bd_wr, bx_wr, exS_wr, pIntB_b, xParW3, parW3a, parW3b, parW3c, dictW_c, pLtA_i, pSumT, pSumL, xwD, xwO, datK, ownK, capN, capC, ygT3c, opK2, opK, chK4, chK3, chK2, chK, unK, andK, orK, notK, andVK2, andVK, notVK2, notVK, ifVK, ifTK, consK2, consK, tupK, lstK, fzK, cbK, isiK, drpK, retK, ifSK, setK, setOK, nxK, asgK, parK, appK, wcK, wdK, callK, forK, lcK, raiseK, bodyX, startE, xSeq, sqF, xNext, xIfS, xRet, xSet, xSetO, xDrop, xAsg, ygT_t, ygsC, ygsN, ygN, xPar, xAppend, xFrz, xVar, xC, xOp, xUn, pNeg_i, xTest, asB_b, xAnd, xOr, xNot, xAndV, xNotV, xIf, xIfT, xChain, xNil, xCons, xTup, xLst, xFz, xCall, rOfT_d, rOfT_o, rOfT_c, rOwT_o, ywNil, ywDat, ywVar, xCB, xIsi, asI_i, xLenS, xFor, ziL, itT_t, itL_l, ziR1, ziET, enT_t, enL_l, xLc, noOwnB, wipeE, xYes, xRaise, pAdd_i, pAdd_t, pAdd_l, pSub_i, pLt_i, pLe_i, pGt_i, pGe_i, pIs_n, pIsNot_n, pIsB_b, pNotB_b, isN_n, isN_b, isN_i, isN_s, isN_t, isN_l, pIx_t, pIx_l, pLen_t, pLen_l, pMin2_i, pMax2_i, pAbs_i, pInt_i, pTuple_t, pTuple_l, pList_t, pList_l, pIadd_i, pSl_t, pSl_l, pEqI, pNeI, pEqS, pNeS, at0, at1, at2, at3, at4, at5, at6, at7, bx_ret, bx_exc, bx_fail, bd_ret, bd_exc, bd_fail, exS_ret, exS_exc, exS_fail, ofO_some, ofO_none, fnE, isi_T, isi_B, isi_I, isi_S, isi_L, sizeL, Option.bind_some, Option.map_some, Option.some.injEq, Int.reduceEq, Int.reduceLE, Int.reduceLT, Int.reduceNeg, Int.reduceAdd, Int.reduceSub, Int.reduceMul, decide_true, decide_false, decide_eq_true_eq, decide_not, eq_self, Int.cast_ofNat_Int, reduceCtorEq, List.length_cons, List.length_nil, List.map_cons, List.map_nil, List.replicate, List.cons_append, List.nil_append, List.append_nil, List.getElem?_cons_zero, List.getElem?_cons_succ, List.getElem?_nil, List.set_cons_zero, List.set_cons_succ, Nat.reduceAdd, Nat.reduceSub, Nat.reduceEqDiff, Nat.reduceLeDiff, Nat.reduceLT, Nat.zero_add, Nat.add_zero, true_and, and_true, false_and, and_false, Bool.not_true, Bool.not_false, Bool.true_and, Bool.and_true, Bool.false_and, Bool.and_false, Bool.or_false, Bool.false_or, Bool.or_true, Bool.true_or, Bool.not_eq_true', if_true, if_false, Bool.false_eq_true, Bool.not_eq_true, ↓reduceIte, ite_true, ite_false, Bool.true_eq_false, not_true_eq_false, not_false_eq_true, Nat.zero_le]
theorem lim_eq {x a b : Int} (h : a ≤ b) : lim x a b = mn b (mx a x) := by
  unfold lim mn mx
  split <;> split <;> (try split) <;> (try split) <;> omega
theorem r_led {c : Cd} (h : c.Ok) {s : Int × Int} (hs : c.St s) {k : Int} (hk : 0 ≤ k ∧ k < c.moves.length) : w__law_led [.dat c.d, .dat (stD s), .dat (.int k)] = .ret (.dat (stD (c.nx s k))) := by
  have m := h.mv _ (nth_mem hk.1 hk.2)
  have e : CMul (nth c.moves k).1 (nth c.steps s.2) := .inl ⟨by omega, by omega⟩
  have e2 : atI (c.moves.map mvD) k = some (mvD (nth c.moves k)) := pIx_tup hk.1 hk.2
  have e3 : atI (c.steps.map PyData.int) s.2 = some (.int (nth c.steps s.2)) := pIx_tup hs.2.2.1 hs.2.2.2
  have e4 : c.fade ≠ 0 → 0 < c.fade ∧ c.fade < 1073741824 := fun z => by rcases h.f with f | f <;> omega
  have l1 : lim (c.fa s.1 + c.mb k s.2) c.low c.high = mn c.high (mx c.low (c.fa s.1 + c.mb k s.2)) := lim_eq (by have := h.l1; have := h.h0; omega)
  have l2 : lim (s.2 + (nth c.moves k).2) 0 (c.steps.length - 1) = mn (c.steps.length - 1) (mx 0 (s.2 + (nth c.moves k).2)) := lim_eq (by have := h.s0; omega)
  have en : stD (c.nx s k) = .tuple [.int (mn c.high (mx c.low (c.fa s.1 + c.mb k s.2))), .int (mn (c.steps.length - 1) (mx 0 (s.2 + (nth c.moves k).2)))] := rfl
  rw [wd__law_led, en, ← l1, ← l2]
  unfold Cd.fa Cd.mb
  by_cases hf : c.fade = 0
  · simp only [t__law_led, ix0, ix1, ix2, ix3, ix4, mvG, st0, st1, hf, e2, e3, pMul_i e, r_parted _ 8 (by decide) (by decide), r_limited, List.length_map, xFld, fldK, asRf_rf, bd_rd, bx_rd, exS_rd, bd_wr, bx_wr, exS_wr, pIntB_b, xParW3, parW3a, parW3b, parW3c, dictW_c, pLtA_i, pSumT, pSumL, xwD, xwO, datK, ownK, capN, capC, ygT3c, opK2, opK, chK4, chK3, chK2, chK, unK, andK, orK, notK, andVK2, andVK, notVK2, notVK, ifVK, ifTK, consK2, consK, tupK, lstK, fzK, cbK, isiK, drpK, retK, ifSK, setK, setOK, nxK, asgK, parK, appK, wcK, wdK, callK, forK, lcK, raiseK, bodyX, startE, xSeq, sqF, xNext, xIfS, xRet, xSet, xSetO, xDrop, xAsg, ygT_t, ygsC, ygsN, ygN, xPar, xAppend, xFrz, xVar, xC, xOp, xUn, pNeg_i, xTest, asB_b, xAnd, xOr, xNot, xAndV, xNotV, xIf, xIfT, xChain, xNil, xCons, xTup, xLst, xFz, xCall, rOfT_d, rOfT_o, rOfT_c, rOwT_o, ywNil, ywDat, ywVar, xCB, xIsi, asI_i, xLenS, xFor, ziL, itT_t, itL_l, ziR1, ziET, enT_t, enL_l, xLc, noOwnB, wipeE, xYes, xRaise, pAdd_i, pAdd_t, pAdd_l, pSub_i, pLt_i, pLe_i, pGt_i, pGe_i, pIs_n, pIsNot_n, pIsB_b, pNotB_b, isN_n, isN_b, isN_i, isN_s, isN_t, isN_l, pIx_t, pIx_l, pLen_t, pLen_l, pMin2_i, pMax2_i, pAbs_i, pInt_i, pTuple_t, pTuple_l, pList_t, pList_l, pIadd_i, pSl_t, pSl_l, pEqI, pNeI, pEqS, pNeS, at0, at1, at2, at3, at4, at5, at6, at7, bx_ret, bx_exc, bx_fail, bd_ret, bd_exc, bd_fail, exS_ret, exS_exc, exS_fail, ofO_some, ofO_none, fnE, isi_T, isi_B, isi_I, isi_S, isi_L, sizeL, Option.bind_some, Option.map_some, Option.some.injEq, Int.reduceEq, Int.reduceLE, Int.reduceLT, Int.reduceNeg, Int.reduceAdd, Int.reduceSub, Int.reduceMul, decide_true, decide_false, decide_eq_true_eq, decide_not, eq_self, Int.cast_ofNat_Int, reduceCtorEq, List.length_cons, List.length_nil, List.map_cons, List.map_nil, List.replicate, List.cons_append, List.nil_append, List.append_nil, List.getElem?_cons_zero, List.getElem?_cons_succ, List.getElem?_nil, List.set_cons_zero, List.set_cons_succ, Nat.reduceAdd, Nat.reduceSub, Nat.reduceEqDiff, Nat.reduceLeDiff, Nat.reduceLT, Nat.zero_add, Nat.add_zero, true_and, and_true, false_and, and_false, Bool.not_true, Bool.not_false, Bool.true_and, Bool.and_true, Bool.false_and, Bool.and_false, Bool.or_false, Bool.false_or, Bool.or_true, Bool.true_or, Bool.not_eq_true', if_true, if_false, Bool.false_eq_true, Bool.not_eq_true, ↓reduceIte, ite_true, ite_false, Bool.true_eq_false, not_true_eq_false, not_false_eq_true, Nat.zero_le]
  · simp only [t__law_led, ix0, ix1, ix2, ix3, ix4, mvG, st0, st1, hf, e2, e3, pMul_i e, r_parted _ 8 (by decide) (by decide), r_parted _ c.fade (e4 hf).1 (e4 hf).2, r_limited, List.length_map, xFld, fldK, asRf_rf, bd_rd, bx_rd, exS_rd, bd_wr, bx_wr, exS_wr, pIntB_b, xParW3, parW3a, parW3b, parW3c, dictW_c, pLtA_i, pSumT, pSumL, xwD, xwO, datK, ownK, capN, capC, ygT3c, opK2, opK, chK4, chK3, chK2, chK, unK, andK, orK, notK, andVK2, andVK, notVK2, notVK, ifVK, ifTK, consK2, consK, tupK, lstK, fzK, cbK, isiK, drpK, retK, ifSK, setK, setOK, nxK, asgK, parK, appK, wcK, wdK, callK, forK, lcK, raiseK, bodyX, startE, xSeq, sqF, xNext, xIfS, xRet, xSet, xSetO, xDrop, xAsg, ygT_t, ygsC, ygsN, ygN, xPar, xAppend, xFrz, xVar, xC, xOp, xUn, pNeg_i, xTest, asB_b, xAnd, xOr, xNot, xAndV, xNotV, xIf, xIfT, xChain, xNil, xCons, xTup, xLst, xFz, xCall, rOfT_d, rOfT_o, rOfT_c, rOwT_o, ywNil, ywDat, ywVar, xCB, xIsi, asI_i, xLenS, xFor, ziL, itT_t, itL_l, ziR1, ziET, enT_t, enL_l, xLc, noOwnB, wipeE, xYes, xRaise, pAdd_i, pAdd_t, pAdd_l, pSub_i, pLt_i, pLe_i, pGt_i, pGe_i, pIs_n, pIsNot_n, pIsB_b, pNotB_b, isN_n, isN_b, isN_i, isN_s, isN_t, isN_l, pIx_t, pIx_l, pLen_t, pLen_l, pMin2_i, pMax2_i, pAbs_i, pInt_i, pTuple_t, pTuple_l, pList_t, pList_l, pIadd_i, pSl_t, pSl_l, pEqI, pNeI, pEqS, pNeS, at0, at1, at2, at3, at4, at5, at6, at7, bx_ret, bx_exc, bx_fail, bd_ret, bd_exc, bd_fail, exS_ret, exS_exc, exS_fail, ofO_some, ofO_none, fnE, isi_T, isi_B, isi_I, isi_S, isi_L, sizeL, Option.bind_some, Option.map_some, Option.some.injEq, Int.reduceEq, Int.reduceLE, Int.reduceLT, Int.reduceNeg, Int.reduceAdd, Int.reduceSub, Int.reduceMul, decide_true, decide_false, decide_eq_true_eq, decide_not, eq_self, Int.cast_ofNat_Int, reduceCtorEq, List.length_cons, List.length_nil, List.map_cons, List.map_nil, List.replicate, List.cons_append, List.nil_append, List.append_nil, List.getElem?_cons_zero, List.getElem?_cons_succ, List.getElem?_nil, List.set_cons_zero, List.set_cons_succ, Nat.reduceAdd, Nat.reduceSub, Nat.reduceEqDiff, Nat.reduceLeDiff, Nat.reduceLT, Nat.zero_add, Nat.add_zero, true_and, and_true, false_and, and_false, Bool.not_true, Bool.not_false, Bool.true_and, Bool.and_true, Bool.false_and, Bool.and_false, Bool.or_false, Bool.false_or, Bool.or_true, Bool.true_or, Bool.not_eq_true', if_true, if_false, Bool.false_eq_true, Bool.not_eq_true, ↓reduceIte, ite_true, ite_false, Bool.true_eq_false, not_true_eq_false, not_false_eq_true, Nat.zero_le]
def bdy : List Int → List Int
  | [] => []
  | [a] => [a]
  | a :: b :: r => (a + 16 * b) :: bdy r
def inr (s : Int × Int) (r : List Int) : List Int := [s.1 % 65536 / 256, s.1 % 65536 % 256, s.2, (r.length : Int)] ++ bdy r
def blk (s : Int × Int) (r : List Int) : List Int := 165 :: 90 :: inr s r ++ [(inr s r).sum % 256]
/-- the bytes of a file, block by block -/
def Cd.fl (c : Cd) (r : List Int) (sz : Nat → Nat) : Nat → Nat → Nat → Int × Int → List Int
  | 0, _, _, _ => []
  | f + 1, k, a, s => if a < r.length then blk s ((r.drop a).take (sz k)) ++ c.fl r sz f (k + 1) (a + sz k) (c.wk s ((r.drop a).take (sz k))) else []
theorem d_some (c : Cd) (h : c.Ok) : Dr 2 (w__law_some_state [.tok, .dat c.d]) (fun w => ∃ d, w = .dat d ∧ ∃ s, d = stD s ∧ c.St s) := by
  have := h.l0; have := h.l1; have := h.h0; have := h.h1; have := h.s0; have := h.s1
  rw [wd__law_some_state]
  refine Dr.body rfl ?_
  unfold t__law_some_state
  simp only [ix0, ix1, r_draw, bx_draw, bd_draw, exS_draw, xFld, fldK, asRf_rf, bd_rd, bx_rd, exS_rd, bd_wr, bx_wr, exS_wr, pIntB_b, xParW3, parW3a, parW3b, parW3c, dictW_c, pLtA_i, pSumT, pSumL, xwD, xwO, datK, ownK, capN, capC, ygT3c, opK2, opK, chK4, chK3, chK2, chK, unK, andK, orK, notK, andVK2, andVK, notVK2, notVK, ifVK, ifTK, consK2, consK, tupK, lstK, fzK, cbK, isiK, drpK, retK, ifSK, setK, setOK, nxK, asgK, parK, appK, wcK, wdK, callK, forK, lcK, raiseK, bodyX, startE, xSeq, sqF, xNext, xIfS, xRet, xSet, xSetO, xDrop, xAsg, ygT_t, ygsC, ygsN, ygN, xPar, xAppend, xFrz, xVar, xC, xOp, xUn, pNeg_i, xTest, asB_b, xAnd, xOr, xNot, xAndV, xNotV, xIf, xIfT, xChain, xNil, xCons, xTup, xLst, xFz, xCall, rOfT_d, rOfT_o, rOfT_c, rOwT_o, ywNil, ywDat, ywVar, xCB, xIsi, asI_i, xLenS, xFor, ziL, itT_t, itL_l, ziR1, ziET, enT_t, enL_l, xLc, noOwnB, wipeE, xYes, xRaise, pAdd_i, pAdd_t, pAdd_l, pSub_i, pLt_i, pLe_i, pGt_i, pGe_i, pIs_n, pIsNot_n, pIsB_b, pNotB_b, isN_n, isN_b, isN_i, isN_s, isN_t, isN_l, pIx_t, pIx_l, pLen_t, pLen_l, pMin2_i, pMax2_i, pAbs_i, pInt_i, pTuple_t, pTuple_l, pList_t, pList_l, pIadd_i, pSl_t, pSl_l, pEqI, pNeI, pEqS, pNeS, at0, at1, at2, at3, at4, at5, at6, at7, bx_ret, bx_exc, bx_fail, bd_ret, bd_exc, bd_fail, exS_ret, exS_exc, exS_fail, ofO_some, ofO_none, fnE, isi_T, isi_B, isi_I, isi_S, isi_L, sizeL, Option.bind_some, Option.map_some, Option.some.injEq, Int.reduceEq, Int.reduceLE, Int.reduceLT, Int.reduceNeg, Int.reduceAdd, Int.reduceSub, Int.reduceMul, decide_true, decide_false, decide_eq_true_eq, decide_not, eq_self, Int.cast_ofNat_Int, reduceCtorEq, List.length_cons, List.length_nil, List.map_cons, List.map_nil, List.replicate, List.cons_append, List.nil_append, List.append_nil, List.getElem?_cons_zero, List.getElem?_cons_succ, List.getElem?_nil, List.set_cons_zero, List.set_cons_succ, Nat.reduceAdd, Nat.reduceSub, Nat.reduceEqDiff, Nat.reduceLeDiff, Nat.reduceLT, Nat.zero_add, Nat.add_zero, true_and, and_true, false_and, and_false, Bool.not_true, Bool.not_false, Bool.true_and, Bool.and_true, Bool.false_and, Bool.and_false, Bool.or_false, Bool.false_or, Bool.or_true, Bool.true_or, Bool.not_eq_true', if_true, if_false, Bool.false_eq_true, Bool.not_eq_true, ↓reduceIte, ite_true, ite_false, Bool.true_eq_false, not_true_eq_false, not_false_eq_true, Nat.zero_le]
  refine Dr.draw (by omega) (by omega) fun a a0 a1 => ?_
  simp only [ix2, List.length_map, r_draw, bx_draw, bd_draw, exS_draw, xFld, fldK, asRf_rf, bd_rd, bx_rd, exS_rd, bd_wr, bx_wr, exS_wr, pIntB_b, xParW3, parW3a, parW3b, parW3c, dictW_c, pLtA_i, pSumT, pSumL, xwD, xwO, datK, ownK, capN, capC, ygT3c, opK2, opK, chK4, chK3, chK2, chK, unK, andK, orK, notK, andVK2, andVK, notVK2, notVK, ifVK, ifTK, consK2, consK, tupK, lstK, fzK, cbK, isiK, drpK, retK, ifSK, setK, setOK, nxK, asgK, parK, appK, wcK, wdK, callK, forK, lcK, raiseK, bodyX, startE, xSeq, sqF, xNext, xIfS, xRet, xSet, xSetO, xDrop, xAsg, ygT_t, ygsC, ygsN, ygN, xPar, xAppend, xFrz, xVar, xC, xOp, xUn, pNeg_i, xTest, asB_b, xAnd, xOr, xNot, xAndV, xNotV, xIf, xIfT, xChain, xNil, xCons, xTup, xLst, xFz, xCall, rOfT_d, rOfT_o, rOfT_c, rOwT_o, ywNil, ywDat, ywVar, xCB, xIsi, asI_i, xLenS, xFor, ziL, itT_t, itL_l, ziR1, ziET, enT_t, enL_l, xLc, noOwnB, wipeE, xYes, xRaise, pAdd_i, pAdd_t, pAdd_l, pSub_i, pLt_i, pLe_i, pGt_i, pGe_i, pIs_n, pIsNot_n, pIsB_b, pNotB_b, isN_n, isN_b, isN_i, isN_s, isN_t, isN_l, pIx_t, pIx_l, pLen_t, pLen_l, pMin2_i, pMax2_i, pAbs_i, pInt_i, pTuple_t, pTuple_l, pList_t, pList_l, pIadd_i, pSl_t, pSl_l, pEqI, pNeI, pEqS, pNeS, at0, at1, at2, at3, at4, at5, at6, at7, bx_ret, bx_exc, bx_fail, bd_ret, bd_exc, bd_fail, exS_ret, exS_exc, exS_fail, ofO_some, ofO_none, fnE, isi_T, isi_B, isi_I, isi_S, isi_L, sizeL, Option.bind_some, Option.map_some, Option.some.injEq, Int.reduceEq, Int.reduceLE, Int.reduceLT, Int.reduceNeg, Int.reduceAdd, Int.reduceSub, Int.reduceMul, decide_true, decide_false, decide_eq_true_eq, decide_not, eq_self, Int.cast_ofNat_Int, reduceCtorEq, List.length_cons, List.length_nil, List.map_cons, List.map_nil, List.replicate, List.cons_append, List.nil_append, List.append_nil, List.getElem?_cons_zero, List.getElem?_cons_succ, List.getElem?_nil, List.set_cons_zero, List.set_cons_succ, Nat.reduceAdd, Nat.reduceSub, Nat.reduceEqDiff, Nat.reduceLeDiff, Nat.reduceLT, Nat.zero_add, Nat.add_zero, true_and, and_true, false_and, and_false, Bool.not_true, Bool.not_false, Bool.true_and, Bool.and_true, Bool.false_and, Bool.and_false, Bool.or_false, Bool.false_or, Bool.or_true, Bool.true_or, Bool.not_eq_true', if_true, if_false, Bool.false_eq_true, Bool.not_eq_true, ↓reduceIte, ite_true, ite_false, Bool.true_eq_false, not_true_eq_false, not_false_eq_true, Nat.zero_le]
  refine Dr.draw (by omega) (by omega) fun b b0 b1 => ?_
  try simp only [r_draw, bx_draw, bd_draw, exS_draw, xFld, fldK, asRf_rf, bd_rd, bx_rd, exS_rd, bd_wr, bx_wr, exS_wr, pIntB_b, xParW3, parW3a, parW3b, parW3c, dictW_c, pLtA_i, pSumT, pSumL, xwD, xwO, datK, ownK, capN, capC, ygT3c, opK2, opK, chK4, chK3, chK2, chK, unK, andK, orK, notK, andVK2, andVK, notVK2, notVK, ifVK, ifTK, consK2, consK, tupK, lstK, fzK, cbK, isiK, drpK, retK, ifSK, setK, setOK, nxK, asgK, parK, appK, wcK, wdK, callK, forK, lcK, raiseK, bodyX, startE, xSeq, sqF, xNext, xIfS, xRet, xSet, xSetO, xDrop, xAsg, ygT_t, ygsC, ygsN, ygN, xPar, xAppend, xFrz, xVar, xC, xOp, xUn, pNeg_i, xTest, asB_b, xAnd, xOr, xNot, xAndV, xNotV, xIf, xIfT, xChain, xNil, xCons, xTup, xLst, xFz, xCall, rOfT_d, rOfT_o, rOfT_c, rOwT_o, ywNil, ywDat, ywVar, xCB, xIsi, asI_i, xLenS, xFor, ziL, itT_t, itL_l, ziR1, ziET, enT_t, enL_l, xLc, noOwnB, wipeE, xYes, xRaise, pAdd_i, pAdd_t, pAdd_l, pSub_i, pLt_i, pLe_i, pGt_i, pGe_i, pIs_n, pIsNot_n, pIsB_b, pNotB_b, isN_n, isN_b, isN_i, isN_s, isN_t, isN_l, pIx_t, pIx_l, pLen_t, pLen_l, pMin2_i, pMax2_i, pAbs_i, pInt_i, pTuple_t, pTuple_l, pList_t, pList_l, pIadd_i, pSl_t, pSl_l, pEqI, pNeI, pEqS, pNeS, at0, at1, at2, at3, at4, at5, at6, at7, bx_ret, bx_exc, bx_fail, bd_ret, bd_exc, bd_fail, exS_ret, exS_exc, exS_fail, ofO_some, ofO_none, fnE, isi_T, isi_B, isi_I, isi_S, isi_L, sizeL, Option.bind_some, Option.map_some, Option.some.injEq, Int.reduceEq, Int.reduceLE, Int.reduceLT, Int.reduceNeg, Int.reduceAdd, Int.reduceSub, Int.reduceMul, decide_true, decide_false, decide_eq_true_eq, decide_not, eq_self, Int.cast_ofNat_Int, reduceCtorEq, List.length_cons, List.length_nil, List.map_cons, List.map_nil, List.replicate, List.cons_append, List.nil_append, List.append_nil, List.getElem?_cons_zero, List.getElem?_cons_succ, List.getElem?_nil, List.set_cons_zero, List.set_cons_succ, Nat.reduceAdd, Nat.reduceSub, Nat.reduceEqDiff, Nat.reduceLeDiff, Nat.reduceLT, Nat.zero_add, Nat.add_zero, true_and, and_true, false_and, and_false, Bool.not_true, Bool.not_false, Bool.true_and, Bool.and_true, Bool.false_and, Bool.and_false, Bool.or_false, Bool.false_or, Bool.or_true, Bool.true_or, Bool.not_eq_true', if_true, if_false, Bool.false_eq_true, Bool.not_eq_true, ↓reduceIte, ite_true, ite_false, Bool.true_eq_false, not_true_eq_false, not_false_eq_true, Nat.zero_le]
  exact Dr.ret ⟨_, rfl, _, rfl, (c.low + a, b), rfl, ⟨by dsimp only; omega, by dsimp only; omega, by dsimp only; omega, by dsimp only; omega⟩⟩
def rwD (r : List Int) : Dt := .tuple (r.map .int)
/-- the codes of a coder -/
def Cd.cs (c : Cd) : List Int := ixs 0 c.moves.length
def rws (F : List ((Int × Int) × List Int)) : List Dt := F.map fun p => rwD p.2
def hrC (c : Cd) (st : Int × Int) (k : Int) : Cell := ⟨"Hearer", [("own_coder", .d c.d), ("own_state", .d (stD st)), ("own_many", .d (.int k))]⟩
section
variable {c : Cd} {st : Int × Int} {k : Int} {s : Sto} {a : Addr}
theorem hr_f1 : fldR "Hearer" "own_coder" (some (hrC c st k)) = .ret c.d := rfl
theorem hr_f2 : fldR "Hearer" "own_state" (some (hrC c st k)) = .ret (stD st) := rfl
theorem hr_f3 : fldR "Hearer" "own_many" (some (hrC c st k)) = .ret (.int k) := rfl
theorem hr_init (h : c.Ok) (hs : c.St st) : At (s.put a ⟨"Hearer", []⟩) (w_Hearer___init__ [.dat (rf a), .dat c.d, .dat (stD st)]) (.wr (s.put a (hrC c st 0)) (.ret (.dat .none))) := by
  rw [wd_Hearer___init__]
  refine At.bodyN (ρ' := [some (.dat (rf a)), some (.dat (c.d)), some (.dat (stD (st)))]) rfl ?_
  unfold t_Hearer___init__
  refine At.seqE (ρ' := [some (.dat (rf a)), some (.dat (c.d)), some (.dat (stD (st)))]) (by simp only [r_needC h, xFld, fldK, asRf_rf, bd_rd, bx_rd, exS_rd, bd_wr, bx_wr, exS_wr, pIntB_b, xParW3, parW3a, parW3b, parW3c, dictW_c, pLtA_i, pSumT, pSumL, xwD, xwO, datK, ownK, capN, capC, ygT3c, opK2, opK, chK4, chK3, chK2, chK, unK, andK, orK, notK, andVK2, andVK, notVK2, notVK, ifVK, ifTK, consK2, consK, tupK, lstK, fzK, cbK, isiK, drpK, retK, ifSK, setK, setOK, nxK, asgK, parK, appK, wcK, wdK, callK, forK, lcK, raiseK, bodyX, startE, xSeq, sqF, xNext, xIfS, xRet, xSet, xSetO, xDrop, xAsg, ygT_t, ygsC, ygsN, ygN, xPar, xAppend, xFrz, xVar, xC, xOp, xUn, pNeg_i, xTest, asB_b, xAnd, xOr, xNot, xAndV, xNotV, xIf, xIfT, xChain, xNil, xCons, xTup, xLst, xFz, xCall, rOfT_d, rOfT_o, rOfT_c, rOwT_o, ywNil, ywDat, ywVar, xCB, xIsi, asI_i, xLenS, xFor, ziL, itT_t, itL_l, ziR1, ziET, enT_t, enL_l, xLc, noOwnB, wipeE, xYes, xRaise, pAdd_i, pAdd_t, pAdd_l, pSub_i, pLt_i, pLe_i, pGt_i, pGe_i, pIs_n, pIsNot_n, pIsB_b, pNotB_b, isN_n, isN_b, isN_i, isN_s, isN_t, isN_l, pIx_t, pIx_l, pLen_t, pLen_l, pMin2_i, pMax2_i, pAbs_i, pInt_i, pTuple_t, pTuple_l, pList_t, pList_l, pIadd_i, pSl_t, pSl_l, pEqI, pNeI, pEqS, pNeS, at0, at1, at2, at3, at4, at5, at6, at7, bx_ret, bx_exc, bx_fail, bd_ret, bd_exc, bd_fail, exS_ret, exS_exc, exS_fail, ofO_some, ofO_none, fnE, isi_T, isi_B, isi_I, isi_S, isi_L, sizeL, Option.bind_some, Option.map_some, Option.some.injEq, Int.reduceEq, Int.reduceLE, Int.reduceLT, Int.reduceNeg, Int.reduceAdd, Int.reduceSub, Int.reduceMul, decide_true, decide_false, decide_eq_true_eq, decide_not, eq_self, Int.cast_ofNat_Int, reduceCtorEq, List.length_cons, List.length_nil, List.map_cons, List.map_nil, List.replicate, List.cons_append, List.nil_append, List.append_nil, List.getElem?_cons_zero, List.getElem?_cons_succ, List.getElem?_nil, List.set_cons_zero, List.set_cons_succ, Nat.reduceAdd, Nat.reduceSub, Nat.reduceEqDiff, Nat.reduceLeDiff, Nat.reduceLT, Nat.zero_add, Nat.add_zero, true_and, and_true, false_and, and_false, Bool.not_true, Bool.not_false, Bool.true_and, Bool.and_true, Bool.false_and, Bool.and_false, Bool.or_false, Bool.false_or, Bool.or_true, Bool.true_or, Bool.not_eq_true', if_true, if_false, Bool.false_eq_true, Bool.not_eq_true, ↓reduceIte, ite_true, ite_false, Bool.true_eq_false, not_true_eq_false, not_false_eq_true, Nat.zero_le]) ?_
  refine At.seqE (ρ' := [some (.dat (rf a)), some (.dat (c.d)), some (.dat (stD (st)))]) (by simp only [r_needS hs, xFld, fldK, asRf_rf, bd_rd, bx_rd, exS_rd, bd_wr, bx_wr, exS_wr, pIntB_b, xParW3, parW3a, parW3b, parW3c, dictW_c, pLtA_i, pSumT, pSumL, xwD, xwO, datK, ownK, capN, capC, ygT3c, opK2, opK, chK4, chK3, chK2, chK, unK, andK, orK, notK, andVK2, andVK, notVK2, notVK, ifVK, ifTK, consK2, consK, tupK, lstK, fzK, cbK, isiK, drpK, retK, ifSK, setK, setOK, nxK, asgK, parK, appK, wcK, wdK, callK, forK, lcK, raiseK, bodyX, startE, xSeq, sqF, xNext, xIfS, xRet, xSet, xSetO, xDrop, xAsg, ygT_t, ygsC, ygsN, ygN, xPar, xAppend, xFrz, xVar, xC, xOp, xUn, pNeg_i, xTest, asB_b, xAnd, xOr, xNot, xAndV, xNotV, xIf, xIfT, xChain, xNil, xCons, xTup, xLst, xFz, xCall, rOfT_d, rOfT_o, rOfT_c, rOwT_o, ywNil, ywDat, ywVar, xCB, xIsi, asI_i, xLenS, xFor, ziL, itT_t, itL_l, ziR1, ziET, enT_t, enL_l, xLc, noOwnB, wipeE, xYes, xRaise, pAdd_i, pAdd_t, pAdd_l, pSub_i, pLt_i, pLe_i, pGt_i, pGe_i, pIs_n, pIsNot_n, pIsB_b, pNotB_b, isN_n, isN_b, isN_i, isN_s, isN_t, isN_l, pIx_t, pIx_l, pLen_t, pLen_l, pMin2_i, pMax2_i, pAbs_i, pInt_i, pTuple_t, pTuple_l, pList_t, pList_l, pIadd_i, pSl_t, pSl_l, pEqI, pNeI, pEqS, pNeS, at0, at1, at2, at3, at4, at5, at6, at7, bx_ret, bx_exc, bx_fail, bd_ret, bd_exc, bd_fail, exS_ret, exS_exc, exS_fail, ofO_some, ofO_none, fnE, isi_T, isi_B, isi_I, isi_S, isi_L, sizeL, Option.bind_some, Option.map_some, Option.some.injEq, Int.reduceEq, Int.reduceLE, Int.reduceLT, Int.reduceNeg, Int.reduceAdd, Int.reduceSub, Int.reduceMul, decide_true, decide_false, decide_eq_true_eq, decide_not, eq_self, Int.cast_ofNat_Int, reduceCtorEq, List.length_cons, List.length_nil, List.map_cons, List.map_nil, List.replicate, List.cons_append, List.nil_append, List.append_nil, List.getElem?_cons_zero, List.getElem?_cons_succ, List.getElem?_nil, List.set_cons_zero, List.set_cons_succ, Nat.reduceAdd, Nat.reduceSub, Nat.reduceEqDiff, Nat.reduceLeDiff, Nat.reduceLT, Nat.zero_add, Nat.add_zero, true_and, and_true, false_and, and_false, Bool.not_true, Bool.not_false, Bool.true_and, Bool.and_true, Bool.false_and, Bool.and_false, Bool.or_false, Bool.false_or, Bool.or_true, Bool.true_or, Bool.not_eq_true', if_true, if_false, Bool.false_eq_true, Bool.not_eq_true, ↓reduceIte, ite_true, ite_false, Bool.true_eq_false, not_true_eq_false, not_false_eq_true, Nat.zero_le]) ?_
  refine At.seq2 (at_setP (y := ⟨"Hearer", [("own_coder", .d c.d)]⟩) rfl rfl rfl (Nat.le_of_ble_eq_true rfl) rfl) ?_
  refine At.seq2 (at_setP (y := ⟨"Hearer", [("own_coder", .d c.d), ("own_state", .d (stD st))]⟩) rfl rfl rfl (Nat.le_of_ble_eq_true rfl) rfl) ?_
  exact at_setP rfl rfl rfl (Nat.le_of_ble_eq_true rfl) rfl
/-- a new hearer -/
theorem hr_mk (h : c.Ok) (hs : c.St st) : At s (mkK "Hearer" w_Hearer___init__ [.dat c.d, .dat (stD st)]) (.nw fun a => .wr (s.put a (hrC c st 0)) (.ret (rf a))) := at_mk fun a ha => hr_init h hs
/-- a code is heard -/
theorem hr_call (h : c.Ok) (hs : c.St st) {i : Int} (hi : 0 ≤ i ∧ i < c.moves.length) (ha : s a = some (hrC c st k)) : At s (bd (w_Hearer___call__ [.dat (rf a), .dat (.int i)]) rOfT) (.wr (s.put a (hrC c (c.nx st i) (k + 1))) (.ret (.int (c.nx st i).1))) := by
  have e0 : s = s.put a (hrC c st k) := (put_self ha).symm
  generalize hz : s.put a (hrC c (c.nx st i) (k + 1)) = z
  rw [e0]
  have hc : c.coB (.int i) = true := c.coB_ok hi
  refine At.trans (At.bd (t := w_Hearer___call__ [.dat (rf a), .dat (.int i)]) (u := .wr z (.ret (.dat (.int (c.nx st i).1)))) ?_) (by rw [bd_wr, bd_ret]; exact .refl)
  rw [wd_Hearer___call__]
  refine At.body rfl ?_
  unfold t_Hearer___call__
  refine At.seq0 (ρ' := [some (.dat (rf a)), some (.dat (.int (i)))]) ?_ ?_
  · simp only [xFld, fldK, asRf_rf, bd_rd, bx_rd, exS_rd, bd_wr, bx_wr, exS_wr, pIntB_b, xParW3, parW3a, parW3b, parW3c, dictW_c, pLtA_i, pSumT, pSumL, xwD, xwO, datK, ownK, capN, capC, ygT3c, opK2, opK, chK4, chK3, chK2, chK, unK, andK, orK, notK, andVK2, andVK, notVK2, notVK, ifVK, ifTK, consK2, consK, tupK, lstK, fzK, cbK, isiK, drpK, retK, ifSK, setK, setOK, nxK, asgK, parK, appK, wcK, wdK, callK, forK, lcK, raiseK, bodyX, startE, xSeq, sqF, xNext, xIfS, xRet, xSet, xSetO, xDrop, xAsg, ygT_t, ygsC, ygsN, ygN, xPar, xAppend, xFrz, xVar, xC, xOp, xUn, pNeg_i, xTest, asB_b, xAnd, xOr, xNot, xAndV, xNotV, xIf, xIfT, xChain, xNil, xCons, xTup, xLst, xFz, xCall, rOfT_d, rOfT_o, rOfT_c, rOwT_o, ywNil, ywDat, ywVar, xCB, xIsi, asI_i, xLenS, xFor, ziL, itT_t, itL_l, ziR1, ziET, enT_t, enL_l, xLc, noOwnB, wipeE, xYes, xRaise, pAdd_i, pAdd_t, pAdd_l, pSub_i, pLt_i, pLe_i, pGt_i, pGe_i, pIs_n, pIsNot_n, pIsB_b, pNotB_b, isN_n, isN_b, isN_i, isN_s, isN_t, isN_l, pIx_t, pIx_l, pLen_t, pLen_l, pMin2_i, pMax2_i, pAbs_i, pInt_i, pTuple_t, pTuple_l, pList_t, pList_l, pIadd_i, pSl_t, pSl_l, pEqI, pNeI, pEqS, pNeS, at0, at1, at2, at3, at4, at5, at6, at7, bx_ret, bx_exc, bx_fail, bd_ret, bd_exc, bd_fail, exS_ret, exS_exc, exS_fail, ofO_some, ofO_none, fnE, isi_T, isi_B, isi_I, isi_S, isi_L, sizeL, Option.bind_some, Option.map_some, Option.some.injEq, Int.reduceEq, Int.reduceLE, Int.reduceLT, Int.reduceNeg, Int.reduceAdd, Int.reduceSub, Int.reduceMul, decide_true, decide_false, decide_eq_true_eq, decide_not, eq_self, Int.cast_ofNat_Int, reduceCtorEq, List.length_cons, List.length_nil, List.map_cons, List.map_nil, List.replicate, List.cons_append, List.nil_append, List.append_nil, List.getElem?_cons_zero, List.getElem?_cons_succ, List.getElem?_nil, List.set_cons_zero, List.set_cons_succ, Nat.reduceAdd, Nat.reduceSub, Nat.reduceEqDiff, Nat.reduceLeDiff, Nat.reduceLT, Nat.zero_add, Nat.add_zero, true_and, and_true, false_and, and_false, Bool.not_true, Bool.not_false, Bool.true_and, Bool.and_true, Bool.false_and, Bool.and_false, Bool.or_false, Bool.false_or, Bool.or_true, Bool.true_or, Bool.not_eq_true', if_true, if_false, Bool.false_eq_true, Bool.not_eq_true, ↓reduceIte, ite_true, ite_false, Bool.true_eq_false, not_true_eq_false, not_false_eq_true, Nat.zero_le]
    refine At.rd ?_
    simp only [put_same, hr_f1, r_need_code, hc, xFld, fldK, asRf_rf, bd_rd, bx_rd, exS_rd, bd_wr, bx_wr, exS_wr, pIntB_b, xParW3, parW3a, parW3b, parW3c, dictW_c, pLtA_i, pSumT, pSumL, xwD, xwO, datK, ownK, capN, capC, ygT3c, opK2, opK, chK4, chK3, chK2, chK, unK, andK, orK, notK, andVK2, andVK, notVK2, notVK, ifVK, ifTK, consK2, consK, tupK, lstK, fzK, cbK, isiK, drpK, retK, ifSK, setK, setOK, nxK, asgK, parK, appK, wcK, wdK, callK, forK, lcK, raiseK, bodyX, startE, xSeq, sqF, xNext, xIfS, xRet, xSet, xSetO, xDrop, xAsg, ygT_t, ygsC, ygsN, ygN, xPar, xAppend, xFrz, xVar, xC, xOp, xUn, pNeg_i, xTest, asB_b, xAnd, xOr, xNot, xAndV, xNotV, xIf, xIfT, xChain, xNil, xCons, xTup, xLst, xFz, xCall, rOfT_d, rOfT_o, rOfT_c, rOwT_o, ywNil, ywDat, ywVar, xCB, xIsi, asI_i, xLenS, xFor, ziL, itT_t, itL_l, ziR1, ziET, enT_t, enL_l, xLc, noOwnB, wipeE, xYes, xRaise, pAdd_i, pAdd_t, pAdd_l, pSub_i, pLt_i, pLe_i, pGt_i, pGe_i, pIs_n, pIsNot_n, pIsB_b, pNotB_b, isN_n, isN_b, isN_i, isN_s, isN_t, isN_l, pIx_t, pIx_l, pLen_t, pLen_l, pMin2_i, pMax2_i, pAbs_i, pInt_i, pTuple_t, pTuple_l, pList_t, pList_l, pIadd_i, pSl_t, pSl_l, pEqI, pNeI, pEqS, pNeS, at0, at1, at2, at3, at4, at5, at6, at7, bx_ret, bx_exc, bx_fail, bd_ret, bd_exc, bd_fail, exS_ret, exS_exc, exS_fail, ofO_some, ofO_none, fnE, isi_T, isi_B, isi_I, isi_S, isi_L, sizeL, Option.bind_some, Option.map_some, Option.some.injEq, Int.reduceEq, Int.reduceLE, Int.reduceLT, Int.reduceNeg, Int.reduceAdd, Int.reduceSub, Int.reduceMul, decide_true, decide_false, decide_eq_true_eq, decide_not, eq_self, Int.cast_ofNat_Int, reduceCtorEq, List.length_cons, List.length_nil, List.map_cons, List.map_nil, List.replicate, List.cons_append, List.nil_append, List.append_nil, List.getElem?_cons_zero, List.getElem?_cons_succ, List.getElem?_nil, List.set_cons_zero, List.set_cons_succ, Nat.reduceAdd, Nat.reduceSub, Nat.reduceEqDiff, Nat.reduceLeDiff, Nat.reduceLT, Nat.zero_add, Nat.add_zero, true_and, and_true, false_and, and_false, Bool.not_true, Bool.not_false, Bool.true_and, Bool.and_true, Bool.false_and, Bool.and_false, Bool.or_false, Bool.false_or, Bool.or_true, Bool.true_or, Bool.not_eq_true', if_true, if_false, Bool.false_eq_true, Bool.not_eq_true, ↓reduceIte, ite_true, ite_false, Bool.true_eq_false, not_true_eq_false, not_false_eq_true, Nat.zero_le]
    exact .refl
  refine At.seq2 (at_setP' (y := hrC c (c.nx st i) k) (d := stD (c.nx st i)) ?_ rfl rfl (Nat.le_of_ble_eq_true rfl) rfl) ?_
  · simp only [xFld, fldK, asRf_rf, bd_rd, bx_rd, exS_rd, bd_wr, bx_wr, exS_wr, pIntB_b, xParW3, parW3a, parW3b, parW3c, dictW_c, pLtA_i, pSumT, pSumL, xwD, xwO, datK, ownK, capN, capC, ygT3c, opK2, opK, chK4, chK3, chK2, chK, unK, andK, orK, notK, andVK2, andVK, notVK2, notVK, ifVK, ifTK, consK2, consK, tupK, lstK, fzK, cbK, isiK, drpK, retK, ifSK, setK, setOK, nxK, asgK, parK, appK, wcK, wdK, callK, forK, lcK, raiseK, bodyX, startE, xSeq, sqF, xNext, xIfS, xRet, xSet, xSetO, xDrop, xAsg, ygT_t, ygsC, ygsN, ygN, xPar, xAppend, xFrz, xVar, xC, xOp, xUn, pNeg_i, xTest, asB_b, xAnd, xOr, xNot, xAndV, xNotV, xIf, xIfT, xChain, xNil, xCons, xTup, xLst, xFz, xCall, rOfT_d, rOfT_o, rOfT_c, rOwT_o, ywNil, ywDat, ywVar, xCB, xIsi, asI_i, xLenS, xFor, ziL, itT_t, itL_l, ziR1, ziET, enT_t, enL_l, xLc, noOwnB, wipeE, xYes, xRaise, pAdd_i, pAdd_t, pAdd_l, pSub_i, pLt_i, pLe_i, pGt_i, pGe_i, pIs_n, pIsNot_n, pIsB_b, pNotB_b, isN_n, isN_b, isN_i, isN_s, isN_t, isN_l, pIx_t, pIx_l, pLen_t, pLen_l, pMin2_i, pMax2_i, pAbs_i, pInt_i, pTuple_t, pTuple_l, pList_t, pList_l, pIadd_i, pSl_t, pSl_l, pEqI, pNeI, pEqS, pNeS, at0, at1, at2, at3, at4, at5, at6, at7, bx_ret, bx_exc, bx_fail, bd_ret, bd_exc, bd_fail, exS_ret, exS_exc, exS_fail, ofO_some, ofO_none, fnE, isi_T, isi_B, isi_I, isi_S, isi_L, sizeL, Option.bind_some, Option.map_some, Option.some.injEq, Int.reduceEq, Int.reduceLE, Int.reduceLT, Int.reduceNeg, Int.reduceAdd, Int.reduceSub, Int.reduceMul, decide_true, decide_false, decide_eq_true_eq, decide_not, eq_self, Int.cast_ofNat_Int, reduceCtorEq, List.length_cons, List.length_nil, List.map_cons, List.map_nil, List.replicate, List.cons_append, List.nil_append, List.append_nil, List.getElem?_cons_zero, List.getElem?_cons_succ, List.getElem?_nil, List.set_cons_zero, List.set_cons_succ, Nat.reduceAdd, Nat.reduceSub, Nat.reduceEqDiff, Nat.reduceLeDiff, Nat.reduceLT, Nat.zero_add, Nat.add_zero, true_and, and_true, false_and, and_false, Bool.not_true, Bool.not_false, Bool.true_and, Bool.and_true, Bool.false_and, Bool.and_false, Bool.or_false, Bool.false_or, Bool.or_true, Bool.true_or, Bool.not_eq_true', if_true, if_false, Bool.false_eq_true, Bool.not_eq_true, ↓reduceIte, ite_true, ite_false, Bool.true_eq_false, not_true_eq_false, not_false_eq_true, Nat.zero_le]
    refine At.rd ?_
    simp only [put_same, hr_f1, xFld, fldK, asRf_rf, bd_rd, bx_rd, exS_rd, bd_wr, bx_wr, exS_wr, pIntB_b, xParW3, parW3a, parW3b, parW3c, dictW_c, pLtA_i, pSumT, pSumL, xwD, xwO, datK, ownK, capN, capC, ygT3c, opK2, opK, chK4, chK3, chK2, chK, unK, andK, orK, notK, andVK2, andVK, notVK2, notVK, ifVK, ifTK, consK2, consK, tupK, lstK, fzK, cbK, isiK, drpK, retK, ifSK, setK, setOK, nxK, asgK, parK, appK, wcK, wdK, callK, forK, lcK, raiseK, bodyX, startE, xSeq, sqF, xNext, xIfS, xRet, xSet, xSetO, xDrop, xAsg, ygT_t, ygsC, ygsN, ygN, xPar, xAppend, xFrz, xVar, xC, xOp, xUn, pNeg_i, xTest, asB_b, xAnd, xOr, xNot, xAndV, xNotV, xIf, xIfT, xChain, xNil, xCons, xTup, xLst, xFz, xCall, rOfT_d, rOfT_o, rOfT_c, rOwT_o, ywNil, ywDat, ywVar, xCB, xIsi, asI_i, xLenS, xFor, ziL, itT_t, itL_l, ziR1, ziET, enT_t, enL_l, xLc, noOwnB, wipeE, xYes, xRaise, pAdd_i, pAdd_t, pAdd_l, pSub_i, pLt_i, pLe_i, pGt_i, pGe_i, pIs_n, pIsNot_n, pIsB_b, pNotB_b, isN_n, isN_b, isN_i, isN_s, isN_t, isN_l, pIx_t, pIx_l, pLen_t, pLen_l, pMin2_i, pMax2_i, pAbs_i, pInt_i, pTuple_t, pTuple_l, pList_t, pList_l, pIadd_i, pSl_t, pSl_l, pEqI, pNeI, pEqS, pNeS, at0, at1, at2, at3, at4, at5, at6, at7, bx_ret, bx_exc, bx_fail, bd_ret, bd_exc, bd_fail, exS_ret, exS_exc, exS_fail, ofO_some, ofO_none, fnE, isi_T, isi_B, isi_I, isi_S, isi_L, sizeL, Option.bind_some, Option.map_some, Option.some.injEq, Int.reduceEq, Int.reduceLE, Int.reduceLT, Int.reduceNeg, Int.reduceAdd, Int.reduceSub, Int.reduceMul, decide_true, decide_false, decide_eq_true_eq, decide_not, eq_self, Int.cast_ofNat_Int, reduceCtorEq, List.length_cons, List.length_nil, List.map_cons, List.map_nil, List.replicate, List.cons_append, List.nil_append, List.append_nil, List.getElem?_cons_zero, List.getElem?_cons_succ, List.getElem?_nil, List.set_cons_zero, List.set_cons_succ, Nat.reduceAdd, Nat.reduceSub, Nat.reduceEqDiff, Nat.reduceLeDiff, Nat.reduceLT, Nat.zero_add, Nat.add_zero, true_and, and_true, false_and, and_false, Bool.not_true, Bool.not_false, Bool.true_and, Bool.and_true, Bool.false_and, Bool.and_false, Bool.or_false, Bool.false_or, Bool.or_true, Bool.true_or, Bool.not_eq_true', if_true, if_false, Bool.false_eq_true, Bool.not_eq_true, ↓reduceIte, ite_true, ite_false, Bool.true_eq_false, not_true_eq_false, not_false_eq_true, Nat.zero_le]
    refine At.rd ?_
    simp only [put_same, hr_f2, r_next h hs hi, xFld, fldK, asRf_rf, bd_rd, bx_rd, exS_rd, bd_wr, bx_wr, exS_wr, pIntB_b, xParW3, parW3a, parW3b, parW3c, dictW_c, pLtA_i, pSumT, pSumL, xwD, xwO, datK, ownK, capN, capC, ygT3c, opK2, opK, chK4, chK3, chK2, chK, unK, andK, orK, notK, andVK2, andVK, notVK2, notVK, ifVK, ifTK, consK2, consK, tupK, lstK, fzK, cbK, isiK, drpK, retK, ifSK, setK, setOK, nxK, asgK, parK, appK, wcK, wdK, callK, forK, lcK, raiseK, bodyX, startE, xSeq, sqF, xNext, xIfS, xRet, xSet, xSetO, xDrop, xAsg, ygT_t, ygsC, ygsN, ygN, xPar, xAppend, xFrz, xVar, xC, xOp, xUn, pNeg_i, xTest, asB_b, xAnd, xOr, xNot, xAndV, xNotV, xIf, xIfT, xChain, xNil, xCons, xTup, xLst, xFz, xCall, rOfT_d, rOfT_o, rOfT_c, rOwT_o, ywNil, ywDat, ywVar, xCB, xIsi, asI_i, xLenS, xFor, ziL, itT_t, itL_l, ziR1, ziET, enT_t, enL_l, xLc, noOwnB, wipeE, xYes, xRaise, pAdd_i, pAdd_t, pAdd_l, pSub_i, pLt_i, pLe_i, pGt_i, pGe_i, pIs_n, pIsNot_n, pIsB_b, pNotB_b, isN_n, isN_b, isN_i, isN_s, isN_t, isN_l, pIx_t, pIx_l, pLen_t, pLen_l, pMin2_i, pMax2_i, pAbs_i, pInt_i, pTuple_t, pTuple_l, pList_t, pList_l, pIadd_i, pSl_t, pSl_l, pEqI, pNeI, pEqS, pNeS, at0, at1, at2, at3, at4, at5, at6, at7, bx_ret, bx_exc, bx_fail, bd_ret, bd_exc, bd_fail, exS_ret, exS_exc, exS_fail, ofO_some, ofO_none, fnE, isi_T, isi_B, isi_I, isi_S, isi_L, sizeL, Option.bind_some, Option.map_some, Option.some.injEq, Int.reduceEq, Int.reduceLE, Int.reduceLT, Int.reduceNeg, Int.reduceAdd, Int.reduceSub, Int.reduceMul, decide_true, decide_false, decide_eq_true_eq, decide_not, eq_self, Int.cast_ofNat_Int, reduceCtorEq, List.length_cons, List.length_nil, List.map_cons, List.map_nil, List.replicate, List.cons_append, List.nil_append, List.append_nil, List.getElem?_cons_zero, List.getElem?_cons_succ, List.getElem?_nil, List.set_cons_zero, List.set_cons_succ, Nat.reduceAdd, Nat.reduceSub, Nat.reduceEqDiff, Nat.reduceLeDiff, Nat.reduceLT, Nat.zero_add, Nat.add_zero, true_and, and_true, false_and, and_false, Bool.not_true, Bool.not_false, Bool.true_and, Bool.and_true, Bool.false_and, Bool.and_false, Bool.or_false, Bool.false_or, Bool.or_true, Bool.true_or, Bool.not_eq_true', if_true, if_false, Bool.false_eq_true, Bool.not_eq_true, ↓reduceIte, ite_true, ite_false, Bool.true_eq_false, not_true_eq_false, not_false_eq_true, Nat.zero_le]
    exact .refl
  refine At.seq2 (at_augP (y := hrC c (c.nx st i) (k + 1)) (i := k) (j := 1) rfl rfl rfl (Nat.le_of_ble_eq_true rfl) rfl rfl) ?_
  rw [hz] 
  subst hz
  refine At.w0 ?_
  simp only [xFld, fldK, asRf_rf, bd_rd, bx_rd, exS_rd, bd_wr, bx_wr, exS_wr, pIntB_b, xParW3, parW3a, parW3b, parW3c, dictW_c, pLtA_i, pSumT, pSumL, xwD, xwO, datK, ownK, capN, capC, ygT3c, opK2, opK, chK4, chK3, chK2, chK, unK, andK, orK, notK, andVK2, andVK, notVK2, notVK, ifVK, ifTK, consK2, consK, tupK, lstK, fzK, cbK, isiK, drpK, retK, ifSK, setK, setOK, nxK, asgK, parK, appK, wcK, wdK, callK, forK, lcK, raiseK, bodyX, startE, xSeq, sqF, xNext, xIfS, xRet, xSet, xSetO, xDrop, xAsg, ygT_t, ygsC, ygsN, ygN, xPar, xAppend, xFrz, xVar, xC, xOp, xUn, pNeg_i, xTest, asB_b, xAnd, xOr, xNot, xAndV, xNotV, xIf, xIfT, xChain, xNil, xCons, xTup, xLst, xFz, xCall, rOfT_d, rOfT_o, rOfT_c, rOwT_o, ywNil, ywDat, ywVar, xCB, xIsi, asI_i, xLenS, xFor, ziL, itT_t, itL_l, ziR1, ziET, enT_t, enL_l, xLc, noOwnB, wipeE, xYes, xRaise, pAdd_i, pAdd_t, pAdd_l, pSub_i, pLt_i, pLe_i, pGt_i, pGe_i, pIs_n, pIsNot_n, pIsB_b, pNotB_b, isN_n, isN_b, isN_i, isN_s, isN_t, isN_l, pIx_t, pIx_l, pLen_t, pLen_l, pMin2_i, pMax2_i, pAbs_i, pInt_i, pTuple_t, pTuple_l, pList_t, pList_l, pIadd_i, pSl_t, pSl_l, pEqI, pNeI, pEqS, pNeS, at0, at1, at2, at3, at4, at5, at6, at7, bx_ret, bx_exc, bx_fail, bd_ret, bd_exc, bd_fail, exS_ret, exS_exc, exS_fail, ofO_some, ofO_none, fnE, isi_T, isi_B, isi_I, isi_S, isi_L, sizeL, Option.bind_some, Option.map_some, Option.some.injEq, Int.reduceEq, Int.reduceLE, Int.reduceLT, Int.reduceNeg, Int.reduceAdd, Int.reduceSub, Int.reduceMul, decide_true, decide_false, decide_eq_true_eq, decide_not, eq_self, Int.cast_ofNat_Int, reduceCtorEq, List.length_cons, List.length_nil, List.map_cons, List.map_nil, List.replicate, List.cons_append, List.nil_append, List.append_nil, List.getElem?_cons_zero, List.getElem?_cons_succ, List.getElem?_nil, List.set_cons_zero, List.set_cons_succ, Nat.reduceAdd, Nat.reduceSub, Nat.reduceEqDiff, Nat.reduceLeDiff, Nat.reduceLT, Nat.zero_add, Nat.add_zero, true_and, and_true, false_and, and_false, Bool.not_true, Bool.not_false, Bool.true_and, Bool.and_true, Bool.false_and, Bool.and_false, Bool.or_false, Bool.false_or, Bool.or_true, Bool.true_or, Bool.not_eq_true', if_true, if_false, Bool.false_eq_true, Bool.not_eq_true, ↓reduceIte, ite_true, ite_false, Bool.true_eq_false, not_true_eq_false, not_false_eq_true, Nat.zero_le]
  refine At.rd ?_
  simp only [put_same, hr_f2, stD, xFld, fldK, asRf_rf, bd_rd, bx_rd, exS_rd, bd_wr, bx_wr, exS_wr, pIntB_b, xParW3, parW3a, parW3b, parW3c, dictW_c, pLtA_i, pSumT, pSumL, xwD, xwO, datK, ownK, capN, capC, ygT3c, opK2, opK, chK4, chK3, chK2, chK, unK, andK, orK, notK, andVK2, andVK, notVK2, notVK, ifVK, ifTK, consK2, consK, tupK, lstK, fzK, cbK, isiK, drpK, retK, ifSK, setK, setOK, nxK, asgK, parK, appK, wcK, wdK, callK, forK, lcK, raiseK, bodyX, startE, xSeq, sqF, xNext, xIfS, xRet, xSet, xSetO, xDrop, xAsg, ygT_t, ygsC, ygsN, ygN, xPar, xAppend, xFrz, xVar, xC, xOp, xUn, pNeg_i, xTest, asB_b, xAnd, xOr, xNot, xAndV, xNotV, xIf, xIfT, xChain, xNil, xCons, xTup, xLst, xFz, xCall, rOfT_d, rOfT_o, rOfT_c, rOwT_o, ywNil, ywDat, ywVar, xCB, xIsi, asI_i, xLenS, xFor, ziL, itT_t, itL_l, ziR1, ziET, enT_t, enL_l, xLc, noOwnB, wipeE, xYes, xRaise, pAdd_i, pAdd_t, pAdd_l, pSub_i, pLt_i, pLe_i, pGt_i, pGe_i, pIs_n, pIsNot_n, pIsB_b, pNotB_b, isN_n, isN_b, isN_i, isN_s, isN_t, isN_l, pIx_t, pIx_l, pLen_t, pLen_l, pMin2_i, pMax2_i, pAbs_i, pInt_i, pTuple_t, pTuple_l, pList_t, pList_l, pIadd_i, pSl_t, pSl_l, pEqI, pNeI, pEqS, pNeS, at0, at1, at2, at3, at4, at5, at6, at7, bx_ret, bx_exc, bx_fail, bd_ret, bd_exc, bd_fail, exS_ret, exS_exc, exS_fail, ofO_some, ofO_none, fnE, isi_T, isi_B, isi_I, isi_S, isi_L, sizeL, Option.bind_some, Option.map_some, Option.some.injEq, Int.reduceEq, Int.reduceLE, Int.reduceLT, Int.reduceNeg, Int.reduceAdd, Int.reduceSub, Int.reduceMul, decide_true, decide_false, decide_eq_true_eq, decide_not, eq_self, Int.cast_ofNat_Int, reduceCtorEq, List.length_cons, List.length_nil, List.map_cons, List.map_nil, List.replicate, List.cons_append, List.nil_append, List.append_nil, List.getElem?_cons_zero, List.getElem?_cons_succ, List.getElem?_nil, List.set_cons_zero, List.set_cons_succ, Nat.reduceAdd, Nat.reduceSub, Nat.reduceEqDiff, Nat.reduceLeDiff, Nat.reduceLT, Nat.zero_add, Nat.add_zero, true_and, and_true, false_and, and_false, Bool.not_true, Bool.not_false, Bool.true_and, Bool.and_true, Bool.false_and, Bool.and_false, Bool.or_false, Bool.false_or, Bool.or_true, Bool.true_or, Bool.not_eq_true', if_true, if_false, Bool.false_eq_true, Bool.not_eq_true, ↓reduceIte, ite_true, ite_false, Bool.true_eq_false, not_true_eq_false, not_false_eq_true, Nat.zero_le]
  exact .refl
/-- a jump -/
theorem hr_jump {to : Int × Int} (ht : c.St to) (ha : s a = some (hrC c st k)) : At s (bd (w_Hearer_jump [.dat (rf a), .dat (stD to)]) rOfT) (.wr (s.put a (hrC c to k)) (.ret .none)) := by
  have e0 : s = s.put a (hrC c st k) := (put_self ha).symm
  generalize hz : s.put a (hrC c to k) = z
  rw [e0]
  refine At.trans (At.bd (t := w_Hearer_jump [.dat (rf a), .dat (stD to)]) (u := .wr z (.ret (.dat .none))) ?_) (by rw [bd_wr, bd_ret]; exact .refl)
  rw [wd_Hearer_jump]
  refine At.bodyN (ρ' := [some (.dat (rf a)), some (.dat (stD (to)))]) rfl ?_
  unfold t_Hearer_jump
  refine At.seq0 (ρ' := [some (.dat (rf a)), some (.dat (stD (to)))]) ?_ ?_
  · simp only [xFld, fldK, asRf_rf, bd_rd, bx_rd, exS_rd, bd_wr, bx_wr, exS_wr, pIntB_b, xParW3, parW3a, parW3b, parW3c, dictW_c, pLtA_i, pSumT, pSumL, xwD, xwO, datK, ownK, capN, capC, ygT3c, opK2, opK, chK4, chK3, chK2, chK, unK, andK, orK, notK, andVK2, andVK, notVK2, notVK, ifVK, ifTK, consK2, consK, tupK, lstK, fzK, cbK, isiK, drpK, retK, ifSK, setK, setOK, nxK, asgK, parK, appK, wcK, wdK, callK, forK, lcK, raiseK, bodyX, startE, xSeq, sqF, xNext, xIfS, xRet, xSet, xSetO, xDrop, xAsg, ygT_t, ygsC, ygsN, ygN, xPar, xAppend, xFrz, xVar, xC, xOp, xUn, pNeg_i, xTest, asB_b, xAnd, xOr, xNot, xAndV, xNotV, xIf, xIfT, xChain, xNil, xCons, xTup, xLst, xFz, xCall, rOfT_d, rOfT_o, rOfT_c, rOwT_o, ywNil, ywDat, ywVar, xCB, xIsi, asI_i, xLenS, xFor, ziL, itT_t, itL_l, ziR1, ziET, enT_t, enL_l, xLc, noOwnB, wipeE, xYes, xRaise, pAdd_i, pAdd_t, pAdd_l, pSub_i, pLt_i, pLe_i, pGt_i, pGe_i, pIs_n, pIsNot_n, pIsB_b, pNotB_b, isN_n, isN_b, isN_i, isN_s, isN_t, isN_l, pIx_t, pIx_l, pLen_t, pLen_l, pMin2_i, pMax2_i, pAbs_i, pInt_i, pTuple_t, pTuple_l, pList_t, pList_l, pIadd_i, pSl_t, pSl_l, pEqI, pNeI, pEqS, pNeS, at0, at1, at2, at3, at4, at5, at6, at7, bx_ret, bx_exc, bx_fail, bd_ret, bd_exc, bd_fail, exS_ret, exS_exc, exS_fail, ofO_some, ofO_none, fnE, isi_T, isi_B, isi_I, isi_S, isi_L, sizeL, Option.bind_some, Option.map_some, Option.some.injEq, Int.reduceEq, Int.reduceLE, Int.reduceLT, Int.reduceNeg, Int.reduceAdd, Int.reduceSub, Int.reduceMul, decide_true, decide_false, decide_eq_true_eq, decide_not, eq_self, Int.cast_ofNat_Int, reduceCtorEq, List.length_cons, List.length_nil, List.map_cons, List.map_nil, List.replicate, List.cons_append, List.nil_append, List.append_nil, List.getElem?_cons_zero, List.getElem?_cons_succ, List.getElem?_nil, List.set_cons_zero, List.set_cons_succ, Nat.reduceAdd, Nat.reduceSub, Nat.reduceEqDiff, Nat.reduceLeDiff, Nat.reduceLT, Nat.zero_add, Nat.add_zero, true_and, and_true, false_and, and_false, Bool.not_true, Bool.not_false, Bool.true_and, Bool.and_true, Bool.false_and, Bool.and_false, Bool.or_false, Bool.false_or, Bool.or_true, Bool.true_or, Bool.not_eq_true', if_true, if_false, Bool.false_eq_true, Bool.not_eq_true, ↓reduceIte, ite_true, ite_false, Bool.true_eq_false, not_true_eq_false, not_false_eq_true, Nat.zero_le]
    refine At.rd ?_
    simp only [put_same, hr_f1, r_needS ht, xFld, fldK, asRf_rf, bd_rd, bx_rd, exS_rd, bd_wr, bx_wr, exS_wr, pIntB_b, xParW3, parW3a, parW3b, parW3c, dictW_c, pLtA_i, pSumT, pSumL, xwD, xwO, datK, ownK, capN, capC, ygT3c, opK2, opK, chK4, chK3, chK2, chK, unK, andK, orK, notK, andVK2, andVK, notVK2, notVK, ifVK, ifTK, consK2, consK, tupK, lstK, fzK, cbK, isiK, drpK, retK, ifSK, setK, setOK, nxK, asgK, parK, appK, wcK, wdK, callK, forK, lcK, raiseK, bodyX, startE, xSeq, sqF, xNext, xIfS, xRet, xSet, xSetO, xDrop, xAsg, ygT_t, ygsC, ygsN, ygN, xPar, xAppend, xFrz, xVar, xC, xOp, xUn, pNeg_i, xTest, asB_b, xAnd, xOr, xNot, xAndV, xNotV, xIf, xIfT, xChain, xNil, xCons, xTup, xLst, xFz, xCall, rOfT_d, rOfT_o, rOfT_c, rOwT_o, ywNil, ywDat, ywVar, xCB, xIsi, asI_i, xLenS, xFor, ziL, itT_t, itL_l, ziR1, ziET, enT_t, enL_l, xLc, noOwnB, wipeE, xYes, xRaise, pAdd_i, pAdd_t, pAdd_l, pSub_i, pLt_i, pLe_i, pGt_i, pGe_i, pIs_n, pIsNot_n, pIsB_b, pNotB_b, isN_n, isN_b, isN_i, isN_s, isN_t, isN_l, pIx_t, pIx_l, pLen_t, pLen_l, pMin2_i, pMax2_i, pAbs_i, pInt_i, pTuple_t, pTuple_l, pList_t, pList_l, pIadd_i, pSl_t, pSl_l, pEqI, pNeI, pEqS, pNeS, at0, at1, at2, at3, at4, at5, at6, at7, bx_ret, bx_exc, bx_fail, bd_ret, bd_exc, bd_fail, exS_ret, exS_exc, exS_fail, ofO_some, ofO_none, fnE, isi_T, isi_B, isi_I, isi_S, isi_L, sizeL, Option.bind_some, Option.map_some, Option.some.injEq, Int.reduceEq, Int.reduceLE, Int.reduceLT, Int.reduceNeg, Int.reduceAdd, Int.reduceSub, Int.reduceMul, decide_true, decide_false, decide_eq_true_eq, decide_not, eq_self, Int.cast_ofNat_Int, reduceCtorEq, List.length_cons, List.length_nil, List.map_cons, List.map_nil, List.replicate, List.cons_append, List.nil_append, List.append_nil, List.getElem?_cons_zero, List.getElem?_cons_succ, List.getElem?_nil, List.set_cons_zero, List.set_cons_succ, Nat.reduceAdd, Nat.reduceSub, Nat.reduceEqDiff, Nat.reduceLeDiff, Nat.reduceLT, Nat.zero_add, Nat.add_zero, true_and, and_true, false_and, and_false, Bool.not_true, Bool.not_false, Bool.true_and, Bool.and_true, Bool.false_and, Bool.and_false, Bool.or_false, Bool.false_or, Bool.or_true, Bool.true_or, Bool.not_eq_true', if_true, if_false, Bool.false_eq_true, Bool.not_eq_true, ↓reduceIte, ite_true, ite_false, Bool.true_eq_false, not_true_eq_false, not_false_eq_true, Nat.zero_le]
    exact .refl
  subst hz
  exact at_setP rfl rfl rfl (Nat.le_of_ble_eq_true rfl) rfl
end
end LW


set_option maxRecDepth 100000
set_option maxHeartbeats 1000000
namespace LW
open PySem PySem.Spec PyProof.Rows L2 VL
section
variable {c : Cd} {st : Int × Int} {k : Int} {s : Sto} {a : Addr}
theorem at_mkS {cl : Str} {f : XFn} {dw : List Dt} {al : XAW} {te : XT} {ρ : Nv} {ws : List W} {d : Dt} (ea : At s (al ρ) (.ret ws)) (e : At s (te ρ) (.ret d)) : At s (xMkS cl f dw al te ρ) (mkK cl f (ws ++ (dw.map .dat ++ [.dat d]))) := by
  unfold xMkS
  refine (At.bd ea).trans ?_
  rw [bd_ret]
  unfold mkS1
  refine (At.bd e).trans ?_
  rw [bd_ret]
  exact .refl
theorem At.nw {α : Type} {s : Sto} {t u : Addr → T α} (h : ∀ b, s b = none → At s (t b) (u b)) : At s (.nw t) (.nw u) := fun n Q E hn q b hb => h b (by rw [← hn]; exact hb) n Q E hn (q b hb)
theorem At.wr2 {α : Type} {s s1 s2 : Sto} {t u : T α} (h : At s1 t (.wr s2 u)) : At s (.wr s1 t) (.wr s2 u) := (At.wr h).trans wr_wr
theorem sh_pk (h : c.Ok) (hs : c.St st) (hk : k.natAbs < 10 ^ 12) : pRepr [.list [stD st, .int k]] = some (.str (PyData.list [stD st, .int k]).shown) := by
  have a : Sh 83 1 (.int k) := (Sh.int hk).le (by decide) (by decide)
  have b := Sh.lst (.cons (sh_st h hs) (.cons a .nil))
  exact pRepr_of (w := 82 + 1 + (83 + 1 + 0)) (dp := 2) b (by decide) (by decide)
theorem eqS_self (z : Str) : pEq (.str z) (.str z) = some (.bool true) := by rw [pEqS, beq_self_eq_true]
/-- what a hearer stands at -/
theorem hr_stands (h : c.Ok) (hs : c.St st) (hk : k.natAbs < 10 ^ 12) (ha : s a = some (hrC c st k)) : At s (bd (w__law_stands [.dat (rf a), .dat (stD st), .dat (.int k)]) rOfT) (.ret (.bool true)) := by
  have sa := sh_pk h hs hk
  have es := eqS_self
  rw [wd__law_stands]
  unfold bodyX
  rw [if_pos (show ([W.dat (rf a), W.dat (stD st), W.dat (.int k)] : List VL.W).length = 3 from rfl)]
  unfold t__law_stands
  simp only [xFld, fldK, asRf_rf, bd_rd, bx_rd, exS_rd, bd_wr, bx_wr, exS_wr, pIntB_b, xParW3, parW3a, parW3b, parW3c, dictW_c, pLtA_i, pSumT, pSumL, xwD, xwO, datK, ownK, capN, capC, ygT3c, opK2, opK, chK4, chK3, chK2, chK, unK, andK, orK, notK, andVK2, andVK, notVK2, notVK, ifVK, ifTK, consK2, consK, tupK, lstK, fzK, cbK, isiK, drpK, retK, ifSK, setK, setOK, nxK, asgK, parK, appK, wcK, wdK, callK, forK, lcK, raiseK, bodyX, startE, xSeq, sqF, xNext, xIfS, xRet, xSet, xSetO, xDrop, xAsg, ygT_t, ygsC, ygsN, ygN, xPar, xAppend, xFrz, xVar, xC, xOp, xUn, pNeg_i, xTest, asB_b, xAnd, xOr, xNot, xAndV, xNotV, xIf, xIfT, xChain, xNil, xCons, xTup, xLst, xFz, xCall, rOfT_d, rOfT_o, rOfT_c, rOwT_o, ywNil, ywDat, ywVar, xCB, xIsi, asI_i, xLenS, xFor, ziL, itT_t, itL_l, ziR1, ziET, enT_t, enL_l, xLc, noOwnB, wipeE, xYes, xRaise, pAdd_i, pAdd_t, pAdd_l, pSub_i, pLt_i, pLe_i, pGt_i, pGe_i, pIs_n, pIsNot_n, pIsB_b, pNotB_b, isN_n, isN_b, isN_i, isN_s, isN_t, isN_l, pIx_t, pIx_l, pLen_t, pLen_l, pMin2_i, pMax2_i, pAbs_i, pInt_i, pTuple_t, pTuple_l, pList_t, pList_l, pIadd_i, pSl_t, pSl_l, pEqI, pNeI, pEqS, pNeS, at0, at1, at2, at3, at4, at5, at6, at7, bx_ret, bx_exc, bx_fail, bd_ret, bd_exc, bd_fail, exS_ret, exS_exc, exS_fail, ofO_some, ofO_none, fnE, isi_T, isi_B, isi_I, isi_S, isi_L, sizeL, Option.bind_some, Option.map_some, Option.some.injEq, Int.reduceEq, Int.reduceLE, Int.reduceLT, Int.reduceNeg, Int.reduceAdd, Int.reduceSub, Int.reduceMul, decide_true, decide_false, decide_eq_true_eq, decide_not, eq_self, Int.cast_ofNat_Int, reduceCtorEq, List.length_cons, List.length_nil, List.map_cons, List.map_nil, List.replicate, List.cons_append, List.nil_append, List.append_nil, List.getElem?_cons_zero, List.getElem?_cons_succ, List.getElem?_nil, List.set_cons_zero, List.set_cons_succ, Nat.reduceAdd, Nat.reduceSub, Nat.reduceEqDiff, Nat.reduceLeDiff, Nat.reduceLT, Nat.zero_add, Nat.add_zero, true_and, and_true, false_and, and_false, Bool.not_true, Bool.not_false, Bool.true_and, Bool.and_true, Bool.false_and, Bool.and_false, Bool.or_false, Bool.false_or, Bool.or_true, Bool.true_or, Bool.not_eq_true', if_true, if_false, Bool.false_eq_true, Bool.not_eq_true, ↓reduceIte, ite_true, ite_false, Bool.true_eq_false, not_true_eq_false, not_false_eq_true, Nat.zero_le]
  refine At.rd ?_
  simp only [ha, hr_f2, xFld, fldK, asRf_rf, bd_rd, bx_rd, exS_rd, bd_wr, bx_wr, exS_wr, pIntB_b, xParW3, parW3a, parW3b, parW3c, dictW_c, pLtA_i, pSumT, pSumL, xwD, xwO, datK, ownK, capN, capC, ygT3c, opK2, opK, chK4, chK3, chK2, chK, unK, andK, orK, notK, andVK2, andVK, notVK2, notVK, ifVK, ifTK, consK2, consK, tupK, lstK, fzK, cbK, isiK, drpK, retK, ifSK, setK, setOK, nxK, asgK, parK, appK, wcK, wdK, callK, forK, lcK, raiseK, bodyX, startE, xSeq, sqF, xNext, xIfS, xRet, xSet, xSetO, xDrop, xAsg, ygT_t, ygsC, ygsN, ygN, xPar, xAppend, xFrz, xVar, xC, xOp, xUn, pNeg_i, xTest, asB_b, xAnd, xOr, xNot, xAndV, xNotV, xIf, xIfT, xChain, xNil, xCons, xTup, xLst, xFz, xCall, rOfT_d, rOfT_o, rOfT_c, rOwT_o, ywNil, ywDat, ywVar, xCB, xIsi, asI_i, xLenS, xFor, ziL, itT_t, itL_l, ziR1, ziET, enT_t, enL_l, xLc, noOwnB, wipeE, xYes, xRaise, pAdd_i, pAdd_t, pAdd_l, pSub_i, pLt_i, pLe_i, pGt_i, pGe_i, pIs_n, pIsNot_n, pIsB_b, pNotB_b, isN_n, isN_b, isN_i, isN_s, isN_t, isN_l, pIx_t, pIx_l, pLen_t, pLen_l, pMin2_i, pMax2_i, pAbs_i, pInt_i, pTuple_t, pTuple_l, pList_t, pList_l, pIadd_i, pSl_t, pSl_l, pEqI, pNeI, pEqS, pNeS, at0, at1, at2, at3, at4, at5, at6, at7, bx_ret, bx_exc, bx_fail, bd_ret, bd_exc, bd_fail, exS_ret, exS_exc, exS_fail, ofO_some, ofO_none, fnE, isi_T, isi_B, isi_I, isi_S, isi_L, sizeL, Option.bind_some, Option.map_some, Option.some.injEq, Int.reduceEq, Int.reduceLE, Int.reduceLT, Int.reduceNeg, Int.reduceAdd, Int.reduceSub, Int.reduceMul, decide_true, decide_false, decide_eq_true_eq, decide_not, eq_self, Int.cast_ofNat_Int, reduceCtorEq, List.length_cons, List.length_nil, List.map_cons, List.map_nil, List.replicate, List.cons_append, List.nil_append, List.append_nil, List.getElem?_cons_zero, List.getElem?_cons_succ, List.getElem?_nil, List.set_cons_zero, List.set_cons_succ, Nat.reduceAdd, Nat.reduceSub, Nat.reduceEqDiff, Nat.reduceLeDiff, Nat.reduceLT, Nat.zero_add, Nat.add_zero, true_and, and_true, false_and, and_false, Bool.not_true, Bool.not_false, Bool.true_and, Bool.and_true, Bool.false_and, Bool.and_false, Bool.or_false, Bool.false_or, Bool.or_true, Bool.true_or, Bool.not_eq_true', if_true, if_false, Bool.false_eq_true, Bool.not_eq_true, ↓reduceIte, ite_true, ite_false, Bool.true_eq_false, not_true_eq_false, not_false_eq_true, Nat.zero_le]
  refine At.rd ?_
  simp only [ha, hr_f3, sa, es, xFld, fldK, asRf_rf, bd_rd, bx_rd, exS_rd, bd_wr, bx_wr, exS_wr, pIntB_b, xParW3, parW3a, parW3b, parW3c, dictW_c, pLtA_i, pSumT, pSumL, xwD, xwO, datK, ownK, capN, capC, ygT3c, opK2, opK, chK4, chK3, chK2, chK, unK, andK, orK, notK, andVK2, andVK, notVK2, notVK, ifVK, ifTK, consK2, consK, tupK, lstK, fzK, cbK, isiK, drpK, retK, ifSK, setK, setOK, nxK, asgK, parK, appK, wcK, wdK, callK, forK, lcK, raiseK, bodyX, startE, xSeq, sqF, xNext, xIfS, xRet, xSet, xSetO, xDrop, xAsg, ygT_t, ygsC, ygsN, ygN, xPar, xAppend, xFrz, xVar, xC, xOp, xUn, pNeg_i, xTest, asB_b, xAnd, xOr, xNot, xAndV, xNotV, xIf, xIfT, xChain, xNil, xCons, xTup, xLst, xFz, xCall, rOfT_d, rOfT_o, rOfT_c, rOwT_o, ywNil, ywDat, ywVar, xCB, xIsi, asI_i, xLenS, xFor, ziL, itT_t, itL_l, ziR1, ziET, enT_t, enL_l, xLc, noOwnB, wipeE, xYes, xRaise, pAdd_i, pAdd_t, pAdd_l, pSub_i, pLt_i, pLe_i, pGt_i, pGe_i, pIs_n, pIsNot_n, pIsB_b, pNotB_b, isN_n, isN_b, isN_i, isN_s, isN_t, isN_l, pIx_t, pIx_l, pLen_t, pLen_l, pMin2_i, pMax2_i, pAbs_i, pInt_i, pTuple_t, pTuple_l, pList_t, pList_l, pIadd_i, pSl_t, pSl_l, pEqI, pNeI, pEqS, pNeS, at0, at1, at2, at3, at4, at5, at6, at7, bx_ret, bx_exc, bx_fail, bd_ret, bd_exc, bd_fail, exS_ret, exS_exc, exS_fail, ofO_some, ofO_none, fnE, isi_T, isi_B, isi_I, isi_S, isi_L, sizeL, Option.bind_some, Option.map_some, Option.some.injEq, Int.reduceEq, Int.reduceLE, Int.reduceLT, Int.reduceNeg, Int.reduceAdd, Int.reduceSub, Int.reduceMul, decide_true, decide_false, decide_eq_true_eq, decide_not, eq_self, Int.cast_ofNat_Int, reduceCtorEq, List.length_cons, List.length_nil, List.map_cons, List.map_nil, List.replicate, List.cons_append, List.nil_append, List.append_nil, List.getElem?_cons_zero, List.getElem?_cons_succ, List.getElem?_nil, List.set_cons_zero, List.set_cons_succ, Nat.reduceAdd, Nat.reduceSub, Nat.reduceEqDiff, Nat.reduceLeDiff, Nat.reduceLT, Nat.zero_add, Nat.add_zero, true_and, and_true, false_and, and_false, Bool.not_true, Bool.not_false, Bool.true_and, Bool.and_true, Bool.false_and, Bool.and_false, Bool.or_false, Bool.false_or, Bool.or_true, Bool.true_or, Bool.not_eq_true', if_true, if_false, Bool.false_eq_true, Bool.not_eq_true, ↓reduceIte, ite_true, ite_false, Bool.true_eq_false, not_true_eq_false, not_false_eq_true, Nat.zero_le]
  exact .refl
/-- a hearer in the first state -/
theorem st00 (h : c.Ok) : c.St (0, 0) := by
  have := h.l1; have := h.h0; have := h.s0
  exact ⟨by assumption, by assumption, by decide, by show (0 : Int) < _; omega⟩
theorem hr_nx1 (h : c.Ok) (i : Int) : ((c.nx st i).1).natAbs < 10 ^ 12 := by
  have q := c.nx_st h st i
  have := h.l0; have := h.h1; have := q.1; have := q.2.1
  omega
/-- a twin -/
theorem hr_copy (h : c.Ok) (hs : c.St st) (ha : s a = some (hrC c st k)) : At s (bd (w_Hearer_copy [.dat (rf a)]) rOfT) (.nw fun b => .wr (s.put b (hrC c st k)) (.ret (rf b))) := by
  have e1 : At s (xMkS "Hearer" w_Hearer___init__ [] (ywDat (xFld "Hearer" "own_coder" (xVar 0)) ywNil) (xFld "Hearer" "own_state" (xVar 0)) [some (W.dat (rf a)), none]) (.nw fun b => .wr (s.put b (hrC c st 0)) (.ret (rf b))) := by
    refine (at_mkS (ws := [.dat c.d]) (d := stD st) ?_ ?_).trans (hr_mk h hs)
    · simp only [xFld, fldK, asRf_rf, bd_rd, bx_rd, exS_rd, bd_wr, bx_wr, exS_wr, pIntB_b, xParW3, parW3a, parW3b, parW3c, dictW_c, pLtA_i, pSumT, pSumL, xwD, xwO, datK, ownK, capN, capC, ygT3c, opK2, opK, chK4, chK3, chK2, chK, unK, andK, orK, notK, andVK2, andVK, notVK2, notVK, ifVK, ifTK, consK2, consK, tupK, lstK, fzK, cbK, isiK, drpK, retK, ifSK, setK, setOK, nxK, asgK, parK, appK, wcK, wdK, callK, forK, lcK, raiseK, bodyX, startE, xSeq, sqF, xNext, xIfS, xRet, xSet, xSetO, xDrop, xAsg, ygT_t, ygsC, ygsN, ygN, xPar, xAppend, xFrz, xVar, xC, xOp, xUn, pNeg_i, xTest, asB_b, xAnd, xOr, xNot, xAndV, xNotV, xIf, xIfT, xChain, xNil, xCons, xTup, xLst, xFz, xCall, rOfT_d, rOfT_o, rOfT_c, rOwT_o, ywNil, ywDat, ywVar, xCB, xIsi, asI_i, xLenS, xFor, ziL, itT_t, itL_l, ziR1, ziET, enT_t, enL_l, xLc, noOwnB, wipeE, xYes, xRaise, pAdd_i, pAdd_t, pAdd_l, pSub_i, pLt_i, pLe_i, pGt_i, pGe_i, pIs_n, pIsNot_n, pIsB_b, pNotB_b, isN_n, isN_b, isN_i, isN_s, isN_t, isN_l, pIx_t, pIx_l, pLen_t, pLen_l, pMin2_i, pMax2_i, pAbs_i, pInt_i, pTuple_t, pTuple_l, pList_t, pList_l, pIadd_i, pSl_t, pSl_l, pEqI, pNeI, pEqS, pNeS, at0, at1, at2, at3, at4, at5, at6, at7, bx_ret, bx_exc, bx_fail, bd_ret, bd_exc, bd_fail, exS_ret, exS_exc, exS_fail, ofO_some, ofO_none, fnE, isi_T, isi_B, isi_I, isi_S, isi_L, sizeL, Option.bind_some, Option.map_some, Option.some.injEq, Int.reduceEq, Int.reduceLE, Int.reduceLT, Int.reduceNeg, Int.reduceAdd, Int.reduceSub, Int.reduceMul, decide_true, decide_false, decide_eq_true_eq, decide_not, eq_self, Int.cast_ofNat_Int, reduceCtorEq, List.length_cons, List.length_nil, List.map_cons, List.map_nil, List.replicate, List.cons_append, List.nil_append, List.append_nil, List.getElem?_cons_zero, List.getElem?_cons_succ, List.getElem?_nil, List.set_cons_zero, List.set_cons_succ, Nat.reduceAdd, Nat.reduceSub, Nat.reduceEqDiff, Nat.reduceLeDiff, Nat.reduceLT, Nat.zero_add, Nat.add_zero, true_and, and_true, false_and, and_false, Bool.not_true, Bool.not_false, Bool.true_and, Bool.and_true, Bool.false_and, Bool.and_false, Bool.or_false, Bool.false_or, Bool.or_true, Bool.true_or, Bool.not_eq_true', if_true, if_false, Bool.false_eq_true, Bool.not_eq_true, ↓reduceIte, ite_true, ite_false, Bool.true_eq_false, not_true_eq_false, not_false_eq_true, Nat.zero_le]
      refine At.rd ?_
      simp only [ha, hr_f1, xFld, fldK, asRf_rf, bd_rd, bx_rd, exS_rd, bd_wr, bx_wr, exS_wr, pIntB_b, xParW3, parW3a, parW3b, parW3c, dictW_c, pLtA_i, pSumT, pSumL, xwD, xwO, datK, ownK, capN, capC, ygT3c, opK2, opK, chK4, chK3, chK2, chK, unK, andK, orK, notK, andVK2, andVK, notVK2, notVK, ifVK, ifTK, consK2, consK, tupK, lstK, fzK, cbK, isiK, drpK, retK, ifSK, setK, setOK, nxK, asgK, parK, appK, wcK, wdK, callK, forK, lcK, raiseK, bodyX, startE, xSeq, sqF, xNext, xIfS, xRet, xSet, xSetO, xDrop, xAsg, ygT_t, ygsC, ygsN, ygN, xPar, xAppend, xFrz, xVar, xC, xOp, xUn, pNeg_i, xTest, asB_b, xAnd, xOr, xNot, xAndV, xNotV, xIf, xIfT, xChain, xNil, xCons, xTup, xLst, xFz, xCall, rOfT_d, rOfT_o, rOfT_c, rOwT_o, ywNil, ywDat, ywVar, xCB, xIsi, asI_i, xLenS, xFor, ziL, itT_t, itL_l, ziR1, ziET, enT_t, enL_l, xLc, noOwnB, wipeE, xYes, xRaise, pAdd_i, pAdd_t, pAdd_l, pSub_i, pLt_i, pLe_i, pGt_i, pGe_i, pIs_n, pIsNot_n, pIsB_b, pNotB_b, isN_n, isN_b, isN_i, isN_s, isN_t, isN_l, pIx_t, pIx_l, pLen_t, pLen_l, pMin2_i, pMax2_i, pAbs_i, pInt_i, pTuple_t, pTuple_l, pList_t, pList_l, pIadd_i, pSl_t, pSl_l, pEqI, pNeI, pEqS, pNeS, at0, at1, at2, at3, at4, at5, at6, at7, bx_ret, bx_exc, bx_fail, bd_ret, bd_exc, bd_fail, exS_ret, exS_exc, exS_fail, ofO_some, ofO_none, fnE, isi_T, isi_B, isi_I, isi_S, isi_L, sizeL, Option.bind_some, Option.map_some, Option.some.injEq, Int.reduceEq, Int.reduceLE, Int.reduceLT, Int.reduceNeg, Int.reduceAdd, Int.reduceSub, Int.reduceMul, decide_true, decide_false, decide_eq_true_eq, decide_not, eq_self, Int.cast_ofNat_Int, reduceCtorEq, List.length_cons, List.length_nil, List.map_cons, List.map_nil, List.replicate, List.cons_append, List.nil_append, List.append_nil, List.getElem?_cons_zero, List.getElem?_cons_succ, List.getElem?_nil, List.set_cons_zero, List.set_cons_succ, Nat.reduceAdd, Nat.reduceSub, Nat.reduceEqDiff, Nat.reduceLeDiff, Nat.reduceLT, Nat.zero_add, Nat.add_zero, true_and, and_true, false_and, and_false, Bool.not_true, Bool.not_false, Bool.true_and, Bool.and_true, Bool.false_and, Bool.and_false, Bool.or_false, Bool.false_or, Bool.or_true, Bool.true_or, Bool.not_eq_true', if_true, if_false, Bool.false_eq_true, Bool.not_eq_true, ↓reduceIte, ite_true, ite_false, Bool.true_eq_false, not_true_eq_false, not_false_eq_true, Nat.zero_le]
      exact .refl
    · simp only [xFld, fldK, asRf_rf, bd_rd, bx_rd, exS_rd, bd_wr, bx_wr, exS_wr, pIntB_b, xParW3, parW3a, parW3b, parW3c, dictW_c, pLtA_i, pSumT, pSumL, xwD, xwO, datK, ownK, capN, capC, ygT3c, opK2, opK, chK4, chK3, chK2, chK, unK, andK, orK, notK, andVK2, andVK, notVK2, notVK, ifVK, ifTK, consK2, consK, tupK, lstK, fzK, cbK, isiK, drpK, retK, ifSK, setK, setOK, nxK, asgK, parK, appK, wcK, wdK, callK, forK, lcK, raiseK, bodyX, startE, xSeq, sqF, xNext, xIfS, xRet, xSet, xSetO, xDrop, xAsg, ygT_t, ygsC, ygsN, ygN, xPar, xAppend, xFrz, xVar, xC, xOp, xUn, pNeg_i, xTest, asB_b, xAnd, xOr, xNot, xAndV, xNotV, xIf, xIfT, xChain, xNil, xCons, xTup, xLst, xFz, xCall, rOfT_d, rOfT_o, rOfT_c, rOwT_o, ywNil, ywDat, ywVar, xCB, xIsi, asI_i, xLenS, xFor, ziL, itT_t, itL_l, ziR1, ziET, enT_t, enL_l, xLc, noOwnB, wipeE, xYes, xRaise, pAdd_i, pAdd_t, pAdd_l, pSub_i, pLt_i, pLe_i, pGt_i, pGe_i, pIs_n, pIsNot_n, pIsB_b, pNotB_b, isN_n, isN_b, isN_i, isN_s, isN_t, isN_l, pIx_t, pIx_l, pLen_t, pLen_l, pMin2_i, pMax2_i, pAbs_i, pInt_i, pTuple_t, pTuple_l, pList_t, pList_l, pIadd_i, pSl_t, pSl_l, pEqI, pNeI, pEqS, pNeS, at0, at1, at2, at3, at4, at5, at6, at7, bx_ret, bx_exc, bx_fail, bd_ret, bd_exc, bd_fail, exS_ret, exS_exc, exS_fail, ofO_some, ofO_none, fnE, isi_T, isi_B, isi_I, isi_S, isi_L, sizeL, Option.bind_some, Option.map_some, Option.some.injEq, Int.reduceEq, Int.reduceLE, Int.reduceLT, Int.reduceNeg, Int.reduceAdd, Int.reduceSub, Int.reduceMul, decide_true, decide_false, decide_eq_true_eq, decide_not, eq_self, Int.cast_ofNat_Int, reduceCtorEq, List.length_cons, List.length_nil, List.map_cons, List.map_nil, List.replicate, List.cons_append, List.nil_append, List.append_nil, List.getElem?_cons_zero, List.getElem?_cons_succ, List.getElem?_nil, List.set_cons_zero, List.set_cons_succ, Nat.reduceAdd, Nat.reduceSub, Nat.reduceEqDiff, Nat.reduceLeDiff, Nat.reduceLT, Nat.zero_add, Nat.add_zero, true_and, and_true, false_and, and_false, Bool.not_true, Bool.not_false, Bool.true_and, Bool.and_true, Bool.false_and, Bool.and_false, Bool.or_false, Bool.false_or, Bool.or_true, Bool.true_or, Bool.not_eq_true', if_true, if_false, Bool.false_eq_true, Bool.not_eq_true, ↓reduceIte, ite_true, ite_false, Bool.true_eq_false, not_true_eq_false, not_false_eq_true, Nat.zero_le]
      refine At.rd ?_
      simp only [ha, hr_f2, xFld, fldK, asRf_rf, bd_rd, bx_rd, exS_rd, bd_wr, bx_wr, exS_wr, pIntB_b, xParW3, parW3a, parW3b, parW3c, dictW_c, pLtA_i, pSumT, pSumL, xwD, xwO, datK, ownK, capN, capC, ygT3c, opK2, opK, chK4, chK3, chK2, chK, unK, andK, orK, notK, andVK2, andVK, notVK2, notVK, ifVK, ifTK, consK2, consK, tupK, lstK, fzK, cbK, isiK, drpK, retK, ifSK, setK, setOK, nxK, asgK, parK, appK, wcK, wdK, callK, forK, lcK, raiseK, bodyX, startE, xSeq, sqF, xNext, xIfS, xRet, xSet, xSetO, xDrop, xAsg, ygT_t, ygsC, ygsN, ygN, xPar, xAppend, xFrz, xVar, xC, xOp, xUn, pNeg_i, xTest, asB_b, xAnd, xOr, xNot, xAndV, xNotV, xIf, xIfT, xChain, xNil, xCons, xTup, xLst, xFz, xCall, rOfT_d, rOfT_o, rOfT_c, rOwT_o, ywNil, ywDat, ywVar, xCB, xIsi, asI_i, xLenS, xFor, ziL, itT_t, itL_l, ziR1, ziET, enT_t, enL_l, xLc, noOwnB, wipeE, xYes, xRaise, pAdd_i, pAdd_t, pAdd_l, pSub_i, pLt_i, pLe_i, pGt_i, pGe_i, pIs_n, pIsNot_n, pIsB_b, pNotB_b, isN_n, isN_b, isN_i, isN_s, isN_t, isN_l, pIx_t, pIx_l, pLen_t, pLen_l, pMin2_i, pMax2_i, pAbs_i, pInt_i, pTuple_t, pTuple_l, pList_t, pList_l, pIadd_i, pSl_t, pSl_l, pEqI, pNeI, pEqS, pNeS, at0, at1, at2, at3, at4, at5, at6, at7, bx_ret, bx_exc, bx_fail, bd_ret, bd_exc, bd_fail, exS_ret, exS_exc, exS_fail, ofO_some, ofO_none, fnE, isi_T, isi_B, isi_I, isi_S, isi_L, sizeL, Option.bind_some, Option.map_some, Option.some.injEq, Int.reduceEq, Int.reduceLE, Int.reduceLT, Int.reduceNeg, Int.reduceAdd, Int.reduceSub, Int.reduceMul, decide_true, decide_false, decide_eq_true_eq, decide_not, eq_self, Int.cast_ofNat_Int, reduceCtorEq, List.length_cons, List.length_nil, List.map_cons, List.map_nil, List.replicate, List.cons_append, List.nil_append, List.append_nil, List.getElem?_cons_zero, List.getElem?_cons_succ, List.getElem?_nil, List.set_cons_zero, List.set_cons_succ, Nat.reduceAdd, Nat.reduceSub, Nat.reduceEqDiff, Nat.reduceLeDiff, Nat.reduceLT, Nat.zero_add, Nat.add_zero, true_and, and_true, false_and, and_false, Bool.not_true, Bool.not_false, Bool.true_and, Bool.and_true, Bool.false_and, Bool.and_false, Bool.or_false, Bool.false_or, Bool.or_true, Bool.true_or, Bool.not_eq_true', if_true, if_false, Bool.false_eq_true, Bool.not_eq_true, ↓reduceIte, ite_true, ite_false, Bool.true_eq_false, not_true_eq_false, not_false_eq_true, Nat.zero_le]
      exact .refl
  rw [wd_Hearer_copy]
  unfold bodyX
  rw [if_pos (show ([W.dat (rf a)] : List VL.W).length = 1 from rfl)]
  unfold t_Hearer_copy
  simp only [xFld, fldK, asRf_rf, bd_rd, bx_rd, exS_rd, bd_wr, bx_wr, exS_wr, pIntB_b, xParW3, parW3a, parW3b, parW3c, dictW_c, pLtA_i, pSumT, pSumL, xwD, xwO, datK, ownK, capN, capC, ygT3c, opK2, opK, chK4, chK3, chK2, chK, unK, andK, orK, notK, andVK2, andVK, notVK2, notVK, ifVK, ifTK, consK2, consK, tupK, lstK, fzK, cbK, isiK, drpK, retK, ifSK, setK, setOK, nxK, asgK, parK, appK, wcK, wdK, callK, forK, lcK, raiseK, bodyX, startE, xSeq, sqF, xNext, xIfS, xRet, xSet, xSetO, xDrop, xAsg, ygT_t, ygsC, ygsN, ygN, xPar, xAppend, xFrz, xVar, xC, xOp, xUn, pNeg_i, xTest, asB_b, xAnd, xOr, xNot, xAndV, xNotV, xIf, xIfT, xChain, xNil, xCons, xTup, xLst, xFz, xCall, rOfT_d, rOfT_o, rOfT_c, rOwT_o, ywNil, ywDat, ywVar, xCB, xIsi, asI_i, xLenS, xFor, ziL, itT_t, itL_l, ziR1, ziET, enT_t, enL_l, xLc, noOwnB, wipeE, xYes, xRaise, pAdd_i, pAdd_t, pAdd_l, pSub_i, pLt_i, pLe_i, pGt_i, pGe_i, pIs_n, pIsNot_n, pIsB_b, pNotB_b, isN_n, isN_b, isN_i, isN_s, isN_t, isN_l, pIx_t, pIx_l, pLen_t, pLen_l, pMin2_i, pMax2_i, pAbs_i, pInt_i, pTuple_t, pTuple_l, pList_t, pList_l, pIadd_i, pSl_t, pSl_l, pEqI, pNeI, pEqS, pNeS, at0, at1, at2, at3, at4, at5, at6, at7, bx_ret, bx_exc, bx_fail, bd_ret, bd_exc, bd_fail, exS_ret, exS_exc, exS_fail, ofO_some, ofO_none, fnE, isi_T, isi_B, isi_I, isi_S, isi_L, sizeL, Option.bind_some, Option.map_some, Option.some.injEq, Int.reduceEq, Int.reduceLE, Int.reduceLT, Int.reduceNeg, Int.reduceAdd, Int.reduceSub, Int.reduceMul, decide_true, decide_false, decide_eq_true_eq, decide_not, eq_self, Int.cast_ofNat_Int, reduceCtorEq, List.length_cons, List.length_nil, List.map_cons, List.map_nil, List.replicate, List.cons_append, List.nil_append, List.append_nil, List.getElem?_cons_zero, List.getElem?_cons_succ, List.getElem?_nil, List.set_cons_zero, List.set_cons_succ, Nat.reduceAdd, Nat.reduceSub, Nat.reduceEqDiff, Nat.reduceLeDiff, Nat.reduceLT, Nat.zero_add, Nat.add_zero, true_and, and_true, false_and, and_false, Bool.not_true, Bool.not_false, Bool.true_and, Bool.and_true, Bool.false_and, Bool.and_false, Bool.or_false, Bool.false_or, Bool.or_true, Bool.true_or, Bool.not_eq_true', if_true, if_false, Bool.false_eq_true, Bool.not_eq_true, ↓reduceIte, ite_true, ite_false, Bool.true_eq_false, not_true_eq_false, not_false_eq_true, Nat.zero_le]
  refine (At.bd (At.bx (At.bd (At.exS e1)))).trans ?_
  simp only [exS_nw, bd_nw, bx_nw, exS_wr, bd_wr, bx_wr, xFld, fldK, asRf_rf, bd_rd, bx_rd, exS_rd, bd_wr, bx_wr, exS_wr, pIntB_b, xParW3, parW3a, parW3b, parW3c, dictW_c, pLtA_i, pSumT, pSumL, xwD, xwO, datK, ownK, capN, capC, ygT3c, opK2, opK, chK4, chK3, chK2, chK, unK, andK, orK, notK, andVK2, andVK, notVK2, notVK, ifVK, ifTK, consK2, consK, tupK, lstK, fzK, cbK, isiK, drpK, retK, ifSK, setK, setOK, nxK, asgK, parK, appK, wcK, wdK, callK, forK, lcK, raiseK, bodyX, startE, xSeq, sqF, xNext, xIfS, xRet, xSet, xSetO, xDrop, xAsg, ygT_t, ygsC, ygsN, ygN, xPar, xAppend, xFrz, xVar, xC, xOp, xUn, pNeg_i, xTest, asB_b, xAnd, xOr, xNot, xAndV, xNotV, xIf, xIfT, xChain, xNil, xCons, xTup, xLst, xFz, xCall, rOfT_d, rOfT_o, rOfT_c, rOwT_o, ywNil, ywDat, ywVar, xCB, xIsi, asI_i, xLenS, xFor, ziL, itT_t, itL_l, ziR1, ziET, enT_t, enL_l, xLc, noOwnB, wipeE, xYes, xRaise, pAdd_i, pAdd_t, pAdd_l, pSub_i, pLt_i, pLe_i, pGt_i, pGe_i, pIs_n, pIsNot_n, pIsB_b, pNotB_b, isN_n, isN_b, isN_i, isN_s, isN_t, isN_l, pIx_t, pIx_l, pLen_t, pLen_l, pMin2_i, pMax2_i, pAbs_i, pInt_i, pTuple_t, pTuple_l, pList_t, pList_l, pIadd_i, pSl_t, pSl_l, pEqI, pNeI, pEqS, pNeS, at0, at1, at2, at3, at4, at5, at6, at7, bx_ret, bx_exc, bx_fail, bd_ret, bd_exc, bd_fail, exS_ret, exS_exc, exS_fail, ofO_some, ofO_none, fnE, isi_T, isi_B, isi_I, isi_S, isi_L, sizeL, Option.bind_some, Option.map_some, Option.some.injEq, Int.reduceEq, Int.reduceLE, Int.reduceLT, Int.reduceNeg, Int.reduceAdd, Int.reduceSub, Int.reduceMul, decide_true, decide_false, decide_eq_true_eq, decide_not, eq_self, Int.cast_ofNat_Int, reduceCtorEq, List.length_cons, List.length_nil, List.map_cons, List.map_nil, List.replicate, List.cons_append, List.nil_append, List.append_nil, List.getElem?_cons_zero, List.getElem?_cons_succ, List.getElem?_nil, List.set_cons_zero, List.set_cons_succ, Nat.reduceAdd, Nat.reduceSub, Nat.reduceEqDiff, Nat.reduceLeDiff, Nat.reduceLT, Nat.zero_add, Nat.add_zero, true_and, and_true, false_and, and_false, Bool.not_true, Bool.not_false, Bool.true_and, Bool.and_true, Bool.false_and, Bool.and_false, Bool.or_false, Bool.false_or, Bool.or_true, Bool.true_or, Bool.not_eq_true', if_true, if_false, Bool.false_eq_true, Bool.not_eq_true, ↓reduceIte, ite_true, ite_false, Bool.true_eq_false, not_true_eq_false, not_false_eq_true, Nat.zero_le]
  refine At.nw fun b hb => At.wr2 ?_
  have ab : a ≠ b := fun e => by rw [← e, ha] at hb; cases hb
  have e2 : At (s.put b (hrC c st 0)) (xSetF "Hearer" "own_many" (xVar 1) (xFld "Hearer" "own_many" (xVar 0)) [some (W.dat (rf a)), some (W.dat (rf b))]) (.wr (s.put b (hrC c st k)) (.ret (.nx [some (W.dat (rf a)), some (W.dat (rf b))]))) := by
    refine at_setP' (d := .int k) ?_ rfl rfl (Nat.le_of_ble_eq_true rfl) rfl
    simp only [xFld, fldK, asRf_rf, bd_rd, bx_rd, exS_rd, bd_wr, bx_wr, exS_wr, pIntB_b, xParW3, parW3a, parW3b, parW3c, dictW_c, pLtA_i, pSumT, pSumL, xwD, xwO, datK, ownK, capN, capC, ygT3c, opK2, opK, chK4, chK3, chK2, chK, unK, andK, orK, notK, andVK2, andVK, notVK2, notVK, ifVK, ifTK, consK2, consK, tupK, lstK, fzK, cbK, isiK, drpK, retK, ifSK, setK, setOK, nxK, asgK, parK, appK, wcK, wdK, callK, forK, lcK, raiseK, bodyX, startE, xSeq, sqF, xNext, xIfS, xRet, xSet, xSetO, xDrop, xAsg, ygT_t, ygsC, ygsN, ygN, xPar, xAppend, xFrz, xVar, xC, xOp, xUn, pNeg_i, xTest, asB_b, xAnd, xOr, xNot, xAndV, xNotV, xIf, xIfT, xChain, xNil, xCons, xTup, xLst, xFz, xCall, rOfT_d, rOfT_o, rOfT_c, rOwT_o, ywNil, ywDat, ywVar, xCB, xIsi, asI_i, xLenS, xFor, ziL, itT_t, itL_l, ziR1, ziET, enT_t, enL_l, xLc, noOwnB, wipeE, xYes, xRaise, pAdd_i, pAdd_t, pAdd_l, pSub_i, pLt_i, pLe_i, pGt_i, pGe_i, pIs_n, pIsNot_n, pIsB_b, pNotB_b, isN_n, isN_b, isN_i, isN_s, isN_t, isN_l, pIx_t, pIx_l, pLen_t, pLen_l, pMin2_i, pMax2_i, pAbs_i, pInt_i, pTuple_t, pTuple_l, pList_t, pList_l, pIadd_i, pSl_t, pSl_l, pEqI, pNeI, pEqS, pNeS, at0, at1, at2, at3, at4, at5, at6, at7, bx_ret, bx_exc, bx_fail, bd_ret, bd_exc, bd_fail, exS_ret, exS_exc, exS_fail, ofO_some, ofO_none, fnE, isi_T, isi_B, isi_I, isi_S, isi_L, sizeL, Option.bind_some, Option.map_some, Option.some.injEq, Int.reduceEq, Int.reduceLE, Int.reduceLT, Int.reduceNeg, Int.reduceAdd, Int.reduceSub, Int.reduceMul, decide_true, decide_false, decide_eq_true_eq, decide_not, eq_self, Int.cast_ofNat_Int, reduceCtorEq, List.length_cons, List.length_nil, List.map_cons, List.map_nil, List.replicate, List.cons_append, List.nil_append, List.append_nil, List.getElem?_cons_zero, List.getElem?_cons_succ, List.getElem?_nil, List.set_cons_zero, List.set_cons_succ, Nat.reduceAdd, Nat.reduceSub, Nat.reduceEqDiff, Nat.reduceLeDiff, Nat.reduceLT, Nat.zero_add, Nat.add_zero, true_and, and_true, false_and, and_false, Bool.not_true, Bool.not_false, Bool.true_and, Bool.and_true, Bool.false_and, Bool.and_false, Bool.or_false, Bool.false_or, Bool.or_true, Bool.true_or, Bool.not_eq_true', if_true, if_false, Bool.false_eq_true, Bool.not_eq_true, ↓reduceIte, ite_true, ite_false, Bool.true_eq_false, not_true_eq_false, not_false_eq_true, Nat.zero_le]
    refine At.rd ?_
    simp only [put_ne ab, ha, hr_f3, xFld, fldK, asRf_rf, bd_rd, bx_rd, exS_rd, bd_wr, bx_wr, exS_wr, pIntB_b, xParW3, parW3a, parW3b, parW3c, dictW_c, pLtA_i, pSumT, pSumL, xwD, xwO, datK, ownK, capN, capC, ygT3c, opK2, opK, chK4, chK3, chK2, chK, unK, andK, orK, notK, andVK2, andVK, notVK2, notVK, ifVK, ifTK, consK2, consK, tupK, lstK, fzK, cbK, isiK, drpK, retK, ifSK, setK, setOK, nxK, asgK, parK, appK, wcK, wdK, callK, forK, lcK, raiseK, bodyX, startE, xSeq, sqF, xNext, xIfS, xRet, xSet, xSetO, xDrop, xAsg, ygT_t, ygsC, ygsN, ygN, xPar, xAppend, xFrz, xVar, xC, xOp, xUn, pNeg_i, xTest, asB_b, xAnd, xOr, xNot, xAndV, xNotV, xIf, xIfT, xChain, xNil, xCons, xTup, xLst, xFz, xCall, rOfT_d, rOfT_o, rOfT_c, rOwT_o, ywNil, ywDat, ywVar, xCB, xIsi, asI_i, xLenS, xFor, ziL, itT_t, itL_l, ziR1, ziET, enT_t, enL_l, xLc, noOwnB, wipeE, xYes, xRaise, pAdd_i, pAdd_t, pAdd_l, pSub_i, pLt_i, pLe_i, pGt_i, pGe_i, pIs_n, pIsNot_n, pIsB_b, pNotB_b, isN_n, isN_b, isN_i, isN_s, isN_t, isN_l, pIx_t, pIx_l, pLen_t, pLen_l, pMin2_i, pMax2_i, pAbs_i, pInt_i, pTuple_t, pTuple_l, pList_t, pList_l, pIadd_i, pSl_t, pSl_l, pEqI, pNeI, pEqS, pNeS, at0, at1, at2, at3, at4, at5, at6, at7, bx_ret, bx_exc, bx_fail, bd_ret, bd_exc, bd_fail, exS_ret, exS_exc, exS_fail, ofO_some, ofO_none, fnE, isi_T, isi_B, isi_I, isi_S, isi_L, sizeL, Option.bind_some, Option.map_some, Option.some.injEq, Int.reduceEq, Int.reduceLE, Int.reduceLT, Int.reduceNeg, Int.reduceAdd, Int.reduceSub, Int.reduceMul, decide_true, decide_false, decide_eq_true_eq, decide_not, eq_self, Int.cast_ofNat_Int, reduceCtorEq, List.length_cons, List.length_nil, List.map_cons, List.map_nil, List.replicate, List.cons_append, List.nil_append, List.append_nil, List.getElem?_cons_zero, List.getElem?_cons_succ, List.getElem?_nil, List.set_cons_zero, List.set_cons_succ, Nat.reduceAdd, Nat.reduceSub, Nat.reduceEqDiff, Nat.reduceLeDiff, Nat.reduceLT, Nat.zero_add, Nat.add_zero, true_and, and_true, false_and, and_false, Bool.not_true, Bool.not_false, Bool.true_and, Bool.and_true, Bool.false_and, Bool.and_false, Bool.or_false, Bool.false_or, Bool.or_true, Bool.true_or, Bool.not_eq_true', if_true, if_false, Bool.false_eq_true, Bool.not_eq_true, ↓reduceIte, ite_true, ite_false, Bool.true_eq_false, not_true_eq_false, not_false_eq_true, Nat.zero_le]
    exact .refl
  refine (At.bd (At.bx (At.bd e2))).trans ?_
  simp only [bd_wr, bx_wr, xFld, fldK, asRf_rf, bd_rd, bx_rd, exS_rd, bd_wr, bx_wr, exS_wr, pIntB_b, xParW3, parW3a, parW3b, parW3c, dictW_c, pLtA_i, pSumT, pSumL, xwD, xwO, datK, ownK, capN, capC, ygT3c, opK2, opK, chK4, chK3, chK2, chK, unK, andK, orK, notK, andVK2, andVK, notVK2, notVK, ifVK, ifTK, consK2, consK, tupK, lstK, fzK, cbK, isiK, drpK, retK, ifSK, setK, setOK, nxK, asgK, parK, appK, wcK, wdK, callK, forK, lcK, raiseK, bodyX, startE, xSeq, sqF, xNext, xIfS, xRet, xSet, xSetO, xDrop, xAsg, ygT_t, ygsC, ygsN, ygN, xPar, xAppend, xFrz, xVar, xC, xOp, xUn, pNeg_i, xTest, asB_b, xAnd, xOr, xNot, xAndV, xNotV, xIf, xIfT, xChain, xNil, xCons, xTup, xLst, xFz, xCall, rOfT_d, rOfT_o, rOfT_c, rOwT_o, ywNil, ywDat, ywVar, xCB, xIsi, asI_i, xLenS, xFor, ziL, itT_t, itL_l, ziR1, ziET, enT_t, enL_l, xLc, noOwnB, wipeE, xYes, xRaise, pAdd_i, pAdd_t, pAdd_l, pSub_i, pLt_i, pLe_i, pGt_i, pGe_i, pIs_n, pIsNot_n, pIsB_b, pNotB_b, isN_n, isN_b, isN_i, isN_s, isN_t, isN_l, pIx_t, pIx_l, pLen_t, pLen_l, pMin2_i, pMax2_i, pAbs_i, pInt_i, pTuple_t, pTuple_l, pList_t, pList_l, pIadd_i, pSl_t, pSl_l, pEqI, pNeI, pEqS, pNeS, at0, at1, at2, at3, at4, at5, at6, at7, bx_ret, bx_exc, bx_fail, bd_ret, bd_exc, bd_fail, exS_ret, exS_exc, exS_fail, ofO_some, ofO_none, fnE, isi_T, isi_B, isi_I, isi_S, isi_L, sizeL, Option.bind_some, Option.map_some, Option.some.injEq, Int.reduceEq, Int.reduceLE, Int.reduceLT, Int.reduceNeg, Int.reduceAdd, Int.reduceSub, Int.reduceMul, decide_true, decide_false, decide_eq_true_eq, decide_not, eq_self, Int.cast_ofNat_Int, reduceCtorEq, List.length_cons, List.length_nil, List.map_cons, List.map_nil, List.replicate, List.cons_append, List.nil_append, List.append_nil, List.getElem?_cons_zero, List.getElem?_cons_succ, List.getElem?_nil, List.set_cons_zero, List.set_cons_succ, Nat.reduceAdd, Nat.reduceSub, Nat.reduceEqDiff, Nat.reduceLeDiff, Nat.reduceLT, Nat.zero_add, Nat.add_zero, true_and, and_true, false_and, and_false, Bool.not_true, Bool.not_false, Bool.true_and, Bool.and_true, Bool.false_and, Bool.and_false, Bool.or_false, Bool.false_or, Bool.or_true, Bool.true_or, Bool.not_eq_true', if_true, if_false, Bool.false_eq_true, Bool.not_eq_true, ↓reduceIte, ite_true, ite_false, Bool.true_eq_false, not_true_eq_false, not_false_eq_true, Nat.zero_le]
  exact .refl
end
end LW


set_option maxRecDepth 100000
set_option maxHeartbeats 1000000
namespace LW
open PySem PySem.Spec PyProof.Rows L2 VL
section
variable {s : Sto} {ρ : Nv} {te ta tb : XT} {b1 b2 : XB} {d e : Dt}
theorem at_test {b : Bool} (h : At s (te ρ) (.ret (.bool b))) : At s (xTest te ρ) (.ret b) := by
  unfold xTest
  exact (At.bd h).trans .refl
theorem at_not {b : Bool} (h : At s (b1 ρ) (.ret b)) : At s (xNot b1 ρ) (.ret (!b)) := by
  unfold xNot
  exact (At.bd h).trans .refl
theorem at_orF {v : T Bool} (h : At s (b1 ρ) (.ret false)) (h2 : At s (b2 ρ) v) : At s (xOr b1 b2 ρ) v := by
  unfold xOr
  refine (At.bd h).trans ?_
  rw [bd_ret]
  unfold orK
  rw [if_neg (by decide)]
  exact h2
theorem at_if {b : Bool} {t u : XS} (h : At s (b1 ρ) (.ret b)) : At s (xIfS b1 t u ρ) (if b = true then t ρ else u ρ) := by
  unfold xIfS
  exact (At.exS h).trans .refl
/-- a test of what a hearer stands at -/
theorem at_st {c : Cd} {st : Int × Int} {k : Int} {a : Addr} {t0 t1 t2 : XT} (h : c.Ok) (hs : c.St st) (hk : k.natAbs < 10 ^ 12) (ha : s a = some (hrC c st k)) (e0 : t0 ρ = .ret (rf a)) (e1 : t1 ρ = .ret (stD st)) (e2 : t2 ρ = .ret (.int k)) : At s (xNot (xTest (xCall w__law_stands [] (ywDat t0 (ywDat t1 (ywDat t2 ywNil))))) ρ) (.ret false) := by
  refine at_not (b := true) (at_test ?_)
  have e3 : xCall w__law_stands [] (ywDat t0 (ywDat t1 (ywDat t2 ywNil))) ρ = bd (w__law_stands [.dat (rf a), .dat (stD st), .dat (.int k)]) rOfT := by
    simp only [e0, e1, e2, xFld, fldK, asRf_rf, bd_rd, bx_rd, exS_rd, bd_wr, bx_wr, exS_wr, pIntB_b, xParW3, parW3a, parW3b, parW3c, dictW_c, pLtA_i, pSumT, pSumL, xwD, xwO, datK, ownK, capN, capC, ygT3c, opK2, opK, chK4, chK3, chK2, chK, unK, andK, orK, notK, andVK2, andVK, notVK2, notVK, ifVK, ifTK, consK2, consK, tupK, lstK, fzK, cbK, isiK, drpK, retK, ifSK, setK, setOK, nxK, asgK, parK, appK, wcK, wdK, callK, forK, lcK, raiseK, bodyX, startE, xSeq, sqF, xNext, xIfS, xRet, xSet, xSetO, xDrop, xAsg, ygT_t, ygsC, ygsN, ygN, xPar, xAppend, xFrz, xVar, xC, xOp, xUn, pNeg_i, xTest, asB_b, xAnd, xOr, xNot, xAndV, xNotV, xIf, xIfT, xChain, xNil, xCons, xTup, xLst, xFz, xCall, rOfT_d, rOfT_o, rOfT_c, rOwT_o, ywNil, ywDat, ywVar, xCB, xIsi, asI_i, xLenS, xFor, ziL, itT_t, itL_l, ziR1, ziET, enT_t, enL_l, xLc, noOwnB, wipeE, xYes, xRaise, pAdd_i, pAdd_t, pAdd_l, pSub_i, pLt_i, pLe_i, pGt_i, pGe_i, pIs_n, pIsNot_n, pIsB_b, pNotB_b, isN_n, isN_b, isN_i, isN_s, isN_t, isN_l, pIx_t, pIx_l, pLen_t, pLen_l, pMin2_i, pMax2_i, pAbs_i, pInt_i, pTuple_t, pTuple_l, pList_t, pList_l, pIadd_i, pSl_t, pSl_l, pEqI, pNeI, pEqS, pNeS, at0, at1, at2, at3, at4, at5, at6, at7, bx_ret, bx_exc, bx_fail, bd_ret, bd_exc, bd_fail, exS_ret, exS_exc, exS_fail, ofO_some, ofO_none, fnE, isi_T, isi_B, isi_I, isi_S, isi_L, sizeL, Option.bind_some, Option.map_some, Option.some.injEq, Int.reduceEq, Int.reduceLE, Int.reduceLT, Int.reduceNeg, Int.reduceAdd, Int.reduceSub, Int.reduceMul, decide_true, decide_false, decide_eq_true_eq, decide_not, eq_self, Int.cast_ofNat_Int, reduceCtorEq, List.length_cons, List.length_nil, List.map_cons, List.map_nil, List.replicate, List.cons_append, List.nil_append, List.append_nil, List.getElem?_cons_zero, List.getElem?_cons_succ, List.getElem?_nil, List.set_cons_zero, List.set_cons_succ, Nat.reduceAdd, Nat.reduceSub, Nat.reduceEqDiff, Nat.reduceLeDiff, Nat.reduceLT, Nat.zero_add, Nat.add_zero, true_and, and_true, false_and, and_false, Bool.not_true, Bool.not_false, Bool.true_and, Bool.and_true, Bool.false_and, Bool.and_false, Bool.or_false, Bool.false_or, Bool.or_true, Bool.true_or, Bool.not_eq_true', if_true, if_false, Bool.false_eq_true, Bool.not_eq_true, ↓reduceIte, ite_true, ite_false, Bool.true_eq_false, not_true_eq_false, not_false_eq_true, Nat.zero_le]
  rw [e3]
  exact hr_stands h hs hk ha
theorem Dz.set {k i : Nat} {u : XS} {R : Fl → Sto → Prop} (d : Dt) (e : te ρ = .ret d) (hu : Dz k (u (ρ.set i (some (.dat d)))) s R) : Dz k (xSeq (xSet i te) u ρ) s R := by
  refine Dz.step (ρ' := ρ.set i (some (.dat d))) ?_ hu
  unfold xSet setK
  rw [e, exS_ret]
end
/-! the hearers kept -/
abbrev Kp := List (Addr × (Int × Int) × Int)
abbrev Kp.d (ks : Kp) : List Dt := ks.map fun e => .tuple [rf e.1, stD e.2.1, .int e.2.2]
theorem Kp.d_add {ks : Kp} {t : Addr} {q : Int × Int} {m : Int} : Kp.d (ks ++ [(t, q, m)]) = Kp.d ks ++ [.tuple [rf t, stD q, .int m]] := by simp
def KOk (c : Cd) (s : Sto) (ks : Kp) : Prop := ∀ e ∈ ks, s e.1 = some (hrC c e.2.1 e.2.2) ∧ c.St e.2.1 ∧ 0 ≤ e.2.2 ∧ e.2.2 ≤ 40
structure Inv (c : Cd) (s : Sto) (a b : Addr) (st : Int × Int) (k : Int) (ks : Kp) : Prop where
  ha : s a = some (hrC c st k)
  hb : s b = some (hrC c (0, 0) 0)
  ko : KOk c s ks
  nd : (a :: b :: ks.map (·.1)).Nodup
  hs : c.St st
  k0 : 0 ≤ k
theorem Inv.put {c : Cd} {s : Sto} {a b : Addr} {st st2 : Int × Int} {k k2 : Int} {ks : Kp} (I : Inv c s a b st k ks) (h : c.St st2) (h0 : 0 ≤ k2) : Inv c (s.put a (hrC c st2 k2)) a b st2 k2 ks := by
  have nd := I.nd
  rw [List.nodup_cons] at nd
  refine ⟨put_same, ?_, fun e he => ?_, I.nd, h, h0⟩
  · rw [put_ne fun q => nd.1 (by rw [q]; exact List.mem_cons_self ..)]; exact I.hb
  · obtain ⟨q1, q2⟩ := I.ko e he
    refine ⟨?_, q2⟩
    rw [put_ne fun q => nd.1 (by rw [← q]; exact List.mem_cons_of_mem _ (List.mem_map.mpr ⟨e, he, rfl⟩))]
    exact q1
theorem Inv.add {c : Cd} {s : Sto} {a b t : Addr} {st : Int × Int} {k : Int} {ks : Kp} (I : Inv c s a b st k ks) (ht : s t = none) (h1 : k ≤ 40) : Inv c (s.put t (hrC c st k)) a b st k (ks ++ [(t, st, k)]) := by
  have na : a ≠ t := fun e => by have := I.ha; rw [e, ht] at this; cases this
  have nb : b ≠ t := fun e => by have := I.hb; rw [e, ht] at this; cases this
  have nk : ∀ e ∈ ks, e.1 ≠ t := fun e he q => by have := (I.ko e he).1; rw [q, ht] at this; cases this
  refine ⟨by rw [put_ne na]; exact I.ha, by rw [put_ne nb]; exact I.hb, fun e he => ?_, ?_, I.hs, I.k0⟩
  · rcases List.mem_append.mp he with he | he
    · obtain ⟨q1, q2⟩ := I.ko e he
      exact ⟨by rw [put_ne (nk e he)]; exact q1, q2⟩
    · rw [List.mem_singleton] at he
      subst he
      exact ⟨put_same, I.hs, I.k0, h1⟩
  · have e : a :: b :: (ks ++ [(t, st, k)]).map (·.1) = (a :: b :: ks.map (·.1)) ++ [t] := by simp
    rw [e]
    refine List.nodup_append.mpr ⟨I.nd, by simp, fun x hx y hy => ?_⟩
    rw [List.mem_singleton] at hy
    subst hy
    rcases List.mem_cons.mp hx with rfl | hx
    · exact na
    rcases List.mem_cons.mp hx with rfl | hx
    · exact nb
    obtain ⟨e, he, rfl⟩ := List.mem_map.mp hx
    exact nk e he
/-- the first one kept hears a code -/
theorem Inv.rest {c : Cd} {s : Sto} {a b t : Addr} {st st2 q : Int × Int} {k k2 m : Int} {ks : Kp} (I : Inv c s a b st k ((t, q, m) :: ks)) : Inv c (s.put t (hrC c st2 k2)) a b st k ks := by
  have nd := I.nd
  simp only [List.map_cons, List.nodup_cons, List.mem_cons, not_or] at nd
  refine ⟨by rw [put_ne nd.1.2.1]; exact I.ha, by rw [put_ne nd.2.1.1]; exact I.hb, fun e he => ?_, ?_, I.hs, I.k0⟩
  · obtain ⟨q1, q2⟩ := I.ko e (List.mem_cons_of_mem _ he)
    refine ⟨?_, q2⟩
    rw [put_ne fun q => nd.2.2.1 (by rw [← q]; exact List.mem_map.mpr ⟨e, he, rfl⟩)]
    exact q1
  · simp only [List.nodup_cons, List.mem_cons, not_or]
    exact ⟨⟨nd.1.1, nd.1.2.2⟩, nd.2.1.2, nd.2.2.2⟩
end LW


set_option maxRecDepth 100000
set_option maxHeartbeats 1000000
namespace LW
open PySem PySem.Spec PyProof.Rows L2 VL
theorem d_one {c : Cd} {s : Sto} {a b : Addr} {st : Int × Int} {k : Int} {ks : Kp} (ns : List Int) (x2 x9 x10 x11 x12 x13 x14 : Option VL.W) (h : c.Ok) (I : Inv c s a b st k ks) (hk : k ≤ 39) (hl : ks.length ≤ 39) :
    Dz 3 (b_law_0 [(some (.scr ns)), some .tok, (x2), some (.dat (c.d)), some (.dat (stD (st))), some (.dat (.int (k))), some (.dat (rf a)), some (.dat (rf b)), some (.own (Kp.d ks)), (x9), (x10), (x11), (x12), (x13), (x14)]) s (fun f s' => ∃ st2 k2 ks2 y10 y11, f = .nx [(some (.scr ns)), some .tok, (x2), some (.dat (c.d)), some (.dat (stD (st2))), some (.dat (.int (k2))), some (.dat (rf a)), some (.dat (rf b)), some (.own (Kp.d ks2)), (x9), (y10), (y11), (x12), (x13), (x14)] ∧ Inv c s' a b st2 k2 ks2 ∧ k2 ≤ k + 1 ∧ ks2.length ≤ ks.length + 1) := by
  have m0 := h.m0; have m1 := h.m1; have k0 := I.k0
  unfold b_law_0
  refine Dz.le (k := 1 + (2 + 0)) ?_ (by decide)
  refine Dz.seqD (J := fun ρ => ∃ q : Int, 0 ≤ q ∧ ρ = [(some (.scr ns)), some .tok, (x2), some (.dat (c.d)), some (.dat (stD (st))), some (.dat (.int (k))), some (.dat (rf a)), some (.dat (rf b)), some (.own (Kp.d ks)), (x9), some (.dat (.int (q))), (x11), (x12), (x13), (x14)]) 1 _ ?_ ?_
  · simp only [r_draw, bx_draw, bd_draw, exS_draw, xFld, fldK, asRf_rf, bd_rd, bx_rd, exS_rd, bd_wr, bx_wr, exS_wr, pIntB_b, xParW3, parW3a, parW3b, parW3c, dictW_c, pLtA_i, pSumT, pSumL, xwD, xwO, datK, ownK, capN, capC, ygT3c, opK2, opK, chK4, chK3, chK2, chK, unK, andK, orK, notK, andVK2, andVK, notVK2, notVK, ifVK, ifTK, consK2, consK, tupK, lstK, fzK, cbK, isiK, drpK, retK, ifSK, setK, setOK, nxK, asgK, parK, appK, wcK, wdK, callK, forK, lcK, raiseK, bodyX, startE, xSeq, sqF, xNext, xIfS, xRet, xSet, xSetO, xDrop, xAsg, ygT_t, ygsC, ygsN, ygN, xPar, xAppend, xFrz, xVar, xC, xOp, xUn, pNeg_i, xTest, asB_b, xAnd, xOr, xNot, xAndV, xNotV, xIf, xIfT, xChain, xNil, xCons, xTup, xLst, xFz, xCall, rOfT_d, rOfT_o, rOfT_c, rOwT_o, ywNil, ywDat, ywVar, xCB, xIsi, asI_i, xLenS, xFor, ziL, itT_t, itL_l, ziR1, ziET, enT_t, enL_l, xLc, noOwnB, wipeE, xYes, xRaise, pAdd_i, pAdd_t, pAdd_l, pSub_i, pLt_i, pLe_i, pGt_i, pGe_i, pIs_n, pIsNot_n, pIsB_b, pNotB_b, isN_n, isN_b, isN_i, isN_s, isN_t, isN_l, pIx_t, pIx_l, pLen_t, pLen_l, pMin2_i, pMax2_i, pAbs_i, pInt_i, pTuple_t, pTuple_l, pList_t, pList_l, pIadd_i, pSl_t, pSl_l, pEqI, pNeI, pEqS, pNeS, at0, at1, at2, at3, at4, at5, at6, at7, bx_ret, bx_exc, bx_fail, bd_ret, bd_exc, bd_fail, exS_ret, exS_exc, exS_fail, ofO_some, ofO_none, fnE, isi_T, isi_B, isi_I, isi_S, isi_L, sizeL, Option.bind_some, Option.map_some, Option.some.injEq, Int.reduceEq, Int.reduceLE, Int.reduceLT, Int.reduceNeg, Int.reduceAdd, Int.reduceSub, Int.reduceMul, decide_true, decide_false, decide_eq_true_eq, decide_not, eq_self, Int.cast_ofNat_Int, reduceCtorEq, List.length_cons, List.length_nil, List.map_cons, List.map_nil, List.replicate, List.cons_append, List.nil_append, List.append_nil, List.getElem?_cons_zero, List.getElem?_cons_succ, List.getElem?_nil, List.set_cons_zero, List.set_cons_succ, Nat.reduceAdd, Nat.reduceSub, Nat.reduceEqDiff, Nat.reduceLeDiff, Nat.reduceLT, Nat.zero_add, Nat.add_zero, true_and, and_true, false_and, and_false, Bool.not_true, Bool.not_false, Bool.true_and, Bool.and_true, Bool.false_and, Bool.and_false, Bool.or_false, Bool.false_or, Bool.or_true, Bool.true_or, Bool.not_eq_true', if_true, if_false, Bool.false_eq_true, Bool.not_eq_true, ↓reduceIte, ite_true, ite_false, Bool.true_eq_false, not_true_eq_false, not_false_eq_true, Nat.zero_le]
    refine Dr.draw (by omega) (by omega) fun q q0 q1 => ?_
    try simp only [r_draw, bx_draw, bd_draw, exS_draw, xFld, fldK, asRf_rf, bd_rd, bx_rd, exS_rd, bd_wr, bx_wr, exS_wr, pIntB_b, xParW3, parW3a, parW3b, parW3c, dictW_c, pLtA_i, pSumT, pSumL, xwD, xwO, datK, ownK, capN, capC, ygT3c, opK2, opK, chK4, chK3, chK2, chK, unK, andK, orK, notK, andVK2, andVK, notVK2, notVK, ifVK, ifTK, consK2, consK, tupK, lstK, fzK, cbK, isiK, drpK, retK, ifSK, setK, setOK, nxK, asgK, parK, appK, wcK, wdK, callK, forK, lcK, raiseK, bodyX, startE, xSeq, sqF, xNext, xIfS, xRet, xSet, xSetO, xDrop, xAsg, ygT_t, ygsC, ygsN, ygN, xPar, xAppend, xFrz, xVar, xC, xOp, xUn, pNeg_i, xTest, asB_b, xAnd, xOr, xNot, xAndV, xNotV, xIf, xIfT, xChain, xNil, xCons, xTup, xLst, xFz, xCall, rOfT_d, rOfT_o, rOfT_c, rOwT_o, ywNil, ywDat, ywVar, xCB, xIsi, asI_i, xLenS, xFor, ziL, itT_t, itL_l, ziR1, ziET, enT_t, enL_l, xLc, noOwnB, wipeE, xYes, xRaise, pAdd_i, pAdd_t, pAdd_l, pSub_i, pLt_i, pLe_i, pGt_i, pGe_i, pIs_n, pIsNot_n, pIsB_b, pNotB_b, isN_n, isN_b, isN_i, isN_s, isN_t, isN_l, pIx_t, pIx_l, pLen_t, pLen_l, pMin2_i, pMax2_i, pAbs_i, pInt_i, pTuple_t, pTuple_l, pList_t, pList_l, pIadd_i, pSl_t, pSl_l, pEqI, pNeI, pEqS, pNeS, at0, at1, at2, at3, at4, at5, at6, at7, bx_ret, bx_exc, bx_fail, bd_ret, bd_exc, bd_fail, exS_ret, exS_exc, exS_fail, ofO_some, ofO_none, fnE, isi_T, isi_B, isi_I, isi_S, isi_L, sizeL, Option.bind_some, Option.map_some, Option.some.injEq, Int.reduceEq, Int.reduceLE, Int.reduceLT, Int.reduceNeg, Int.reduceAdd, Int.reduceSub, Int.reduceMul, decide_true, decide_false, decide_eq_true_eq, decide_not, eq_self, Int.cast_ofNat_Int, reduceCtorEq, List.length_cons, List.length_nil, List.map_cons, List.map_nil, List.replicate, List.cons_append, List.nil_append, List.append_nil, List.getElem?_cons_zero, List.getElem?_cons_succ, List.getElem?_nil, List.set_cons_zero, List.set_cons_succ, Nat.reduceAdd, Nat.reduceSub, Nat.reduceEqDiff, Nat.reduceLeDiff, Nat.reduceLT, Nat.zero_add, Nat.add_zero, true_and, and_true, false_and, and_false, Bool.not_true, Bool.not_false, Bool.true_and, Bool.and_true, Bool.false_and, Bool.and_false, Bool.or_false, Bool.false_or, Bool.or_true, Bool.true_or, Bool.not_eq_true', if_true, if_false, Bool.false_eq_true, Bool.not_eq_true, ↓reduceIte, ite_true, ite_false, Bool.true_eq_false, not_true_eq_false, not_false_eq_true, Nat.zero_le]
    exact Dr.ret ⟨_, rfl, q, q0, rfl⟩
  rintro ρ ⟨q, q0, rfl⟩
  refine Dz.seq (J := fun ρ s' => ∃ st2 k2 ks2 y11, Inv c s' a b st2 k2 ks2 ∧ k2 ≤ k + 1 ∧ ks2.length ≤ ks.length + 1 ∧ ρ = [(some (.scr ns)), some .tok, (x2), some (.dat (c.d)), some (.dat (stD (st2))), some (.dat (.int (k2))), some (.dat (rf a)), some (.dat (rf b)), some (.own (Kp.d ks2)), (x9), some (.dat (.int (q))), (y11), (x12), (x13), (x14)]) 2 0 ?_ ?_
  · by_cases e0 : q = 0
    · subst e0
      refine Dz.at (at_if (b := true) (.eq (by simp only [xFld, fldK, asRf_rf, bd_rd, bx_rd, exS_rd, bd_wr, bx_wr, exS_wr, pIntB_b, xParW3, parW3a, parW3b, parW3c, dictW_c, pLtA_i, pSumT, pSumL, xwD, xwO, datK, ownK, capN, capC, ygT3c, opK2, opK, chK4, chK3, chK2, chK, unK, andK, orK, notK, andVK2, andVK, notVK2, notVK, ifVK, ifTK, consK2, consK, tupK, lstK, fzK, cbK, isiK, drpK, retK, ifSK, setK, setOK, nxK, asgK, parK, appK, wcK, wdK, callK, forK, lcK, raiseK, bodyX, startE, xSeq, sqF, xNext, xIfS, xRet, xSet, xSetO, xDrop, xAsg, ygT_t, ygsC, ygsN, ygN, xPar, xAppend, xFrz, xVar, xC, xOp, xUn, pNeg_i, xTest, asB_b, xAnd, xOr, xNot, xAndV, xNotV, xIf, xIfT, xChain, xNil, xCons, xTup, xLst, xFz, xCall, rOfT_d, rOfT_o, rOfT_c, rOwT_o, ywNil, ywDat, ywVar, xCB, xIsi, asI_i, xLenS, xFor, ziL, itT_t, itL_l, ziR1, ziET, enT_t, enL_l, xLc, noOwnB, wipeE, xYes, xRaise, pAdd_i, pAdd_t, pAdd_l, pSub_i, pLt_i, pLe_i, pGt_i, pGe_i, pIs_n, pIsNot_n, pIsB_b, pNotB_b, isN_n, isN_b, isN_i, isN_s, isN_t, isN_l, pIx_t, pIx_l, pLen_t, pLen_l, pMin2_i, pMax2_i, pAbs_i, pInt_i, pTuple_t, pTuple_l, pList_t, pList_l, pIadd_i, pSl_t, pSl_l, pEqI, pNeI, pEqS, pNeS, at0, at1, at2, at3, at4, at5, at6, at7, bx_ret, bx_exc, bx_fail, bd_ret, bd_exc, bd_fail, exS_ret, exS_exc, exS_fail, ofO_some, ofO_none, fnE, isi_T, isi_B, isi_I, isi_S, isi_L, sizeL, Option.bind_some, Option.map_some, Option.some.injEq, Int.reduceEq, Int.reduceLE, Int.reduceLT, Int.reduceNeg, Int.reduceAdd, Int.reduceSub, Int.reduceMul, decide_true, decide_false, decide_eq_true_eq, decide_not, eq_self, Int.cast_ofNat_Int, reduceCtorEq, List.length_cons, List.length_nil, List.map_cons, List.map_nil, List.replicate, List.cons_append, List.nil_append, List.append_nil, List.getElem?_cons_zero, List.getElem?_cons_succ, List.getElem?_nil, List.set_cons_zero, List.set_cons_succ, Nat.reduceAdd, Nat.reduceSub, Nat.reduceEqDiff, Nat.reduceLeDiff, Nat.reduceLT, Nat.zero_add, Nat.add_zero, true_and, and_true, false_and, and_false, Bool.not_true, Bool.not_false, Bool.true_and, Bool.and_true, Bool.false_and, Bool.and_false, Bool.or_false, Bool.false_or, Bool.or_true, Bool.true_or, Bool.not_eq_true', if_true, if_false, Bool.false_eq_true, Bool.not_eq_true, ↓reduceIte, ite_true, ite_false, Bool.true_eq_false, not_true_eq_false, not_false_eq_true, Nat.zero_le]))) ?_
      rw [if_pos rfl]
      refine Dz.le (k := 2 + 0) ?_ (by decide)
      refine Dz.seqD (J := fun ρ => ∃ st2 : Int × Int, c.St st2 ∧ ρ = [(some (.scr ns)), some .tok, (x2), some (.dat (c.d)), some (.dat (stD (st2))), some (.dat (.int (k))), some (.dat (rf a)), some (.dat (rf b)), some (.own (Kp.d ks)), (x9), some (.dat (.int (0))), (x11), (x12), (x13), (x14)]) 2 0 ?_ ?_
      · simp only [r_draw, bx_draw, bd_draw, exS_draw, xFld, fldK, asRf_rf, bd_rd, bx_rd, exS_rd, bd_wr, bx_wr, exS_wr, pIntB_b, xParW3, parW3a, parW3b, parW3c, dictW_c, pLtA_i, pSumT, pSumL, xwD, xwO, datK, ownK, capN, capC, ygT3c, opK2, opK, chK4, chK3, chK2, chK, unK, andK, orK, notK, andVK2, andVK, notVK2, notVK, ifVK, ifTK, consK2, consK, tupK, lstK, fzK, cbK, isiK, drpK, retK, ifSK, setK, setOK, nxK, asgK, parK, appK, wcK, wdK, callK, forK, lcK, raiseK, bodyX, startE, xSeq, sqF, xNext, xIfS, xRet, xSet, xSetO, xDrop, xAsg, ygT_t, ygsC, ygsN, ygN, xPar, xAppend, xFrz, xVar, xC, xOp, xUn, pNeg_i, xTest, asB_b, xAnd, xOr, xNot, xAndV, xNotV, xIf, xIfT, xChain, xNil, xCons, xTup, xLst, xFz, xCall, rOfT_d, rOfT_o, rOfT_c, rOwT_o, ywNil, ywDat, ywVar, xCB, xIsi, asI_i, xLenS, xFor, ziL, itT_t, itL_l, ziR1, ziET, enT_t, enL_l, xLc, noOwnB, wipeE, xYes, xRaise, pAdd_i, pAdd_t, pAdd_l, pSub_i, pLt_i, pLe_i, pGt_i, pGe_i, pIs_n, pIsNot_n, pIsB_b, pNotB_b, isN_n, isN_b, isN_i, isN_s, isN_t, isN_l, pIx_t, pIx_l, pLen_t, pLen_l, pMin2_i, pMax2_i, pAbs_i, pInt_i, pTuple_t, pTuple_l, pList_t, pList_l, pIadd_i, pSl_t, pSl_l, pEqI, pNeI, pEqS, pNeS, at0, at1, at2, at3, at4, at5, at6, at7, bx_ret, bx_exc, bx_fail, bd_ret, bd_exc, bd_fail, exS_ret, exS_exc, exS_fail, ofO_some, ofO_none, fnE, isi_T, isi_B, isi_I, isi_S, isi_L, sizeL, Option.bind_some, Option.map_some, Option.some.injEq, Int.reduceEq, Int.reduceLE, Int.reduceLT, Int.reduceNeg, Int.reduceAdd, Int.reduceSub, Int.reduceMul, decide_true, decide_false, decide_eq_true_eq, decide_not, eq_self, Int.cast_ofNat_Int, reduceCtorEq, List.length_cons, List.length_nil, List.map_cons, List.map_nil, List.replicate, List.cons_append, List.nil_append, List.append_nil, List.getElem?_cons_zero, List.getElem?_cons_succ, List.getElem?_nil, List.set_cons_zero, List.set_cons_succ, Nat.reduceAdd, Nat.reduceSub, Nat.reduceEqDiff, Nat.reduceLeDiff, Nat.reduceLT, Nat.zero_add, Nat.add_zero, true_and, and_true, false_and, and_false, Bool.not_true, Bool.not_false, Bool.true_and, Bool.and_true, Bool.false_and, Bool.and_false, Bool.or_false, Bool.false_or, Bool.or_true, Bool.true_or, Bool.not_eq_true', if_true, if_false, Bool.false_eq_true, Bool.not_eq_true, ↓reduceIte, ite_true, ite_false, Bool.true_eq_false, not_true_eq_false, not_false_eq_true, Nat.zero_le]
        refine Dr.le (k := 2 + 0) (Dr.exS (Dr.call (d_some c h)) ?_) (by decide)
        rintro d ⟨st2, rfl, hs2⟩
        exact Dr.ret ⟨_, rfl, st2, hs2, rfl⟩
      rintro ρ ⟨st2, hs2, rfl⟩
      unfold xDrop
      refine Dz.at ((at_meth (a := a) (ws := [.dat (stD st2)]) rfl rfl I.ha rfl rfl).trans (hr_jump hs2 I.ha)).exS ?_
      rw [exS_wr, exS_ret]
      exact Dz.wr (Dz.ret ⟨_, rfl, st2, k, ks, _, I.put hs2 I.k0, by omega, by omega, rfl⟩)
    · have eq0 : pEq (.int q) (.int 0) = some (.bool false) := by
        rw [pEqI, decide_eq_false e0]
      refine Dz.at (at_if (b := false) (.eq (by simp only [eq0, xFld, fldK, asRf_rf, bd_rd, bx_rd, exS_rd, bd_wr, bx_wr, exS_wr, pIntB_b, xParW3, parW3a, parW3b, parW3c, dictW_c, pLtA_i, pSumT, pSumL, xwD, xwO, datK, ownK, capN, capC, ygT3c, opK2, opK, chK4, chK3, chK2, chK, unK, andK, orK, notK, andVK2, andVK, notVK2, notVK, ifVK, ifTK, consK2, consK, tupK, lstK, fzK, cbK, isiK, drpK, retK, ifSK, setK, setOK, nxK, asgK, parK, appK, wcK, wdK, callK, forK, lcK, raiseK, bodyX, startE, xSeq, sqF, xNext, xIfS, xRet, xSet, xSetO, xDrop, xAsg, ygT_t, ygsC, ygsN, ygN, xPar, xAppend, xFrz, xVar, xC, xOp, xUn, pNeg_i, xTest, asB_b, xAnd, xOr, xNot, xAndV, xNotV, xIf, xIfT, xChain, xNil, xCons, xTup, xLst, xFz, xCall, rOfT_d, rOfT_o, rOfT_c, rOwT_o, ywNil, ywDat, ywVar, xCB, xIsi, asI_i, xLenS, xFor, ziL, itT_t, itL_l, ziR1, ziET, enT_t, enL_l, xLc, noOwnB, wipeE, xYes, xRaise, pAdd_i, pAdd_t, pAdd_l, pSub_i, pLt_i, pLe_i, pGt_i, pGe_i, pIs_n, pIsNot_n, pIsB_b, pNotB_b, isN_n, isN_b, isN_i, isN_s, isN_t, isN_l, pIx_t, pIx_l, pLen_t, pLen_l, pMin2_i, pMax2_i, pAbs_i, pInt_i, pTuple_t, pTuple_l, pList_t, pList_l, pIadd_i, pSl_t, pSl_l, pEqI, pNeI, pEqS, pNeS, at0, at1, at2, at3, at4, at5, at6, at7, bx_ret, bx_exc, bx_fail, bd_ret, bd_exc, bd_fail, exS_ret, exS_exc, exS_fail, ofO_some, ofO_none, fnE, isi_T, isi_B, isi_I, isi_S, isi_L, sizeL, Option.bind_some, Option.map_some, Option.some.injEq, Int.reduceEq, Int.reduceLE, Int.reduceLT, Int.reduceNeg, Int.reduceAdd, Int.reduceSub, Int.reduceMul, decide_true, decide_false, decide_eq_true_eq, decide_not, eq_self, Int.cast_ofNat_Int, reduceCtorEq, List.length_cons, List.length_nil, List.map_cons, List.map_nil, List.replicate, List.cons_append, List.nil_append, List.append_nil, List.getElem?_cons_zero, List.getElem?_cons_succ, List.getElem?_nil, List.set_cons_zero, List.set_cons_succ, Nat.reduceAdd, Nat.reduceSub, Nat.reduceEqDiff, Nat.reduceLeDiff, Nat.reduceLT, Nat.zero_add, Nat.add_zero, true_and, and_true, false_and, and_false, Bool.not_true, Bool.not_false, Bool.true_and, Bool.and_true, Bool.false_and, Bool.and_false, Bool.or_false, Bool.false_or, Bool.or_true, Bool.true_or, Bool.not_eq_true', if_true, if_false, Bool.false_eq_true, Bool.not_eq_true, ↓reduceIte, ite_true, ite_false, Bool.true_eq_false, not_true_eq_false, not_false_eq_true, Nat.zero_le]))) ?_
      rw [if_neg (by decide)]
      by_cases e1 : q = 1
      · subst e1
        refine Dz.at (at_if (b := true) (.eq (by simp only [xFld, fldK, asRf_rf, bd_rd, bx_rd, exS_rd, bd_wr, bx_wr, exS_wr, pIntB_b, xParW3, parW3a, parW3b, parW3c, dictW_c, pLtA_i, pSumT, pSumL, xwD, xwO, datK, ownK, capN, capC, ygT3c, opK2, opK, chK4, chK3, chK2, chK, unK, andK, orK, notK, andVK2, andVK, notVK2, notVK, ifVK, ifTK, consK2, consK, tupK, lstK, fzK, cbK, isiK, drpK, retK, ifSK, setK, setOK, nxK, asgK, parK, appK, wcK, wdK, callK, forK, lcK, raiseK, bodyX, startE, xSeq, sqF, xNext, xIfS, xRet, xSet, xSetO, xDrop, xAsg, ygT_t, ygsC, ygsN, ygN, xPar, xAppend, xFrz, xVar, xC, xOp, xUn, pNeg_i, xTest, asB_b, xAnd, xOr, xNot, xAndV, xNotV, xIf, xIfT, xChain, xNil, xCons, xTup, xLst, xFz, xCall, rOfT_d, rOfT_o, rOfT_c, rOwT_o, ywNil, ywDat, ywVar, xCB, xIsi, asI_i, xLenS, xFor, ziL, itT_t, itL_l, ziR1, ziET, enT_t, enL_l, xLc, noOwnB, wipeE, xYes, xRaise, pAdd_i, pAdd_t, pAdd_l, pSub_i, pLt_i, pLe_i, pGt_i, pGe_i, pIs_n, pIsNot_n, pIsB_b, pNotB_b, isN_n, isN_b, isN_i, isN_s, isN_t, isN_l, pIx_t, pIx_l, pLen_t, pLen_l, pMin2_i, pMax2_i, pAbs_i, pInt_i, pTuple_t, pTuple_l, pList_t, pList_l, pIadd_i, pSl_t, pSl_l, pEqI, pNeI, pEqS, pNeS, at0, at1, at2, at3, at4, at5, at6, at7, bx_ret, bx_exc, bx_fail, bd_ret, bd_exc, bd_fail, exS_ret, exS_exc, exS_fail, ofO_some, ofO_none, fnE, isi_T, isi_B, isi_I, isi_S, isi_L, sizeL, Option.bind_some, Option.map_some, Option.some.injEq, Int.reduceEq, Int.reduceLE, Int.reduceLT, Int.reduceNeg, Int.reduceAdd, Int.reduceSub, Int.reduceMul, decide_true, decide_false, decide_eq_true_eq, decide_not, eq_self, Int.cast_ofNat_Int, reduceCtorEq, List.length_cons, List.length_nil, List.map_cons, List.map_nil, List.replicate, List.cons_append, List.nil_append, List.append_nil, List.getElem?_cons_zero, List.getElem?_cons_succ, List.getElem?_nil, List.set_cons_zero, List.set_cons_succ, Nat.reduceAdd, Nat.reduceSub, Nat.reduceEqDiff, Nat.reduceLeDiff, Nat.reduceLT, Nat.zero_add, Nat.add_zero, true_and, and_true, false_and, and_false, Bool.not_true, Bool.not_false, Bool.true_and, Bool.and_true, Bool.false_and, Bool.and_false, Bool.or_false, Bool.false_or, Bool.or_true, Bool.true_or, Bool.not_eq_true', if_true, if_false, Bool.false_eq_true, Bool.not_eq_true, ↓reduceIte, ite_true, ite_false, Bool.true_eq_false, not_true_eq_false, not_false_eq_true, Nat.zero_le]))) ?_
        rw [if_pos rfl]
        refine Dz.le (k := 0) ?_ (by decide)
        have hm : At s (xMeth "Hearer" "copy" w_Hearer_copy (xVar 6) ywNil [(some (.scr ns)), some .tok, (x2), some (.dat (c.d)), some (.dat (stD (st))), some (.dat (.int (k))), some (.dat (rf a)), some (.dat (rf b)), some (.own (Kp.d ks)), (x9), some (.dat (.int (1))), (x11), (x12), (x13), (x14)]) _ := (at_meth (a := a) (ws := []) rfl rfl I.ha rfl rfl).trans (hr_copy h I.hs I.ha)
        show Dz 0 (exS (bd (bd (xMeth "Hearer" "copy" w_Hearer_copy (xVar 6) ywNil [(some (.scr ns)), some .tok, (x2), some (.dat (c.d)), some (.dat (stD (st))), some (.dat (.int (k))), some (.dat (rf a)), some (.dat (rf b)), some (.own (Kp.d ks)), (x9), some (.dat (.int (1))), (x11), (x12), (x13), (x14)]) (consK (xCons (xVar 4) (xCons (xVar 5) xNil)) _)) tupK) _ (appK 8 (Kp.d ks) _)) s _
        refine Dz.at (At.exS (At.bd (At.bd hm))) ?_
        rw [bd_nw, bd_nw, exS_nw]
        refine Dz.nw fun t ht => ?_
        rw [bd_wr, bd_wr, exS_wr]
        refine Dz.wr ?_
        have hl2 : (Kp.d ks).length < 16777216 := by rw [List.length_map]; omega
        generalize hz : Kp.d ks = Z at *
        simp only [hl2, xFld, fldK, asRf_rf, bd_rd, bx_rd, exS_rd, bd_wr, bx_wr, exS_wr, pIntB_b, xParW3, parW3a, parW3b, parW3c, dictW_c, pLtA_i, pSumT, pSumL, xwD, xwO, datK, ownK, capN, capC, ygT3c, opK2, opK, chK4, chK3, chK2, chK, unK, andK, orK, notK, andVK2, andVK, notVK2, notVK, ifVK, ifTK, consK2, consK, tupK, lstK, fzK, cbK, isiK, drpK, retK, ifSK, setK, setOK, nxK, asgK, parK, appK, wcK, wdK, callK, forK, lcK, raiseK, bodyX, startE, xSeq, sqF, xNext, xIfS, xRet, xSet, xSetO, xDrop, xAsg, ygT_t, ygsC, ygsN, ygN, xPar, xAppend, xFrz, xVar, xC, xOp, xUn, pNeg_i, xTest, asB_b, xAnd, xOr, xNot, xAndV, xNotV, xIf, xIfT, xChain, xNil, xCons, xTup, xLst, xFz, xCall, rOfT_d, rOfT_o, rOfT_c, rOwT_o, ywNil, ywDat, ywVar, xCB, xIsi, asI_i, xLenS, xFor, ziL, itT_t, itL_l, ziR1, ziET, enT_t, enL_l, xLc, noOwnB, wipeE, xYes, xRaise, pAdd_i, pAdd_t, pAdd_l, pSub_i, pLt_i, pLe_i, pGt_i, pGe_i, pIs_n, pIsNot_n, pIsB_b, pNotB_b, isN_n, isN_b, isN_i, isN_s, isN_t, isN_l, pIx_t, pIx_l, pLen_t, pLen_l, pMin2_i, pMax2_i, pAbs_i, pInt_i, pTuple_t, pTuple_l, pList_t, pList_l, pIadd_i, pSl_t, pSl_l, pEqI, pNeI, pEqS, pNeS, at0, at1, at2, at3, at4, at5, at6, at7, bx_ret, bx_exc, bx_fail, bd_ret, bd_exc, bd_fail, exS_ret, exS_exc, exS_fail, ofO_some, ofO_none, fnE, isi_T, isi_B, isi_I, isi_S, isi_L, sizeL, Option.bind_some, Option.map_some, Option.some.injEq, Int.reduceEq, Int.reduceLE, Int.reduceLT, Int.reduceNeg, Int.reduceAdd, Int.reduceSub, Int.reduceMul, decide_true, decide_false, decide_eq_true_eq, decide_not, eq_self, Int.cast_ofNat_Int, reduceCtorEq, List.length_cons, List.length_nil, List.map_cons, List.map_nil, List.replicate, List.cons_append, List.nil_append, List.append_nil, List.getElem?_cons_zero, List.getElem?_cons_succ, List.getElem?_nil, List.set_cons_zero, List.set_cons_succ, Nat.reduceAdd, Nat.reduceSub, Nat.reduceEqDiff, Nat.reduceLeDiff, Nat.reduceLT, Nat.zero_add, Nat.add_zero, true_and, and_true, false_and, and_false, Bool.not_true, Bool.not_false, Bool.true_and, Bool.and_true, Bool.false_and, Bool.and_false, Bool.or_false, Bool.false_or, Bool.or_true, Bool.true_or, Bool.not_eq_true', if_true, if_false, Bool.false_eq_true, Bool.not_eq_true, ↓reduceIte, ite_true, ite_false, Bool.true_eq_false, not_true_eq_false, not_false_eq_true, Nat.zero_le]
        exact Dz.ret ⟨_, rfl, st, k, ks ++ [(t, st, k)], _, I.add ht (by omega), by omega, by simp, by rw [Kp.d_add, hz]⟩
      · have eq1 : pEq (.int q) (.int 1) = some (.bool false) := by
          rw [pEqI, decide_eq_false e1]
        refine Dz.at (at_if (b := false) (.eq (by simp only [eq1, xFld, fldK, asRf_rf, bd_rd, bx_rd, exS_rd, bd_wr, bx_wr, exS_wr, pIntB_b, xParW3, parW3a, parW3b, parW3c, dictW_c, pLtA_i, pSumT, pSumL, xwD, xwO, datK, ownK, capN, capC, ygT3c, opK2, opK, chK4, chK3, chK2, chK, unK, andK, orK, notK, andVK2, andVK, notVK2, notVK, ifVK, ifTK, consK2, consK, tupK, lstK, fzK, cbK, isiK, drpK, retK, ifSK, setK, setOK, nxK, asgK, parK, appK, wcK, wdK, callK, forK, lcK, raiseK, bodyX, startE, xSeq, sqF, xNext, xIfS, xRet, xSet, xSetO, xDrop, xAsg, ygT_t, ygsC, ygsN, ygN, xPar, xAppend, xFrz, xVar, xC, xOp, xUn, pNeg_i, xTest, asB_b, xAnd, xOr, xNot, xAndV, xNotV, xIf, xIfT, xChain, xNil, xCons, xTup, xLst, xFz, xCall, rOfT_d, rOfT_o, rOfT_c, rOwT_o, ywNil, ywDat, ywVar, xCB, xIsi, asI_i, xLenS, xFor, ziL, itT_t, itL_l, ziR1, ziET, enT_t, enL_l, xLc, noOwnB, wipeE, xYes, xRaise, pAdd_i, pAdd_t, pAdd_l, pSub_i, pLt_i, pLe_i, pGt_i, pGe_i, pIs_n, pIsNot_n, pIsB_b, pNotB_b, isN_n, isN_b, isN_i, isN_s, isN_t, isN_l, pIx_t, pIx_l, pLen_t, pLen_l, pMin2_i, pMax2_i, pAbs_i, pInt_i, pTuple_t, pTuple_l, pList_t, pList_l, pIadd_i, pSl_t, pSl_l, pEqI, pNeI, pEqS, pNeS, at0, at1, at2, at3, at4, at5, at6, at7, bx_ret, bx_exc, bx_fail, bd_ret, bd_exc, bd_fail, exS_ret, exS_exc, exS_fail, ofO_some, ofO_none, fnE, isi_T, isi_B, isi_I, isi_S, isi_L, sizeL, Option.bind_some, Option.map_some, Option.some.injEq, Int.reduceEq, Int.reduceLE, Int.reduceLT, Int.reduceNeg, Int.reduceAdd, Int.reduceSub, Int.reduceMul, decide_true, decide_false, decide_eq_true_eq, decide_not, eq_self, Int.cast_ofNat_Int, reduceCtorEq, List.length_cons, List.length_nil, List.map_cons, List.map_nil, List.replicate, List.cons_append, List.nil_append, List.append_nil, List.getElem?_cons_zero, List.getElem?_cons_succ, List.getElem?_nil, List.set_cons_zero, List.set_cons_succ, Nat.reduceAdd, Nat.reduceSub, Nat.reduceEqDiff, Nat.reduceLeDiff, Nat.reduceLT, Nat.zero_add, Nat.add_zero, true_and, and_true, false_and, and_false, Bool.not_true, Bool.not_false, Bool.true_and, Bool.and_true, Bool.false_and, Bool.and_false, Bool.or_false, Bool.false_or, Bool.or_true, Bool.true_or, Bool.not_eq_true', if_true, if_false, Bool.false_eq_true, Bool.not_eq_true, ↓reduceIte, ite_true, ite_false, Bool.true_eq_false, not_true_eq_false, not_false_eq_true, Nat.zero_le]))) ?_
        rw [if_neg (by decide)]
        refine Dz.le (k := 1 + 0) ?_ (by decide)
        have lm : ((c.moves.map mvD).length : Int) = (c.moves.length : Int) := by rw [List.length_map]
        refine Dz.seqD (J := fun ρ => ∃ j : Int, (0 ≤ j ∧ j < c.moves.length) ∧ ρ = [(some (.scr ns)), some .tok, (x2), some (.dat (c.d)), some (.dat (stD (st))), some (.dat (.int (k))), some (.dat (rf a)), some (.dat (rf b)), some (.own (Kp.d ks)), (x9), some (.dat (.int (q))), some (.dat (.int (j))), (x12), (x13), (x14)]) 1 0 ?_ ?_
        · simp only [ix3, lm, r_draw, bx_draw, bd_draw, exS_draw, xFld, fldK, asRf_rf, bd_rd, bx_rd, exS_rd, bd_wr, bx_wr, exS_wr, pIntB_b, xParW3, parW3a, parW3b, parW3c, dictW_c, pLtA_i, pSumT, pSumL, xwD, xwO, datK, ownK, capN, capC, ygT3c, opK2, opK, chK4, chK3, chK2, chK, unK, andK, orK, notK, andVK2, andVK, notVK2, notVK, ifVK, ifTK, consK2, consK, tupK, lstK, fzK, cbK, isiK, drpK, retK, ifSK, setK, setOK, nxK, asgK, parK, appK, wcK, wdK, callK, forK, lcK, raiseK, bodyX, startE, xSeq, sqF, xNext, xIfS, xRet, xSet, xSetO, xDrop, xAsg, ygT_t, ygsC, ygsN, ygN, xPar, xAppend, xFrz, xVar, xC, xOp, xUn, pNeg_i, xTest, asB_b, xAnd, xOr, xNot, xAndV, xNotV, xIf, xIfT, xChain, xNil, xCons, xTup, xLst, xFz, xCall, rOfT_d, rOfT_o, rOfT_c, rOwT_o, ywNil, ywDat, ywVar, xCB, xIsi, asI_i, xLenS, xFor, ziL, itT_t, itL_l, ziR1, ziET, enT_t, enL_l, xLc, noOwnB, wipeE, xYes, xRaise, pAdd_i, pAdd_t, pAdd_l, pSub_i, pLt_i, pLe_i, pGt_i, pGe_i, pIs_n, pIsNot_n, pIsB_b, pNotB_b, isN_n, isN_b, isN_i, isN_s, isN_t, isN_l, pIx_t, pIx_l, pLen_t, pLen_l, pMin2_i, pMax2_i, pAbs_i, pInt_i, pTuple_t, pTuple_l, pList_t, pList_l, pIadd_i, pSl_t, pSl_l, pEqI, pNeI, pEqS, pNeS, at0, at1, at2, at3, at4, at5, at6, at7, bx_ret, bx_exc, bx_fail, bd_ret, bd_exc, bd_fail, exS_ret, exS_exc, exS_fail, ofO_some, ofO_none, fnE, isi_T, isi_B, isi_I, isi_S, isi_L, sizeL, Option.bind_some, Option.map_some, Option.some.injEq, Int.reduceEq, Int.reduceLE, Int.reduceLT, Int.reduceNeg, Int.reduceAdd, Int.reduceSub, Int.reduceMul, decide_true, decide_false, decide_eq_true_eq, decide_not, eq_self, Int.cast_ofNat_Int, reduceCtorEq, List.length_cons, List.length_nil, List.map_cons, List.map_nil, List.replicate, List.cons_append, List.nil_append, List.append_nil, List.getElem?_cons_zero, List.getElem?_cons_succ, List.getElem?_nil, List.set_cons_zero, List.set_cons_succ, Nat.reduceAdd, Nat.reduceSub, Nat.reduceEqDiff, Nat.reduceLeDiff, Nat.reduceLT, Nat.zero_add, Nat.add_zero, true_and, and_true, false_and, and_false, Bool.not_true, Bool.not_false, Bool.true_and, Bool.and_true, Bool.false_and, Bool.and_false, Bool.or_false, Bool.false_or, Bool.or_true, Bool.true_or, Bool.not_eq_true', if_true, if_false, Bool.false_eq_true, Bool.not_eq_true, ↓reduceIte, ite_true, ite_false, Bool.true_eq_false, not_true_eq_false, not_false_eq_true, Nat.zero_le]
          refine Dr.draw (by omega) (by omega) fun j j0 j1 => ?_
          try simp only [r_draw, bx_draw, bd_draw, exS_draw, xFld, fldK, asRf_rf, bd_rd, bx_rd, exS_rd, bd_wr, bx_wr, exS_wr, pIntB_b, xParW3, parW3a, parW3b, parW3c, dictW_c, pLtA_i, pSumT, pSumL, xwD, xwO, datK, ownK, capN, capC, ygT3c, opK2, opK, chK4, chK3, chK2, chK, unK, andK, orK, notK, andVK2, andVK, notVK2, notVK, ifVK, ifTK, consK2, consK, tupK, lstK, fzK, cbK, isiK, drpK, retK, ifSK, setK, setOK, nxK, asgK, parK, appK, wcK, wdK, callK, forK, lcK, raiseK, bodyX, startE, xSeq, sqF, xNext, xIfS, xRet, xSet, xSetO, xDrop, xAsg, ygT_t, ygsC, ygsN, ygN, xPar, xAppend, xFrz, xVar, xC, xOp, xUn, pNeg_i, xTest, asB_b, xAnd, xOr, xNot, xAndV, xNotV, xIf, xIfT, xChain, xNil, xCons, xTup, xLst, xFz, xCall, rOfT_d, rOfT_o, rOfT_c, rOwT_o, ywNil, ywDat, ywVar, xCB, xIsi, asI_i, xLenS, xFor, ziL, itT_t, itL_l, ziR1, ziET, enT_t, enL_l, xLc, noOwnB, wipeE, xYes, xRaise, pAdd_i, pAdd_t, pAdd_l, pSub_i, pLt_i, pLe_i, pGt_i, pGe_i, pIs_n, pIsNot_n, pIsB_b, pNotB_b, isN_n, isN_b, isN_i, isN_s, isN_t, isN_l, pIx_t, pIx_l, pLen_t, pLen_l, pMin2_i, pMax2_i, pAbs_i, pInt_i, pTuple_t, pTuple_l, pList_t, pList_l, pIadd_i, pSl_t, pSl_l, pEqI, pNeI, pEqS, pNeS, at0, at1, at2, at3, at4, at5, at6, at7, bx_ret, bx_exc, bx_fail, bd_ret, bd_exc, bd_fail, exS_ret, exS_exc, exS_fail, ofO_some, ofO_none, fnE, isi_T, isi_B, isi_I, isi_S, isi_L, sizeL, Option.bind_some, Option.map_some, Option.some.injEq, Int.reduceEq, Int.reduceLE, Int.reduceLT, Int.reduceNeg, Int.reduceAdd, Int.reduceSub, Int.reduceMul, decide_true, decide_false, decide_eq_true_eq, decide_not, eq_self, Int.cast_ofNat_Int, reduceCtorEq, List.length_cons, List.length_nil, List.map_cons, List.map_nil, List.replicate, List.cons_append, List.nil_append, List.append_nil, List.getElem?_cons_zero, List.getElem?_cons_succ, List.getElem?_nil, List.set_cons_zero, List.set_cons_succ, Nat.reduceAdd, Nat.reduceSub, Nat.reduceEqDiff, Nat.reduceLeDiff, Nat.reduceLT, Nat.zero_add, Nat.add_zero, true_and, and_true, false_and, and_false, Bool.not_true, Bool.not_false, Bool.true_and, Bool.and_true, Bool.false_and, Bool.and_false, Bool.or_false, Bool.false_or, Bool.or_true, Bool.true_or, Bool.not_eq_true', if_true, if_false, Bool.false_eq_true, Bool.not_eq_true, ↓reduceIte, ite_true, ite_false, Bool.true_eq_false, not_true_eq_false, not_false_eq_true, Nat.zero_le]
          exact Dr.ret ⟨_, rfl, j, ⟨j0, j1⟩, rfl⟩
        rintro ρ ⟨j, hj, rfl⟩
        have ld := r_led h I.hs hj
        refine Dz.step (ρ' := [(some (.scr ns)), some .tok, (x2), some (.dat (c.d)), some (.dat (stD ((c.nx st j)))), some (.dat (.int (k + 1))), some (.dat (rf a)), some (.dat (rf b)), some (.own (Kp.d ks)), (x9), some (.dat (.int (q))), some (.dat (.int (j))), (x12), (x13), (x14)]) (by simp only [ld, xFld, fldK, asRf_rf, bd_rd, bx_rd, exS_rd, bd_wr, bx_wr, exS_wr, pIntB_b, xParW3, parW3a, parW3b, parW3c, dictW_c, pLtA_i, pSumT, pSumL, xwD, xwO, datK, ownK, capN, capC, ygT3c, opK2, opK, chK4, chK3, chK2, chK, unK, andK, orK, notK, andVK2, andVK, notVK2, notVK, ifVK, ifTK, consK2, consK, tupK, lstK, fzK, cbK, isiK, drpK, retK, ifSK, setK, setOK, nxK, asgK, parK, appK, wcK, wdK, callK, forK, lcK, raiseK, bodyX, startE, xSeq, sqF, xNext, xIfS, xRet, xSet, xSetO, xDrop, xAsg, ygT_t, ygsC, ygsN, ygN, xPar, xAppend, xFrz, xVar, xC, xOp, xUn, pNeg_i, xTest, asB_b, xAnd, xOr, xNot, xAndV, xNotV, xIf, xIfT, xChain, xNil, xCons, xTup, xLst, xFz, xCall, rOfT_d, rOfT_o, rOfT_c, rOwT_o, ywNil, ywDat, ywVar, xCB, xIsi, asI_i, xLenS, xFor, ziL, itT_t, itL_l, ziR1, ziET, enT_t, enL_l, xLc, noOwnB, wipeE, xYes, xRaise, pAdd_i, pAdd_t, pAdd_l, pSub_i, pLt_i, pLe_i, pGt_i, pGe_i, pIs_n, pIsNot_n, pIsB_b, pNotB_b, isN_n, isN_b, isN_i, isN_s, isN_t, isN_l, pIx_t, pIx_l, pLen_t, pLen_l, pMin2_i, pMax2_i, pAbs_i, pInt_i, pTuple_t, pTuple_l, pList_t, pList_l, pIadd_i, pSl_t, pSl_l, pEqI, pNeI, pEqS, pNeS, at0, at1, at2, at3, at4, at5, at6, at7, bx_ret, bx_exc, bx_fail, bd_ret, bd_exc, bd_fail, exS_ret, exS_exc, exS_fail, ofO_some, ofO_none, fnE, isi_T, isi_B, isi_I, isi_S, isi_L, sizeL, Option.bind_some, Option.map_some, Option.some.injEq, Int.reduceEq, Int.reduceLE, Int.reduceLT, Int.reduceNeg, Int.reduceAdd, Int.reduceSub, Int.reduceMul, decide_true, decide_false, decide_eq_true_eq, decide_not, eq_self, Int.cast_ofNat_Int, reduceCtorEq, List.length_cons, List.length_nil, List.map_cons, List.map_nil, List.replicate, List.cons_append, List.nil_append, List.append_nil, List.getElem?_cons_zero, List.getElem?_cons_succ, List.getElem?_nil, List.set_cons_zero, List.set_cons_succ, Nat.reduceAdd, Nat.reduceSub, Nat.reduceEqDiff, Nat.reduceLeDiff, Nat.reduceLT, Nat.zero_add, Nat.add_zero, true_and, and_true, false_and, and_false, Bool.not_true, Bool.not_false, Bool.true_and, Bool.and_true, Bool.false_and, Bool.and_false, Bool.or_false, Bool.false_or, Bool.or_true, Bool.true_or, Bool.not_eq_true', if_true, if_false, Bool.false_eq_true, Bool.not_eq_true, ↓reduceIte, ite_true, ite_false, Bool.true_eq_false, not_true_eq_false, not_false_eq_true, Nat.zero_le]) ?_
        have hc : At s (xCaO "Hearer" w_Hearer___call__ (xVar 6) (ywDat (xVar 11) ywNil) [(some (.scr ns)), some .tok, (x2), some (.dat (c.d)), some (.dat (stD ((c.nx st j)))), some (.dat (.int (k + 1))), some (.dat (rf a)), some (.dat (rf b)), some (.own (Kp.d ks)), (x9), some (.dat (.int (q))), some (.dat (.int (j))), (x12), (x13), (x14)]) _ := (at_callI (a := a) (ws := [.dat (.int j)]) rfl rfl I.ha rfl).trans (hr_call h I.hs hj I.ha)
        have sa := pRepr_of (Sh.int (hr_nx1 (st := st) h j)) (by decide) (by decide)
        have nS : ∀ z : Str, pNe (.str z) (.str z) = some (.bool false) := fun z => by rw [pNeS, beq_self_eq_true]; rfl
        have ixs : pIx (stD (c.nx st j)) (.int 0) = some (.int (c.nx st j).1) := rfl
        unfold xIfS xTest
        rw [show ∀ ρ, xOp pNe (xCB pRepr (xCons (xCaO "Hearer" w_Hearer___call__ (xVar 6) (ywDat (xVar 11) ywNil)) xNil)) (xCB pRepr (xCons (xOp pIx (xVar 4) (xC (.int 0))) xNil)) ρ = bd (bd (bd (xCaO "Hearer" w_Hearer___call__ (xVar 6) (ywDat (xVar 11) ywNil) ρ) (consK xNil ρ)) (cbK pRepr)) (opK pNe (xCB pRepr (xCons (xOp pIx (xVar 4) (xC (.int 0))) xNil)) ρ) from fun ρ => rfl]
        refine Dz.at (At.exS (At.bd (At.bd (At.bd (At.bd hc))))) ?_
        simp only [bd_wr, exS_wr]
        refine Dz.wr ?_
        simp only [sa, ixs, nS, xFld, fldK, asRf_rf, bd_rd, bx_rd, exS_rd, bd_wr, bx_wr, exS_wr, pIntB_b, xParW3, parW3a, parW3b, parW3c, dictW_c, pLtA_i, pSumT, pSumL, xwD, xwO, datK, ownK, capN, capC, ygT3c, opK2, opK, chK4, chK3, chK2, chK, unK, andK, orK, notK, andVK2, andVK, notVK2, notVK, ifVK, ifTK, consK2, consK, tupK, lstK, fzK, cbK, isiK, drpK, retK, ifSK, setK, setOK, nxK, asgK, parK, appK, wcK, wdK, callK, forK, lcK, raiseK, bodyX, startE, xSeq, sqF, xNext, xIfS, xRet, xSet, xSetO, xDrop, xAsg, ygT_t, ygsC, ygsN, ygN, xPar, xAppend, xFrz, xVar, xC, xOp, xUn, pNeg_i, xTest, asB_b, xAnd, xOr, xNot, xAndV, xNotV, xIf, xIfT, xChain, xNil, xCons, xTup, xLst, xFz, xCall, rOfT_d, rOfT_o, rOfT_c, rOwT_o, ywNil, ywDat, ywVar, xCB, xIsi, asI_i, xLenS, xFor, ziL, itT_t, itL_l, ziR1, ziET, enT_t, enL_l, xLc, noOwnB, wipeE, xYes, xRaise, pAdd_i, pAdd_t, pAdd_l, pSub_i, pLt_i, pLe_i, pGt_i, pGe_i, pIs_n, pIsNot_n, pIsB_b, pNotB_b, isN_n, isN_b, isN_i, isN_s, isN_t, isN_l, pIx_t, pIx_l, pLen_t, pLen_l, pMin2_i, pMax2_i, pAbs_i, pInt_i, pTuple_t, pTuple_l, pList_t, pList_l, pIadd_i, pSl_t, pSl_l, pEqI, pNeI, pEqS, pNeS, at0, at1, at2, at3, at4, at5, at6, at7, bx_ret, bx_exc, bx_fail, bd_ret, bd_exc, bd_fail, exS_ret, exS_exc, exS_fail, ofO_some, ofO_none, fnE, isi_T, isi_B, isi_I, isi_S, isi_L, sizeL, Option.bind_some, Option.map_some, Option.some.injEq, Int.reduceEq, Int.reduceLE, Int.reduceLT, Int.reduceNeg, Int.reduceAdd, Int.reduceSub, Int.reduceMul, decide_true, decide_false, decide_eq_true_eq, decide_not, eq_self, Int.cast_ofNat_Int, reduceCtorEq, List.length_cons, List.length_nil, List.map_cons, List.map_nil, List.replicate, List.cons_append, List.nil_append, List.append_nil, List.getElem?_cons_zero, List.getElem?_cons_succ, List.getElem?_nil, List.set_cons_zero, List.set_cons_succ, Nat.reduceAdd, Nat.reduceSub, Nat.reduceEqDiff, Nat.reduceLeDiff, Nat.reduceLT, Nat.zero_add, Nat.add_zero, true_and, and_true, false_and, and_false, Bool.not_true, Bool.not_false, Bool.true_and, Bool.and_true, Bool.false_and, Bool.and_false, Bool.or_false, Bool.false_or, Bool.or_true, Bool.true_or, Bool.not_eq_true', if_true, if_false, Bool.false_eq_true, Bool.not_eq_true, ↓reduceIte, ite_true, ite_false, Bool.true_eq_false, not_true_eq_false, not_false_eq_true, Nat.zero_le]
        exact Dz.ret ⟨_, rfl, c.nx st j, k + 1, ks, _, I.put (c.nx_st h st j) (by omega), by omega, by omega, rfl⟩
  rintro ρ s2 ⟨st2, k2, ks2, y11, I2, hk2, hl2, rfl⟩
  have := I2.k0
  refine Dz.at (at_if (at_st h I2.hs (by omega) I2.ha rfl rfl rfl)) ?_
  rw [if_neg (by decide)]
  exact Dz.ret ⟨st2, k2, ks2, _, _, rfl, I2, hk2, hl2⟩
theorem d_two {c : Cd} {s : Sto} {a b t : Addr} {st q : Int × Int} {k m : Int} {ks : Kp} (ns : List Int) (x2 x8 x9 x10 x11 : Option VL.W) (h : c.Ok) (I : Inv c s a b st k ((t, q, m) :: ks)) :
    Dz 1 (b_law_1 [(some (.scr ns)), some .tok, (x2), some (.dat (c.d)), some (.dat (stD (st))), some (.dat (.int (k))), some (.dat (rf a)), some (.dat (rf b)), (x8), (x9), (x10), (x11), some (.dat (rf t)), some (.dat (stD (q))), some (.dat (.int (m)))]) s (fun f s' => ∃ y11, f = .nx [(some (.scr ns)), some .tok, (x2), some (.dat (c.d)), some (.dat (stD (st))), some (.dat (.int (k))), some (.dat (rf a)), some (.dat (rf b)), (x8), (x9), (x10), (y11), some (.dat (rf t)), some (.dat (stD (q))), some (.dat (.int (m)))] ∧ Inv c s' a b st k ks) := by
  have m0 := h.m0; have m1 := h.m1
  obtain ⟨ht, hq, hm0, hm1⟩ := I.ko _ (List.mem_cons_self ..)
  replace ht : s t = some (hrC c q m) := ht
  replace hq : c.St q := hq
  replace hm0 : 0 ≤ m := hm0
  replace hm1 : m ≤ 40 := hm1
  unfold b_law_1
  refine Dz.le (k := 1 + (0 + 0)) ?_ (by decide)
  have lm : ((c.moves.map mvD).length : Int) = (c.moves.length : Int) := by rw [List.length_map]
  refine Dz.seqD (J := fun ρ => ∃ j : Int, (0 ≤ j ∧ j < c.moves.length) ∧ ρ = [(some (.scr ns)), some .tok, (x2), some (.dat (c.d)), some (.dat (stD (st))), some (.dat (.int (k))), some (.dat (rf a)), some (.dat (rf b)), (x8), (x9), (x10), some (.dat (.int (j))), some (.dat (rf t)), some (.dat (stD (q))), some (.dat (.int (m)))]) 1 _ ?_ ?_
  · simp only [ix3, lm, r_draw, bx_draw, bd_draw, exS_draw, xFld, fldK, asRf_rf, bd_rd, bx_rd, exS_rd, bd_wr, bx_wr, exS_wr, pIntB_b, xParW3, parW3a, parW3b, parW3c, dictW_c, pLtA_i, pSumT, pSumL, xwD, xwO, datK, ownK, capN, capC, ygT3c, opK2, opK, chK4, chK3, chK2, chK, unK, andK, orK, notK, andVK2, andVK, notVK2, notVK, ifVK, ifTK, consK2, consK, tupK, lstK, fzK, cbK, isiK, drpK, retK, ifSK, setK, setOK, nxK, asgK, parK, appK, wcK, wdK, callK, forK, lcK, raiseK, bodyX, startE, xSeq, sqF, xNext, xIfS, xRet, xSet, xSetO, xDrop, xAsg, ygT_t, ygsC, ygsN, ygN, xPar, xAppend, xFrz, xVar, xC, xOp, xUn, pNeg_i, xTest, asB_b, xAnd, xOr, xNot, xAndV, xNotV, xIf, xIfT, xChain, xNil, xCons, xTup, xLst, xFz, xCall, rOfT_d, rOfT_o, rOfT_c, rOwT_o, ywNil, ywDat, ywVar, xCB, xIsi, asI_i, xLenS, xFor, ziL, itT_t, itL_l, ziR1, ziET, enT_t, enL_l, xLc, noOwnB, wipeE, xYes, xRaise, pAdd_i, pAdd_t, pAdd_l, pSub_i, pLt_i, pLe_i, pGt_i, pGe_i, pIs_n, pIsNot_n, pIsB_b, pNotB_b, isN_n, isN_b, isN_i, isN_s, isN_t, isN_l, pIx_t, pIx_l, pLen_t, pLen_l, pMin2_i, pMax2_i, pAbs_i, pInt_i, pTuple_t, pTuple_l, pList_t, pList_l, pIadd_i, pSl_t, pSl_l, pEqI, pNeI, pEqS, pNeS, at0, at1, at2, at3, at4, at5, at6, at7, bx_ret, bx_exc, bx_fail, bd_ret, bd_exc, bd_fail, exS_ret, exS_exc, exS_fail, ofO_some, ofO_none, fnE, isi_T, isi_B, isi_I, isi_S, isi_L, sizeL, Option.bind_some, Option.map_some, Option.some.injEq, Int.reduceEq, Int.reduceLE, Int.reduceLT, Int.reduceNeg, Int.reduceAdd, Int.reduceSub, Int.reduceMul, decide_true, decide_false, decide_eq_true_eq, decide_not, eq_self, Int.cast_ofNat_Int, reduceCtorEq, List.length_cons, List.length_nil, List.map_cons, List.map_nil, List.replicate, List.cons_append, List.nil_append, List.append_nil, List.getElem?_cons_zero, List.getElem?_cons_succ, List.getElem?_nil, List.set_cons_zero, List.set_cons_succ, Nat.reduceAdd, Nat.reduceSub, Nat.reduceEqDiff, Nat.reduceLeDiff, Nat.reduceLT, Nat.zero_add, Nat.add_zero, true_and, and_true, false_and, and_false, Bool.not_true, Bool.not_false, Bool.true_and, Bool.and_true, Bool.false_and, Bool.and_false, Bool.or_false, Bool.false_or, Bool.or_true, Bool.true_or, Bool.not_eq_true', if_true, if_false, Bool.false_eq_true, Bool.not_eq_true, ↓reduceIte, ite_true, ite_false, Bool.true_eq_false, not_true_eq_false, not_false_eq_true, Nat.zero_le]
    refine Dr.draw (by omega) (by omega) fun j j0 j1 => ?_
    try simp only [r_draw, bx_draw, bd_draw, exS_draw, xFld, fldK, asRf_rf, bd_rd, bx_rd, exS_rd, bd_wr, bx_wr, exS_wr, pIntB_b, xParW3, parW3a, parW3b, parW3c, dictW_c, pLtA_i, pSumT, pSumL, xwD, xwO, datK, ownK, capN, capC, ygT3c, opK2, opK, chK4, chK3, chK2, chK, unK, andK, orK, notK, andVK2, andVK, notVK2, notVK, ifVK, ifTK, consK2, consK, tupK, lstK, fzK, cbK, isiK, drpK, retK, ifSK, setK, setOK, nxK, asgK, parK, appK, wcK, wdK, callK, forK, lcK, raiseK, bodyX, startE, xSeq, sqF, xNext, xIfS, xRet, xSet, xSetO, xDrop, xAsg, ygT_t, ygsC, ygsN, ygN, xPar, xAppend, xFrz, xVar, xC, xOp, xUn, pNeg_i, xTest, asB_b, xAnd, xOr, xNot, xAndV, xNotV, xIf, xIfT, xChain, xNil, xCons, xTup, xLst, xFz, xCall, rOfT_d, rOfT_o, rOfT_c, rOwT_o, ywNil, ywDat, ywVar, xCB, xIsi, asI_i, xLenS, xFor, ziL, itT_t, itL_l, ziR1, ziET, enT_t, enL_l, xLc, noOwnB, wipeE, xYes, xRaise, pAdd_i, pAdd_t, pAdd_l, pSub_i, pLt_i, pLe_i, pGt_i, pGe_i, pIs_n, pIsNot_n, pIsB_b, pNotB_b, isN_n, isN_b, isN_i, isN_s, isN_t, isN_l, pIx_t, pIx_l, pLen_t, pLen_l, pMin2_i, pMax2_i, pAbs_i, pInt_i, pTuple_t, pTuple_l, pList_t, pList_l, pIadd_i, pSl_t, pSl_l, pEqI, pNeI, pEqS, pNeS, at0, at1, at2, at3, at4, at5, at6, at7, bx_ret, bx_exc, bx_fail, bd_ret, bd_exc, bd_fail, exS_ret, exS_exc, exS_fail, ofO_some, ofO_none, fnE, isi_T, isi_B, isi_I, isi_S, isi_L, sizeL, Option.bind_some, Option.map_some, Option.some.injEq, Int.reduceEq, Int.reduceLE, Int.reduceLT, Int.reduceNeg, Int.reduceAdd, Int.reduceSub, Int.reduceMul, decide_true, decide_false, decide_eq_true_eq, decide_not, eq_self, Int.cast_ofNat_Int, reduceCtorEq, List.length_cons, List.length_nil, List.map_cons, List.map_nil, List.replicate, List.cons_append, List.nil_append, List.append_nil, List.getElem?_cons_zero, List.getElem?_cons_succ, List.getElem?_nil, List.set_cons_zero, List.set_cons_succ, Nat.reduceAdd, Nat.reduceSub, Nat.reduceEqDiff, Nat.reduceLeDiff, Nat.reduceLT, Nat.zero_add, Nat.add_zero, true_and, and_true, false_and, and_false, Bool.not_true, Bool.not_false, Bool.true_and, Bool.and_true, Bool.false_and, Bool.and_false, Bool.or_false, Bool.false_or, Bool.or_true, Bool.true_or, Bool.not_eq_true', if_true, if_false, Bool.false_eq_true, Bool.not_eq_true, ↓reduceIte, ite_true, ite_false, Bool.true_eq_false, not_true_eq_false, not_false_eq_true, Nat.zero_le]
    exact Dr.ret ⟨_, rfl, j, ⟨j0, j1⟩, rfl⟩
  rintro ρ ⟨j, hj, rfl⟩
  have ld := r_led h hq hj
  have hs2 := c.nx_st h q j
  refine Dz.seq (J := fun ρ s' => s' = s.put t (hrC c (c.nx q j) (m + 1)) ∧ ρ = [(some (.scr ns)), some .tok, (x2), some (.dat (c.d)), some (.dat (stD (st))), some (.dat (.int (k))), some (.dat (rf a)), some (.dat (rf b)), (x8), (x9), (x10), some (.dat (.int (j))), some (.dat (rf t)), some (.dat (stD (q))), some (.dat (.int (m)))]) 0 0 ?_ ?_
  · have hc : At s (xCaO "Hearer" w_Hearer___call__ (xVar 12) (ywDat (xVar 11) ywNil) [(some (.scr ns)), some .tok, (x2), some (.dat (c.d)), some (.dat (stD (st))), some (.dat (.int (k))), some (.dat (rf a)), some (.dat (rf b)), (x8), (x9), (x10), some (.dat (.int (j))), some (.dat (rf t)), some (.dat (stD (q))), some (.dat (.int (m)))]) _ := (at_callI (a := t) (ws := [.dat (.int j)]) rfl rfl ht rfl).trans (hr_call h hq hj ht)
    have nI : pNe (.int (c.nx q j).1) (.int (c.nx q j).1) = some (.bool false) := by rw [pNeI, decide_eq_true rfl]; rfl
    have ixs : pIx (stD (c.nx q j)) (.int 0) = some (.int (c.nx q j).1) := rfl
    unfold xIfS
    refine Dz.at (At.exS (at_orF (at_st h hq (by omega) ht rfl rfl rfl) .refl)) ?_
    unfold xTest
    rw [show ∀ y ρ, xOp pNe (xCaO "Hearer" w_Hearer___call__ (xVar 12) (ywDat (xVar 11) ywNil)) y ρ = bd (xCaO "Hearer" w_Hearer___call__ (xVar 12) (ywDat (xVar 11) ywNil) ρ) (opK pNe y ρ) from fun y ρ => rfl]
    refine Dz.at (At.exS (At.bd (At.bd hc))) ?_
    simp only [bd_wr, exS_wr]
    refine Dz.wr ?_
    simp only [ld, ixs, nI, xFld, fldK, asRf_rf, bd_rd, bx_rd, exS_rd, bd_wr, bx_wr, exS_wr, pIntB_b, xParW3, parW3a, parW3b, parW3c, dictW_c, pLtA_i, pSumT, pSumL, xwD, xwO, datK, ownK, capN, capC, ygT3c, opK2, opK, chK4, chK3, chK2, chK, unK, andK, orK, notK, andVK2, andVK, notVK2, notVK, ifVK, ifTK, consK2, consK, tupK, lstK, fzK, cbK, isiK, drpK, retK, ifSK, setK, setOK, nxK, asgK, parK, appK, wcK, wdK, callK, forK, lcK, raiseK, bodyX, startE, xSeq, sqF, xNext, xIfS, xRet, xSet, xSetO, xDrop, xAsg, ygT_t, ygsC, ygsN, ygN, xPar, xAppend, xFrz, xVar, xC, xOp, xUn, pNeg_i, xTest, asB_b, xAnd, xOr, xNot, xAndV, xNotV, xIf, xIfT, xChain, xNil, xCons, xTup, xLst, xFz, xCall, rOfT_d, rOfT_o, rOfT_c, rOwT_o, ywNil, ywDat, ywVar, xCB, xIsi, asI_i, xLenS, xFor, ziL, itT_t, itL_l, ziR1, ziET, enT_t, enL_l, xLc, noOwnB, wipeE, xYes, xRaise, pAdd_i, pAdd_t, pAdd_l, pSub_i, pLt_i, pLe_i, pGt_i, pGe_i, pIs_n, pIsNot_n, pIsB_b, pNotB_b, isN_n, isN_b, isN_i, isN_s, isN_t, isN_l, pIx_t, pIx_l, pLen_t, pLen_l, pMin2_i, pMax2_i, pAbs_i, pInt_i, pTuple_t, pTuple_l, pList_t, pList_l, pIadd_i, pSl_t, pSl_l, pEqI, pNeI, pEqS, pNeS, at0, at1, at2, at3, at4, at5, at6, at7, bx_ret, bx_exc, bx_fail, bd_ret, bd_exc, bd_fail, exS_ret, exS_exc, exS_fail, ofO_some, ofO_none, fnE, isi_T, isi_B, isi_I, isi_S, isi_L, sizeL, Option.bind_some, Option.map_some, Option.some.injEq, Int.reduceEq, Int.reduceLE, Int.reduceLT, Int.reduceNeg, Int.reduceAdd, Int.reduceSub, Int.reduceMul, decide_true, decide_false, decide_eq_true_eq, decide_not, eq_self, Int.cast_ofNat_Int, reduceCtorEq, List.length_cons, List.length_nil, List.map_cons, List.map_nil, List.replicate, List.cons_append, List.nil_append, List.append_nil, List.getElem?_cons_zero, List.getElem?_cons_succ, List.getElem?_nil, List.set_cons_zero, List.set_cons_succ, Nat.reduceAdd, Nat.reduceSub, Nat.reduceEqDiff, Nat.reduceLeDiff, Nat.reduceLT, Nat.zero_add, Nat.add_zero, true_and, and_true, false_and, and_false, Bool.not_true, Bool.not_false, Bool.true_and, Bool.and_true, Bool.false_and, Bool.and_false, Bool.or_false, Bool.false_or, Bool.or_true, Bool.true_or, Bool.not_eq_true', if_true, if_false, Bool.false_eq_true, Bool.not_eq_true, ↓reduceIte, ite_true, ite_false, Bool.true_eq_false, not_true_eq_false, not_false_eq_true, Nat.zero_le]
    exact Dz.ret ⟨_, rfl, rfl, rfl⟩
  rintro ρ s2 ⟨rfl, rfl⟩
  refine Dz.at (at_if (at_st (k := m + 1) (st := c.nx q j) h hs2 (by omega) put_same rfl (by simp only [ld, xFld, fldK, asRf_rf, bd_rd, bx_rd, exS_rd, bd_wr, bx_wr, exS_wr, pIntB_b, xParW3, parW3a, parW3b, parW3c, dictW_c, pLtA_i, pSumT, pSumL, xwD, xwO, datK, ownK, capN, capC, ygT3c, opK2, opK, chK4, chK3, chK2, chK, unK, andK, orK, notK, andVK2, andVK, notVK2, notVK, ifVK, ifTK, consK2, consK, tupK, lstK, fzK, cbK, isiK, drpK, retK, ifSK, setK, setOK, nxK, asgK, parK, appK, wcK, wdK, callK, forK, lcK, raiseK, bodyX, startE, xSeq, sqF, xNext, xIfS, xRet, xSet, xSetO, xDrop, xAsg, ygT_t, ygsC, ygsN, ygN, xPar, xAppend, xFrz, xVar, xC, xOp, xUn, pNeg_i, xTest, asB_b, xAnd, xOr, xNot, xAndV, xNotV, xIf, xIfT, xChain, xNil, xCons, xTup, xLst, xFz, xCall, rOfT_d, rOfT_o, rOfT_c, rOwT_o, ywNil, ywDat, ywVar, xCB, xIsi, asI_i, xLenS, xFor, ziL, itT_t, itL_l, ziR1, ziET, enT_t, enL_l, xLc, noOwnB, wipeE, xYes, xRaise, pAdd_i, pAdd_t, pAdd_l, pSub_i, pLt_i, pLe_i, pGt_i, pGe_i, pIs_n, pIsNot_n, pIsB_b, pNotB_b, isN_n, isN_b, isN_i, isN_s, isN_t, isN_l, pIx_t, pIx_l, pLen_t, pLen_l, pMin2_i, pMax2_i, pAbs_i, pInt_i, pTuple_t, pTuple_l, pList_t, pList_l, pIadd_i, pSl_t, pSl_l, pEqI, pNeI, pEqS, pNeS, at0, at1, at2, at3, at4, at5, at6, at7, bx_ret, bx_exc, bx_fail, bd_ret, bd_exc, bd_fail, exS_ret, exS_exc, exS_fail, ofO_some, ofO_none, fnE, isi_T, isi_B, isi_I, isi_S, isi_L, sizeL, Option.bind_some, Option.map_some, Option.some.injEq, Int.reduceEq, Int.reduceLE, Int.reduceLT, Int.reduceNeg, Int.reduceAdd, Int.reduceSub, Int.reduceMul, decide_true, decide_false, decide_eq_true_eq, decide_not, eq_self, Int.cast_ofNat_Int, reduceCtorEq, List.length_cons, List.length_nil, List.map_cons, List.map_nil, List.replicate, List.cons_append, List.nil_append, List.append_nil, List.getElem?_cons_zero, List.getElem?_cons_succ, List.getElem?_nil, List.set_cons_zero, List.set_cons_succ, Nat.reduceAdd, Nat.reduceSub, Nat.reduceEqDiff, Nat.reduceLeDiff, Nat.reduceLT, Nat.zero_add, Nat.add_zero, true_and, and_true, false_and, and_false, Bool.not_true, Bool.not_false, Bool.true_and, Bool.and_true, Bool.false_and, Bool.and_false, Bool.or_false, Bool.false_or, Bool.or_true, Bool.true_or, Bool.not_eq_true', if_true, if_false, Bool.false_eq_true, Bool.not_eq_true, ↓reduceIte, ite_true, ite_false, Bool.true_eq_false, not_true_eq_false, not_false_eq_true, Nat.zero_le]) (by simp only [xFld, fldK, asRf_rf, bd_rd, bx_rd, exS_rd, bd_wr, bx_wr, exS_wr, pIntB_b, xParW3, parW3a, parW3b, parW3c, dictW_c, pLtA_i, pSumT, pSumL, xwD, xwO, datK, ownK, capN, capC, ygT3c, opK2, opK, chK4, chK3, chK2, chK, unK, andK, orK, notK, andVK2, andVK, notVK2, notVK, ifVK, ifTK, consK2, consK, tupK, lstK, fzK, cbK, isiK, drpK, retK, ifSK, setK, setOK, nxK, asgK, parK, appK, wcK, wdK, callK, forK, lcK, raiseK, bodyX, startE, xSeq, sqF, xNext, xIfS, xRet, xSet, xSetO, xDrop, xAsg, ygT_t, ygsC, ygsN, ygN, xPar, xAppend, xFrz, xVar, xC, xOp, xUn, pNeg_i, xTest, asB_b, xAnd, xOr, xNot, xAndV, xNotV, xIf, xIfT, xChain, xNil, xCons, xTup, xLst, xFz, xCall, rOfT_d, rOfT_o, rOfT_c, rOwT_o, ywNil, ywDat, ywVar, xCB, xIsi, asI_i, xLenS, xFor, ziL, itT_t, itL_l, ziR1, ziET, enT_t, enL_l, xLc, noOwnB, wipeE, xYes, xRaise, pAdd_i, pAdd_t, pAdd_l, pSub_i, pLt_i, pLe_i, pGt_i, pGe_i, pIs_n, pIsNot_n, pIsB_b, pNotB_b, isN_n, isN_b, isN_i, isN_s, isN_t, isN_l, pIx_t, pIx_l, pLen_t, pLen_l, pMin2_i, pMax2_i, pAbs_i, pInt_i, pTuple_t, pTuple_l, pList_t, pList_l, pIadd_i, pSl_t, pSl_l, pEqI, pNeI, pEqS, pNeS, at0, at1, at2, at3, at4, at5, at6, at7, bx_ret, bx_exc, bx_fail, bd_ret, bd_exc, bd_fail, exS_ret, exS_exc, exS_fail, ofO_some, ofO_none, fnE, isi_T, isi_B, isi_I, isi_S, isi_L, sizeL, Option.bind_some, Option.map_some, Option.some.injEq, Int.reduceEq, Int.reduceLE, Int.reduceLT, Int.reduceNeg, Int.reduceAdd, Int.reduceSub, Int.reduceMul, decide_true, decide_false, decide_eq_true_eq, decide_not, eq_self, Int.cast_ofNat_Int, reduceCtorEq, List.length_cons, List.length_nil, List.map_cons, List.map_nil, List.replicate, List.cons_append, List.nil_append, List.append_nil, List.getElem?_cons_zero, List.getElem?_cons_succ, List.getElem?_nil, List.set_cons_zero, List.set_cons_succ, Nat.reduceAdd, Nat.reduceSub, Nat.reduceEqDiff, Nat.reduceLeDiff, Nat.reduceLT, Nat.zero_add, Nat.add_zero, true_and, and_true, false_and, and_false, Bool.not_true, Bool.not_false, Bool.true_and, Bool.and_true, Bool.false_and, Bool.and_false, Bool.or_false, Bool.false_or, Bool.or_true, Bool.true_or, Bool.not_eq_true', if_true, if_false, Bool.false_eq_true, Bool.not_eq_true, ↓reduceIte, ite_true, ite_false, Bool.true_eq_false, not_true_eq_false, not_false_eq_true, Nat.zero_le]))) ?_
  rw [if_neg (by decide)]
  exact Dz.ret ⟨_, rfl, I.rest⟩
end LW


set_option maxRecDepth 100000
set_option maxHeartbeats 1000000
namespace LW
open PySem PySem.Spec PyProof.Rows L2 VL
theorem d_turn (ns : List Int) (s0 : Sto) (x2 x3 x4 x5 x6 x7 x8 x9 x10 x11 x12 x13 x14 : Option VL.W) : Dz 200 (b_law_2 [(some (.scr ns)), some .tok, (x2), (x3), (x4), (x5), (x6), (x7), (x8), (x9), (x10), (x11), (x12), (x13), (x14)]) s0 (fun f _ => ∃ y3 y4 y5 y6 y7 y8 y9 y10 y11 y12 y13 y14 : Option VL.W, f = .nx [(some (.scr ns)), some .tok, (x2), (y3), (y4), (y5), (y6), (y7), (y8), (y9), (y10), (y11), (y12), (y13), (y14)]) := by
  unfold b_law_2
  refine Dz.le (k := 61 + (2 + (0 + (0 + (91 + (40 + 0)))))) ?_ (by decide)
  refine Dz.seqD (J := fun ρ => ∃ c : Cd, c.Ok ∧ ρ = [(some (.scr ns)), some .tok, (x2), some (.dat (c.d)), (x4), (x5), (x6), (x7), (x8), (x9), (x10), (x11), (x12), (x13), (x14)]) 61 _ ?_ ?_
  · simp only [r_draw, bx_draw, bd_draw, exS_draw, xFld, fldK, asRf_rf, bd_rd, bx_rd, exS_rd, bd_wr, bx_wr, exS_wr, pIntB_b, xParW3, parW3a, parW3b, parW3c, dictW_c, pLtA_i, pSumT, pSumL, xwD, xwO, datK, ownK, capN, capC, ygT3c, opK2, opK, chK4, chK3, chK2, chK, unK, andK, orK, notK, andVK2, andVK, notVK2, notVK, ifVK, ifTK, consK2, consK, tupK, lstK, fzK, cbK, isiK, drpK, retK, ifSK, setK, setOK, nxK, asgK, parK, appK, wcK, wdK, callK, forK, lcK, raiseK, bodyX, startE, xSeq, sqF, xNext, xIfS, xRet, xSet, xSetO, xDrop, xAsg, ygT_t, ygsC, ygsN, ygN, xPar, xAppend, xFrz, xVar, xC, xOp, xUn, pNeg_i, xTest, asB_b, xAnd, xOr, xNot, xAndV, xNotV, xIf, xIfT, xChain, xNil, xCons, xTup, xLst, xFz, xCall, rOfT_d, rOfT_o, rOfT_c, rOwT_o, ywNil, ywDat, ywVar, xCB, xIsi, asI_i, xLenS, xFor, ziL, itT_t, itL_l, ziR1, ziET, enT_t, enL_l, xLc, noOwnB, wipeE, xYes, xRaise, pAdd_i, pAdd_t, pAdd_l, pSub_i, pLt_i, pLe_i, pGt_i, pGe_i, pIs_n, pIsNot_n, pIsB_b, pNotB_b, isN_n, isN_b, isN_i, isN_s, isN_t, isN_l, pIx_t, pIx_l, pLen_t, pLen_l, pMin2_i, pMax2_i, pAbs_i, pInt_i, pTuple_t, pTuple_l, pList_t, pList_l, pIadd_i, pSl_t, pSl_l, pEqI, pNeI, pEqS, pNeS, at0, at1, at2, at3, at4, at5, at6, at7, bx_ret, bx_exc, bx_fail, bd_ret, bd_exc, bd_fail, exS_ret, exS_exc, exS_fail, ofO_some, ofO_none, fnE, isi_T, isi_B, isi_I, isi_S, isi_L, sizeL, Option.bind_some, Option.map_some, Option.some.injEq, Int.reduceEq, Int.reduceLE, Int.reduceLT, Int.reduceNeg, Int.reduceAdd, Int.reduceSub, Int.reduceMul, decide_true, decide_false, decide_eq_true_eq, decide_not, eq_self, Int.cast_ofNat_Int, reduceCtorEq, List.length_cons, List.length_nil, List.map_cons, List.map_nil, List.replicate, List.cons_append, List.nil_append, List.append_nil, List.getElem?_cons_zero, List.getElem?_cons_succ, List.getElem?_nil, List.set_cons_zero, List.set_cons_succ, Nat.reduceAdd, Nat.reduceSub, Nat.reduceEqDiff, Nat.reduceLeDiff, Nat.reduceLT, Nat.zero_add, Nat.add_zero, true_and, and_true, false_and, and_false, Bool.not_true, Bool.not_false, Bool.true_and, Bool.and_true, Bool.false_and, Bool.and_false, Bool.or_false, Bool.false_or, Bool.or_true, Bool.true_or, Bool.not_eq_true', if_true, if_false, Bool.false_eq_true, Bool.not_eq_true, ↓reduceIte, ite_true, ite_false, Bool.true_eq_false, not_true_eq_false, not_false_eq_true, Nat.zero_le]
    refine Dr.draw (k := 60) (by omega) (by omega) fun q q0 q1 => ?_
    have go : ∀ (wide : Int), 0 ≤ wide → wide ≤ 3000 → ∀ ρ : Nv, Dr 60 (exS (bd (w__law_coder [.tok, .dat (.int wide), .dat (.int 3), .dat (.int 5)]) rOfT) ρ (setK 3 [(some (.scr ns)), some .tok, (x2), (x3), (x4), (x5), (x6), (x7), (x8), (x9), (x10), (x11), (x12), (x13), (x14)])) (fun f => ∃ ρ', f = .nx ρ' ∧ ∃ c : Cd, c.Ok ∧ ρ' = [(some (.scr ns)), some .tok, (x2), some (.dat (c.d)), (x4), (x5), (x6), (x7), (x8), (x9), (x10), (x11), (x12), (x13), (x14)]) := fun wide w0 w1 ρ => by
      refine Dr.le (k := 60 + 0) (Dr.exS (Dr.call (d_coder wide 3 5 w0 (by omega) (by omega) (by omega) (by omega) (by omega))) ?_) (by decide)
      rintro d ⟨c, rfl, h⟩
      exact Dr.ret ⟨_, rfl, c, h.ok, rfl⟩
    have hq : q = 0 ∨ q = 1 ∨ q = 2 := by omega
    rcases hq with rfl | rfl | rfl <;> simp only [xFld, fldK, asRf_rf, bd_rd, bx_rd, exS_rd, bd_wr, bx_wr, exS_wr, pIntB_b, xParW3, parW3a, parW3b, parW3c, dictW_c, pLtA_i, pSumT, pSumL, xwD, xwO, datK, ownK, capN, capC, ygT3c, opK2, opK, chK4, chK3, chK2, chK, unK, andK, orK, notK, andVK2, andVK, notVK2, notVK, ifVK, ifTK, consK2, consK, tupK, lstK, fzK, cbK, isiK, drpK, retK, ifSK, setK, setOK, nxK, asgK, parK, appK, wcK, wdK, callK, forK, lcK, raiseK, bodyX, startE, xSeq, sqF, xNext, xIfS, xRet, xSet, xSetO, xDrop, xAsg, ygT_t, ygsC, ygsN, ygN, xPar, xAppend, xFrz, xVar, xC, xOp, xUn, pNeg_i, xTest, asB_b, xAnd, xOr, xNot, xAndV, xNotV, xIf, xIfT, xChain, xNil, xCons, xTup, xLst, xFz, xCall, rOfT_d, rOfT_o, rOfT_c, rOwT_o, ywNil, ywDat, ywVar, xCB, xIsi, asI_i, xLenS, xFor, ziL, itT_t, itL_l, ziR1, ziET, enT_t, enL_l, xLc, noOwnB, wipeE, xYes, xRaise, pAdd_i, pAdd_t, pAdd_l, pSub_i, pLt_i, pLe_i, pGt_i, pGe_i, pIs_n, pIsNot_n, pIsB_b, pNotB_b, isN_n, isN_b, isN_i, isN_s, isN_t, isN_l, pIx_t, pIx_l, pLen_t, pLen_l, pMin2_i, pMax2_i, pAbs_i, pInt_i, pTuple_t, pTuple_l, pList_t, pList_l, pIadd_i, pSl_t, pSl_l, pEqI, pNeI, pEqS, pNeS, at0, at1, at2, at3, at4, at5, at6, at7, bx_ret, bx_exc, bx_fail, bd_ret, bd_exc, bd_fail, exS_ret, exS_exc, exS_fail, ofO_some, ofO_none, fnE, isi_T, isi_B, isi_I, isi_S, isi_L, sizeL, Option.bind_some, Option.map_some, Option.some.injEq, Int.reduceEq, Int.reduceLE, Int.reduceLT, Int.reduceNeg, Int.reduceAdd, Int.reduceSub, Int.reduceMul, decide_true, decide_false, decide_eq_true_eq, decide_not, eq_self, Int.cast_ofNat_Int, reduceCtorEq, List.length_cons, List.length_nil, List.map_cons, List.map_nil, List.replicate, List.cons_append, List.nil_append, List.append_nil, List.getElem?_cons_zero, List.getElem?_cons_succ, List.getElem?_nil, List.set_cons_zero, List.set_cons_succ, Nat.reduceAdd, Nat.reduceSub, Nat.reduceEqDiff, Nat.reduceLeDiff, Nat.reduceLT, Nat.zero_add, Nat.add_zero, true_and, and_true, false_and, and_false, Bool.not_true, Bool.not_false, Bool.true_and, Bool.and_true, Bool.false_and, Bool.and_false, Bool.or_false, Bool.false_or, Bool.or_true, Bool.true_or, Bool.not_eq_true', if_true, if_false, Bool.false_eq_true, Bool.not_eq_true, ↓reduceIte, ite_true, ite_false, Bool.true_eq_false, not_true_eq_false, not_false_eq_true, Nat.zero_le]
    · exact go 2 (by decide) (by decide) _
    · exact go 40 (by decide) (by decide) _
    · exact go 3000 (by decide) (by decide) _
  rintro ρ ⟨c, h, rfl⟩
  have m0 := h.m0; have m1 := h.m1
  refine Dz.seqD (J := fun ρ => ∃ st : Int × Int, c.St st ∧ ρ = [(some (.scr ns)), some .tok, (x2), some (.dat (c.d)), some (.dat (stD (st))), some (.dat (.int (0))), (x6), (x7), (x8), (x9), (x10), (x11), (x12), (x13), (x14)]) 2 _ ?_ ?_
  · simp only [r_draw, bx_draw, bd_draw, exS_draw, xFld, fldK, asRf_rf, bd_rd, bx_rd, exS_rd, bd_wr, bx_wr, exS_wr, pIntB_b, xParW3, parW3a, parW3b, parW3c, dictW_c, pLtA_i, pSumT, pSumL, xwD, xwO, datK, ownK, capN, capC, ygT3c, opK2, opK, chK4, chK3, chK2, chK, unK, andK, orK, notK, andVK2, andVK, notVK2, notVK, ifVK, ifTK, consK2, consK, tupK, lstK, fzK, cbK, isiK, drpK, retK, ifSK, setK, setOK, nxK, asgK, parK, appK, wcK, wdK, callK, forK, lcK, raiseK, bodyX, startE, xSeq, sqF, xNext, xIfS, xRet, xSet, xSetO, xDrop, xAsg, ygT_t, ygsC, ygsN, ygN, xPar, xAppend, xFrz, xVar, xC, xOp, xUn, pNeg_i, xTest, asB_b, xAnd, xOr, xNot, xAndV, xNotV, xIf, xIfT, xChain, xNil, xCons, xTup, xLst, xFz, xCall, rOfT_d, rOfT_o, rOfT_c, rOwT_o, ywNil, ywDat, ywVar, xCB, xIsi, asI_i, xLenS, xFor, ziL, itT_t, itL_l, ziR1, ziET, enT_t, enL_l, xLc, noOwnB, wipeE, xYes, xRaise, pAdd_i, pAdd_t, pAdd_l, pSub_i, pLt_i, pLe_i, pGt_i, pGe_i, pIs_n, pIsNot_n, pIsB_b, pNotB_b, isN_n, isN_b, isN_i, isN_s, isN_t, isN_l, pIx_t, pIx_l, pLen_t, pLen_l, pMin2_i, pMax2_i, pAbs_i, pInt_i, pTuple_t, pTuple_l, pList_t, pList_l, pIadd_i, pSl_t, pSl_l, pEqI, pNeI, pEqS, pNeS, at0, at1, at2, at3, at4, at5, at6, at7, bx_ret, bx_exc, bx_fail, bd_ret, bd_exc, bd_fail, exS_ret, exS_exc, exS_fail, ofO_some, ofO_none, fnE, isi_T, isi_B, isi_I, isi_S, isi_L, sizeL, Option.bind_some, Option.map_some, Option.some.injEq, Int.reduceEq, Int.reduceLE, Int.reduceLT, Int.reduceNeg, Int.reduceAdd, Int.reduceSub, Int.reduceMul, decide_true, decide_false, decide_eq_true_eq, decide_not, eq_self, Int.cast_ofNat_Int, reduceCtorEq, List.length_cons, List.length_nil, List.map_cons, List.map_nil, List.replicate, List.cons_append, List.nil_append, List.append_nil, List.getElem?_cons_zero, List.getElem?_cons_succ, List.getElem?_nil, List.set_cons_zero, List.set_cons_succ, Nat.reduceAdd, Nat.reduceSub, Nat.reduceEqDiff, Nat.reduceLeDiff, Nat.reduceLT, Nat.zero_add, Nat.add_zero, true_and, and_true, false_and, and_false, Bool.not_true, Bool.not_false, Bool.true_and, Bool.and_true, Bool.false_and, Bool.and_false, Bool.or_false, Bool.false_or, Bool.or_true, Bool.true_or, Bool.not_eq_true', if_true, if_false, Bool.false_eq_true, Bool.not_eq_true, ↓reduceIte, ite_true, ite_false, Bool.true_eq_false, not_true_eq_false, not_false_eq_true, Nat.zero_le]
    refine Dr.le (k := 2 + 0 + 0) (Dr.exS (Dr.bd (R := fun ds => ∃ st : Int × Int, c.St st ∧ ds = [stD st, .int 0]) (Dr.call (d_some c h)) fun d hd => ?_) fun ds hd => ?_) (by decide)
    · obtain ⟨st, rfl, hs⟩ := hd
      simp only [xFld, fldK, asRf_rf, bd_rd, bx_rd, exS_rd, bd_wr, bx_wr, exS_wr, pIntB_b, xParW3, parW3a, parW3b, parW3c, dictW_c, pLtA_i, pSumT, pSumL, xwD, xwO, datK, ownK, capN, capC, ygT3c, opK2, opK, chK4, chK3, chK2, chK, unK, andK, orK, notK, andVK2, andVK, notVK2, notVK, ifVK, ifTK, consK2, consK, tupK, lstK, fzK, cbK, isiK, drpK, retK, ifSK, setK, setOK, nxK, asgK, parK, appK, wcK, wdK, callK, forK, lcK, raiseK, bodyX, startE, xSeq, sqF, xNext, xIfS, xRet, xSet, xSetO, xDrop, xAsg, ygT_t, ygsC, ygsN, ygN, xPar, xAppend, xFrz, xVar, xC, xOp, xUn, pNeg_i, xTest, asB_b, xAnd, xOr, xNot, xAndV, xNotV, xIf, xIfT, xChain, xNil, xCons, xTup, xLst, xFz, xCall, rOfT_d, rOfT_o, rOfT_c, rOwT_o, ywNil, ywDat, ywVar, xCB, xIsi, asI_i, xLenS, xFor, ziL, itT_t, itL_l, ziR1, ziET, enT_t, enL_l, xLc, noOwnB, wipeE, xYes, xRaise, pAdd_i, pAdd_t, pAdd_l, pSub_i, pLt_i, pLe_i, pGt_i, pGe_i, pIs_n, pIsNot_n, pIsB_b, pNotB_b, isN_n, isN_b, isN_i, isN_s, isN_t, isN_l, pIx_t, pIx_l, pLen_t, pLen_l, pMin2_i, pMax2_i, pAbs_i, pInt_i, pTuple_t, pTuple_l, pList_t, pList_l, pIadd_i, pSl_t, pSl_l, pEqI, pNeI, pEqS, pNeS, at0, at1, at2, at3, at4, at5, at6, at7, bx_ret, bx_exc, bx_fail, bd_ret, bd_exc, bd_fail, exS_ret, exS_exc, exS_fail, ofO_some, ofO_none, fnE, isi_T, isi_B, isi_I, isi_S, isi_L, sizeL, Option.bind_some, Option.map_some, Option.some.injEq, Int.reduceEq, Int.reduceLE, Int.reduceLT, Int.reduceNeg, Int.reduceAdd, Int.reduceSub, Int.reduceMul, decide_true, decide_false, decide_eq_true_eq, decide_not, eq_self, Int.cast_ofNat_Int, reduceCtorEq, List.length_cons, List.length_nil, List.map_cons, List.map_nil, List.replicate, List.cons_append, List.nil_append, List.append_nil, List.getElem?_cons_zero, List.getElem?_cons_succ, List.getElem?_nil, List.set_cons_zero, List.set_cons_succ, Nat.reduceAdd, Nat.reduceSub, Nat.reduceEqDiff, Nat.reduceLeDiff, Nat.reduceLT, Nat.zero_add, Nat.add_zero, true_and, and_true, false_and, and_false, Bool.not_true, Bool.not_false, Bool.true_and, Bool.and_true, Bool.false_and, Bool.and_false, Bool.or_false, Bool.false_or, Bool.or_true, Bool.true_or, Bool.not_eq_true', if_true, if_false, Bool.false_eq_true, Bool.not_eq_true, ↓reduceIte, ite_true, ite_false, Bool.true_eq_false, not_true_eq_false, not_false_eq_true, Nat.zero_le]
      exact Dr.ret ⟨st, hs, rfl⟩
    · obtain ⟨st, hs, rfl⟩ := hd
      simp only [xFld, fldK, asRf_rf, bd_rd, bx_rd, exS_rd, bd_wr, bx_wr, exS_wr, pIntB_b, xParW3, parW3a, parW3b, parW3c, dictW_c, pLtA_i, pSumT, pSumL, xwD, xwO, datK, ownK, capN, capC, ygT3c, opK2, opK, chK4, chK3, chK2, chK, unK, andK, orK, notK, andVK2, andVK, notVK2, notVK, ifVK, ifTK, consK2, consK, tupK, lstK, fzK, cbK, isiK, drpK, retK, ifSK, setK, setOK, nxK, asgK, parK, appK, wcK, wdK, callK, forK, lcK, raiseK, bodyX, startE, xSeq, sqF, xNext, xIfS, xRet, xSet, xSetO, xDrop, xAsg, ygT_t, ygsC, ygsN, ygN, xPar, xAppend, xFrz, xVar, xC, xOp, xUn, pNeg_i, xTest, asB_b, xAnd, xOr, xNot, xAndV, xNotV, xIf, xIfT, xChain, xNil, xCons, xTup, xLst, xFz, xCall, rOfT_d, rOfT_o, rOfT_c, rOwT_o, ywNil, ywDat, ywVar, xCB, xIsi, asI_i, xLenS, xFor, ziL, itT_t, itL_l, ziR1, ziET, enT_t, enL_l, xLc, noOwnB, wipeE, xYes, xRaise, pAdd_i, pAdd_t, pAdd_l, pSub_i, pLt_i, pLe_i, pGt_i, pGe_i, pIs_n, pIsNot_n, pIsB_b, pNotB_b, isN_n, isN_b, isN_i, isN_s, isN_t, isN_l, pIx_t, pIx_l, pLen_t, pLen_l, pMin2_i, pMax2_i, pAbs_i, pInt_i, pTuple_t, pTuple_l, pList_t, pList_l, pIadd_i, pSl_t, pSl_l, pEqI, pNeI, pEqS, pNeS, at0, at1, at2, at3, at4, at5, at6, at7, bx_ret, bx_exc, bx_fail, bd_ret, bd_exc, bd_fail, exS_ret, exS_exc, exS_fail, ofO_some, ofO_none, fnE, isi_T, isi_B, isi_I, isi_S, isi_L, sizeL, Option.bind_some, Option.map_some, Option.some.injEq, Int.reduceEq, Int.reduceLE, Int.reduceLT, Int.reduceNeg, Int.reduceAdd, Int.reduceSub, Int.reduceMul, decide_true, decide_false, decide_eq_true_eq, decide_not, eq_self, Int.cast_ofNat_Int, reduceCtorEq, List.length_cons, List.length_nil, List.map_cons, List.map_nil, List.replicate, List.cons_append, List.nil_append, List.append_nil, List.getElem?_cons_zero, List.getElem?_cons_succ, List.getElem?_nil, List.set_cons_zero, List.set_cons_succ, Nat.reduceAdd, Nat.reduceSub, Nat.reduceEqDiff, Nat.reduceLeDiff, Nat.reduceLT, Nat.zero_add, Nat.add_zero, true_and, and_true, false_and, and_false, Bool.not_true, Bool.not_false, Bool.true_and, Bool.and_true, Bool.false_and, Bool.and_false, Bool.or_false, Bool.false_or, Bool.or_true, Bool.true_or, Bool.not_eq_true', if_true, if_false, Bool.false_eq_true, Bool.not_eq_true, ↓reduceIte, ite_true, ite_false, Bool.true_eq_false, not_true_eq_false, not_false_eq_true, Nat.zero_le]
      exact Dr.ret ⟨_, rfl, st, hs, rfl⟩
  rintro ρ ⟨st, hs, rfl⟩
  refine Dz.seq (J := fun ρ s' => ∃ a b, Inv c s' a b st 0 [] ∧ ρ = [(some (.scr ns)), some .tok, (x2), some (.dat (c.d)), some (.dat (stD (st))), some (.dat (.int (0))), some (.dat (rf a)), some (.dat (rf b)), some (.own ([])), (x9), (x10), (x11), (x12), (x13), (x14)]) 0 _ ?_ ?_
  · unfold xParW3 xwD
    rw [eq_mkS (ws := [.dat c.d]) (d := stD st) rfl rfl]
    refine Dz.at (hr_mk h hs).bd.exS ?_
    rw [bd_nw, exS_nw]
    refine Dz.nw fun a ha => ?_
    rw [bd_wr, exS_wr]
    refine Dz.wr ?_
    rw [bd_ret]
    unfold datK
    rw [exS_ret]
    unfold parW3a
    dsimp only
    rw [eq_mk (ws := [.dat c.d]) (dw := [start00]) rfl]
    refine Dz.at (At.exS (At.bd (hr_mk h (st00 h)))) ?_
    rw [bd_nw, exS_nw]
    refine Dz.nw fun b hb => ?_
    rw [bd_wr, exS_wr]
    refine Dz.wr ?_
    simp only [xFld, fldK, asRf_rf, bd_rd, bx_rd, exS_rd, bd_wr, bx_wr, exS_wr, pIntB_b, xParW3, parW3a, parW3b, parW3c, dictW_c, pLtA_i, pSumT, pSumL, xwD, xwO, datK, ownK, capN, capC, ygT3c, opK2, opK, chK4, chK3, chK2, chK, unK, andK, orK, notK, andVK2, andVK, notVK2, notVK, ifVK, ifTK, consK2, consK, tupK, lstK, fzK, cbK, isiK, drpK, retK, ifSK, setK, setOK, nxK, asgK, parK, appK, wcK, wdK, callK, forK, lcK, raiseK, bodyX, startE, xSeq, sqF, xNext, xIfS, xRet, xSet, xSetO, xDrop, xAsg, ygT_t, ygsC, ygsN, ygN, xPar, xAppend, xFrz, xVar, xC, xOp, xUn, pNeg_i, xTest, asB_b, xAnd, xOr, xNot, xAndV, xNotV, xIf, xIfT, xChain, xNil, xCons, xTup, xLst, xFz, xCall, rOfT_d, rOfT_o, rOfT_c, rOwT_o, ywNil, ywDat, ywVar, xCB, xIsi, asI_i, xLenS, xFor, ziL, itT_t, itL_l, ziR1, ziET, enT_t, enL_l, xLc, noOwnB, wipeE, xYes, xRaise, pAdd_i, pAdd_t, pAdd_l, pSub_i, pLt_i, pLe_i, pGt_i, pGe_i, pIs_n, pIsNot_n, pIsB_b, pNotB_b, isN_n, isN_b, isN_i, isN_s, isN_t, isN_l, pIx_t, pIx_l, pLen_t, pLen_l, pMin2_i, pMax2_i, pAbs_i, pInt_i, pTuple_t, pTuple_l, pList_t, pList_l, pIadd_i, pSl_t, pSl_l, pEqI, pNeI, pEqS, pNeS, at0, at1, at2, at3, at4, at5, at6, at7, bx_ret, bx_exc, bx_fail, bd_ret, bd_exc, bd_fail, exS_ret, exS_exc, exS_fail, ofO_some, ofO_none, fnE, isi_T, isi_B, isi_I, isi_S, isi_L, sizeL, Option.bind_some, Option.map_some, Option.some.injEq, Int.reduceEq, Int.reduceLE, Int.reduceLT, Int.reduceNeg, Int.reduceAdd, Int.reduceSub, Int.reduceMul, decide_true, decide_false, decide_eq_true_eq, decide_not, eq_self, Int.cast_ofNat_Int, reduceCtorEq, List.length_cons, List.length_nil, List.map_cons, List.map_nil, List.replicate, List.cons_append, List.nil_append, List.append_nil, List.getElem?_cons_zero, List.getElem?_cons_succ, List.getElem?_nil, List.set_cons_zero, List.set_cons_succ, Nat.reduceAdd, Nat.reduceSub, Nat.reduceEqDiff, Nat.reduceLeDiff, Nat.reduceLT, Nat.zero_add, Nat.add_zero, true_and, and_true, false_and, and_false, Bool.not_true, Bool.not_false, Bool.true_and, Bool.and_true, Bool.false_and, Bool.and_false, Bool.or_false, Bool.false_or, Bool.or_true, Bool.true_or, Bool.not_eq_true', if_true, if_false, Bool.false_eq_true, Bool.not_eq_true, ↓reduceIte, ite_true, ite_false, Bool.true_eq_false, not_true_eq_false, not_false_eq_true, Nat.zero_le]
    have ab : a ≠ b := fun e => by rw [← e, put_same] at hb; cases hb
    refine Dz.ret ⟨_, rfl, a, b, ⟨by rw [put_ne ab, put_same], put_same, (fun e he => (by cases he)), ?_, hs, by decide⟩, rfl⟩
    simp [ab]
  rintro ρ s1 ⟨a, b, I, rfl⟩
  refine Dz.seq (J := fun ρ s' => s' = s1 ∧ ρ = [(some (.scr ns)), some .tok, (x2), some (.dat (c.d)), some (.dat (stD (st))), some (.dat (.int (0))), some (.dat (rf a)), some (.dat (rf b)), some (.own ([])), (x9), (x10), (x11), (x12), (x13), (x14)]) 0 _ ?_ ?_
  · refine Dz.at (at_if (at_orF (at_st h hs (by decide) I.ha rfl rfl rfl) (at_st h (st00 h) (by decide) I.hb rfl rfl rfl))) ?_
    rw [if_neg (by decide)]
    exact Dz.ret ⟨_, rfl, rfl, rfl⟩
  rintro ρ s2 ⟨rfl, rfl⟩
  refine Dz.seq (J := fun ρ s' => ∃ st2 k2 ks y9 y10 y11, Inv c s' a b st2 k2 ks ∧ k2 ≤ 40 ∧ ks.length ≤ 40 ∧ ρ = [(some (.scr ns)), some .tok, (x2), some (.dat (c.d)), some (.dat (stD (st2))), some (.dat (.int (k2))), some (.dat (rf a)), some (.dat (rf b)), some (.own (Kp.d ks)), (y9), (y10), (y11), (x12), (x13), (x14)]) 91 _ ?_ ?_
  · simp only [r_draw, bx_draw, bd_draw, exS_draw, xFld, fldK, asRf_rf, bd_rd, bx_rd, exS_rd, bd_wr, bx_wr, exS_wr, pIntB_b, xParW3, parW3a, parW3b, parW3c, dictW_c, pLtA_i, pSumT, pSumL, xwD, xwO, datK, ownK, capN, capC, ygT3c, opK2, opK, chK4, chK3, chK2, chK, unK, andK, orK, notK, andVK2, andVK, notVK2, notVK, ifVK, ifTK, consK2, consK, tupK, lstK, fzK, cbK, isiK, drpK, retK, ifSK, setK, setOK, nxK, asgK, parK, appK, wcK, wdK, callK, forK, lcK, raiseK, bodyX, startE, xSeq, sqF, xNext, xIfS, xRet, xSet, xSetO, xDrop, xAsg, ygT_t, ygsC, ygsN, ygN, xPar, xAppend, xFrz, xVar, xC, xOp, xUn, pNeg_i, xTest, asB_b, xAnd, xOr, xNot, xAndV, xNotV, xIf, xIfT, xChain, xNil, xCons, xTup, xLst, xFz, xCall, rOfT_d, rOfT_o, rOfT_c, rOwT_o, ywNil, ywDat, ywVar, xCB, xIsi, asI_i, xLenS, xFor, ziL, itT_t, itL_l, ziR1, ziET, enT_t, enL_l, xLc, noOwnB, wipeE, xYes, xRaise, pAdd_i, pAdd_t, pAdd_l, pSub_i, pLt_i, pLe_i, pGt_i, pGe_i, pIs_n, pIsNot_n, pIsB_b, pNotB_b, isN_n, isN_b, isN_i, isN_s, isN_t, isN_l, pIx_t, pIx_l, pLen_t, pLen_l, pMin2_i, pMax2_i, pAbs_i, pInt_i, pTuple_t, pTuple_l, pList_t, pList_l, pIadd_i, pSl_t, pSl_l, pEqI, pNeI, pEqS, pNeS, at0, at1, at2, at3, at4, at5, at6, at7, bx_ret, bx_exc, bx_fail, bd_ret, bd_exc, bd_fail, exS_ret, exS_exc, exS_fail, ofO_some, ofO_none, fnE, isi_T, isi_B, isi_I, isi_S, isi_L, sizeL, Option.bind_some, Option.map_some, Option.some.injEq, Int.reduceEq, Int.reduceLE, Int.reduceLT, Int.reduceNeg, Int.reduceAdd, Int.reduceSub, Int.reduceMul, decide_true, decide_false, decide_eq_true_eq, decide_not, eq_self, Int.cast_ofNat_Int, reduceCtorEq, List.length_cons, List.length_nil, List.map_cons, List.map_nil, List.replicate, List.cons_append, List.nil_append, List.append_nil, List.getElem?_cons_zero, List.getElem?_cons_succ, List.getElem?_nil, List.set_cons_zero, List.set_cons_succ, Nat.reduceAdd, Nat.reduceSub, Nat.reduceEqDiff, Nat.reduceLeDiff, Nat.reduceLT, Nat.zero_add, Nat.add_zero, true_and, and_true, false_and, and_false, Bool.not_true, Bool.not_false, Bool.true_and, Bool.and_true, Bool.false_and, Bool.and_false, Bool.or_false, Bool.false_or, Bool.or_true, Bool.true_or, Bool.not_eq_true', if_true, if_false, Bool.false_eq_true, Bool.not_eq_true, ↓reduceIte, ite_true, ite_false, Bool.true_eq_false, not_true_eq_false, not_false_eq_true, Nat.zero_le]
    refine Dz.draw (k := 90) (by omega) (by omega) fun r r0 r1 => ?_
    have hlen : (rngD 0 r.toNat).length = r.toNat := rngD_len _ _
    simp only [rgT1_i (j := r) (by omega) (by omega), xFld, fldK, asRf_rf, bd_rd, bx_rd, exS_rd, bd_wr, bx_wr, exS_wr, pIntB_b, xParW3, parW3a, parW3b, parW3c, dictW_c, pLtA_i, pSumT, pSumL, xwD, xwO, datK, ownK, capN, capC, ygT3c, opK2, opK, chK4, chK3, chK2, chK, unK, andK, orK, notK, andVK2, andVK, notVK2, notVK, ifVK, ifTK, consK2, consK, tupK, lstK, fzK, cbK, isiK, drpK, retK, ifSK, setK, setOK, nxK, asgK, parK, appK, wcK, wdK, callK, forK, lcK, raiseK, bodyX, startE, xSeq, sqF, xNext, xIfS, xRet, xSet, xSetO, xDrop, xAsg, ygT_t, ygsC, ygsN, ygN, xPar, xAppend, xFrz, xVar, xC, xOp, xUn, pNeg_i, xTest, asB_b, xAnd, xOr, xNot, xAndV, xNotV, xIf, xIfT, xChain, xNil, xCons, xTup, xLst, xFz, xCall, rOfT_d, rOfT_o, rOfT_c, rOwT_o, ywNil, ywDat, ywVar, xCB, xIsi, asI_i, xLenS, xFor, ziL, itT_t, itL_l, ziR1, ziET, enT_t, enL_l, xLc, noOwnB, wipeE, xYes, xRaise, pAdd_i, pAdd_t, pAdd_l, pSub_i, pLt_i, pLe_i, pGt_i, pGe_i, pIs_n, pIsNot_n, pIsB_b, pNotB_b, isN_n, isN_b, isN_i, isN_s, isN_t, isN_l, pIx_t, pIx_l, pLen_t, pLen_l, pMin2_i, pMax2_i, pAbs_i, pInt_i, pTuple_t, pTuple_l, pList_t, pList_l, pIadd_i, pSl_t, pSl_l, pEqI, pNeI, pEqS, pNeS, at0, at1, at2, at3, at4, at5, at6, at7, bx_ret, bx_exc, bx_fail, bd_ret, bd_exc, bd_fail, exS_ret, exS_exc, exS_fail, ofO_some, ofO_none, fnE, isi_T, isi_B, isi_I, isi_S, isi_L, sizeL, Option.bind_some, Option.map_some, Option.some.injEq, Int.reduceEq, Int.reduceLE, Int.reduceLT, Int.reduceNeg, Int.reduceAdd, Int.reduceSub, Int.reduceMul, decide_true, decide_false, decide_eq_true_eq, decide_not, eq_self, Int.cast_ofNat_Int, reduceCtorEq, List.length_cons, List.length_nil, List.map_cons, List.map_nil, List.replicate, List.cons_append, List.nil_append, List.append_nil, List.getElem?_cons_zero, List.getElem?_cons_succ, List.getElem?_nil, List.set_cons_zero, List.set_cons_succ, Nat.reduceAdd, Nat.reduceSub, Nat.reduceEqDiff, Nat.reduceLeDiff, Nat.reduceLT, Nat.zero_add, Nat.add_zero, true_and, and_true, false_and, and_false, Bool.not_true, Bool.not_false, Bool.true_and, Bool.and_true, Bool.false_and, Bool.and_false, Bool.or_false, Bool.false_or, Bool.or_true, Bool.true_or, Bool.not_eq_true', if_true, if_false, Bool.false_eq_true, Bool.not_eq_true, ↓reduceIte, ite_true, ite_false, Bool.true_eq_false, not_true_eq_false, not_false_eq_true, Nat.zero_le]
    generalize hD : rngD 0 r.toNat = D at *
    refine Dz.le (k := 3 * D.length) ?_ (by rw [hlen]; omega)
    refine Dz.forT (J := fun ds ρ s' => ∃ st2 k2 ks y9 y10 y11, Inv c s' a b st2 k2 ks ∧ k2 + ds.length ≤ 40 ∧ ks.length + ds.length ≤ 40 ∧ ρ = [(some (.scr ns)), some .tok, (x2), some (.dat (c.d)), some (.dat (stD (st2))), some (.dat (.int (k2))), some (.dat (rf a)), some (.dat (rf b)), some (.own (Kp.d ks)), (y9), (y10), (y11), (x12), (x13), (x14)]) ?_ ?_ _ _ _ ⟨st, 0, [], _, _, _, I, by rw [hlen]; omega, by rw [hlen]; simp; omega, rfl⟩
    · rintro ρ s' ⟨st2, k2, ks, y9, y10, y11, I2, h1, h2, rfl⟩
      exact ⟨_, rfl, st2, k2, ks, _, _, _, I2, by simpa using h1, by simpa using h2, rfl⟩
    · rintro d ds ρ s' ⟨st2, k2, ks, y9, y10, y11, I2, h1, h2, rfl⟩
      simp only [List.length_cons] at h1 h2
      refine ⟨_, rfl, (d_one ns x2 (some (.dat d)) y10 y11 x12 x13 x14 h I2 (by omega) (by omega)).mono (Nat.le_refl _) fun f s3 hf => ?_⟩
      obtain ⟨st3, k3, ks3, z10, z11, rfl, I3, h3, h4⟩ := hf
      exact .inl ⟨_, .inl rfl, st3, k3, ks3, _, _, _, I3, by omega, by omega, rfl⟩
  rintro ρ s3 ⟨st2, k2, ks, y9, y10, y11, I2, h1, h2, rfl⟩
  have hs2 := I2.hs
  have k0 := I2.k0
  refine Dz.seq (J := fun ρ s' => ∃ y11 y12 y13 y14, Inv c s' a b st2 k2 [] ∧ ρ = [(some (.scr ns)), some .tok, (x2), some (.dat (c.d)), some (.dat (stD (st2))), some (.dat (.int (k2))), some (.dat (rf a)), some (.dat (rf b)), some (.dat (.list (Kp.d ks))), (y9), (y10), (y11), (y12), (y13), (y14)]) 40 _ ?_ ?_
  · have hl : (Kp.d ks).length = ks.length := List.length_map ..
    show Dz 40 (xFor (ziL (xVar 8)) (ygT 3 (ygsC (ygN 12) (ygsC (ygN 13) (ygsC (ygN 14) ygsN)))) b_law_1 [(some (.scr ns)), some .tok, (x2), some (.dat (c.d)), some (.dat (stD (st2))), some (.dat (.int (k2))), some (.dat (rf a)), some (.dat (rf b)), some (.dat (.list (Kp.d ks))), (y9), (y10), (y11), (x12), (x13), (x14)]) s3 _
    show Dz 40 (forT (ygT 3 (ygsC (ygN 12) (ygsC (ygN 13) (ygsC (ygN 14) ygsN)))) b_law_1 (Kp.d ks) [(some (.scr ns)), some .tok, (x2), some (.dat (c.d)), some (.dat (stD (st2))), some (.dat (.int (k2))), some (.dat (rf a)), some (.dat (rf b)), some (.dat (.list (Kp.d ks))), (y9), (y10), (y11), (x12), (x13), (x14)]) s3 _
    generalize hK : PyData.list (Kp.d ks) = KD
    refine Dz.le (k := 1 * (Kp.d ks).length) ?_ (by rw [hl]; omega)
    refine Dz.forT (J := fun ds ρ s' => ∃ kr y11 y12 y13 y14, ds = Kp.d kr ∧ Inv c s' a b st2 k2 kr ∧ ρ = [(some (.scr ns)), some .tok, (x2), some (.dat (c.d)), some (.dat (stD (st2))), some (.dat (.int (k2))), some (.dat (rf a)), some (.dat (rf b)), some (.dat (KD)), (y9), (y10), (y11), (y12), (y13), (y14)]) ?_ ?_ _ _ _ ⟨ks, _, _, _, _, rfl, I2, rfl⟩
    · rintro ρ s' ⟨kr, y11, y12, y13, y14, e, I3, rfl⟩
      cases kr with
      | nil => exact ⟨_, rfl, _, _, _, _, I3, rfl⟩
      | cons _ _ => cases e
    · rintro d ds ρ s' ⟨kr, y11, y12, y13, y14, e, I3, rfl⟩
      cases kr with
      | nil => cases e
      | cons e0 kr =>
        obtain ⟨t, q, m⟩ := e0
        have e1 : d = .tuple [rf t, stD q, .int m] := (List.cons.inj e).1
        have e2 : ds = Kp.d kr := (List.cons.inj e).2
        subst e1
        subst e2
        refine ⟨[(some (.scr ns)), some .tok, (x2), some (.dat (c.d)), some (.dat (stD (st2))), some (.dat (.int (k2))), some (.dat (rf a)), some (.dat (rf b)), some (.dat (KD)), (y9), (y10), (y11), some (.dat (rf t)), some (.dat (stD (q))), some (.dat (.int (m)))], rfl, (d_two ns x2 (some (.dat KD)) y9 y10 y11 h I3).mono (Nat.le_refl _) fun f s4 hf => ?_⟩
        obtain ⟨z11, rfl, I4⟩ := hf
        exact .inl ⟨_, .inl rfl, kr, _, _, _, _, rfl, I4, rfl⟩
  rintro ρ s4 ⟨y11, y12, y13, y14, I4, rfl⟩
  refine Dz.at (at_if (at_orF (at_st h hs2 (by omega) I4.ha rfl rfl rfl) (at_st h (st00 h) (by decide) I4.hb rfl rfl rfl))) ?_
  rw [if_neg (by decide)]
  exact Dz.ret ⟨_, _, _, _, _, _, _, _, _, _, _, _, rfl⟩
theorem law_holds : ∀ ns : List Int, ns.length ≤ 63 → SS t_law lawEnd ((startE 15 [.scr ns]).set 1 (some .tok)) 0 := by
  intro ns hns
  refine Dz.law (k := 200 * 7 + 0) ?_ (by decide)
  unfold t_law
  refine Dz.seq (J := fun ρ _ => ∃ y2 y3 y4 y5 y6 y7 y8 y9 y10 y11 y12 y13 y14 : Option VL.W, ρ = [(some (.scr ns)), some .tok, (y2), (y3), (y4), (y5), (y6), (y7), (y8), (y9), (y10), (y11), (y12), (y13), (y14)]) (200 * 7) _ ?_ ?_
  · have a1 : 2 ≤ 2 + mn (ns.length : Int) 5 ∧ 2 + mn (ns.length : Int) 5 ≤ 7 := by unfold mn; split <;> omega
    have hlen : (rngD 0 (2 + mn (ns.length : Int) 5).toNat).length = (2 + mn (ns.length : Int) 5).toNat := rngD_len _ _
    simp only [rgT1_i (j := 2 + mn (ns.length : Int) 5) (by omega) (by omega), xFld, fldK, asRf_rf, bd_rd, bx_rd, exS_rd, bd_wr, bx_wr, exS_wr, pIntB_b, xParW3, parW3a, parW3b, parW3c, dictW_c, pLtA_i, pSumT, pSumL, xwD, xwO, datK, ownK, capN, capC, ygT3c, opK2, opK, chK4, chK3, chK2, chK, unK, andK, orK, notK, andVK2, andVK, notVK2, notVK, ifVK, ifTK, consK2, consK, tupK, lstK, fzK, cbK, isiK, drpK, retK, ifSK, setK, setOK, nxK, asgK, parK, appK, wcK, wdK, callK, forK, lcK, raiseK, bodyX, startE, xSeq, sqF, xNext, xIfS, xRet, xSet, xSetO, xDrop, xAsg, ygT_t, ygsC, ygsN, ygN, xPar, xAppend, xFrz, xVar, xC, xOp, xUn, pNeg_i, xTest, asB_b, xAnd, xOr, xNot, xAndV, xNotV, xIf, xIfT, xChain, xNil, xCons, xTup, xLst, xFz, xCall, rOfT_d, rOfT_o, rOfT_c, rOwT_o, ywNil, ywDat, ywVar, xCB, xIsi, asI_i, xLenS, xFor, ziL, itT_t, itL_l, ziR1, ziET, enT_t, enL_l, xLc, noOwnB, wipeE, xYes, xRaise, pAdd_i, pAdd_t, pAdd_l, pSub_i, pLt_i, pLe_i, pGt_i, pGe_i, pIs_n, pIsNot_n, pIsB_b, pNotB_b, isN_n, isN_b, isN_i, isN_s, isN_t, isN_l, pIx_t, pIx_l, pLen_t, pLen_l, pMin2_i, pMax2_i, pAbs_i, pInt_i, pTuple_t, pTuple_l, pList_t, pList_l, pIadd_i, pSl_t, pSl_l, pEqI, pNeI, pEqS, pNeS, at0, at1, at2, at3, at4, at5, at6, at7, bx_ret, bx_exc, bx_fail, bd_ret, bd_exc, bd_fail, exS_ret, exS_exc, exS_fail, ofO_some, ofO_none, fnE, isi_T, isi_B, isi_I, isi_S, isi_L, sizeL, Option.bind_some, Option.map_some, Option.some.injEq, Int.reduceEq, Int.reduceLE, Int.reduceLT, Int.reduceNeg, Int.reduceAdd, Int.reduceSub, Int.reduceMul, decide_true, decide_false, decide_eq_true_eq, decide_not, eq_self, Int.cast_ofNat_Int, reduceCtorEq, List.length_cons, List.length_nil, List.map_cons, List.map_nil, List.replicate, List.cons_append, List.nil_append, List.append_nil, List.getElem?_cons_zero, List.getElem?_cons_succ, List.getElem?_nil, List.set_cons_zero, List.set_cons_succ, Nat.reduceAdd, Nat.reduceSub, Nat.reduceEqDiff, Nat.reduceLeDiff, Nat.reduceLT, Nat.zero_add, Nat.add_zero, true_and, and_true, false_and, and_false, Bool.not_true, Bool.not_false, Bool.true_and, Bool.and_true, Bool.false_and, Bool.and_false, Bool.or_false, Bool.false_or, Bool.or_true, Bool.true_or, Bool.not_eq_true', if_true, if_false, Bool.false_eq_true, Bool.not_eq_true, ↓reduceIte, ite_true, ite_false, Bool.true_eq_false, not_true_eq_false, not_false_eq_true, Nat.zero_le]
    refine Dz.le (k := 200 * (rngD 0 (2 + mn (ns.length : Int) 5).toNat).length) ?_ (by rw [hlen]; omega)
    refine Dz.forT (J := fun ds ρ _ => ∃ y2 y3 y4 y5 y6 y7 y8 y9 y10 y11 y12 y13 y14 : Option VL.W, ρ = [(some (.scr ns)), some .tok, (y2), (y3), (y4), (y5), (y6), (y7), (y8), (y9), (y10), (y11), (y12), (y13), (y14)]) ?_ ?_ _ _ _ ⟨none, none, none, none, none, none, none, none, none, none, none, none, none, rfl⟩
    · rintro ρ s' ⟨y2, y3, y4, y5, y6, y7, y8, y9, y10, y11, y12, y13, y14, rfl⟩
      exact ⟨_, rfl, _, _, _, _, _, _, _, _, _, _, _, _, _, rfl⟩
    · rintro d ds ρ s' ⟨y2, y3, y4, y5, y6, y7, y8, y9, y10, y11, y12, y13, y14, rfl⟩
      refine ⟨_, rfl, (d_turn ns s' (some (.dat d)) y3 y4 y5 y6 y7 y8 y9 y10 y11 y12 y13 y14).mono (Nat.le_refl _) fun f s2 hf => ?_⟩
      obtain ⟨z3, z4, z5, z6, z7, z8, z9, z10, z11, z12, z13, z14, rfl⟩ := hf
      exact .inl ⟨_, .inl rfl, _, _, _, _, _, _, _, _, _, _, _, _, _, rfl⟩
  · rintro ρ s' ⟨y2, y3, y4, y5, y6, y7, y8, y9, y10, y11, y12, y13, y14, rfl⟩
    exact Dz.ret rfl
end LW


open PySem PySem.W PySem.Calls PyProof.Rows
set_option maxRecDepth 100000 in
set_option maxHeartbeats 0 in
theorem PySem.Challenge.cw_stepsound_k44_hearers_holds : PySem.Challenge.rw_stepsound_k44_hearers.Holds := by
  w_on; o_law
  refine HandSHeadRun.head_any (r := OpenLaw.row PySem.Challenge.rw_stepsound_k44_hearers) (q := view (OpenLaw.row PySem.Challenge.rw_stepsound_k44_hearers).prog [29]) (H := LW.hk) (ob := LW.ob) (M := 6000) (loose := LW.names) (d := HandSHeadRun.topDef (OpenLaw.row PySem.Challenge.rw_stepsound_k44_hearers).prog 29) (kwd := []) VL.obX_eq
    (by kernel_rfl) (fun s => by kernel_rfl) LW.run (by kernel_rfl) (by kernel_rfl) (by kernel_rfl) (by rfl) (by first | assumption | decide +kernel) (by decide +kernel) ⟨rfl, rfl, rfl, rfl, rfl, by decide +kernel⟩ ?hw ?hc
  case hw => w_witness2
  case hc =>
    refine VL.walkG (l := PySem.Challenge.rw_stepsound_k44_hearers) (k := 10) rfl (by kernel_rfl) ⟨rfl, by decide, by decide⟩ ?F
    intro w mg fa h Y G hmg0
    obtain ⟨K, KX, c⟩ := Y
    have hmg : mg ("law" : PySem.Str) = some (.ref fa) := by
      have e : (HandSHeadRun.topDef (OpenLaw.row PySem.Challenge.rw_stepsound_k44_hearers).prog 29).name = ("law" : PySem.Str) := by kernel_rfl
      rw [← e]
      exact hmg0
    obtain ⟨T, ex⟩ := LW.tx KX G c
    have ea := hmg.symm.trans T.g_law
    cases ea
    obtain ⟨fd, F⟩ := T.d_law
    exact ⟨K, fd, LW.tf.map (He.cT K), KX, VL.tabsAt_of KX c (VL.ttB_eq ex), fun s v => (L2.FunD.bindsA (ps := ["script"]) F (fun _ _ _ _ _ _ us hl => match us, hl with | [_], _ => rfl)) s [v] rfl, fun base _ _ tb => LW.all_ok T F tb LW.law_holds⟩

