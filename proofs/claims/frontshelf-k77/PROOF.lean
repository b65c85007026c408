import PyProof.Rows.All
import Wide.All
import OpenK.AllK
import Wide.FinOn
import KE.KStateDown
import HandS.Base
import HandS.Call
import HandS.List
import HandS.Comp
import HandS.Iter
import HandS.Text
import HandS.TupAny
import HandS.TupMul
import HandS.Exc
import HandS.ExcSuper
import HandS.TryOnly
import HandS.TryMany
import HandS.Lambda
import HandS.Nested
import HandS.Words
import HandS.WordsList
import HandS.Defaults
import HandS.EndTab
import HandS.HeadWalk
import KE.KDictKeyed
import KE.KeyNested
import HandS.Flow
import HandS.Deep
import HandS.Style
import KE.DataEq
import KE.DataFind
import KE.DataAny
import KE.DataCmp
import KE.SortData
import KE.DatumIndex
import HandS.Wide
import HandS.Star
import KE.GoesEnum
import HandS.IsInst
import PyProof.SeqIndex
import PyProof.ReprRoads
import HandS.Ends
import HandS.HeadEnd
import PyProof.TupleOfSeq
import HandS.SetFor
import HandS.TupSets
import HandS.Strs
import PyProof.ListStr
import HandS.HeadHook4
import KE.KMulAny
import KE.KTupSum
import HandS.RaiseMore
import PyProof.ReprBulk
import PyProof.Rows.ReprShort
import HandS.Conv
import HandS.Gcd
import HandS.HeadHook1
import KE.DatumOrd
import HandS.Dict
import KE.KDictDisplayH
import PyProof.Rows.SeqRoads
import PySem.Challenge.RW_frontshelf_k77_whole_places_along
import HandS.Head0
import HandS.Head1
import HandS.Head2
import HandS.Head3
import HandS.HeadHook2
import HandS.HeadHook3
set_option Elab.async false
set_option linter.all false
set_option maxRecDepth 100000
set_option maxHeartbeats 0
/-! tuples whose very record is known (no instance dict): displays, tuple(list), slices, concatenation, divmod -/
namespace FS
open PySem PySem.Spec PyProof.Rows L2
/-- a tuple's record, as the interpreter makes it -/
def tupO (its : List Value) : Obj := { cls := .type "tuple", data := .seq its.toArray }
/-- how a tuple of ours is told -/
def TupHO (xs : List V) (o : HO) : Prop := ∃ its, o = .frz (tupO its) (.tup xs)
section
variable {X : Cx} {pins : List (Addr × Obj)} {σ : L2.St} {H : Hp} {s : Shared} {h' : Heap}
theorem tup_laid {t' : Nat} {p : Addr} {its : List Value} {xs : List V} (I : Inv X pins σ H s) (k : ∀ b o, s.heap.get? b = some o → h'.get? b = some o) (hp : s.heap.objs.size ≤ p) (e : h'.get? p = some (tupO its)) (r : Vals xs its) (z : xs.length ≤ sizeLine) :
    Inv X pins σ (upd H p (.frz (tupO its) (.tup xs))) { s with heap := h', toks := t' } :=
  I.laid (t' := t') k hp ⟨e, z, its, r, ⟨_, e, rfl, _, rfl⟩⟩
/-- t, pushed at the end -/
theorem tup_push {its : List Value} {xs : List V} (I : Inv X pins σ H s) (r : Vals xs its) (z : xs.length ≤ sizeLine) {Q : VK} (q : ∀ p o, H p = none → TupHO xs o → Q (.ref p) (upd H p o)) :
    EP X pins σ Q (.ref s.heap.objs.size) { s with heap := s.heap.push (tupO its) } :=
  ⟨.ref s.heap.objs.size, _, tup_laid (t' := s.toks) I (fun b o e => Heap.get?_push_of_some _ e) (Nat.le_refl _) (Heap.get?_push_size _ rfl) r z, rfl, q _ _ (I.hok.fresh (Nat.le_refl _)) ⟨its, rfl⟩⟩
end
def tTupF (t : TA) : TE := fun σ H Q => t σ H fun xs H1 => xs.length ≤ sizeLine ∧ ∀ p o, H1 p = none → TupHO xs o → Q (.ref p) (upd H1 p o)
section
variable {X : Cx}
theorem pe_tupF {es : List Expr} {t : TA} {k : Nat} {pos : Pos} (h : PA X es t) : PE X (.Tuple es k pos) (tTupF t) := by
  refine ⟨fun pins s σ H Q I hq => ?_⟩
  refine wpAny_Tuple_spliced (thn (h.run pos pins s σ H _ I hq) fun us s1 ⟨xs, H1, I1, r, z, q⟩ => ?_)
  exact ⟨by rw [← r.length]; exact z, tup_push I1 r z q⟩
def rTupOf (K : PySem.W.Frag) : List V → Hp → VK → Prop := fun xs H Q => ∃ p ys, xs = [.ref p] ∧ ((SqL K H p ys ∧ ∀ l o, H l = none → TupHO ys o → Q (.ref l) (upd H l o)) ∨ (SqT K H p ys ∧ Q (.ref p) H))
theorem call_tupleF : CallR X (.type "tuple") (rTupOf X.K) := by
  intro pins s σ H xs us Q I r h
  obtain ⟨p, ys, rfl, h⟩ := h
  obtain ⟨u, rfl, rx⟩ := vals1 r
  cases rx
  rcases h with ⟨hq, q⟩ | ⟨hq, q⟩
  · obtain ⟨its, r', pl, hz⟩ := I.list hq
    have hlen := r'.length
    refine call_tuple_list pl.isList (fun h' kp => ?_) (by simp only [List.size_toArray]; omega)
    have I1 : Inv X pins σ H { s with heap := h' } := I.kept (t' := s.toks) kp
    exact tup_push I1 r' hz q
  · obtain ⟨its, r', pl, hz⟩ := I.tuple hq
    exact call_tuple_same pl ⟨.ref p, H, I, rfl, q⟩
def rDivmodF : List V → Hp → VK → Prop := fun xs H Q => ∃ i j, xs = [.int i, .int j] ∧ CDiv i j ∧ ∀ p o, H p = none → TupHO [.int (i / j), .int (i % j)] o → Q (.ref p) (upd H p o)
theorem call_divmodF : CallR X (.builtin "divmod") rDivmodF := by
  intro pins s σ H xs us Q I r h
  obtain ⟨i, j, rfl, ⟨h1, h2⟩, q⟩ := h
  obtain ⟨u, w', rfl, ⟨t, rfl⟩, ⟨t', rfl⟩⟩ := vals2 r
  refine divmod_int (by omega) ?_ (.inl (PyProof.noPylong_small (by omega)))
  rw [Int.fdiv_eq_ediv_of_nonneg i (by omega), Int.fmod_eq_emod_of_nonneg i (by omega)]
  have e : Heap.get? (s.heap.push { cls := .type "tuple", data := .seq #[.int (i / j) s.toks, .int (i % j) (s.toks + 1)] }) s.heap.objs.size = some (tupO [.int (i / j) s.toks, .int (i % j) (s.toks + 1)]) := Heap.get?_push_size _ rfl
  exact ⟨.ref s.heap.objs.size, _, tup_laid I (fun b o e => Heap.get?_push_of_some _ e) (Nat.le_refl _) e (xs := [.int (i / j), .int (i % j)]) (.cons ⟨_, rfl⟩ (.cons ⟨_, rfl⟩ .nil)) (by show 2 ≤ sizeLine; decide), rfl, q _ _ (I.hok.fresh (Nat.le_refl _)) ⟨_, rfl⟩⟩
/-- t + u: one of them empty gives the other -/
def rCatF (K : PySem.W.Frag) : R2 := fun x y H Q => ∃ a b xs ys, x = .ref a ∧ y = .ref b ∧ SqT K H a xs ∧ SqT K H b ys ∧ xs.length + ys.length ≤ sizeLine ∧
  (xs = [] → Q (.ref b) H) ∧ (xs ≠ [] → ys = [] → Q (.ref a) H) ∧ (xs ≠ [] → ys ≠ [] → ∀ p o, H p = none → TupHO (xs ++ ys) o → Q (.ref p) (upd H p o))
theorem op_catF : OpR X (binaryOp .Add) (rCatF X.K) := by
  intro pins s σ H x y v u Q I rx ry h
  obtain ⟨a, b, xs, ys, rfl, rfl, ha, hb, hz, q0, q1, q2⟩ := h
  cases rx
  cases ry
  obtain ⟨its, r1, p1, _⟩ := I.tuple ha
  obtain ⟨its2, r2, p2, _⟩ := I.tuple hb
  by_cases hx : xs = []
  · subst hx
    cases r1
    exact cat_tup0 p1 p2 ⟨.ref b, H, I, rfl, q0 rfl⟩
  · refine HT.cat_tup p1 p2 (fun z => hx (r1.nil_iff.mp z)) (fun z => ⟨.ref a, H, I, rfl, q1 hx (r2.nil_iff.mp z)⟩) (fun z => ?_) (by rw [← r1.length, ← r2.length]; exact hz)
    exact tup_push I (r1.append r2) (by rw [List.length_append]; exact hz) (q2 hx fun w => z (r2.nil_iff.mpr w))
/-- t[lo:hi]: the whole is t itself -/
def rSlF (K : PySem.W.Frag) : V → Option Int → Option Int → Hp → VK → Prop := fun x lo hi H Q => ∃ a xs, x = .ref a ∧ SqT K H a xs ∧
  (HT.sIx xs.length 0 lo = 0 ∧ HT.sIx xs.length xs.length hi = xs.length → Q (.ref a) H) ∧ (¬ (HT.sIx xs.length 0 lo = 0 ∧ HT.sIx xs.length xs.length hi = xs.length) → ∀ p o, H p = none → TupHO (cutV xs lo hi) o → Q (.ref p) (upd H p o))
theorem sl_tupF : SlR X (rSlF X.K) := by
  intro pins s σ H x v vl vu lo hi sl Q I rx hs pl pu h
  obtain ⟨a, xs, rfl, hx, q1, q2⟩ := h
  cases rx
  obtain ⟨its, r, ht, hz⟩ := I.tuple hx
  have hlen : its.toArray.size = xs.length := by rw [List.size_toArray]; exact r.length.symm
  refine ⟨"tuple", _, PyProof.Rows.slot_tuple_getitem.lookup, ht.typeIs, ?_⟩
  by_cases hw : HT.sIx xs.length 0 lo = 0 ∧ HT.sIx xs.length xs.length hi = xs.length
  · exact getItem_tuple_whole ht hs pl pu (by rw [hlen]; exact hw) ⟨.ref a, H, I, rfl, q1 hw⟩
  · refine HT.getItem_tuple_cut ht hs pl pu (by rw [hlen]; exact hw) ?_ (by rw [hlen]; exact hz)
    rw [hlen]
    exact tup_push I ((r.drop (HT.sIx xs.length 0 lo)).take (HT.sIx xs.length xs.length hi - HT.sIx xs.length 0 lo)) (Nat.le_trans (cutV_length xs lo hi) hz) (q2 hw)
end
end FS
/-! A plain reading of the program: values as data, a state of names, and what the layer's readings say of them. -/
namespace FS
open PySem PySem.Spec PyProof.Rows L2 LamX

abbrev PV := PyData
/-- what a name holds: data; a list of one's own, to which one may append; the law's well of draws; a lambda with what it captured -/
inductive Slot where
  | val (d : PV)
  | own (xs : List PV)
  | well
  | clo (id : Nat) (caps : List PV)
  | dic (kv : List (PV × PV))
  | dcf (kv : List (PV × PV))
/-- nobody else holds it -/
def Slot.mine : Slot → Prop
  | .own _ => True
  | .dic _ => True
  | _ => False
abbrev En := List (Option Slot)
/-- an exception: its class's name, what it keeps -/
structure Ex where
  cls : Str
  pay : Option PV
/-- what is wanted of an outcome -/
abbrev EP' := Ex → Prop
def M (α : Type) := En → (α → En → Prop) → EP' → Prop
namespace M
def ok {α : Type} (a : α) : M α := fun s P _ => P a s
def bind {α β : Type} (m : M α) (f : α → M β) : M β := fun s P E => m s (fun a s' => f a s' P E) E
def fail {α : Type} : M α := fun _ _ _ => False
def raise {α : Type} (e : Ex) : M α := fun _ _ E => E e
/-- only where c -/
def need (c : Prop) : M Unit := fun s P _ => c ∧ P () s
end M
instance : Monad M where
  pure := M.ok
  bind := M.bind

/-! ### the marks of the well -/
def wellMark : HO := .own 0
def WellAt (H : Hp) (a : Addr) : Prop := ∃ x y z : Int, H a = some (.lst [.int x, .int y, .int z]) ∧ 0 ≤ x ∧ 0 ≤ y ∧ y < 2 ^ 32 ∧ 0 ≤ z
/-- what is known to stay: F within H -/
def Sub (F H : Hp) : Prop := ∀ a o, F a = some o → (o = wellMark → WellAt H a) ∧ (o ≠ wellMark → H a = some o)
theorem Sub.at {F H : Hp} {a : Addr} {o : HO} (s : Sub F H) (h : F a = some o) (n : o ≠ wellMark) : H a = some o := (s a o h).2 n
theorem rd_sub {F H : Hp} {a : Addr} {u : HO} (s : Sub F H) (n : u ≠ wellMark) (h : Rd F a u) : Rd H a u := by
  rcases h with h | ⟨o, h⟩
  · exact .inl (s.at h n)
  · exact .inr ⟨o, s.at h (by intro z; cases z)⟩
theorem rd_same {F H : Hp} {a : Addr} {u : HO} (s : Same F H) (h : Rd F a u) : Rd H a u := by
  rcases h with h | ⟨o, h⟩
  · exact .inl (s _ _ h)
  · exact .inr ⟨o, s _ _ h⟩
section
variable {K : PySem.W.Frag} {F F' H : Hp} {a : Addr} {xs : List V}
theorem sqL_sub (s : Sub F H) (h : SqL K F a xs) : SqL K H a xs := h.elim (fun h => .inl (rd_sub s (by intro z; cases z) h)) .inr
theorem sqT_sub (s : Sub F H) (h : SqT K F a xs) : SqT K H a xs := h.elim (fun h => .inl (rd_sub s (by intro z; cases z) h)) .inr
theorem sqL_same (s : Same F F') (h : SqL K F a xs) : SqL K F' a xs := h.elim (fun h => .inl (rd_same s h)) .inr
theorem sqT_same (s : Same F F') (h : SqT K F a xs) : SqT K F' a xs := h.elim (fun h => .inl (rd_same s h)) .inr
mutual
theorem dp_sub (s : Sub F H) : ∀ {v : V} (d : PV), Dp K F v d → Dp K H v d
  | _, .none, h => by cases h; exact .non
  | _, .bool b, h => by cases h; exact .bl b
  | _, .int i, h => by cases h; exact .int i
  | _, .str x, h => by cases h; exact .str x
  | _, .list ds, h => by
    cases h with
    | lst hs ha => exact .lst (sqL_sub s hs) (dpAll_sub s ds ha)
  | _, .tuple ds, h => by
    cases h with
    | tup hs ha => exact .tup (sqT_sub s hs) (dpAll_sub s ds ha)
  | _, .dict _, h => by cases h
theorem dpAll_sub (s : Sub F H) : ∀ {vs : List V} (ds : List PV), DpAll K F vs ds → DpAll K H vs ds
  | _, [], h => by cases h; exact .nil
  | _, d :: ds, h => by
    cases h with
    | cons h1 h2 => exact .cons (dp_sub s d h1) (dpAll_sub s ds h2)
end
mutual
theorem dp_same (s : Same F F') : ∀ {v : V} (d : PV), Dp K F v d → Dp K F' v d
  | _, .none, h => by cases h; exact .non
  | _, .bool b, h => by cases h; exact .bl b
  | _, .int i, h => by cases h; exact .int i
  | _, .str x, h => by cases h; exact .str x
  | _, .list ds, h => by
    cases h with
    | lst hs ha => exact .lst (sqL_same s hs) (dpAll_same s ds ha)
  | _, .tuple ds, h => by
    cases h with
    | tup hs ha => exact .tup (sqT_same s hs) (dpAll_same s ds ha)
  | _, .dict _, h => by cases h
theorem dpAll_same (s : Same F F') : ∀ {vs : List V} (ds : List PV), DpAll K F vs ds → DpAll K F' vs ds
  | _, [], h => by cases h; exact .nil
  | _, d :: ds, h => by
    cases h with
    | cons h1 h2 => exact .cons (dp_same s d h1) (dpAll_same s ds h2)
end
end
end FS
namespace L2
open PySem PySem.Spec PyProof.Rows FS
section
variable {K : PySem.W.Frag} {F F' H : Hp} {a : Addr} {xs : List V}
theorem DpAll.length : ∀ {vs : List V} {ds : List PV}, DpAll K F vs ds → vs.length = ds.length
  | _, [], h => by cases h; rfl
  | _, d :: ds, h => by
    cases h with
    | cons h1 h2 => exact congrArg Nat.succ (DpAll.length h2)
theorem DpAll.get : ∀ {vs : List V} {ds : List PV} {i : Nat} {d : PV}, DpAll K F vs ds → ds[i]? = some d → ∃ v, vs[i]? = some v ∧ Dp K F v d
  | _, [], _, _, _, e => by simp at e
  | _, d :: ds, i, d', h, e => by
    cases h with
    | cons h1 h2 =>
      cases i with
      | zero =>
        simp only [List.getElem?_cons_zero, Option.some.injEq] at e
        subst e
        exact ⟨_, rfl, h1⟩
      | succ i =>
        simp only [List.getElem?_cons_succ] at e ⊢
        exact DpAll.get h2 e
theorem DpAll.getV : ∀ {vs : List V} {ds : List PV} {i : Nat} {v : V}, DpAll K F vs ds → vs[i]? = some v → ∃ d, ds[i]? = some d ∧ Dp K F v d
  | _, [], _, _, h, e => by cases h; simp at e
  | _, d :: ds, i, v, h, e => by
    cases h with
    | cons h1 h2 =>
      cases i with
      | zero =>
        simp only [List.getElem?_cons_zero, Option.some.injEq] at e
        subst e
        exact ⟨_, rfl, h1⟩
      | succ i =>
        simp only [List.getElem?_cons_succ] at e ⊢
        exact DpAll.getV h2 e
theorem DpAll.app : ∀ {vs us : List V} {ds es : List PV}, DpAll K F vs ds → DpAll K F us es → DpAll K F (vs ++ us) (ds ++ es)
  | _, _, [], _, h, g => by cases h; exact g
  | _, _, d :: ds, es, h, g => by
    cases h with
    | cons h1 h2 => exact .cons h1 (DpAll.app h2 g)
theorem DpAll.take : ∀ {vs : List V} {ds : List PV} (n : Nat), DpAll K F vs ds → DpAll K F (vs.take n) (ds.take n)
  | _, _, 0, h => .nil
  | _, [], n + 1, h => by cases h; exact .nil
  | _, d :: ds, n + 1, h => by
    cases h with
    | cons h1 h2 => exact .cons h1 (DpAll.take n h2)
theorem DpAll.drop : ∀ {vs : List V} {ds : List PV} (n : Nat), DpAll K F vs ds → DpAll K F (vs.drop n) (ds.drop n)
  | _, _, 0, h => h
  | _, [], n + 1, h => by cases h; exact .nil
  | _, d :: ds, n + 1, h => by
    cases h with
    | cons h1 h2 => exact DpAll.drop n h2
theorem DpAll.rev : ∀ {vs : List V} {ds : List PV}, DpAll K F vs ds → DpAll K F vs.reverse ds.reverse
  | _, [], h => by cases h; exact .nil
  | _, d :: ds, h => by
    cases h with
    | cons h1 h2 =>
      rw [List.reverse_cons, List.reverse_cons]
      exact DpAll.app (DpAll.rev h2) (.cons h1 .nil)
end
end L2
namespace FS
open PySem PySem.Spec PyProof.Rows L2 LamX

/-! ### a frame: where one stands, and what must hold of a state -/
/-- the constant part of a frame. T: the tables of the program's code objects; F0, H0: what was known, what stood when the def was entered -/
structure Fx where
  X : Cx
  W : WX
  T : List (Addr × Str)
  F0 : Hp
  H0 : Hp
  /-- a lambda that was passed: id, what it captured, as it stood at the entry -/
  clo : Hp → V → Nat → List PV → Prop
  cloMono : ∀ F F' v i cs, Same F F' → clo F v i cs → clo F' v i cs

/-- a tuple that is told so has no instance dict -/
def NoD : HO → Prop
  | .tup _ => False
  | .tbl _ => False
  | .frz od (.tup _) => od.dict = none
  | _ => True
/-- what holds of the heaps -/
structure CB (T : List (Addr × Str)) (F0 H0 F H : Hp) : Prop where
  sub : Sub F H
  f0 : Same F0 F
  h0 : ∀ a o, H0 a = some o → F0 a ≠ some wellMark → (∀ ps, o ≠ .tbl ps) → H a = some o
  fresh : ∀ a, F a ≠ none → F0 a ≠ none ∨ H0 a = none
  mono : ∀ a, H0 a ≠ none → H a ≠ none
  tabs : Tabs T H
  tn : ∀ a o, F a = some o → NoD o
abbrev COk (fx : Fx) (F H : Hp) : Prop := CB fx.T fx.F0 fx.H0 F H
/-! ### dicts -/
def keyD : L2.Key → PV
  | .inl i => .int i
  | .inr z => .str z
/-- a dict whose keys are ints and texts -/
inductive KvR (K : PySem.W.Frag) (F : Hp) : List (L2.Key × V) → List (PV × PV) → Prop where
  | nil : KvR K F [] []
  | cons {k : L2.Key} {v : V} {d : PV} {p : List (L2.Key × V)} {q : List (PV × PV)} : Dp K F v d → KvR K F p q → KvR K F ((k, v) :: p) ((keyD k, d) :: q)
mutual
def keyN : PV → Option NestedKey
  | .none => some .none
  | .bool b => some (.num (if b = true then 1 else 0))
  | .int i => some (.num i)
  | .str z => some (.text z)
  | .tuple ds => (keysN ds).map .tup
  | _ => none
def keysN : List PV → Option (List NestedKey)
  | [] => some []
  | d :: ds => match keyN d, keysN ds with
    | some k, some ks => some (k :: ks)
    | _, _ => none
end
/-- a dict whose keys are tuples, as it lies -/
inductive TkR (K : PySem.W.Frag) (F : Hp) : List (NestedKey × Addr × Value) → List (PV × PV) → Prop where
  | nil : TkR K F [] []
  | cons {k : NestedKey} {b : Addr} {u : Value} {v : V} {dk d : PV} {p : List (NestedKey × Addr × Value)} {q : List (PV × PV)} : keyN dk = some k → k.depth ≤ 8 → (∃ ds, dk = .tuple ds) → Dp K F (.ref b) dk → RelV v u → Dp K F v d → TkR K F p q → TkR K F ((k, b, u) :: p) ((dk, d) :: q)
/-- a dict object by its entries -/
abbrev dicO (a : Addr) (es : List DictEntry) : HO := .ext fun h => (a == sysModules) = false ∧ ∃ o arr ep, h.get? a = some o ∧ o.ExactDict ∧ o.data = .dict arr ep ∧ arr.toList = es
/-- the object o at a is a dict with these keys and values -/
def DcO (K : PySem.W.Frag) (P : Program) (w : World) (F : Hp) (a : Addr) (o : HO) (kv : List (PV × PV)) : Prop :=
  (∃ kvs, o = .dK kvs ∧ KvR K F kvs kv) ∨ ∃ xs, o = dicO a (xs.map (entryOfKey (nestedKind P w))) ∧ TkR K F xs kv ∧ (xs.map (·.1)).Nodup ∧ xs.length ≤ sizeLine
/-- a dict that is known: it stays -/
def DcF (K : PySem.W.Frag) (P : Program) (w : World) (F : Hp) (v : V) (kv : List (PV × PV)) : Prop := ∃ a q o, v = .ref a ∧ F a = some (.frz q o) ∧ DcO K P w F a o kv
theorem KvR.same {K : PySem.W.Frag} {F F' : Hp} (s : Same F F') {p : List (L2.Key × V)} {q : List (PV × PV)} (h : KvR K F p q) : KvR K F' p q := by
  induction h with
  | nil => exact .nil
  | cons h _ ih => exact .cons (dp_same s _ h) ih
theorem TkR.same {K : PySem.W.Frag} {F F' : Hp} (s : Same F F') {p : List (NestedKey × Addr × Value)} {q : List (PV × PV)} (h : TkR K F p q) : TkR K F' p q := by
  induction h with
  | nil => exact .nil
  | cons e1 e2 e3 h1 h2 h3 _ ih => exact .cons e1 e2 e3 (dp_same s _ h1) h2 (dp_same s _ h3) ih
theorem DcO.same {K : PySem.W.Frag} {P : Program} {w : World} {F F' : Hp} {a : Addr} {o : HO} {kv : List (PV × PV)} (s : Same F F') (h : DcO K P w F a o kv) : DcO K P w F' a o kv := by
  rcases h with ⟨kvs, e, r⟩ | ⟨xs, e, r, n⟩
  · exact .inl ⟨kvs, e, r.same s⟩
  · exact .inr ⟨xs, e, r.same s, n⟩
theorem DcF.same {K : PySem.W.Frag} {P : Program} {w : World} {F F' : Hp} {v : V} {kv : List (PV × PV)} (s : Same F F') (h : DcF K P w F v kv) : DcF K P w F' v kv := by
  obtain ⟨a, q, o, e1, e2, e3⟩ := h
  exact ⟨a, q, o, e1, s _ _ e2, e3.same s⟩
/-- no dict of ours -/
def NotDc : HO → Prop
  | .dK _ => False
  | .ext _ => False
  | _ => True
theorem DcO.no {K : PySem.W.Frag} {P : Program} {w : World} {F : Hp} {a : Addr} {o : HO} {kv : List (PV × PV)} (h : DcO K P w F a o kv) (n : NotDc o) : False := by
  rcases h with ⟨kvs, rfl, r⟩ | ⟨xs, rfl, r⟩
  · exact n
  · exact n
theorem DcO.lst {K : PySem.W.Frag} {P : Program} {w : World} {F : Hp} {a : Addr} {vs : List V} {kv : List (PV × PV)} (h : DcO K P w F a (.lst vs) kv) : False := h.no trivial
theorem DcO.tbl {K : PySem.W.Frag} {P : Program} {w : World} {F : Hp} {a : Addr} {o : HO} {kv : List (PV × PV)} (h : DcO K P w F a o kv) : ∀ ps, o ≠ .tbl ps := fun ps e => by
  subst e
  exact h.no trivial
theorem DcO.well {K : PySem.W.Frag} {P : Program} {w : World} {F : Hp} {a : Addr} {o : HO} {kv : List (PV × PV)} (h : DcO K P w F a o kv) : o ≠ wellMark := fun e => by
  subst e
  exact h.no trivial
def SlotOk (fx : Fx) (F H : Hp) : Slot → V → Prop
  | .val d, v => Dp fx.X.K F v d
  | .own xs, v => ∃ a vs, v = .ref a ∧ H a = some (.lst vs) ∧ F a = none ∧ fx.H0 a = none ∧ DpAll fx.X.K F vs xs ∧ vs.length ≤ sizeLine
  | .well, v => ∃ a, v = .ref a ∧ F a = some wellMark
  | .clo i cs, v => fx.clo F v i cs
  | .dic kv, v => ∃ a o, v = .ref a ∧ H a = some o ∧ F a = none ∧ fx.H0 a = none ∧ DcO fx.X.K fx.X.prog fx.X.w F a o kv
  | .dcf kv, v => DcF fx.X.K fx.X.prog fx.X.w F v kv
structure SOk (fx : Fx) (F : Hp) (σ : L2.St) (H : Hp) (env : En) : Prop where
  c : COk fx F H
  len : env.length = σ.length
  slot : ∀ (i : Nat) (s : Slot), env[i]? = some (some s) → ∃ v : V, σ[i]? = some (some v) ∧ SlotOk fx F H s v
  sepS : ∀ (i j : Nat) (s t : Slot) (v : V), env[i]? = some (some s) → env[j]? = some (some t) → s.mine → t.mine → σ[i]? = some (some v) → σ[j]? = some (some v) → i = j
theorem SOk.sep {fx : Fx} {F : Hp} {σ : L2.St} {H : Hp} {env : En} (h : SOk fx F σ H env) (i j : Nat) (xs ys : List PV) (v : V) (e1 : env[i]? = some (some (.own xs))) (e2 : env[j]? = some (some (.own ys))) (e3 : σ[i]? = some (some v)) (e4 : σ[j]? = some (some v)) : i = j :=
  h.sepS i j _ _ v e1 e2 trivial trivial e3 e4
/-- names are as they were, but that own lists may have been handed out -/
def EnLe (env env' : En) : Prop := env'.length = env.length ∧ ∀ i : Nat, env'[i]? = env[i]? ∨ ∃ xs : List PV, env[i]? = some (some (.own xs)) ∧ env'[i]? = some (some (.val (.list xs)))
theorem EnLe.refl (env : En) : EnLe env env := ⟨rfl, fun _ => .inl rfl⟩
theorem EnLe.trans {a b c : En} (h : EnLe a b) (g : EnLe b c) : EnLe a c := ⟨g.1.trans h.1, fun i => by
  rcases g.2 i with e | ⟨xs, e1, e2⟩
  · rw [e]; exact h.2 i
  · rcases h.2 i with e | ⟨ys, f1, f2⟩
    · exact .inr ⟨xs, e ▸ e1, e2⟩
    · rw [f2] at e1; cases e1⟩

/-- an exception as it lies: its class, its own dict -/
def ExRep (mg : Str → Option Value) (K : PySem.W.Frag) (F H : Hp) (e : Ex) (cls : Value) (d : Option Addr) : Prop :=
  ∃ C f, cls = .ref C ∧ mg e.cls = some (.ref C) ∧ (match e.pay with
    | some p => ∃ dx v, d = some dx ∧ H dx = some (.xd [(f, v)]) ∧ Dp K F v p
    | none => d = none)

/-- what an exception asks -/
def ExOk (fx : Fx) (F : Hp) (E : EP') : Prop := ∀ e F' H' cls d σ', E e → Same F F' → COk fx F' H' → ExRep fx.X.mg fx.X.K F' H' e cls d → fx.W cls d σ' H'
theorem ExOk.later {fx : Fx} {F F' : Hp} {E : EP'} (h : ExOk fx F E) (s : Same F F') : ExOk fx F' E := fun e F2 H' cls d σ' q s2 => h e F2 H' cls d σ' q (s.trans s2)

/-- what an expression gives: data, a new list that nobody else holds, the own list of a name -/
inductive Res where
  | val (d : PV)
  | new (xs : List PV)
  | bor (i : Nat) (xs : List PV)
  | dnew (kv : List (PV × PV))
  | dcf (kv : List (PV × PV))
def ResOk (fx : Fx) (Hs F : Hp) (σ : L2.St) (H : Hp) (env : En) : Res → V → Prop
  | .val d, v => Dp fx.X.K F v d
  | .new xs, v => ∃ a vs, v = .ref a ∧ H a = some (.lst vs) ∧ F a = none ∧ fx.H0 a = none ∧ DpAll fx.X.K F vs xs ∧ vs.length ≤ sizeLine ∧ Hs a = none ∧ ∀ (j : Nat) (ys : List PV), env[j]? = some (some (.own ys)) → σ[j]? ≠ some (some v)
  | .bor i xs, v => env[i]? = some (some (.own xs)) ∧ σ[i]? = some (some v)
  | .dnew kv, v => ∃ a o, v = .ref a ∧ H a = some o ∧ F a = none ∧ fx.H0 a = none ∧ DcO fx.X.K fx.X.prog fx.X.w F a o kv ∧ Hs a = none ∧ ∀ (j : Nat) (q : List (PV × PV)), env[j]? = some (some (.dic q)) → σ[j]? ≠ some (some v)
  | .dcf kv, v => DcF fx.X.K fx.X.prog fx.X.w F v kv
/-- a value that is looked at, not kept -/
def PvOk (fx : Fx) (F : Hp) (σ : L2.St) (env : En) (d : PV) (v : V) : Prop :=
  Dp fx.X.K F v d ∨ ∃ (i : Nat) (xs : List PV), d = .list xs ∧ env[i]? = some (some (.own xs)) ∧ σ[i]? = some (some v)

/-- is the own list of a name -/
def OwnAt (σ : L2.St) (env : En) (a : Addr) : Prop := ∃ (i : Nat) (xs : List PV), env[i]? = some (some (.own xs)) ∧ σ[i]? = some (some (.ref a))
theorem OwnAt.back {σ : L2.St} {env env' : En} {a : Addr} (le : EnLe env env') (h : OwnAt σ env' a) : OwnAt σ env a := by
  obtain ⟨i, xs, e1, e2⟩ := h
  rcases le.2 i with z | ⟨ys, z1, z2⟩
  · exact ⟨i, xs, z ▸ e1, e2⟩
  · exact ⟨i, ys, z1, e2⟩
/-- what an expression leaves as it was -/
structure Stp (F H : Hp) (σ : L2.St) (env : En) (F' H' : Hp) : Prop where
  sm : Same F F'
  mono : ∀ a, H a ≠ none → H' a ≠ none
  keep : ∀ a o, H a = some o → F a = none → (∀ ps, o ≠ .tbl ps) → ¬ OwnAt σ env a → H' a = some o ∧ F' a = none
theorem Stp.refl {F H : Hp} {σ : L2.St} {env : En} : Stp F H σ env F H := ⟨Same.refl _, fun _ h => h, fun _ _ h g _ _ => ⟨h, g⟩⟩
theorem Stp.tr {F H F1 H1 F2 H2 : Hp} {σ : L2.St} {env env1 : En} (a : Stp F H σ env F1 H1) (le : EnLe env env1) (b : Stp F1 H1 σ env1 F2 H2) : Stp F H σ env F2 H2 :=
  ⟨a.sm.trans b.sm, fun x h => b.mono x (a.mono x h), fun x o h g n w => by
    obtain ⟨h1, g1⟩ := a.keep x o h g n w
    exact b.keep x o h1 g1 n fun z => w (z.back le)⟩
/-- what was new at the start is known more -/
theorem Stp.more {F H F1 H1 F2 : Hp} {σ : L2.St} {env : En} (a : Stp F H σ env F1 H1) (sm : Same F1 F2) (k : ∀ b, H b ≠ none → F1 b = none → F2 b = none) : Stp F H σ env F2 H1 :=
  ⟨a.sm.trans sm, a.mono, fun x o h g n w => by
    obtain ⟨h1, g1⟩ := a.keep x o h g n w
    exact ⟨h1, k x (by rw [h]; simp) g1⟩⟩
section
variable {α : Type}
/-- the general form: R relates the outcome -/
def SimG (fx : Fx) (β : Type) (t : L2.St → Hp → (β → Hp → Prop) → Prop) (m : M α) (R : Hp → Hp → L2.St → Hp → En → α → β → Prop) : Prop :=
  ∀ (F : Hp) (σ : L2.St) (H : Hp) (env : En) (P : α → En → Prop) (E : EP') (Q : β → Hp → Prop),
    SOk fx F σ H env → m env P E → (∀ r env' F' H' v, P r env' → Stp F H σ env F' H' → EnLe env env' → SOk fx F' σ H' env' → R H F' σ H' env' r v → Q v H') → ExOk fx F E → t σ H Q
end
/-- an expression's reading says what m says -/
abbrev SimR (fx : Fx) (t : TE) (m : M Res) : Prop := SimG fx V t m fun Hs F σ H env r v => ResOk fx Hs F σ H env r v
abbrev SimE (fx : Fx) (t : TE) (m : M PV) : Prop := SimG fx V t m fun _ F _ _ _ d v => Dp fx.X.K F v d
abbrev SimP (fx : Fx) (t : TE) (m : M PV) : Prop := SimG fx V t m fun _ F σ _ env d v => PvOk fx F σ env d v
/-- the same of a truth value -/
abbrev SimT (fx : Fx) (t : TT) (m : M Bool) : Prop := SimG fx Bool t m fun _ _ _ _ _ b c => b = c
/-- of a list of values -/
abbrev SimA (fx : Fx) (t : TA) (m : M (List PV)) : Prop := SimG fx (List V) t m fun _ F _ _ _ ds vs => DpAll fx.X.K F vs ds
/-- a flow: on, back with a value, out of the loop, to the next turn -/
inductive Out where
  | nx | rt (d : PV) | bk | ct
def SimS (fx : Fx) (t : TS) (m : M Out) : Prop := ∀ (F : Hp) (σ : L2.St) (H : Hp) (env : En) (P : Out → En → Prop) (E : EP') (D : Ends),
  SOk fx F σ H env → m env P E →
  (∀ env' F' σ' H', P .nx env' → Same F F' → SOk fx F' σ' H' env' → D.nx σ' H') →
  (∀ d env' F' σ' H' v, P (.rt d) env' → Same F F' → SOk fx F' σ' H' env' → Dp fx.X.K F' v d → D.rt v H') →
  (∀ env' F' σ' H', P .bk env' → Same F F' → SOk fx F' σ' H' env' → D.bk σ' H') →
  (∀ env' F' σ' H', P .ct env' → Same F F' → SOk fx F' σ' H' env' → D.ct σ' H') → ExOk fx F E → t D σ H

structure ROk (fx : Fx) (e : Expr) (m : M Res) : Prop where
  ex : ∃ t, PE fx.X e t ∧ SimR fx t m
structure EOk (fx : Fx) (e : Expr) (m : M PV) : Prop where
  ex : ∃ t, PE fx.X e t ∧ SimE fx t m
structure POk (fx : Fx) (e : Expr) (m : M PV) : Prop where
  ex : ∃ t, PE fx.X e t ∧ SimP fx t m
structure TOk (fx : Fx) (e : Expr) (m : M Bool) : Prop where
  ex : ∃ t, PT fx.X e t ∧ SimT fx t m
structure AOk (fx : Fx) (es : List Expr) (m : M (List PV)) : Prop where
  ex : ∃ t, PA fx.X es t ∧ SimA fx t m
structure StOk (fx : Fx) (st : Stmt) (m : M Out) : Prop where
  ex : ∃ t, PS fx.X st t ∧ SimS fx t m
structure SsOk (fx : Fx) (sts : List Stmt) (m : M Out) : Prop where
  ex : ∃ t, PSs fx.X sts t ∧ SimS fx t m

/-! ### steps of the state -/
section
variable {fx : Fx} {F F' H : Hp} {σ : L2.St} {env env' : En}
theorem SlotOk.grow {s : Slot} {v : V} (h : SlotOk fx F H s v) (sm : Same F F') (k : ∀ a, F a = none → fx.H0 a = none → H a ≠ none → ((∃ xs, s = .own xs) ∨ ∃ p, s = .dic p) → v = .ref a → F' a = none) : SlotOk fx F' H s v := by
  cases s with
  | val d => exact dp_same sm d h
  | own xs =>
    obtain ⟨a, vs, rfl, e1, e2, e3, e4, e5⟩ := h
    exact ⟨a, vs, rfl, e1, k a e2 e3 (by rw [e1]; simp) (.inl ⟨xs, rfl⟩) rfl, e3, dpAll_same sm _ e4, e5⟩
  | well =>
    obtain ⟨a, rfl, e⟩ := h
    exact ⟨a, rfl, sm _ _ e⟩
  | clo i cs => exact fx.cloMono _ _ _ _ _ sm h
  | dic p =>
    obtain ⟨a, o, rfl, e1, e2, e3, e4⟩ := h
    exact ⟨a, o, rfl, e1, k a e2 e3 (by rw [e1]; simp) (.inr ⟨p, rfl⟩) rfl, e3, e4.same sm⟩
  | dcf p => exact DcF.same sm h
theorem same_upd_none {F : Hp} {a : Addr} {o : HO} (h : F a = none) : Same F (upd F a o) := fun b x e => by
  rw [upd_ne (ne_of_none e h)]
  exact e
/-- something of ours (new, not own to a name) is handed out: known from now on -/
theorem SOk.lay {a : Addr} {o : HO} (h : SOk fx F σ H env) (e : H a = some o) (nF : F a = none) (n0 : fx.H0 a = none) (nd : NoD o) (nw : o ≠ wellMark) (dn : NotDc o) (no : ∀ (j : Nat) (ys : List PV), env[j]? = some (some (.own ys)) → σ[j]? ≠ some (some (.ref a))) : SOk fx (upd F a o) σ H env := by
  have sm : Same F (upd F a o) := same_upd_none nF
  refine ⟨⟨fun b x q => ?_, h.c.f0.trans sm, h.c.h0, fun b q => ?_, h.c.mono, h.c.tabs, fun b x q => ?_⟩, h.len, fun i s q => ?_, h.sepS⟩
  · by_cases hb : b = a
    · subst hb
      rw [upd_same] at q
      cases q
      exact ⟨fun z => (nw z).elim, fun _ => e⟩
    · rw [upd_ne hb] at q
      exact h.c.sub b x q
  · by_cases hb : b = a
    · subst hb
      exact .inr n0
    · rw [upd_ne hb] at q
      exact h.c.fresh b q
  · by_cases hb : b = a
    · subst hb
      rw [upd_same] at q
      cases q
      exact nd
    · rw [upd_ne hb] at q
      exact h.c.tn b x q
  · obtain ⟨v, e1, e2⟩ := h.slot i s q
    refine ⟨v, e1, e2.grow sm fun b f1 f2 f3 f4 f5 => ?_⟩
    subst f5
    have : b ≠ a := fun z => by
      rcases f4 with ⟨xs, rfl⟩ | ⟨p, rfl⟩
      · exact no i xs q (z ▸ e1)
      · obtain ⟨b', o', g0, g1, _, _, g4⟩ := e2
        cases g0
        rw [z, e] at g1
        cases g1
        exact g4.no dn
    rw [upd_ne this]
    exact f1
/-- an own list is handed out -/
theorem SOk.freeze {i : Nat} {xs : List PV} {v : V} (h : SOk fx F σ H env) (e : env[i]? = some (some (.own xs))) (ev : σ[i]? = some (some v)) :
    ∃ F', Stp F H σ env F' H ∧ EnLe env (env.set i (some (.val (.list xs)))) ∧ SOk fx F' σ H (env.set i (some (.val (.list xs)))) ∧ Dp fx.X.K F' v (.list xs) := by
  obtain ⟨v', e1, a, vs, rfl, e2, e3, e4, e5, e6⟩ := h.slot i _ e
  rw [ev] at e1
  cases e1
  have sm : Same F (upd F a (.lst vs)) := same_upd_none e3
  have dv : Dp fx.X.K (upd F a (.lst vs)) (.ref a) (.list xs) := .lst (SqL.of upd_same) (dpAll_same sm _ e5)
  have hi : i < env.length := (List.getElem?_eq_some_iff.mp e).1
  refine ⟨upd F a (.lst vs), ⟨sm, fun _ h => h, fun b o g1 g2 g3 g4 => ⟨g1, ?_⟩⟩, ⟨by rw [List.length_set], fun j => ?_⟩, ⟨⟨fun b x q => ?_, h.c.f0.trans sm, h.c.h0, fun b q => ?_, h.c.mono, h.c.tabs, fun b x q => ?_⟩, by rw [List.length_set]; exact h.len, fun j s q => ?_, fun j k s t w q1 q2 m1 m2 q3 q4 => ?_⟩, dv⟩
  · have : b ≠ a := fun z => g4 ⟨i, xs, e, z ▸ ev⟩
    rw [upd_ne this]
    exact g2
  · by_cases hj : i = j
    · subst hj
      exact .inr ⟨xs, e, List.getElem?_set_self hi⟩
    · rw [List.getElem?_set_ne hj]
      exact .inl rfl
  · by_cases hb : b = a
    · subst hb
      rw [upd_same] at q
      cases q
      exact ⟨fun z => (by cases z), fun _ => e2⟩
    · rw [upd_ne hb] at q
      exact h.c.sub b x q
  · by_cases hb : b = a
    · subst hb
      exact .inr e4
    · rw [upd_ne hb] at q
      exact h.c.fresh b q
  · by_cases hb : b = a
    · subst hb
      rw [upd_same] at q
      cases q
      trivial
    · rw [upd_ne hb] at q
      exact h.c.tn b x q
  · by_cases hj : i = j
    · subst hj
      rw [List.getElem?_set_self hi] at q
      cases q
      exact ⟨_, ev, dv⟩
    · rw [List.getElem?_set_ne hj] at q
      obtain ⟨w, f1, f2⟩ := h.slot j s q
      refine ⟨w, f1, f2.grow sm fun b g1 g2 g3 g4 g5 => ?_⟩
      subst g5
      have : b ≠ a := fun z => by
        rcases g4 with ⟨ys, rfl⟩ | ⟨p, rfl⟩
        · exact hj (h.sep i j xs ys _ e q ev (z ▸ f1))
        · obtain ⟨b', o', h0, h1, _, _, h4⟩ := f2
          cases h0
          rw [z, e2] at h1
          cases h1
          exact h4.lst
      rw [upd_ne this]
      exact g1
  · have nj : i ≠ j := fun z => by
      subst z
      rw [List.getElem?_set_self hi] at q1
      cases q1
      exact m1
    have nk : i ≠ k := fun z => by
      subst z
      rw [List.getElem?_set_self hi] at q2
      cases q2
      exact m2
    rw [List.getElem?_set_ne nj] at q1
    rw [List.getElem?_set_ne nk] at q2
    exact h.sepS j k s t w q1 q2 m1 m2 q3 q4
/-- a new list is handed out -/
theorem SOk.settle {Hs : Hp} {xs : List PV} {v : V} (h : SOk fx F σ H env) (r : ResOk fx Hs F σ H env (.new xs) v) : ∃ F', Same F F' ∧ (∀ b, Hs b ≠ none → F b = none → F' b = none) ∧ SOk fx F' σ H env ∧ Dp fx.X.K F' v (.list xs) := by
  obtain ⟨a, vs, rfl, e1, e2, e3, e4, e5, e6, e7⟩ := r
  have sm : Same F (upd F a (.lst vs)) := same_upd_none e2
  refine ⟨upd F a (.lst vs), sm, fun b hb g => ?_, h.lay e1 e2 e3 trivial (by intro z; cases z) trivial e7, .lst (SqL.of upd_same) (dpAll_same sm _ e4)⟩
  have : b ≠ a := fun z => hb (z ▸ e6)
  rw [upd_ne this]
  exact g
end

/-! ### from what an expression gives to what is kept, to what is looked at -/
def toE : Res → M PV
  | .val d => M.ok d
  | .new xs => M.ok (.list xs)
  | .bor i xs => fun s P _ => P (.list xs) (s.set i (some (.val (.list xs))))
  | .dnew _ => M.fail
  | .dcf _ => M.fail
def toP : Res → M PV
  | .val d => M.ok d
  | .new xs => M.ok (.list xs)
  | .bor _ xs => M.ok (.list xs)
  | .dnew _ => M.fail
  | .dcf _ => M.fail
section
variable {fx : Fx} {t : TE} {m : M Res} {e : Expr}
theorem SimR.toE (h : SimR fx t m) : SimE fx t (m >>= FS.toE) := by
  intro F σ H env P E Q s hm hq hx
  refine h F σ H env _ E Q s hm (fun r env' F' H' v q sm le s' ro => ?_) hx
  cases r with
  | val d => exact hq d env' F' H' v q sm le s' ro
  | new xs =>
    obtain ⟨F2, sm2, k2, s2, d2⟩ := s'.settle ro
    exact hq _ env' F2 H' v q (sm.more sm2 k2) le s2 d2
  | bor i xs =>
    obtain ⟨F2, sm2, le2, s2, d2⟩ := s'.freeze ro.1 ro.2
    exact hq _ _ F2 H' v q (sm.tr le sm2) (le.trans le2) s2 d2
  | dnew _ => exact False.elim q
  | dcf _ => exact False.elim q
theorem SimR.toP (h : SimR fx t m) : SimP fx t (m >>= FS.toP) := by
  intro F σ H env P E Q s hm hq hx
  refine h F σ H env _ E Q s hm (fun r env' F' H' v q sm le s' ro => ?_) hx
  cases r with
  | val d => exact hq d env' F' H' v q sm le s' (.inl ro)
  | new xs =>
    obtain ⟨F2, sm2, k2, s2, d2⟩ := s'.settle ro
    exact hq _ env' F2 H' v q (sm.more sm2 k2) le s2 (.inl d2)
  | bor i xs => exact hq _ env' F' H' v q sm le s' (.inr ⟨i, xs, rfl, ro.1, ro.2⟩)
  | dnew _ => exact False.elim q
  | dcf _ => exact False.elim q
theorem ROk.toE (h : ROk fx e m) : EOk fx e (m >>= FS.toE) := by
  obtain ⟨t, p, q⟩ := h.ex
  exact ⟨t, p, SimR.toE q⟩
theorem ROk.toP (h : ROk fx e m) : POk fx e (m >>= FS.toP) := by
  obtain ⟨t, p, q⟩ := h.ex
  exact ⟨t, p, SimR.toP q⟩
end
/-- a looked-at value stays so -/
theorem PvOk.later {fx : Fx} {F F' : Hp} {σ : L2.St} {env env' : En} {d : PV} {v : V} {H' : Hp} (h : PvOk fx F σ env d v) (sm : Same F F') (le : EnLe env env') (s : SOk fx F' σ H' env') : PvOk fx F' σ env' d v := by
  rcases h with h | ⟨i, xs, rfl, e1, e2⟩
  · exact .inl (dp_same sm d h)
  · rcases le.2 i with z | ⟨ys, z1, z2⟩
    · exact .inr ⟨i, xs, rfl, z.trans e1, e2⟩
    · rw [e1] at z1
      cases z1
      obtain ⟨w, f1, f2⟩ := s.slot i _ z2
      rw [e2] at f1
      cases f1
      exact .inl f2
/-- a looked-at list -/
theorem PvOk.lst {fx : Fx} {F H : Hp} {σ : L2.St} {env : En} {xs : List PV} {v : V} (h : PvOk fx F σ env (.list xs) v) (s : SOk fx F σ H env) :
    ∃ a vs, v = .ref a ∧ SqL fx.X.K H a vs ∧ DpAll fx.X.K F vs xs := by
  rcases h with h | ⟨i, ys, e, e1, e2⟩
  · cases h with
    | lst hs ha => exact ⟨_, _, rfl, sqL_sub s.c.sub hs, ha⟩
  · cases e
    obtain ⟨w, f1, a, vs, rfl, f2, f3, f4, f5, f6⟩ := s.slot i _ e1
    rw [e2] at f1
    cases f1
    exact ⟨a, vs, rfl, SqL.of f2, f5⟩
theorem PvOk.tup {fx : Fx} {F H : Hp} {σ : L2.St} {env : En} {xs : List PV} {v : V} (h : PvOk fx F σ env (.tuple xs) v) (s : SOk fx F σ H env) :
    ∃ a vs, v = .ref a ∧ SqT fx.X.K H a vs ∧ DpAll fx.X.K F vs xs := by
  rcases h with h | ⟨i, ys, e, _⟩
  · cases h with
    | tup hs ha => exact ⟨_, _, rfl, sqT_sub s.c.sub hs, ha⟩
  · cases e
/-- .. as data of the heap that stands -/
theorem PvOk.dp {fx : Fx} {F H : Hp} {σ : L2.St} {env : En} {d : PV} {v : V} (h : PvOk fx F σ env d v) (s : SOk fx F σ H env) : Dp fx.X.K H v d := by
  rcases h with h | ⟨i, xs, rfl, e1, e2⟩
  · exact dp_sub s.c.sub d h
  · obtain ⟨w, f1, a, vs, rfl, f2, f3, f4, f5, f6⟩ := s.slot i _ e1
    rw [e2] at f1
    cases f1
    exact .lst (SqL.of f2) (dpAll_sub s.c.sub _ f5)
end FS
namespace FS
open PySem PySem.Spec PyProof.Rows L2 LamX

section
variable {fx : Fx} {F F' H : Hp} {σ : L2.St} {env env' : En}
/-- a new object is made -/
theorem SOk.alloc {p : Addr} {o : HO} (h : SOk fx F σ H env) (n : H p = none) : SOk fx F σ (upd H p o) env ∧ F p = none ∧ fx.H0 p = none ∧ (∀ (j : Nat) (ys : List PV), env[j]? = some (some (.own ys)) → σ[j]? ≠ some (some (.ref p))) := by
  have sm : Same H (upd H p o) := same_upd_none n
  have nF : F p = none := by
    cases e : F p with
    | none => rfl
    | some x =>
      obtain ⟨k1, k2⟩ := h.c.sub p x e
      by_cases z : x = wellMark
      · obtain ⟨_, _, _, w1, _⟩ := k1 z
        rw [n] at w1; cases w1
      · have w1 := k2 z
        rw [n] at w1; cases w1
  have n0 : fx.H0 p = none := by
    cases e : fx.H0 p with
    | none => rfl
    | some x => exact absurd n (h.c.mono p (by rw [e]; simp))
  refine ⟨⟨⟨fun a x e => ?_, h.c.f0, fun a x e1 e2 e3 => sm _ _ (h.c.h0 a x e1 e2 e3), h.c.fresh, fun a e => ?_, h.c.tabs.ext sm, h.c.tn⟩, h.len, fun i s e => ?_, h.sepS⟩, nF, n0, fun j ys e1 e2 => ?_⟩
  · obtain ⟨k1, k2⟩ := h.c.sub a x e
    refine ⟨fun z => ?_, fun z => sm _ _ (k2 z)⟩
    obtain ⟨x1, y1, z1, w1, w2⟩ := k1 z
    exact ⟨x1, y1, z1, sm _ _ w1, w2⟩
  · intro z
    by_cases hb : a = p
    · subst hb
      rw [upd_same] at z
      cases z
    · rw [upd_ne hb] at z
      exact h.c.mono a e z
  · obtain ⟨v, e1, e2⟩ := h.slot i s e
    refine ⟨v, e1, ?_⟩
    cases s with
    | val d => exact e2
    | own xs =>
      obtain ⟨a, vs, rfl, f1, f2, f3, f4, f5⟩ := e2
      exact ⟨a, vs, rfl, sm _ _ f1, f2, f3, f4, f5⟩
    | well => exact e2
    | clo i cs => exact e2
    | dic q =>
      obtain ⟨a, o', rfl, f1, f2⟩ := e2
      exact ⟨a, o', rfl, sm _ _ f1, f2⟩
    | dcf q => exact e2
  · obtain ⟨v, f1, a, vs, rfl, f2, f3⟩ := h.slot j _ e1
    rw [e2] at f1
    cases f1
    rw [n] at f2
    cases f2
theorem Stp.up {p : Addr} {o : HO} (n : H p = none) (g : Same F F') (k : ∀ b, b ≠ p → F b = none → F' b = none) : Stp F H σ env F' (upd H p o) :=
  ⟨g, fun a h z => by
    by_cases hb : a = p
    · subst hb
      exact h n
    · rw [upd_ne hb] at z
      exact h z, fun a x e f _ _ => by
    have hb : a ≠ p := fun z => by rw [z, n] at e; cases e
    rw [upd_ne hb]
    exact ⟨e, k a hb f⟩⟩
/-- a new tuple -/
theorem SOk.newTup {p : Addr} {o : HO} {vs : List V} {ds : List PV} (h : SOk fx F σ H env) (n : H p = none) (ho : TupHO vs o) (d : DpAll fx.X.K F vs ds) :
    ∃ F', Stp F H σ env F' (upd H p o) ∧ SOk fx F' σ (upd H p o) env ∧ Dp fx.X.K F' (.ref p) (.tuple ds) := by
  obtain ⟨its, rfl⟩ := ho
  obtain ⟨s1, nF, n0, no⟩ := h.alloc (o := .frz (tupO its) (.tup vs)) n
  have sm : Same F (upd F p (.frz (tupO its) (.tup vs))) := same_upd_none nF
  exact ⟨upd F p (.frz (tupO its) (.tup vs)), Stp.up n sm (fun b hb f => by rw [upd_ne hb]; exact f), s1.lay upd_same nF n0 rfl (by intro z; cases z) trivial no, .tup (.inl (.inr ⟨_, upd_same⟩)) (dpAll_same sm _ d)⟩
/-- a new list -/
theorem SOk.newLst {p : Addr} {vs : List V} {ds : List PV} (h : SOk fx F σ H env) (n : H p = none) (d : DpAll fx.X.K F vs ds) (z : vs.length ≤ sizeLine) :
    Stp F H σ env F (upd H p (.lst vs)) ∧ SOk fx F σ (upd H p (.lst vs)) env ∧ ∀ Hs : Hp, Hs p = none → ResOk fx Hs F σ (upd H p (.lst vs)) env (.new ds) (.ref p) := by
  obtain ⟨s1, nF, n0, no⟩ := h.alloc (o := .lst vs) n
  exact ⟨Stp.up n (Same.refl _) (fun _ _ f => f), s1, fun Hs hs => ⟨p, vs, rfl, upd_same, nF, n0, d, z, hs, no⟩⟩
end

/-- the start may lie earlier -/
theorem ResOk.back {fx : Fx} {Hs H1 F H : Hp} {σ : L2.St} {env : En} {r : Res} {v : V} (h : ResOk fx H1 F σ H env r v) (m : ∀ a, Hs a ≠ none → H1 a ≠ none) : ResOk fx Hs F σ H env r v := by
  cases r with
  | val d => exact h
  | new xs =>
    obtain ⟨a, vs, e0, e1, e2, e3, e4, e5, e6, e7⟩ := h
    refine ⟨a, vs, e0, e1, e2, e3, e4, e5, ?_, e7⟩
    cases z : Hs a with
    | none => rfl
    | some o => exact absurd e6 (m a (by rw [z]; simp))
  | bor i xs => exact h
  | dnew kv =>
    obtain ⟨a, o, e0, e1, e2, e3, e4, e6, e7⟩ := h
    refine ⟨a, o, e0, e1, e2, e3, e4, ?_, e7⟩
    cases z : Hs a with
    | none => rfl
    | some o => exact absurd e6 (m a (by rw [z]; simp))
  | dcf kv => exact h
/-! ### operators -/
/-- what an operator asks and gives -/
def OpS (fx : Fx) (f : Value → Value → Sem Value) (o : PV → PV → M Res) : Prop :=
  ∃ r : R2, OpR fx.X f r ∧ ∀ (F : Hp) (σ : L2.St) (H : Hp) (env : En) (P : Res → En → Prop) (E : EP') (Q : VK) (a b : PV) (x y : V),
    SOk fx F σ H env → PvOk fx F σ env a x → PvOk fx F σ env b y → o a b env P E →
    (∀ r' env' F' H' v, P r' env' → Stp F H σ env F' H' → EnLe env env' → SOk fx F' σ H' env' → ResOk fx H F' σ H' env' r' v → Q v H') → ExOk fx F E → r x y H Q
theorem SimOp {fx : Fx} {f : Value → Value → Sem Value} {o : PV → PV → M Res} {r : R2} {ta tb : TE} {ma mb : M PV}
    (hs : ∀ (F : Hp) (σ : L2.St) (H : Hp) (env : En) (P : Res → En → Prop) (E : EP') (Q : VK) (a b : PV) (x y : V),
      SOk fx F σ H env → PvOk fx F σ env a x → PvOk fx F σ env b y → o a b env P E →
      (∀ r' env' F' H' v, P r' env' → Stp F H σ env F' H' → EnLe env env' → SOk fx F' σ H' env' → ResOk fx H F' σ H' env' r' v → Q v H') → ExOk fx F E → r x y H Q)
    (ha : SimP fx ta ma) (hb : SimP fx tb mb) : SimR fx (tOp r ta tb) (ma >>= fun a => mb >>= fun b => o a b) := by
  intro F σ H env P E Q s hm hq hx
  refine ha F σ H env _ E _ s hm (fun a env1 F1 H1 x q1 sm1 le1 s1 p1 => ?_) hx
  refine hb F1 σ H1 env1 _ E _ s1 q1 (fun b env2 F2 H2 y q2 sm2 le2 s2 p2 => ?_) (hx.later sm1.sm)
  exact hs F2 σ H2 env2 P E Q a b x y s2 (p1.later sm2.sm le2 s2) p2 q2 (fun r' env' F' H' v g1 g2 g3 g4 g5 => hq r' env' F' H' v g1 ((sm1.tr le1 sm2).tr (le1.trans le2) g2) ((le1.trans le2).trans g3) g4 (g5.back (sm1.tr le1 sm2).mono)) (hx.later (sm1.tr le1 sm2).sm)
section
variable {fx : Fx} {a b : Expr} {ma mb : M PV} {o : PV → PV → M Res} {pos : Pos}
theorem rBin {op : Operator} (h : OpS fx (binaryOp op) o) (ha : POk fx a ma) (hb : POk fx b mb) : ROk fx (.BinOp a op b pos) (ma >>= fun x => mb >>= fun y => o x y) := by
  obtain ⟨r, h1, h2⟩ := h
  obtain ⟨ta, pa, sa⟩ := ha.ex
  obtain ⟨tb, pb, sb⟩ := hb.ex
  exact ⟨_, pe_op h1 pa pb, SimOp (f := binaryOp op) h2 sa sb⟩
theorem rCmp {op : CmpOp} (h : OpS fx (compareOp op) o) (ha : POk fx a ma) (hb : POk fx b mb) (hm : behindInMarks op b = false) : ROk fx (.Compare a [op] [b] pos) (ma >>= fun x => mb >>= fun y => o x y) := by
  obtain ⟨r, h1, h2⟩ := h
  obtain ⟨ta, pa, sa⟩ := ha.ex
  obtain ⟨tb, pb, sb⟩ := hb.ex
  exact ⟨_, pe_cmpR h1 pa pb hm, SimOp (f := compareOp op) h2 sa sb⟩
end
/-- an operator on scalars: r takes the value g gives -/
theorem opS_scal {fx : Fx} {f : Value → Value → Sem Value} {r : R2} {g : PV → PV → Option PV} (h : OpR fx.X f r)
    (hr : ∀ (F : Hp) (σ : L2.St) (H : Hp) (env : En) (a b c : PV) (x y : V) (Q : VK), SOk fx F σ H env → PvOk fx F σ env a x → PvOk fx F σ env b y → g a b = some c → (∀ v, Dp fx.X.K F v c → Q v H) → r x y H Q) :
    OpS fx f (fun a b s P _ => match g a b with
      | some c => P (.val c) s
      | none => False) := by
  refine ⟨r, h, fun F σ H env P E Q a b x y s pa pb hm hq hx => ?_⟩
  cases e : g a b with
  | none => simp only [e] at hm
  | some c =>
    simp only [e] at hm
    exact hr F σ H env a b c x y Q s pa pb e fun v dv => hq (.val c) env F H v hm Stp.refl (EnLe.refl _) s dv
theorem PvOk.int {fx : Fx} {F : Hp} {σ : L2.St} {env : En} {i : Int} {x : V} (h : PvOk fx F σ env (.int i) x) : x = .int i := by
  rcases h with h | ⟨_, _, e, _⟩
  · cases h; rfl
  · cases e
theorem PvOk.str {fx : Fx} {F : Hp} {σ : L2.St} {env : En} {i : Str} {x : V} (h : PvOk fx F σ env (.str i) x) : x = .str i := by
  rcases h with h | ⟨_, _, e, _⟩
  · cases h; rfl
  · cases e
theorem PvOk.bool {fx : Fx} {F : Hp} {σ : L2.St} {env : En} {i : Bool} {x : V} (h : PvOk fx F σ env (.bool i) x) : x = .bl i := by
  rcases h with h | ⟨_, _, e, _⟩
  · cases h; rfl
  · cases e
theorem PvOk.none {fx : Fx} {F : Hp} {σ : L2.St} {env : En} {x : V} (h : PvOk fx F σ env .none x) : x = .non := by
  rcases h with h | ⟨_, _, e, _⟩
  · cases h; rfl
  · cases e

/-! #### arithmetic -/
/-- a + b -/
def addM (a b : PV) : M Res := fun s P _ => match a, b with
  | .int i, .int j => P (.val (.int (i + j))) s
  | .str x, .str y => x.length + y.length ≤ sizeLine ∧ P (.val (.str (x ++ y))) s
  | .tuple xs, .tuple ys => xs.length + ys.length ≤ sizeLine ∧ P (.val (.tuple (xs ++ ys))) s
  | .list xs, .list ys => xs.length + ys.length ≤ sizeLine ∧ P (.new (xs ++ ys)) s
  | _, _ => False
def rCatL (K : PySem.W.Frag) : R2 := fun x y H Q => ∃ l b xs zs, x = .ref l ∧ y = .ref b ∧ SqL K H l xs ∧ SqL K H b zs ∧ xs.length + zs.length ≤ sizeLine ∧ ∀ p, H p = none → Q (.ref p) (upd H p (.lst (xs ++ zs)))
theorem op_catL {X : Cx} : OpR X (binaryOp .Add) (rCatL X.K) := by
  intro pins s σ H x y v u Q I rx ry h
  obtain ⟨l, b, xs, zs, rfl, rfl, hH, hB, hz, q⟩ := h
  cases rx
  cases ry
  obtain ⟨its, r, ⟨o1, n, e, hc1, hd1, hs1⟩, hl⟩ := I.list hH
  obtain ⟨its2, r2, ⟨o2, n2, e2, hc2, hd2, hs2⟩, hl2⟩ := I.list hB
  have l1 := r.length
  have l2 := r2.length
  obtain ⟨c1, d1, dt1, sl1⟩ := o1
  obtain ⟨c2, d2, dt2, sl2⟩ := o2
  simp only at hc1 hd1 hs1 hc2 hd2 hs2
  subst hc1 hd1 hs1 hc2 hd2 hs2
  have ea : its.toArray ++ its2.toArray = (its ++ its2).toArray := by simp
  refine concat_meets ⟨_, e, rfl⟩ ⟨_, e2, rfl⟩ noFill_list_add seq_list_add PySem.F.slot_list_add PySem.F.entry_list_add (PySem.F.args_list_add_2 _ _) (list_addW l b its.toArray its2.toArray n n2 none none sl1 sl2 (by rw [List.size_toArray, List.size_toArray]; omega)) ⟨e, e2, ?_⟩
  rw [ea]
  exact ⟨.ref _, _, I.lnew (t' := s.toks) (r.append r2) (by rw [List.length_append]; omega), rfl, q _ I.fresh⟩
theorem opS_add {fx : Fx} : OpS fx (binaryOp .Add) addM := by
  refine ⟨_, op_add.or (op_add_str.or (op_catF.or op_catL)), fun F σ H env P E Q a b x y s pa pb hm hq hx => ?_⟩
  cases a <;> cases b <;> first | exact hm.elim | skip
  · exact .inl ⟨_, _, pa.int, pb.int, hq _ env F H _ hm Stp.refl (EnLe.refl _) s (.int _)⟩
  · exact .inr (.inl ⟨_, _, pa.str, pb.str, hm.1, hq _ env F H _ hm.2 Stp.refl (EnLe.refl _) s (.str _)⟩)
  · obtain ⟨la, va, rfl, sa, da⟩ := pa.lst s
    obtain ⟨lb, vb, rfl, sb, db⟩ := pb.lst s
    have hl : va.length + vb.length ≤ sizeLine := by
      rw [da.length, db.length]
      exact hm.1
    refine .inr (.inr (.inr ⟨la, lb, va, vb, rfl, rfl, sa, sb, hl, fun p np => ?_⟩))
    obtain ⟨st, s1, r1⟩ := s.newLst np (da.app db) (by rw [List.length_append]; exact hl)
    exact hq _ env F _ _ hm.2 st (EnLe.refl _) s1 (r1 H np)
  · obtain ⟨la, va, rfl, sa, da⟩ := pa.tup s
    obtain ⟨lb, vb, rfl, sb, db⟩ := pb.tup s
    have hl : va.length + vb.length ≤ sizeLine := by
      rw [da.length, db.length]
      exact hm.1
    refine .inr (.inr (.inl ⟨la, lb, va, vb, rfl, rfl, sa, sb, hl, fun z => ?_, fun z1 z2 => ?_, fun z1 z2 p o np ho => ?_⟩))
    · subst z
      cases da
      rcases pb with pb | ⟨_, _, e, _⟩
      · exact hq _ env F H _ hm.2 Stp.refl (EnLe.refl _) s pb
      · cases e
    · subst z2
      cases db
      have hm2 : P (.val (.tuple (_ ++ []))) env := hm.2
      rw [List.append_nil] at hm2
      rcases pa with pa | ⟨_, _, e, _⟩
      · exact hq _ env F H _ hm2 Stp.refl (EnLe.refl _) s pa
      · cases e
    · obtain ⟨F2, sm, s1, r1⟩ := s.newTup np ho (da.app db)
      exact hq _ env F2 _ _ hm.2 sm (EnLe.refl _) s1 r1

/-- ops on scalars by cases -/
def subM (a b : PV) : M Res := fun s P _ => match a, b with
  | .int i, .int j => P (.val (.int (i - j))) s
  | _, _ => False
def fdivM (a b : PV) : M Res := fun s P _ => match a, b with
  | .int i, .int j => (0 < j ∧ j < 2 ^ 9000) ∧ P (.val (.int (i / j))) s
  | _, _ => False
def modM (a b : PV) : M Res := fun s P _ => match a, b with
  | .int i, .int j => 0 < j ∧ P (.val (.int (i % j))) s
  | _, _ => False
def powM (a b : PV) : M Res := fun s P _ => match a, b with
  | .int i, .int j => CPow i j ∧ P (.val (.int (i ^ j.toNat))) s
  | _, _ => False
theorem opS_sub {fx : Fx} : OpS fx (binaryOp .Sub) subM := by
  refine ⟨_, op_sub, fun F σ H env P E Q a b x y s pa pb hm hq hx => ?_⟩
  cases a <;> cases b <;> first | exact hm.elim | skip
  exact ⟨_, _, pa.int, pb.int, hq _ env F H _ hm Stp.refl (EnLe.refl _) s (.int _)⟩
theorem opS_mod {fx : Fx} : OpS fx (binaryOp .Mod) modM := by
  refine ⟨_, op_mod, fun F σ H env P E Q a b x y s pa pb hm hq hx => ?_⟩
  cases a <;> cases b <;> first | exact hm.elim | skip
  exact ⟨_, _, pa.int, pb.int, hm.1, hq _ env F H _ hm.2 Stp.refl (EnLe.refl _) s (.int _)⟩
theorem opS_pow {fx : Fx} : OpS fx (binaryOp .Pow) powM := by
  refine ⟨_, op_pow, fun F σ H env P E Q a b x y s pa pb hm hq hx => ?_⟩
  cases a <;> cases b <;> first | exact hm.elim | skip
  exact ⟨_, _, pa.int, pb.int, hm.1, hq _ env F H _ hm.2 Stp.refl (EnLe.refl _) s (.int _)⟩

/-! #### comparisons -/
def boolM (o : Option Bool) : M Res := fun s P _ => match o with
  | some b => P (.val (.bool b)) s
  | none => False
mutual
theorem dp_plain {K : PySem.W.Frag} {F : Hp} : ∀ {v : V} (d : PV), Dp K F v d → d.plain = true
  | _, .none, _ => rfl
  | _, .bool _, _ => rfl
  | _, .int _, _ => rfl
  | _, .str _, _ => rfl
  | _, .list ds, h => by
    cases h with
    | lst _ ha => exact dpAll_plain ds ha
  | _, .tuple ds, h => by
    cases h with
    | tup _ ha => exact dpAll_plain ds ha
  | _, .dict _, h => by cases h
theorem dpAll_plain {K : PySem.W.Frag} {F : Hp} : ∀ {vs : List V} (ds : List PV), DpAll K F vs ds → PyData.plainAll ds = true
  | _, [], _ => rfl
  | _, d :: ds, h => by
    cases h with
    | cons h1 h2 =>
      show (d.plain && PyData.plainAll ds) = true
      rw [dp_plain d h1, dpAll_plain ds h2]
      rfl
end
/-- the depth that comparisons go to -/
def shallow (a b : PV) : Prop := min a.depth b.depth ≤ 64
/-- a == b -/
def eqM (a b : PV) : M Res := fun s P _ => shallow a b ∧ P (.val (.bool (PyData.eqv a b))) s
def neM (a b : PV) : M Res := fun s P _ => shallow a b ∧ P (.val (.bool (!PyData.eqv a b))) s
section
variable {X : Cx}
def rEqF (K : PySem.W.Frag) (f : Bool → Bool) : R2 := fun x y H Q => ∃ d e, Dp K H x d ∧ Dp K H y e ∧ shallow d e ∧ Q (.bl (f (PyData.eqv d e))) H
theorem op_eqF (hu : X.A.units + 64 < cLine) : OpR X (compareOp .Eq) (rEqF X.K id) := by
  intro pins s σ H x y v u Q I rx ry ⟨d, e, hd, he, hs, q⟩
  obtain ⟨as, r1⟩ := Dp.reads I d x v hd rx
  obtain ⟨bs, r2⟩ := Dp.reads I e y u he ry
  exact SeqAt.eq_plain r1 r2 (dp_plain d hd) (dp_plain e he) (by unfold shallow at hs; omega) ⟨.bl _, H, I, rfl, q⟩
theorem op_neF (hu : X.A.units + 64 < cLine) : OpR X (compareOp .NotEq) (rEqF X.K not) := by
  intro pins s σ H x y v u Q I rx ry ⟨d, e, hd, he, hs, q⟩
  obtain ⟨as, r1⟩ := Dp.reads I d x v hd rx
  obtain ⟨bs, r2⟩ := Dp.reads I e y u he ry
  exact SeqAt.ne_plain r1 r2 (dp_plain d hd) (dp_plain e he) (by unfold shallow at hs; omega) ⟨.bl _, H, I, rfl, q⟩
end
theorem opS_eq {fx : Fx} (hu : fx.X.A.units + 64 < cLine) : OpS fx (compareOp .Eq) eqM :=
  ⟨_, op_eqF hu, fun F σ H env P E Q a b x y s pa pb hm hq hx => ⟨a, b, pa.dp s, pb.dp s, hm.1, hq _ env F H _ hm.2 Stp.refl (EnLe.refl _) s (.bl _)⟩⟩
theorem opS_ne {fx : Fx} (hu : fx.X.A.units + 64 < cLine) : OpS fx (compareOp .NotEq) neM :=
  ⟨_, op_neF hu, fun F σ H env P E Q a b x y s pa pb hm hq hx => ⟨a, b, pa.dp s, pb.dp s, hm.1, hq _ env F H _ hm.2 Stp.refl (EnLe.refl _) s (.bl _)⟩⟩
/-- an order of ints, texts -/
def ordP (fi : Int → Int → Bool) (fs : List Nat → List Nat → Bool) (a b : PV) : Option Bool := match a, b with
  | .int i, .int j => some (fi i j)
  | .str x, .str y => some (fs x.cps.toList y.cps.toList)
  | _, _ => none
def ltM (a b : PV) : M Res := boolM (ordP (fun i j => decide (i < j)) (fun x y => decide (x < y)) a b)
def leM (a b : PV) : M Res := boolM (ordP (fun i j => decide (i ≤ j)) (fun x y => !decide (y < x)) a b)
def gtM (a b : PV) : M Res := boolM (ordP (fun i j => decide (j < i)) (fun x y => decide (y < x)) a b)
def geM (a b : PV) : M Res := boolM (ordP (fun i j => decide (j ≤ i)) (fun x y => !decide (x < y)) a b)
theorem opS_ord {fx : Fx} {f : Value → Value → Sem Value} {fi : Int → Int → Bool} {fs : List Nat → List Nat → Bool} (hi : OpR fx.X f (rI0 fun i j => .bl (fi i j))) (hs : OpR fx.X f (fun x y H Q => ∃ i j, x = .str i ∧ y = .str j ∧ Q (.bl (fs i.cps.toList j.cps.toList)) H)) :
    OpS fx f (fun a b => boolM (ordP fi fs a b)) := by
  refine ⟨_, hi.or hs, fun F σ H env P E Q a b x y s pa pb hm hq hx => ?_⟩
  cases a <;> cases b <;> first | exact hm.elim | skip
  · exact .inl ⟨_, _, pa.int, pb.int, hq _ env F H _ hm Stp.refl (EnLe.refl _) s (.bl _)⟩
  · exact .inr ⟨_, _, pa.str, pb.str, hq _ env F H _ hm Stp.refl (EnLe.refl _) s (.bl _)⟩
theorem opS_lt {fx : Fx} : OpS fx (compareOp .Lt) ltM := opS_ord op_lt op_lt_str
theorem opS_le {fx : Fx} : OpS fx (compareOp .LtE) leM := opS_ord op_le op_le_str
theorem opS_gt {fx : Fx} : OpS fx (compareOp .Gt) gtM := opS_ord op_gt op_gt_str
theorem opS_ge {fx : Fx} : OpS fx (compareOp .GtE) geM := opS_ord op_ge op_ge_str
/-- x in y -/
def inM (f : Bool → Bool) (x y : PV) : M Res := fun s P _ => match y with
  | .str z => match x with
    | .str a => P (.val (.bool (f (!(Builtin.Str.occurrences z a 0 z.length 1).isEmpty)))) s
    | _ => False
  | .list ys => min (PyData.depthAll ys) x.depth ≤ 64 ∧ P (.val (.bool (f (ys.any fun z => PyData.eqv z x)))) s
  | .tuple ys => min (PyData.depthAll ys) x.depth ≤ 64 ∧ P (.val (.bool (f (ys.any fun z => PyData.eqv z x)))) s
  | _ => False
section
variable {X : Cx}
def rInF (K : PySem.W.Frag) (f : Bool → Bool) : R2 := fun x y H Q => ∃ d ds, Dp K H x d ∧ (Dp K H y (.list ds) ∨ Dp K H y (.tuple ds)) ∧ min (PyData.depthAll ds) d.depth ≤ 64 ∧ Q (.bl (f (ds.any fun z => PyData.eqv z d))) H
theorem op_inF (hu : X.A.units + 65 < cLine) : OpR X (compareOp .In) (rInF X.K id) := by
  intro pins s σ H x y v u Q I rx ry ⟨d, ds, hd, he, hs, q⟩
  obtain ⟨as, r1⟩ := Dp.reads I d x v hd rx
  rcases he with he | he
  · obtain ⟨bs, r2⟩ := Dp.reads I (.list ds) y u he ry
    exact SeqAt.in_list_data r2 r1 (dp_plain (.list ds) he) (dp_plain d hd) (by omega) ⟨.bl _, H, I, rfl, q⟩
  · obtain ⟨bs, r2⟩ := Dp.reads I (.tuple ds) y u he ry
    exact SeqAt.in_tuple_data r2 r1 (dp_plain (.tuple ds) he) (dp_plain d hd) (by omega) ⟨.bl _, H, I, rfl, q⟩
theorem op_notInF (hu : X.A.units + 65 < cLine) : OpR X (compareOp .NotIn) (rInF X.K not) := by
  intro pins s σ H x y v u Q I rx ry ⟨d, ds, hd, he, hs, q⟩
  obtain ⟨as, r1⟩ := Dp.reads I d x v hd rx
  rcases he with he | he
  · obtain ⟨bs, r2⟩ := Dp.reads I (.list ds) y u he ry
    exact SeqAt.notIn_list_data r2 r1 (dp_plain (.list ds) he) (dp_plain d hd) (by omega) ⟨.bl _, H, I, rfl, q⟩
  · obtain ⟨bs, r2⟩ := Dp.reads I (.tuple ds) y u he ry
    exact SeqAt.notIn_tuple_data r2 r1 (dp_plain (.tuple ds) he) (dp_plain d hd) (by omega) ⟨.bl _, H, I, rfl, q⟩
end
theorem opS_inS {fx : Fx} {f : Bool → Bool} {op : CmpOp} (h1 : OpR fx.X (compareOp op) (rInF fx.X.K f)) (h2 : OpR fx.X (compareOp op) (fun x y H Q => ∃ i j, x = .str i ∧ y = .str j ∧ Q (.bl (f (!(Builtin.Str.occurrences j i 0 j.length 1).isEmpty))) H)) : OpS fx (compareOp op) (inM f) := by
  refine ⟨_, h1.or h2, fun F σ H env P E Q a b x y s pa pb hm hq hx => ?_⟩
  cases b <;> first | exact hm.elim | skip
  · cases a <;> first | exact hm.elim | skip
    exact .inr ⟨_, _, pa.str, pb.str, hq _ env F H _ hm Stp.refl (EnLe.refl _) s (.bl _)⟩
  · exact .inl ⟨_, _, pa.dp s, .inl (pb.dp s), hm.1, hq _ env F H _ hm.2 Stp.refl (EnLe.refl _) s (.bl _)⟩
  · exact .inl ⟨_, _, pa.dp s, .inr (pb.dp s), hm.1, hq _ env F H _ hm.2 Stp.refl (EnLe.refl _) s (.bl _)⟩
theorem opS_in {fx : Fx} (hu : fx.X.A.units + 65 < cLine) : OpS fx (compareOp .In) (inM id) := opS_inS (op_inF hu) op_in_str
theorem opS_notIn {fx : Fx} (hu : fx.X.A.units + 65 < cLine) : OpS fx (compareOp .NotIn) (inM not) := opS_inS (op_notInF hu) op_notIn_str
/-- x is None -/
def isP (a b : PV) : Option Bool := match a, b with
  | .none, .none => some true
  | _, .none => some false
  | _, _ => none
def isM (a b : PV) : M Res := boolM (isP a b)
def isNotM (a b : PV) : M Res := boolM ((isP a b).map not)
theorem isP_some {fx : Fx} {F H : Hp} {σ : L2.St} {env : En} {a b : PV} {x y : V} {c : Bool} (s : SOk fx F σ H env) (pa : PvOk fx F σ env a x) (pb : PvOk fx F σ env b y) (h : isP a b = some c) : y = .non ∧ decide (x = .non) = c := by
  cases b <;> first | (cases a <;> cases h; done) | skip
  refine ⟨pb.none, ?_⟩
  cases a <;> cases h
  · rw [pa.none]; rfl
  · rw [pa.bool]; rfl
  · rw [pa.int]; rfl
  · rw [pa.str]; rfl
  · obtain ⟨p, vs, rfl, _⟩ := pa.lst s
    rfl
  · obtain ⟨p, vs, rfl, _⟩ := pa.tup s
    rfl
  · rcases pa with pa | ⟨i, xs, e, e1, e2⟩
    · cases pa
    · cases e
theorem opS_is {fx : Fx} : OpS fx (compareOp .Is) isM := by
  refine ⟨_, op_isN, fun F σ H env P E Q a b x y s pa pb hm hq hx => ?_⟩
  unfold isM boolM at hm
  cases e : isP a b with
  | none => simp only [e] at hm
  | some c =>
    simp only [e] at hm
    obtain ⟨h1, h2⟩ := isP_some s pa pb e
    exact ⟨h1, by rw [h2]; exact hq _ env F H _ hm Stp.refl (EnLe.refl _) s (.bl _)⟩
theorem opS_isNot {fx : Fx} : OpS fx (compareOp .IsNot) isNotM := by
  refine ⟨_, op_notN, fun F σ H env P E Q a b x y s pa pb hm hq hx => ?_⟩
  unfold isNotM boolM at hm
  cases e : isP a b with
  | none => simp only [e, Option.map_none] at hm
  | some c =>
    simp only [e, Option.map_some] at hm
    obtain ⟨h1, h2⟩ := isP_some s pa pb e
    exact ⟨h1, by rw [h2]; exact hq _ env F H _ hm Stp.refl (EnLe.refl _) s (.bl _)⟩
end FS
namespace FS
open PySem PySem.Spec PyProof.Rows L2 LamX

/-! ### constants and names -/
section
variable {fx : Fx} {pos : Pos}
theorem simC {v : V} {d : PV} (h : ∀ F, Dp fx.X.K F v d) : SimR fx (tC v) (pure (.val d)) := by
  intro F σ H env P E Q s hm hq hx
  exact hq _ env F H v hm Stp.refl (EnLe.refl _) s (h F)
def constP : Const → Option PV
  | .none => some .none
  | .bool b => some (.bool b)
  | .int i => some (.int i)
  | .str x => some (.str x)
  | _ => none
def valM (o : Option PV) : M Res := match o with
  | some d => pure (.val d)
  | none => M.fail
theorem simFail {t : TE} : SimR fx t M.fail := fun _ _ _ _ _ _ _ _ h => h.elim
theorem pe_any (e : Expr) : PE fx.X e (fun _ _ _ => False) := ⟨fun _ _ _ _ _ _ h => h.elim⟩
theorem rFail {e : Expr} : ROk fx e M.fail := ⟨_, pe_any e, simFail⟩
theorem rConst {c : Const} {k : Nat} : ROk fx (.Constant c k pos) (valM (constP c)) := by
  cases c <;> first | exact ⟨_, pe_non, simC fun _ => .non⟩ | exact ⟨_, pe_bl, simC fun _ => .bl _⟩ | exact ⟨_, pe_int, simC fun _ => .int _⟩ | exact ⟨_, pe_str, simC fun _ => .str _⟩ | exact rFail
/-- a name of the def -/
def rdM (i : Nat) : M Res := fun s P _ => match s[i]? with
  | some (some (.val d)) => P (.val d) s
  | some (some (.own xs)) => P (.bor i xs) s
  | some (some (.dcf kv)) => P (.dcf kv) s
  | _ => False
theorem rName {i : Nat} {x : Str} (hN : fx.X.N[i]? = some x) (hv : Vis fx.X.env.scope x) (hd : (x == ("__debug__" : Str)) = false) (hcd : (x == ("__classdict__" : Str)) = false) : ROk fx (.Name x pos) (rdM i) := by
  refine ⟨_, pe_var hN hv hd hcd, fun F σ H env P E Q s hm hq hx => ?_⟩
  unfold rdM at hm
  cases e : env[i]? with
  | none => simp only [e] at hm
  | some o =>
    cases o with
    | none => simp only [e] at hm
    | some sl =>
      obtain ⟨v, ev, so⟩ := s.slot i sl e
      cases sl with
      | val d =>
        simp only [e] at hm
        exact ⟨v, ev, hq _ env F H v hm Stp.refl (EnLe.refl _) s so⟩
      | own xs =>
        simp only [e] at hm
        exact ⟨v, ev, hq _ env F H v hm Stp.refl (EnLe.refl _) s ⟨e, ev⟩⟩
      | well => simp only [e] at hm
      | clo _ _ => simp only [e] at hm
      | dic _ => simp only [e] at hm
      | dcf kv =>
        simp only [e] at hm
        exact ⟨v, ev, hq _ env F H v hm Stp.refl (EnLe.refl _) s so⟩
/-- a module's constant -/
theorem rGlob {x : Str} {u : Value} {v : V} {d : PV} (hg : Gl fx.X x) (hm : fx.X.mg x = some u) (r : RelV v u) (h : ∀ F, Dp fx.X.K F v d) (hd : (x == ("__debug__" : Str)) = false) : ROk fx (.Name x pos) (pure (.val d)) :=
  ⟨_, pe_glob hg hm r hd, simC h⟩
end

/-! ### arithmetic of great numbers; signs -/
def mulM (a b : PV) : M Res := fun s P _ => match a, b with
  | .int i, .int j => (CMul i j ∨ i.natAbs.log2 + j.natAbs.log2 < 1000000) ∧ P (.val (.int (i * j))) s
  | .tuple xs, .int k => (xs ≠ [] ∧ 2 ≤ k ∧ k ≤ 1000 ∧ xs.length ≤ 1000) ∧ P (.val (.tuple (List.replicate k.toNat xs).flatten)) s
  | .list xs, .int k => (-(2 ^ 63) ≤ k ∧ k < 2 ^ 63 ∧ xs.length * k.toNat ≤ sizeLine) ∧ P (.new (List.replicate k.toNat xs).flatten) s
  | _, _ => False
theorem DpAll.rep {K : PySem.W.Frag} {F : Hp} {vs : List V} {ds : List PV} (h : DpAll K F vs ds) : ∀ n : Nat, DpAll K F (List.replicate n vs).flatten (List.replicate n ds).flatten
  | 0 => .nil
  | n + 1 => by
    rw [List.replicate_succ, List.replicate_succ, List.flatten_cons, List.flatten_cons]
    exact h.app (DpAll.rep h n)
def rRepL (K : PySem.W.Frag) : R2 := fun x y H Q => ∃ l k xs, x = .ref l ∧ y = .int k ∧ SqL K H l xs ∧ -(2 ^ 63) ≤ k ∧ k < 2 ^ 63 ∧ xs.length * k.toNat ≤ sizeLine ∧ ∀ p, H p = none → Q (.ref p) (upd H p (.lst (List.replicate k.toNat xs).flatten))
/-- a // b of ints, b above 0 -/
def fdivM' (a b : PV) : M Res := fun s P _ => match a, b with
  | .int i, .int j => (0 < j ∧ j.natAbs.log2 < 9000) ∧ P (.val (.int (i / j))) s
  | _, _ => False
theorem opS_fdiv {fx : Fx} : OpS fx (binaryOp .FloorDiv) fdivM' := by
  refine ⟨_, op_fdivW, fun F σ H env P E Q a b x y s pa pb hm hq hx => ?_⟩
  cases a <;> cases b <;> first | exact hm.elim | skip
  exact ⟨_, _, pa.int, pb.int, hm.1, hq _ env F H _ hm.2 Stp.refl (EnLe.refl _) s (.int _)⟩
/-- of ints, so far -/
def mulM_ (a b : PV) : M Res := match a with
  | .list _ => M.fail
  | .tuple _ => M.fail
  | _ => mulM a b
theorem opS_mul {fx : Fx} : OpS fx (binaryOp .Mult) mulM_ := by
  refine ⟨_, op_mul.or op_mulW, fun F σ H env P E Q a b x y s pa pb hm hq hx => ?_⟩
  cases a <;> cases b <;> first | exact hm.elim | skip
  rcases hm.1 with h | h
  · exact .inl ⟨_, _, pa.int, pb.int, h, hq _ env F H _ hm.2 Stp.refl (EnLe.refl _) s (.int _)⟩
  · exact .inr ⟨_, _, pa.int, pb.int, h, hq _ env F H _ hm.2 Stp.refl (EnLe.refl _) s (.int _)⟩
def negM (a : PV) : M Res := fun s P _ => match a with
  | .int i => P (.val (.int (-i))) s
  | _ => False
section
variable {fx : Fx} {a b c : Expr} {ma mb mc : M PV} {pos : Pos}
theorem rNeg (ha : POk fx a ma) : ROk fx (.UnaryOp .USub a pos) (ma >>= negM) := by
  obtain ⟨t, pa, sa⟩ := ha.ex
  refine ⟨_, pe_un un_neg pa, fun F σ H env P E Q s hm hq hx => ?_⟩
  refine sa F σ H env _ E _ s hm (fun d env1 F1 H1 x q1 sm1 le1 s1 p1 => ?_) hx
  cases d <;> first | exact q1.elim | skip
  exact ⟨_, p1.int, hq _ env1 F1 H1 _ q1 sm1 le1 s1 (.int _)⟩

/-! ### truth -/
def truthP : PV → Option Bool
  | .none => some false
  | .bool b => some b
  | .int i => some (i != 0)
  | .str x => if x.length ≤ sizeLine then some ((x.length : Int) != 0) else none
  | .list xs => some (!xs.isEmpty)
  | .tuple xs => some (!xs.isEmpty)
  | .dict _ => none
def truthM (d : PV) : M Bool := fun s P _ => match truthP d with
  | some b => P b s
  | none => False
theorem isEmpty_dp {K : PySem.W.Frag} {F : Hp} {vs : List V} {ds : List PV} (h : DpAll K F vs ds) : vs.isEmpty = ds.isEmpty := by
  cases h <;> rfl
theorem truth_v {F H : Hp} {σ : L2.St} {env : En} {d : PV} {x : V} {b : Bool} (s : SOk fx F σ H env) (p : PvOk fx F σ env d x) (h : truthP d = some b) : TruV fx.X.K x H b := by
  cases d with
  | none => rw [p.none]; cases h; rfl
  | bool c => rw [p.bool]; cases h; rfl
  | int i => rw [p.int]; cases h; rfl
  | str y =>
    rw [p.str]
    have h : (if y.length ≤ sizeLine then some ((y.length : Int) != 0) else none) = some b := h
    split at h
    · rename_i hy
      cases h
      exact ⟨hy, rfl⟩
    · cases h
  | list xs =>
    obtain ⟨a, vs, rfl, sq, da⟩ := p.lst s
    cases h
    exact .inl ⟨vs, sq, by rw [isEmpty_dp da]⟩
  | tuple xs =>
    obtain ⟨a, vs, rfl, sq, da⟩ := p.tup s
    cases h
    exact .inr (.inl ⟨vs, sq, by rw [isEmpty_dp da]⟩)
  | dict _ => cases h
/-- an expression that is no and, or, not, comparison, choice: its value's truth -/
def plainTest : Expr → Bool
  | .UnaryOp .Not _ _ | .BoolOp .. | .IfExp .. | .Compare .. => false
  | _ => true
theorem plainTest_eq {e : Expr} (h : plainTest e = true) (env : Env) (whole : Sem Value) : isTrue e env whole = (do let v ← whole; standAt e.pos; holding [v] (truthy v)) := by
  cases e <;> first | rfl | (cases h; done) | skip
  rename_i op x p
  cases op <;> first | rfl | cases h
theorem tVal (h : plainTest a = true) (ha : POk fx a ma) : TOk fx a (ma >>= truthM) := by
  obtain ⟨t, pa, sa⟩ := ha.ex
  refine ⟨_, pt_truth pa (plainTest_eq h _), fun F σ H env P E Q s hm hq hx => ?_⟩
  refine sa F σ H env _ E _ s hm (fun d env1 F1 H1 x q1 sm1 le1 s1 p1 => ?_) hx
  unfold truthM at q1
  cases e : truthP d with
  | none => simp only [e] at q1
  | some b =>
    simp only [e] at q1
    exact ⟨b, truth_v s1 p1 e, hq _ env1 F1 H1 _ q1 sm1 le1 s1 rfl⟩
/-- a comparison as a test -/
def asBool : Res → M Bool
  | .val (.bool b) => pure b
  | _ => M.fail
theorem tCmp' {op : CmpOp} {o : PV → PV → M Res} (h : OpS fx (compareOp op) o) (ha : POk fx a ma) (hb : POk fx b mb) (hm : behindInMarks op b = false) : TOk fx (.Compare a [op] [b] pos) ((ma >>= fun x => mb >>= fun y => o x y) >>= asBool) := by
  obtain ⟨r, h1, h2⟩ := h
  obtain ⟨ta, pa, sa⟩ := ha.ex
  obtain ⟨tb, pb, sb⟩ := hb.ex
  refine ⟨_, pt_cmpR h1 pa pb hm, fun F σ H env P E Q s hm hq hx => ?_⟩
  refine SimOp (f := compareOp op) h2 sa sb F σ H env _ E _ s hm (fun r env1 F1 H1 x q1 sm1 le1 s1 p1 => ?_) hx
  cases r with
  | val d =>
    cases d <;> first | exact q1.elim | skip
    cases p1
    exact ⟨_, rfl, hq _ env1 F1 H1 _ q1 sm1 le1 s1 rfl⟩
  | new xs => exact q1.elim
  | bor i xs => exact q1.elim
  | dnew _ => exact q1.elim
  | dcf _ => exact q1.elim
theorem tNot' {m : M Bool} (ha : TOk fx a m) : TOk fx (.UnaryOp .Not a pos) (m >>= fun b => pure (!b)) := by
  obtain ⟨t, pa, sa⟩ := ha.ex
  refine ⟨_, pt_not pa, fun F σ H env P E Q s hm hq hx => ?_⟩
  exact sa F σ H env _ E _ s hm (fun b env1 F1 H1 x q1 sm1 le1 s1 p1 => hq _ env1 F1 H1 _ q1 sm1 le1 s1 (by rw [p1])) hx
/-- and, or as tests: the last one alone, then from the back -/
structure WOk (fx : Fx) (e : Expr) (m : M Bool) : Prop where
  ex : ∃ t, PW fx.X e t ∧ SimT fx t m
theorem WOk.t {e : Expr} {m : M Bool} (h : WOk fx e m) : TOk fx e m := by
  obtain ⟨t, p, s⟩ := h.ex
  exact ⟨t, p.pt, s⟩
def andB (m n : M Bool) : M Bool := m >>= fun b => if b then n else pure false
def orB (m n : M Bool) : M Bool := m >>= fun b => if b then pure true else n
theorem wAnd1 {m : M Bool} (ha : TOk fx a m) : WOk fx (.BoolOp .And [a] pos) m := by
  obtain ⟨t, pa, sa⟩ := ha.ex
  exact ⟨t, pw_and1 pa, sa⟩
theorem wOr1 {m : M Bool} (ha : TOk fx a m) : WOk fx (.BoolOp .Or [a] pos) m := by
  obtain ⟨t, pa, sa⟩ := ha.ex
  exact ⟨t, pw_or1 pa, sa⟩
theorem wAnd {m n : M Bool} {rest : List Expr} (ha : TOk fx a m) (hb : WOk fx (.BoolOp .And (b :: rest) pos) n) : WOk fx (.BoolOp .And (a :: b :: rest) pos) (andB m n) := by
  obtain ⟨t, pa, sa⟩ := ha.ex
  obtain ⟨u, pb, sb⟩ := hb.ex
  refine ⟨_, pw_and pa pb, fun F σ H env P E Q s hm hq hx => ?_⟩
  refine sa F σ H env _ E _ s hm (fun b env1 F1 H1 x q1 sm1 le1 s1 p1 => ?_) hx
  subst p1
  cases b with
  | true => exact sb F1 σ H1 env1 _ E _ s1 q1 (fun b env2 F2 H2 x q2 sm2 le2 s2 p2 => hq b env2 F2 H2 x q2 (sm1.tr le1 sm2) (le1.trans le2) s2 (p2)) (hx.later sm1.sm)
  | false => exact hq _ env1 F1 H1 _ q1 sm1 le1 s1 rfl
theorem wOr {m n : M Bool} {rest : List Expr} (ha : TOk fx a m) (hb : WOk fx (.BoolOp .Or (b :: rest) pos) n) : WOk fx (.BoolOp .Or (a :: b :: rest) pos) (orB m n) := by
  obtain ⟨t, pa, sa⟩ := ha.ex
  obtain ⟨u, pb, sb⟩ := hb.ex
  refine ⟨_, pw_or pa pb, fun F σ H env P E Q s hm hq hx => ?_⟩
  refine sa F σ H env _ E _ s hm (fun b env1 F1 H1 x q1 sm1 le1 s1 p1 => ?_) hx
  subst p1
  cases b with
  | false => exact sb F1 σ H1 env1 _ E _ s1 q1 (fun b env2 F2 H2 x q2 sm2 le2 s2 p2 => hq b env2 F2 H2 x q2 (sm1.tr le1 sm2) (le1.trans le2) s2 (p2)) (hx.later sm1.sm)
  | true => exact hq _ env1 F1 H1 _ q1 sm1 le1 s1 rfl
/-- .. as values -/
def andR (m n : M Res) : M Res := (m >>= toP) >>= fun d => truthM d >>= fun b => if b then n else pure (.val d)
def orR (m n : M Res) : M Res := (m >>= toP) >>= fun d => truthM d >>= fun b => if b then pure (.val d) else n
theorem rOne {op : BoolOp} {m : M Res} (ha : ROk fx a m) : ROk fx (.BoolOp op [a] pos) m := by
  obtain ⟨t, pa, sa⟩ := ha.ex
  exact ⟨t, pe_one pa, sa⟩
/-- a value told again as a value (own lists aside) -/
theorem rAnd {m n : M Res} {rest : List Expr} (ha : ROk fx a m) (hb : ROk fx (.BoolOp .And (b :: rest) pos) n) : ROk fx (.BoolOp .And (a :: b :: rest) pos) ((m >>= toE) >>= fun d => truthM d >>= fun k => if k then n else pure (.val d)) := by
  obtain ⟨t, pa, sa⟩ := ha.ex
  obtain ⟨u, pb, sb⟩ := hb.ex
  refine ⟨_, pe_andT pa pb, fun F σ H env P E Q s hm hq hx => ?_⟩
  refine SimR.toE sa F σ H env _ E _ s hm (fun d env1 F1 H1 x q1 sm1 le1 s1 p1 => ?_) hx
  have q1 : (match truthP d with
    | some k => (if k then n else pure (.val d) : M Res) env1 P E
    | none => False) := q1
  cases e : truthP d with
  | none => simp only [e] at q1
  | some k =>
    simp only [e] at q1
    refine ⟨k, truth_v s1 (.inl p1) e, ?_⟩
    cases k with
    | true => exact sb F1 σ H1 env1 _ E _ s1 q1 (fun b env2 F2 H2 x q2 sm2 le2 s2 p2 => hq b env2 F2 H2 x q2 (sm1.tr le1 sm2) (le1.trans le2) s2 (p2.back sm1.mono)) (hx.later sm1.sm)
    | false => exact hq _ env1 F1 H1 _ q1 sm1 le1 s1 p1
theorem rOr {m n : M Res} {rest : List Expr} (ha : ROk fx a m) (hb : ROk fx (.BoolOp .Or (b :: rest) pos) n) : ROk fx (.BoolOp .Or (a :: b :: rest) pos) ((m >>= toE) >>= fun d => truthM d >>= fun k => if k then pure (.val d) else n) := by
  obtain ⟨t, pa, sa⟩ := ha.ex
  obtain ⟨u, pb, sb⟩ := hb.ex
  refine ⟨_, pe_orT pa pb, fun F σ H env P E Q s hm hq hx => ?_⟩
  refine SimR.toE sa F σ H env _ E _ s hm (fun d env1 F1 H1 x q1 sm1 le1 s1 p1 => ?_) hx
  have q1 : (match truthP d with
    | some k => (if k then pure (.val d) else n : M Res) env1 P E
    | none => False) := q1
  cases e : truthP d with
  | none => simp only [e] at q1
  | some k =>
    simp only [e] at q1
    refine ⟨k, truth_v s1 (.inl p1) e, ?_⟩
    cases k with
    | false => exact sb F1 σ H1 env1 _ E _ s1 q1 (fun b env2 F2 H2 x q2 sm2 le2 s2 p2 => hq b env2 F2 H2 x q2 (sm1.tr le1 sm2) (le1.trans le2) s2 (p2.back sm1.mono)) (hx.later sm1.sm)
    | true => exact hq _ env1 F1 H1 _ q1 sm1 le1 s1 p1
def notM (d : PV) : M Res := truthM d >>= fun k => pure (.val (.bool (!k)))
theorem rNot (ha : POk fx a ma) : ROk fx (.UnaryOp .Not a pos) (ma >>= notM) := by
  obtain ⟨t, pa, sa⟩ := ha.ex
  refine ⟨_, pe_notT pa, fun F σ H env P E Q s hm hq hx => ?_⟩
  refine sa F σ H env _ E _ s hm (fun d env1 F1 H1 x q1 sm1 le1 s1 p1 => ?_) hx
  have q1 : (match truthP d with
    | some k => P (.val (.bool (!k))) env1
    | none => False) := q1
  cases e : truthP d with
  | none => simp only [e] at q1
  | some k =>
    simp only [e] at q1
    exact ⟨k, truth_v s1 p1 e, hq _ env1 F1 H1 _ q1 sm1 le1 s1 (.bl _)⟩
/-- a if t else b -/
theorem rIf {m : M Bool} {na nb : M Res} (hc : TOk fx c m) (ha : ROk fx a na) (hb : ROk fx b nb) : ROk fx (.IfExp c a b pos) (m >>= fun k => if k then na else nb) := by
  obtain ⟨t, pc, sc⟩ := hc.ex
  obtain ⟨u, pa, sa⟩ := ha.ex
  obtain ⟨w, pb, sb⟩ := hb.ex
  refine ⟨_, pe_ifExp pc pa pb, fun F σ H env P E Q s hm hq hx => ?_⟩
  refine sc F σ H env _ E _ s hm (fun k env1 F1 H1 x q1 sm1 le1 s1 p1 => ?_) hx
  subst p1
  cases k with
  | true => exact sa F1 σ H1 env1 _ E _ s1 q1 (fun b env2 F2 H2 x q2 sm2 le2 s2 p2 => hq b env2 F2 H2 x q2 (sm1.tr le1 sm2) (le1.trans le2) s2 (p2.back sm1.mono)) (hx.later sm1.sm)
  | false => exact sb F1 σ H1 env1 _ E _ s1 q1 (fun b env2 F2 H2 x q2 sm2 le2 s2 p2 => hq b env2 F2 H2 x q2 (sm1.tr le1 sm2) (le1.trans le2) s2 (p2.back sm1.mono)) (hx.later sm1.sm)

/-! ### lists of expressions; tuples and lists written -/
def isStar : Expr → Bool
  | .Starred .. => true
  | _ => false
theorem starEach_plain {e : Expr} {es : List Expr} {env : Env} (h : isStar e = false) : starEach (e :: es) env = (false, eval e env) :: starEach es env := by
  cases e <;> first | rfl | cases h
theorem aNil : AOk fx [] (pure []) := ⟨_, pa_nil, fun F σ H env P E Q s hm hq hx => hq _ env F H _ hm Stp.refl (EnLe.refl _) s .nil⟩
theorem aCons {e : Expr} {es : List Expr} {m : M PV} {ms : M (List PV)} (hs : isStar e = false) (ha : EOk fx e m) (hr : AOk fx es ms) : AOk fx (e :: es) (m >>= fun d => ms >>= fun ds => pure (d :: ds)) := by
  obtain ⟨t, pa, sa⟩ := ha.ex
  obtain ⟨u, pr, sr⟩ := hr.ex
  refine ⟨_, pa_cons pa pr (starEach_plain hs), fun F σ H env P E Q s hm hq hx => ?_⟩
  refine sa F σ H env _ E _ s hm (fun d env1 F1 H1 x q1 sm1 le1 s1 p1 => ?_) hx
  exact sr F1 σ H1 env1 _ E _ s1 q1 (fun ds env2 F2 H2 xs q2 sm2 le2 s2 p2 => hq _ env2 F2 H2 _ q2 (sm1.tr le1 sm2) (le1.trans le2) s2 (.cons (dp_same sm2.sm d p1) p2)) (hx.later sm1.sm)
/-- *e, within a display -/
def tStar (K : PySem.W.Frag) (te : TE) (t : TA) : TA := fun σ H Q => te σ H fun x H1 => ∃ a xs, x = .ref a ∧ (SqT K H1 a xs ∨ SqL K H1 a xs) ∧ t σ H1 fun ys H2 => Q (xs ++ ys) H2
theorem pa_star {X : Cx} {e : Expr} {es : List Expr} {te : TE} {t : TA} {p : Pos} (he : PE X e te) (hr : PA X es t) : PA X (.Starred e p :: es) (tStar X.K te t) := by
  refine ⟨fun pos pins s σ H Q I h => ?_⟩
  show wpAny _ _ (spliced ((true, (do let v ← eval e X.env; standAt pos; pure v)) :: backTo pos (starEach es X.env))) _ _ s
  refine PySem.W.ks_spliced (thn (he.run pins s σ H _ I h) fun u s1 ⟨x, H1, I1, r1, a, xs, ex, hs, q⟩ => ?_)
  subst ex
  cases r1
  refine StX.star_any I1 hs fun us s2 I2 rv => ?_
  exact thn (hr.run pos pins s2 σ H1 _ I2 q) fun vs s3 ⟨ys, H3, I3, r3, q3⟩ => ⟨xs ++ ys, H3, I3, rv.append r3, q3⟩
def itemsP : PV → Option (List PV)
  | .list xs => some xs
  | .tuple xs => some xs
  | _ => none
def optM {α : Type} (o : Option α) : M α := fun s P _ => match o with
  | some a => P a s
  | none => False
theorem aStar {e : Expr} {es : List Expr} {m : M PV} {ms : M (List PV)} {p : Pos} (ha : POk fx e m) (hr : AOk fx es ms) : AOk fx (.Starred e p :: es) (m >>= fun d => optM (itemsP d) >>= fun xs => ms >>= fun ds => pure (xs ++ ds)) := by
  obtain ⟨t, pa, sa⟩ := ha.ex
  obtain ⟨u, pr, sr⟩ := hr.ex
  refine ⟨_, pa_star pa pr, fun F σ H env P E Q s hm hq hx => ?_⟩
  refine sa F σ H env _ E _ s hm (fun d env1 F1 H1 x q1 sm1 le1 s1 p1 => ?_) hx
  have fin : ∀ {xs : List PV} {vs : List V}, DpAll fx.X.K F1 vs xs → (ms >>= fun ds => pure (xs ++ ds)) env1 P E → u σ H1 fun ys H2 => Q (vs ++ ys) H2 := fun {xs vs} da q =>
    sr F1 σ H1 env1 _ E _ s1 q (fun ds env2 F2 H2 ws q2 sm2 le2 s2 p2 => hq _ env2 F2 H2 _ q2 (sm1.tr le1 sm2) (le1.trans le2) s2 ((dpAll_same sm2.sm _ da).app p2)) (hx.later sm1.sm)
  cases d <;> first | exact q1.elim | skip
  · obtain ⟨a, vs, rfl, sq, da⟩ := p1.lst s1
    exact ⟨a, vs, rfl, .inr sq, fin da q1⟩
  · obtain ⟨a, vs, rfl, sq, da⟩ := p1.tup s1
    exact ⟨a, vs, rfl, .inl sq, fin da q1⟩
def tupM (ds : List PV) : M Res := fun s P _ => ds.length ≤ sizeLine ∧ P (.val (.tuple ds)) s
def lstM (ds : List PV) : M Res := fun s P _ => ds.length ≤ sizeLine ∧ P (.new ds) s
theorem rTup {es : List Expr} {ms : M (List PV)} {k : Nat} (h : AOk fx es ms) : ROk fx (.Tuple es k pos) (ms >>= tupM) := by
  obtain ⟨t, pa, sa⟩ := h.ex
  refine ⟨_, pe_tupF pa, fun F σ H env P E Q s hm hq hx => ?_⟩
  refine sa F σ H env _ E _ s hm (fun ds env1 F1 H1 xs q1 sm1 le1 s1 p1 => ?_) hx
  obtain ⟨z, q1⟩ : ds.length ≤ sizeLine ∧ P (.val (.tuple ds)) env1 := q1
  refine ⟨by rw [p1.length]; exact z, fun p o np ho => ?_⟩
  obtain ⟨F2, sm2, s2, r2⟩ := s1.newTup np ho p1
  exact hq _ env1 F2 _ _ q1 (sm1.tr le1 sm2) le1 s2 r2
theorem rLst {es : List Expr} {ms : M (List PV)} (h : AOk fx es ms) : ROk fx (.List es pos) (ms >>= lstM) := by
  obtain ⟨t, pa, sa⟩ := h.ex
  refine ⟨_, pe_lst pa, fun F σ H env P E Q s hm hq hx => ?_⟩
  refine sa F σ H env _ E _ s hm (fun ds env1 F1 H1 xs q1 sm1 le1 s1 p1 => ?_) hx
  obtain ⟨z, q1⟩ : ds.length ≤ sizeLine ∧ P (.new ds) env1 := q1
  have zl : xs.length ≤ sizeLine := by rw [p1.length]; exact z
  refine ⟨zl, fun p np => ?_⟩
  obtain ⟨sm2, s2, r2⟩ := s1.newLst np p1 zl
  exact hq _ env1 F1 _ _ q1 (sm1.tr le1 sm2) le1 s2 ((r2 H1 np).back sm1.mono)

/-! ### items and cuts -/
theorem atI_dp {K : PySem.W.Frag} {F : Hp} {vs : List V} {ds : List PV} {i : Int} {d : PV} (h : DpAll K F vs ds) (e : atI ds i = some d) : ∃ v, atI vs i = some v ∧ Dp K F v d := by
  have hl := h.length
  unfold atI at e ⊢
  rw [hl]
  cases q : ixN ds.length i with
  | none => rw [q] at e; cases e
  | some j =>
    rw [q] at e
    obtain ⟨v, e1, e2⟩ := h.get (show ds[j]? = some d from e)
    exact ⟨v, e1, e2⟩
/-- x[i] -/
def itemP (x i : PV) : Option PV := match x, i with
  | .list xs, .int i => atI xs i
  | .tuple xs, .int i => atI xs i
  | .str z, .int i => if z.length ≤ sizeLine then (atI z.cps.toList i).map fun c => .str ⟨#[c]⟩ else none
  | _, _ => none
def itemM (x i : PV) : M Res := fun s P _ => match itemP x i with
  | some d => P (.val d) s
  | none => False
def isSlice : Expr → Bool
  | .Slice .. => true
  | _ => false
theorem plainIx {b : Expr} (h : isSlice b = false) : PlainIx b := fun o i => by
  cases b <;> first | rfl | cases h
theorem rItem (hs : isSlice b = false) (ha : POk fx a ma) (hb : POk fx b mb) : ROk fx (.Subscript a b pos) (ma >>= fun x => mb >>= fun i => itemM x i) := by
  obtain ⟨ta, pa, sa⟩ := ha.ex
  obtain ⟨tb, pb, sb⟩ := hb.ex
  refine ⟨_, pe_ix ix_seq pa pb (plainIx hs), SimOp (f := getItem) (fun F σ H env P E Q d e x y s p q hm hq hx => ?_) sa sb⟩
  unfold itemM at hm
  cases z : itemP d e with
  | none => simp only [z] at hm
  | some c =>
    simp only [z] at hm
    have fin : ∀ v, Dp fx.X.K F v c → Q v H := fun v dv => hq (.val c) env F H v hm Stp.refl (EnLe.refl _) s dv
    cases e with
    | int i =>
      cases d with
      | list xs =>
        obtain ⟨l, vs, rfl, sq, da⟩ := p.lst s
        obtain ⟨v, e1, e2⟩ := atI_dp da z
        exact .inl ⟨l, vs, i, v, rfl, q.int, sq, e1, fin v e2⟩
      | tuple xs =>
        obtain ⟨l, vs, rfl, sq, da⟩ := p.tup s
        obtain ⟨v, e1, e2⟩ := atI_dp da z
        exact .inr (.inl ⟨l, vs, i, v, rfl, q.int, sq, e1, fin v e2⟩)
      | str w =>
        have z : (if w.length ≤ sizeLine then (atI w.cps.toList i).map fun c => PyData.str ⟨#[c]⟩ else none) = some c := z
        split at z
        · rename_i hw
          cases e : atI w.cps.toList i with
          | none => rw [e] at z; cases z
          | some k =>
            rw [e] at z
            cases z
            exact .inr (.inr ⟨w, i, k, p.str, q.int, hw, e, fin _ (.str _)⟩)
        · cases z
      | _ => cases z
    | _ => cases d <;> cases z
/-- the ends of a cut -/
structure OptOk (fx : Fx) (e : Option Expr) (m : M (Option Int)) : Prop where
  ex : ∃ t, PO fx.X e t ∧ SimG fx (Option Int) t m fun _ _ _ _ _ b c => b = c
theorem oNone : OptOk fx none (pure none) := ⟨_, po_none, fun F σ H env P E Q s hm hq hx => hq _ env F H _ hm Stp.refl (EnLe.refl _) s rfl⟩
def intM (d : PV) : M (Option Int) := fun s P _ => match d with
  | .int i => P (some i) s
  | _ => False
theorem oSome (ha : POk fx a ma) : OptOk fx (some a) (ma >>= intM) := by
  obtain ⟨t, pa, sa⟩ := ha.ex
  refine ⟨_, po_some pa, fun F σ H env P E Q s hm hq hx => ?_⟩
  refine sa F σ H env _ E _ s hm (fun d env1 F1 H1 x q1 sm1 le1 s1 p1 => ?_) hx
  cases d <;> first | exact q1.elim | skip
  exact ⟨_, p1.int, hq _ env1 F1 H1 _ q1 sm1 le1 s1 rfl⟩
def cutP {α : Type} (xs : List α) (lo hi : Option Int) : List α := (xs.drop (HT.sIx xs.length 0 lo)).take (HT.sIx xs.length xs.length hi - HT.sIx xs.length 0 lo)
theorem cut_dp {K : PySem.W.Frag} {F : Hp} {vs : List V} {ds : List PV} {lo hi : Option Int} (h : DpAll K F vs ds) : DpAll K F (cutV vs lo hi) (cutP ds lo hi) := by
  unfold cutV cutP
  rw [h.length]
  exact (h.drop _).take _
/-- x[lo:hi] -/
def cutM (x : PV) (lo hi : Option Int) : M Res := fun s P _ => match x with
  | .list xs => xs.length ≤ sizeLine ∧ P (.new (cutP xs lo hi)) s
  | .tuple xs => P (.val (.tuple (cutP xs lo hi))) s
  | .str z => z.length ≤ sizeLine ∧ P (.val (.str ⟨(cutP z.cps.toList lo hi).toArray⟩)) s
  | _ => False
theorem rCut {lo hi : Option Expr} {ml mh : M (Option Int)} {p2 : Pos} (ha : POk fx a ma) (hl : OptOk fx lo ml) (hh : OptOk fx hi mh) :
    ROk fx (.Subscript a (.Slice lo hi none p2) pos) (ma >>= fun x => ml >>= fun l => mh >>= fun h => cutM x l h) := by
  obtain ⟨ta, pa, sa⟩ := ha.ex
  obtain ⟨tl, pl, sl⟩ := hl.ex
  obtain ⟨th, ph, sh⟩ := hh.ex
  refine ⟨_, pe_slice (sl_list.or (sl_tupF.or sl_str)) pa pl ph, fun F σ H env P E Q s hm hq hx => ?_⟩
  refine sa F σ H env _ E _ s hm (fun d env1 F1 H1 x q1 sm1 le1 s1 p1 => ?_) hx
  refine sl F1 σ H1 env1 _ E _ s1 q1 (fun l env2 F2 H2 l' q2 sm2 le2 s2 p2 => ?_) (hx.later sm1.sm)
  refine sh F2 σ H2 env2 _ E _ s2 q2 (fun h env3 F3 H3 h' q3 sm3 le3 s3 p3 => ?_) (hx.later (sm1.tr le1 sm2).sm)
  subst p2 p3
  have p4 := (p1.later sm2.sm le2 s2).later sm3.sm le3 s3
  have sm := (sm1.tr le1 sm2).tr (le1.trans le2) sm3
  have le := (le1.trans le2).trans le3
  cases d <;> first | exact q3.elim | skip
  · rename_i z
    refine .inr (.inr ⟨z, p4.str, q3.1, hq _ env3 F3 H3 _ q3.2 sm le s3 ?_⟩)
    exact .str _
  · obtain ⟨a, vs, rfl, sq, da⟩ := p4.lst s3
    refine .inl ⟨a, vs, rfl, sq, fun p np => ?_⟩
    have zl : (cutV vs l h).length ≤ sizeLine := Nat.le_trans (cutV_length _ _ _) (by rw [da.length]; exact q3.1)
    obtain ⟨sm4, s4, r4⟩ := s3.newLst np (cut_dp da) zl
    exact hq _ env3 F3 _ _ q3.2 (sm.tr le sm4) le s4 ((r4 H3 np).back sm.mono)
  · rename_i xs
    obtain ⟨a, vs, rfl, sq, da⟩ := p4.tup s3
    refine .inr (.inl ⟨a, vs, rfl, sq, fun hw => ?_, fun hw p o np ho => ?_⟩)
    · have e : cutP xs l h = xs := by
        rw [da.length] at hw
        unfold cutP
        rw [hw.1, hw.2]
        simp
      have q3 : P (.val (.tuple (cutP xs l h))) env3 := q3
      rw [e] at q3
      rcases p4 with p4 | ⟨_, _, z, _⟩
      · exact hq _ env3 F3 H3 _ q3 sm le s3 p4
      · cases z
    · obtain ⟨F4, sm4, s4, r4⟩ := s3.newTup np ho (cut_dp (lo := l) (hi := h) da)
      exact hq _ env3 F4 _ _ q3 (sm.tr le sm4) le s4 r4
end
end FS
namespace FS
open PySem PySem.Spec PyProof.Rows L2 LamX

section
variable {fx : Fx} {F F' H : Hp} {σ : L2.St} {env env' : En}
theorem set_get {α : Type} {l : List α} {i j : Nat} {a b : α} (h : (l.set i a)[j]? = some b) : (i = j ∧ a = b ∧ i < l.length) ∨ (i ≠ j ∧ l[j]? = some b) := by
  by_cases e : i = j
  · subst e
    by_cases hi : i < l.length
    · rw [List.getElem?_set_self hi] at h
      exact .inl ⟨rfl, Option.some.inj h, hi⟩
    · rw [List.getElem?_eq_none (by rw [List.length_set]; omega)] at h
      cases h
  · rw [List.getElem?_set_ne e] at h
    exact .inr ⟨e, h⟩
/-- a name is stored -/
theorem SOk.set {i : Nat} {s : Slot} {v : V} (h : SOk fx F σ H env) (so : SlotOk fx F H s v) (no : s.mine → ∀ (j : Nat) (t : Slot), j ≠ i → env[j]? = some (some t) → t.mine → σ[j]? ≠ some (some v)) : SOk fx F (σ.set i (some v)) H (env.set i (some s)) := by
  refine ⟨h.c, by rw [List.length_set, List.length_set]; exact h.len, fun j t e => ?_, fun j k s1 s2 w e1 e2 m1 m2 e3 e4 => ?_⟩
  · rcases set_get e with ⟨rfl, q, hi⟩ | ⟨q, e'⟩
    · cases q
      exact ⟨v, List.getElem?_set_self (by rw [← h.len]; exact hi), so⟩
    · obtain ⟨w, f1, f2⟩ := h.slot j t e'
      exact ⟨w, by rw [List.getElem?_set_ne q]; exact f1, f2⟩
  · rcases set_get e1 with ⟨rfl, q, hi⟩ | ⟨q, e1'⟩
    · cases q
      rw [List.getElem?_set_self (by rw [← h.len]; exact hi)] at e3
      cases e3
      rcases set_get e2 with ⟨z, _⟩ | ⟨q2, e2'⟩
      · exact z
      · rw [List.getElem?_set_ne q2] at e4
        exact absurd e4 (no m1 k s2 (Ne.symm q2) e2' m2)
    · rw [List.getElem?_set_ne q] at e3
      rcases set_get e2 with ⟨rfl, q2, hi⟩ | ⟨q2, e2'⟩
      · cases q2
        rw [List.getElem?_set_self (by rw [← h.len]; exact hi)] at e4
        cases e4
        exact absurd e3 (no m2 j s1 (Ne.symm q) e1' m1)
      · rw [List.getElem?_set_ne q2] at e4
        exact h.sepS j k s1 s2 w e1' e2' m1 m2 e3 e4
theorem SOk.setVal {i : Nat} {d : PV} {v : V} (h : SOk fx F σ H env) (so : Dp fx.X.K F v d) : SOk fx F (σ.set i (some v)) H (env.set i (some (.val d))) :=
  h.set (s := .val d) so fun z => z.elim
theorem SOk.noMine {a : Addr} {vs : List V} (h : SOk fx F σ H env) (e : H a = some (.lst vs)) (no : ∀ (j : Nat) (ys : List PV), env[j]? = some (some (.own ys)) → σ[j]? ≠ some (some (.ref a))) (j : Nat) (t : Slot) (q : env[j]? = some (some t)) (m : t.mine) : σ[j]? ≠ some (some (.ref a)) := fun z => by
  cases t with
  | own ys => exact no j ys q z
  | dic p =>
    obtain ⟨v, e1, b, o, rfl, e2, _, _, e3⟩ := h.slot j _ q
    rw [z] at e1
    cases e1
    rw [e] at e2
    cases e2
    exact e3.lst
  | val _ => exact m
  | well => exact m
  | clo _ _ => exact m
  | dcf _ => exact m
theorem SOk.noMineD {a : Addr} {o : HO} {p : List (PV × PV)} (h : SOk fx F σ H env) (e : H a = some o) (d : DcO fx.X.K fx.X.prog fx.X.w F a o p) (no : ∀ (j : Nat) (q : List (PV × PV)), env[j]? = some (some (.dic q)) → σ[j]? ≠ some (some (.ref a))) (j : Nat) (t : Slot) (q : env[j]? = some (some t)) (m : t.mine) : σ[j]? ≠ some (some (.ref a)) := fun z => by
  cases t with
  | dic p => exact no j p q z
  | own ys =>
    obtain ⟨v, e1, b, vs, rfl, e2, _⟩ := h.slot j _ q
    rw [z] at e1
    cases e1
    rw [e] at e2
    cases e2
    exact d.lst
  | val _ => exact m
  | well => exact m
  | clo _ _ => exact m
  | dcf _ => exact m
/-- the address of a dict of ours is no own list's -/
theorem SOk.notOwn {a : Addr} {o : HO} {p : List (PV × PV)} (h : SOk fx F σ H env) (e : H a = some o) (d : DcO fx.X.K fx.X.prog fx.X.w F a o p) : ¬ OwnAt σ env a := fun ⟨i, xs, e1, e2⟩ => by
  obtain ⟨v, f1, b, vs, rfl, f2, _⟩ := h.slot i _ e1
  rw [e2] at f1
  cases f1
  rw [e] at f2
  cases f2
  exact d.lst
end

/-! ### blocks -/
def andThen (m n : M Out) : M Out := fun s P E => m s (fun o s' => match o with
  | .nx => n s' P E
  | o => P o s') E
section
variable {fx : Fx} {st : Stmt} {rest : List Stmt} {m n : M Out} {pos : Pos}
theorem ssNil : SsOk fx [] (pure .nx) := ⟨_, pss_nil, fun F σ H env P E D s hm q1 q2 q3 q4 hx => q1 env F σ H hm (Same.refl _) s⟩
theorem ssCons (h : StOk fx st m) (g : SsOk fx rest n) : SsOk fx (st :: rest) (andThen m n) := by
  obtain ⟨t, p, s⟩ := h.ex
  obtain ⟨u, q, r⟩ := g.ex
  refine ⟨_, pss_cons p q, fun F σ H env P E D so hm q1 q2 q3 q4 hx => ?_⟩
  refine s F σ H env _ E _ so hm (fun env1 F1 σ1 H1 g1 sm1 s1 => ?_) q2 q3 q4 hx
  exact r F1 σ1 H1 env1 P E D s1 g1 (fun env2 F2 σ2 H2 g2 sm2 s2 => q1 env2 F2 σ2 H2 g2 (sm1.trans sm2) s2) (fun d env2 F2 σ2 H2 v g2 sm2 s2 dv => q2 d env2 F2 σ2 H2 v g2 (sm1.trans sm2) s2 dv)
    (fun env2 F2 σ2 H2 g2 sm2 s2 => q3 env2 F2 σ2 H2 g2 (sm1.trans sm2) s2) (fun env2 F2 σ2 H2 g2 sm2 s2 => q4 env2 F2 σ2 H2 g2 (sm1.trans sm2) s2) (hx.later sm1)
theorem ssOne (h : StOk fx st m) : SsOk fx [st] m := by
  obtain ⟨t, p, s⟩ := h.ex
  exact ⟨_, pss_one p, s⟩
theorem stFail : StOk fx st M.fail := ⟨_, ps_never, fun _ _ _ _ _ _ _ _ h => h.elim⟩
theorem stPass : StOk fx (.Pass pos) (pure .nx) := ⟨_, ps_pass, fun F σ H env P E D s hm q1 q2 q3 q4 hx => q1 env F σ H hm (Same.refl _) s⟩
theorem stBreak : StOk fx (.Break pos) (pure .bk) := ⟨_, ps_break, fun F σ H env P E D s hm q1 q2 q3 q4 hx => q3 env F σ H hm (Same.refl _) s⟩
theorem stContinue : StOk fx (.Continue pos) (pure .ct) := ⟨_, ps_continue, fun F σ H env P E D s hm q1 q2 q3 q4 hx => q4 env F σ H hm (Same.refl _) s⟩
theorem stRet {e : Expr} {me : M PV} (h : EOk fx e me) : StOk fx (.Return (some e) pos) (me >>= fun d => pure (.rt d)) := by
  obtain ⟨t, p, s⟩ := h.ex
  exact ⟨_, ps_ret p, fun F σ H env P E D so hm q1 q2 q3 q4 hx => s F σ H env _ E _ so hm (fun d env1 F1 H1 v g sm le s1 dv => q2 d env1 F1 σ H1 v g sm.sm s1 dv) hx⟩
theorem stRetN : StOk fx (.Return none pos) (pure (.rt .none)) := ⟨_, ps_retN, fun F σ H env P E D s hm q1 q2 q3 q4 hx => q2 .none env F σ H .non hm (Same.refl _) s .non⟩
def noComp : Expr → Bool
  | .ListComp .. | .SetComp .. | .DictComp .. => false
  | _ => true
theorem swaps_no {e : Expr} {t : Option Expr} {l : Nat} {env : Env} (h : noComp e = true) : swapsWith e t l env = pure false := by
  cases e <;> first | rfl | cases h
theorem stExpr {e : Expr} {me : M Res} (hn : noComp e = true) (h : ROk fx e me) : StOk fx (.Expr e pos) (me >>= fun _ => pure .nx) := by
  obtain ⟨t, p, s⟩ := h.ex
  exact ⟨_, ps_expr p (swaps_no hn), fun F σ H env P E D so hm q1 q2 q3 q4 hx => s F σ H env _ E _ so hm (fun r env1 F1 H1 v g sm le s1 ro => q1 env1 F1 σ H1 g sm.sm s1) hx⟩
theorem stIf {c : Expr} {a b : List Stmt} {mc : M Bool} {ma mb : M Out} (hc : TOk fx c mc) (ha : SsOk fx a ma) (hb : SsOk fx b mb) : StOk fx (.If c a b pos) (mc >>= fun k => if k then ma else mb) := by
  obtain ⟨t, pc, sc⟩ := hc.ex
  obtain ⟨u, pa, sa⟩ := ha.ex
  obtain ⟨w, pb, sb⟩ := hb.ex
  refine ⟨_, ps_if pc pa pb, fun F σ H env P E D so hm q1 q2 q3 q4 hx => ?_⟩
  refine sc F σ H env _ E _ so hm (fun k env1 F1 H1 x g1 sm1 le1 s1 p1 => ?_) hx
  subst p1
  have fin : ∀ {r : TS} {n : M Out}, SimS fx r n → n env1 P E → r D σ H1 := fun {r n} s q => s F1 σ H1 env1 P E D s1 q (fun env2 F2 σ2 H2 g2 sm2 s2 => q1 env2 F2 σ2 H2 g2 (sm1.sm.trans sm2) s2)
    (fun d env2 F2 σ2 H2 v g2 sm2 s2 dv => q2 d env2 F2 σ2 H2 v g2 (sm1.sm.trans sm2) s2 dv) (fun env2 F2 σ2 H2 g2 sm2 s2 => q3 env2 F2 σ2 H2 g2 (sm1.sm.trans sm2) s2) (fun env2 F2 σ2 H2 g2 sm2 s2 => q4 env2 F2 σ2 H2 g2 (sm1.sm.trans sm2) s2) (hx.later sm1.sm)
  cases k with
  | true => exact fin sa g1
  | false => exact fin sb g1
end

/-! ### stores -/
/-- a name takes what an expression gives -/
def setM (i : Nat) (r : Res) : M Out := fun s P _ => match r with
  | .val d => P .nx (s.set i (some (.val d)))
  | .new xs => P .nx (s.set i (some (.own xs)))
  | .bor j xs => P .nx ((s.set j (some (.val (.list xs)))).set i (some (.val (.list xs))))
  | .dnew kv => P .nx (s.set i (some (.dic kv)))
  | .dcf kv => P .nx (s.set i (some (.dcf kv)))
theorem set_res {fx : Fx} {Hs F H : Hp} {σ : L2.St} {env : En} {i : Nat} {r : Res} {v : V} {P : Out → En → Prop} {E : EP'} {R : L2.St → Hp → Prop} (s : SOk fx F σ H env) (ro : ResOk fx Hs F σ H env r v) (hm : setM i r env P E)
    (q1 : ∀ env' F' σ' H', P .nx env' → Same F F' → SOk fx F' σ' H' env' → R σ' H') : R (σ.set i (some v)) H := by
  cases r with
  | val d => exact q1 _ F _ H hm (Same.refl _) (s.setVal ro)
  | new xs =>
    obtain ⟨a, vs, rfl, e1, e2, e3, e4, e5, e6, e7⟩ := ro
    exact q1 _ F _ H hm (Same.refl _) (s.set (s := .own xs) ⟨a, vs, rfl, e1, e2, e3, e4, e5⟩ fun _ j t _ g m => s.noMine e1 e7 j t g m)
  | bor j xs =>
    obtain ⟨F2, sm2, le2, s2, d2⟩ := s.freeze ro.1 ro.2
    exact q1 _ F2 _ H hm sm2.sm (s2.setVal d2)
  | dnew kv =>
    obtain ⟨a, o, rfl, e1, e2, e3, e4, e6, e7⟩ := ro
    exact q1 _ F _ H hm (Same.refl _) (s.set (s := .dic kv) ⟨a, o, rfl, e1, e2, e3, e4⟩ fun _ j t _ g m => s.noMineD e1 e4 e7 j t g m)
  | dcf kv => exact q1 _ F _ H hm (Same.refl _) (s.set (s := .dcf kv) ro fun z => z.elim)
section
variable {fx : Fx} {e : Expr} {m : M Res} {pos pos' : Pos}
theorem stSet {i : Nat} {x : Str} (hn : noComp e = true) (hN : fx.X.N.Nodup) (hi : fx.X.N[i]? = some x) (hx : Loc fx.X.env.scope x) (hf : fx.X.fn x = true ∨ fx.X.env.scope.names.lookup x = some .local) (h : ROk fx e m) : StOk fx (.Assign [.Name x pos'] e pos) (m >>= setM i) := by
  obtain ⟨t, p, s⟩ := h.ex
  refine ⟨_, ps_set hN hi hx p (swaps_no hn) hf, fun F σ H env P E D so hm q1 q2 q3 q4 hx => ?_⟩
  refine s F σ H env _ E _ so hm (fun r env1 F1 H1 v g sm le s1 ro => ?_) hx
  exact set_res s1 ro g fun env2 F2 σ2 H2 g2 sm2 s2 => q1 env2 F2 σ2 H2 g2 (sm.sm.trans sm2) s2
end

/-! ### targets -/
/-- a target: a name's place, a tuple of targets -/
inductive Tg where
  | name (i : Nat)
  | tup (ts : List Tg)
mutual
def Tg.put : Tg → PV → En → Option En
  | .name i, d, env => some (env.set i (some (.val d)))
  | .tup ts, .tuple ds, env => Tg.putAll ts ds env
  | .tup _, _, _ => none
def Tg.putAll : List Tg → List PV → En → Option En
  | [], [], env => some env
  | t :: ts, d :: ds, env => (t.put d env).bind fun env1 => Tg.putAll ts ds env1
  | _, _, _ => none
end
mutual
def Tg.ids : Tg → List Nat
  | .name i => [i]
  | .tup ts => Tg.idsAll ts
def Tg.idsAll : List Tg → List Nat
  | [] => []
  | t :: ts => t.ids ++ Tg.idsAll ts
end
/-- only the slots at ids have changed -/
def OutOf (ids : List Nat) (σ σ' : L2.St) : Prop := σ'.length = σ.length ∧ ∀ j, j ∉ ids → σ'[j]? = σ[j]?
structure GOk (fx : Fx) (tg : Expr) (g : Tg) : Prop where
  ex : ∃ t, PG fx.X tg t ∧ ∀ (F : Hp) (σ : L2.St) (H : Hp) (env env' : En) (d : PV) (v : V) (Q : L2.St → Hp → Prop), SOk fx F σ H env → Dp fx.X.K F v d → g.put d env = some env' →
    (∀ σ', OutOf g.ids σ σ' → SOk fx F σ' H env' → Q σ' H) → t v σ H Q
structure GsOk (fx : Fx) (tgs : List Expr) (gs : List Tg) : Prop where
  ex : ∃ t, PGs fx.X tgs t ∧ ∀ (F : Hp) (σ : L2.St) (H : Hp) (env env' : En) (ds : List PV) (vs : List V) (Q : L2.St → Hp → Prop), SOk fx F σ H env → DpAll fx.X.K F vs ds → Tg.putAll gs ds env = some env' →
    (∀ σ', OutOf (Tg.idsAll gs) σ σ' → SOk fx F σ' H env' → Q σ' H) → t vs σ H Q
section
variable {fx : Fx} {pos : Pos}
theorem gName' {i : Nat} {x : Str} (hN : fx.X.N.Nodup) (hi : fx.X.N[i]? = some x) (hx : Loc fx.X.env.scope x) (hf : fx.X.fn x = true ∨ fx.X.env.scope.names.lookup x = some .local) : GOk fx (.Name x pos) (.name i) := by
  refine ⟨_, pg_name hN hi hx hf, fun F σ H env env' d v Q s dv e q => ?_⟩
  cases e
  exact q _ ⟨by rw [List.length_set], fun j hj => List.getElem?_set_ne (by intro z; exact hj (by simp [Tg.ids, z]))⟩ (s.setVal dv)
theorem gsNil : GsOk fx [] [] := ⟨_, pgs_nil, fun F σ H env env' ds vs Q s dv e q => by
  cases ds with
  | nil =>
    cases dv
    cases e
    exact ⟨rfl, q σ ⟨rfl, fun _ _ => rfl⟩ s⟩
  | cons d ds => cases e⟩
theorem assignEach_plain {e : Expr} {es : List Expr} {env : Env} (h : isStar e = false) : assignEach (e :: es) env = (false, assign e env) :: assignEach es env := by
  cases e <;> first | rfl | cases h
theorem gsCons {e : Expr} {es : List Expr} {g : Tg} {gs : List Tg} (hs : isStar e = false) (h1 : GOk fx e g) (h2 : GsOk fx es gs) : GsOk fx (e :: es) (g :: gs) := by
  obtain ⟨t, p, a⟩ := h1.ex
  obtain ⟨u, q, b⟩ := h2.ex
  refine ⟨_, pgs_cons p q (by rw [assignEach_plain hs]; rfl), fun F σ H env env' ds vs Q s dv e hq => ?_⟩
  cases ds with
  | nil => cases e
  | cons d ds =>
    cases dv with
    | cons d1 d2 =>
      cases z : g.put d env with
      | none =>
        have e : (g.put d env).bind (fun env1 => Tg.putAll gs ds env1) = some env' := e
        rw [z] at e
        cases e
      | some env1 =>
        have e : (g.put d env).bind (fun env1 => Tg.putAll gs ds env1) = some env' := e
        rw [z] at e
        refine ⟨_, _, rfl, a F σ H env env1 d _ _ s d1 z fun σ1 o1 s1 => ?_⟩
        refine b F σ1 H env1 env' ds _ _ s1 d2 e fun σ2 o2 s2 => hq σ2 ⟨o2.1.trans o1.1, fun j hj => ?_⟩ s2
        have hj' : j ∉ g.ids ∧ j ∉ Tg.idsAll gs := by
          constructor
          · intro z
            exact hj (List.mem_append_left _ z)
          · intro z
            exact hj (List.mem_append_right _ z)
        rw [o2.2 j hj'.2, o1.2 j hj'.1]
theorem assignEach_len : ∀ {es : List Expr} {env : Env}, (assignEach es env).length = es.length
  | [], _ => rfl
  | e :: es, env => by
    cases h : isStar e with
    | false => rw [assignEach_plain h, List.length_cons, List.length_cons, assignEach_len]
    | true =>
      cases e <;> first | cases h | skip
      show (assignEach es env).length + 1 = es.length + 1
      rw [assignEach_len]
theorem assignEach_find : ∀ {es : List Expr} {env : Env}, es.any isStar = false → (assignEach es env).findIdx? (·.1) = none
  | [], _, _ => rfl
  | e :: es, env, h => by
    rw [List.any_cons, Bool.or_eq_false_iff] at h
    rw [assignEach_plain h.1, List.findIdx?_cons]
    simp [assignEach_find (env := env) h.2]
theorem GsOk.length {es : List Expr} {gs : List Tg} : True := trivial
theorem putAll_length : ∀ {gs : List Tg} {ds : List PV} {env env' : En}, Tg.putAll gs ds env = some env' → ds.length = gs.length
  | [], [], _, _, _ => rfl
  | [], _ :: _, _, _, h => by cases h
  | _ :: _, [], _, _, h => by cases h
  | g :: gs, d :: ds, env, env', h => by
    have h : (g.put d env).bind (fun env1 => Tg.putAll gs ds env1) = some env' := h
    cases z : g.put d env with
    | none => rw [z] at h; cases h
    | some env1 =>
      rw [z] at h
      exact congrArg Nat.succ (putAll_length (show Tg.putAll gs ds env1 = some env' from h))
theorem gTup' {es : List Expr} {gs : List Tg} {k : Nat} (hc : fx.X.calm = true) (hs : es.any isStar = false) (hl : es.length = gs.length) (h : GsOk fx es gs) : GOk fx (.Tuple es k pos) (.tup gs) := by
  obtain ⟨t, p, a⟩ := h.ex
  refine ⟨_, pg_tup (n := es.length) hc p assignEach_len (assignEach_find hs), fun F σ H env env' d v Q s dv e q => ?_⟩
  cases d <;> first | (cases e; done) | skip
  rename_i ds
  cases dv with
  | tup hs ha =>
    exact ⟨_, _, rfl, sqT_sub s.c.sub hs, by rw [ha.length, putAll_length e, hl], a F σ H env env' ds _ Q s ha e q⟩
end
def putM (g : Tg) (d : PV) : M Out := fun s P _ => match g.put d s with
  | some s' => P .nx s'
  | none => False
def noTup : Expr → Bool
  | .Tuple .. => false
  | _ => true
section
variable {fx : Fx} {e tg : Expr} {m : M PV} {pos : Pos} {g : Tg}
/-- targets = an expression that is no display -/
theorem stPut (hn : noComp e = true) (hs : isStar tg = false) (hw : swappedStores [tg] e fx.X.env = pure none) (hg : GOk fx tg g) (h : EOk fx e m) : StOk fx (.Assign [tg] e pos) (m >>= putM g) := by
  obtain ⟨t, p, s⟩ := h.ex
  obtain ⟨u, q, a⟩ := hg.ex
  refine ⟨_, ps_asg p q (by exact swaps_no hn) hw (by rw [assignEach_plain hs]; rfl), fun F σ H env P E D so hm q1 q2 q3 q4 hx => ?_⟩
  refine s F σ H env _ E _ so hm (fun d env1 F1 H1 v gg sm le s1 dv => ?_) hx
  unfold putM at gg
  cases z : g.put d env1 with
  | none => simp only [z] at gg
  | some env2 =>
    simp only [z] at gg
    exact a F1 σ H1 env1 env2 d v _ s1 dv z fun σ2 _ s2 => q1 env2 F1 σ2 H1 gg sm.sm s2
theorem swapped_none (h : noTup e = true) {env : Env} : swappedStores [tg] e env = pure none := by
  cases e <;> first | (cases tg <;> rfl) | cases h
end

/-! ### loops -/
def forM (g : Tg) (body : M Out) : List PV → M Out
  | [] => pure .nx
  | x :: xs => fun s P E => match g.put x s with
    | none => False
    | some s1 => body s1 (fun o s2 => match o with
      | .nx => forM g body xs s2 P E
      | .ct => forM g body xs s2 P E
      | .rt d => P (.rt d) s2
      | .bk => P .nx s2) E
/-- an iterator whose items are xs -/
def ItOk (fx : Fx) (F : Hp) (J : It) (xs : List PV) : Prop := ∀ (F2 : Hp) (σ2 : L2.St) (H2 : Hp) (env2 : En), Same F F2 → SOk fx F2 σ2 H2 env2 →
  (∀ i, i < xs.length → J.go i H2) ∧ J.stop xs.length H2 ∧ ∀ i x H3, i < xs.length → J.yld i H2 x H3 → ∃ F3 d, xs[i]? = some d ∧ Stp F2 H2 σ2 env2 F3 H3 ∧ SOk fx F3 σ2 H3 env2 ∧ Dp fx.X.K F3 x d
theorem ItOk.later {fx : Fx} {F F' : Hp} {J : It} {xs : List PV} (h : ItOk fx F J xs) (sm : Same F F') : ItOk fx F' J xs := fun F2 σ2 H2 env2 s2 => h F2 σ2 H2 env2 (sm.trans s2)
structure IOk (fx : Fx) (tg iter : Expr) (m : M (List PV)) : Prop where
  ex : ∃ wi, PI fx.X tg iter wi ∧ ∀ (F : Hp) (σ : L2.St) (H : Hp) (env : En) (P : List PV → En → Prop) (E : EP') (R : It → Hp → Prop), SOk fx F σ H env → m env P E →
    (∀ xs env' F' H' J, P xs env' → Stp F H σ env F' H' → EnLe env env' → SOk fx F' σ H' env' → ItOk fx F' J xs → R J H') → ExOk fx F E → wi σ H R
def noSet : Expr → Bool
  | .Set .. => false
  | _ => true
theorem folded_no {e : Expr} {env : Env} (h : noSet e = true) (x : Value) : foldedSetIterable e env x = pure x := by
  cases e <;> first | rfl | cases h
section
variable {fx : Fx} {tg iter : Expr} {body : List Stmt} {mi : M (List PV)} {mb : M Out} {g : Tg} {pos : Pos}
theorem stFor (hp : PassesOwn (model fx.X.prog fx.X.w) fx.X.A fx.X.env fx.X.xe) (hc : fx.X.calm = true) (hn : noSet iter = true) (hi : IOk fx tg iter mi) (hg : GOk fx tg g) (hb : SsOk fx body mb) : StOk fx (.For tg iter body [] pos) (mi >>= forM g mb) := by
  obtain ⟨wi, pi, si⟩ := hi.ex
  obtain ⟨tg', pg, sg⟩ := hg.ex
  obtain ⟨tb, pb, sb⟩ := hb.ex
  refine ⟨_, ps_for hp hc pi pg pb (folded_no hn), fun F σ H env P E D so hm q1 q2 q3 q4 hx => ?_⟩
  refine si F σ H env _ E _ so hm (fun xs env1 F1 H1 J g1 sm1 le1 s1 it => ?_) hx
  refine ⟨fun i m σ2 H2 => ∃ F2 env2, m = xs.length - i ∧ i ≤ xs.length ∧ Same F1 F2 ∧ SOk fx F2 σ2 H2 env2 ∧ forM g mb (xs.drop i) env2 P E, ⟨xs.length, F1, env1, by simp, Nat.zero_le _, Same.refl _, s1, g1⟩, fun i m σ2 H2 hW => ?_⟩
  obtain ⟨F2, env2, rfl, hi, sm2, s2, hf⟩ := hW
  obtain ⟨go, stop, yl⟩ := it F2 σ2 H2 env2 sm2 s2
  by_cases hlt : i < xs.length
  · rw [List.drop_eq_getElem_cons hlt] at hf
    refine .inr ⟨go i hlt, fun σ' H' => ∃ F3 env3, Same F1 F3 ∧ SOk fx F3 σ' H' env3 ∧ forM g mb (xs.drop (i + 1)) env3 P E, fun σ' H' hN => ?_, fun x H3 hy => ?_⟩
    · obtain ⟨F3, env3, a1, a2, a3⟩ := hN
      exact ⟨xs.length - (i + 1), by omega, F3, env3, rfl, hlt, a1, a2, a3⟩
    · obtain ⟨F3, d, e1, st3, s3, d3⟩ := yl i x H3 hlt hy
      have ed : xs[i] = d := by
        rw [List.getElem?_eq_getElem hlt] at e1
        exact Option.some.inj e1
      rw [ed] at hf
      have hf : (match g.put d env2 with
        | none => False
        | some s1 => mb s1 (fun o s2 => match o with
          | .nx => forM g mb (xs.drop (i + 1)) s2 P E
          | .ct => forM g mb (xs.drop (i + 1)) s2 P E
          | .rt d => P (.rt d) s2
          | .bk => P .nx s2) E) := hf
      cases z : g.put d env2 with
      | none => simp only [z] at hf
      | some env4 =>
        simp only [z] at hf
        refine sg F3 σ2 H3 env2 env4 d x _ s3 d3 z fun σ4 _ s4 => ?_
        have sm4 : Same F F3 := sm1.sm.trans (sm2.trans st3.sm)
        exact sb F3 σ4 H3 env4 _ E _ s4 hf (fun env5 F5 σ5 H5 g5 sm5 s5 => ⟨F5, env5, (sm2.trans st3.sm).trans sm5, s5, g5⟩)
          (fun d env5 F5 σ5 H5 v g5 sm5 s5 dv => q2 d env5 F5 σ5 H5 v g5 (sm4.trans sm5) s5 dv) (fun env5 F5 σ5 H5 g5 sm5 s5 => q1 env5 F5 σ5 H5 g5 (sm4.trans sm5) s5)
          (fun env5 F5 σ5 H5 g5 sm5 s5 => ⟨F5, env5, (sm2.trans st3.sm).trans sm5, s5, g5⟩) (hx.later sm4)
  · have e : xs.drop i = [] := List.drop_eq_nil_of_le (by omega)
    rw [e] at hf
    have ei : i = xs.length := by omega
    exact .inl ⟨ei ▸ stop, q1 env2 F2 σ2 H2 hf (sm1.sm.trans sm2) s2⟩
/-- while: so many turns are enough -/
def whileN (c : M Bool) (body : M Out) : Nat → M Out
  | 0 => M.fail
  | n + 1 => fun s P E => c s (fun k s1 => if k = true then body s1 (fun o s2 => match o with
      | .nx => whileN c body n s2 P E
      | .ct => whileN c body n s2 P E
      | .rt d => P (.rt d) s2
      | .bk => P .nx s2) E else P .nx s1) E
def whileM (c : M Bool) (body : M Out) : M Out := fun s P E => ∃ n, whileN c body n s P E
theorem stWhile {c : Expr} {mc : M Bool} (hp : PassesOwn (model fx.X.prog fx.X.w) fx.X.A fx.X.env fx.X.xe) (hc : TOk fx c mc) (hb : SsOk fx body mb) : StOk fx (.While c body [] pos) (whileM mc mb) := by
  obtain ⟨tc, pc, sc⟩ := hc.ex
  obtain ⟨tb, pb, sb⟩ := hb.ex
  refine ⟨_, ps_while hp pc pb, fun F σ H env P E D so hm q1 q2 q3 q4 hx => ?_⟩
  obtain ⟨n, hn⟩ := hm
  refine ⟨fun m σ2 H2 => ∃ F2 env2, Same F F2 ∧ SOk fx F2 σ2 H2 env2 ∧ whileN mc mb m env2 P E, ⟨n, F, env, Same.refl _, so, hn⟩, fun m σ2 H2 hW => ?_⟩
  obtain ⟨F2, env2, sm2, s2, hw⟩ := hW
  cases m with
  | zero => exact hw.elim
  | succ m =>
    refine sc F2 σ2 H2 env2 _ E _ s2 hw (fun k env3 F3 H3 x g3 st3 le3 s3 p3 => ?_) (hx.later sm2)
    subst p3
    cases k with
    | false => exact q1 env3 F3 σ2 H3 g3 (sm2.trans st3.sm) s3
    | true =>
      refine ⟨fun σ' H' => ∃ F4 env4, Same F F4 ∧ SOk fx F4 σ' H' env4 ∧ whileN mc mb m env4 P E, fun σ' H' hN => ⟨m, Nat.lt_succ_self _, hN⟩, ?_⟩
      have sm3 : Same F F3 := sm2.trans st3.sm
      exact sb F3 σ2 H3 env3 _ E _ s3 g3 (fun env5 F5 σ5 H5 g5 sm5 s5 => ⟨F5, env5, sm3.trans sm5, s5, g5⟩)
          (fun d env5 F5 σ5 H5 v g5 sm5 s5 dv => q2 d env5 F5 σ5 H5 v g5 (sm3.trans sm5) s5 dv) (fun env5 F5 σ5 H5 g5 sm5 s5 => q1 env5 F5 σ5 H5 g5 (sm3.trans sm5) s5)
          (fun env5 F5 σ5 H5 g5 sm5 s5 => ⟨F5, env5, sm3.trans sm5, s5, g5⟩) (hx.later sm3)
end
end FS
/-! what is walked: lists, tuples, texts, ranges, enumerate, zip -/
namespace PySem
open Sem (wp)
set_option maxHeartbeats 1000000 in
theorem meets_enumerate_newB1 {v : Value} {o : Obj} {H : Heap → Prop} (B : Begins v o H) :
    Meets (Builtin.«enumerate.__new__» ⟨[.type "enumerate", v], []⟩) (fun _ R s => H s.heap ∧
      R (.ok (.ret (.ref (s.heap.push o).objs.size))) { s with heap := (s.heap.push o).push { cls := .type "enumerate", data := .fields #[.none, .bool false, .ref s.heap.objs.size, rawInt 0, .none, .none] } }) :=
  .of_wp fun prog w A R s h => by
    obtain ⟨hp, g, d, tk, os⟩ := s; obtain ⟨h1, h⟩ := h
    have hsub := sub_enumerate
    have q1 : ∀ {A' : Around} {E : Value → Shared → Prop} {Q : Value → Shared → Prop}, Q (.ref hp.objs.size) ⟨hp.push o, g, d, tk, os⟩ → wpAny (model prog w) A' (pyIter v) Q E ⟨hp, g, d, tk, os⟩ :=
      fun q => B.iter prog w _ _ ⟨hp, g, d, tk, os⟩ _ h1 q
    wp_walk using q1
    refine wpAny_stack_any fun st => wpAny_pure ?_
    split
    · rename_i c _ _ _ _ _
      cases (c == Value.type "enumerate")
      · wp_walk using q1
        exact ⟨_, rfl, h⟩
      · wp_walk using q1
        exact ⟨_, rfl, h⟩
    · wp_walk using q1
      exact ⟨_, rfl, h⟩
section
variable {prog : Program} {w : World} {A : Around} {E : Value → Shared → Prop} {s : Shared}
theorem enum_begins1 {v : Value} {o : Obj} {H : Heap → Prop} {Q : Value → Shared → Prop} (B : Begins v o H) (h1 : H s.heap)
    (h : ∀ h', IsEnum h' (s.heap.objs.size + 1) s.heap.objs.size 0 .none → h'.get? s.heap.objs.size = some o → h'.objs.size = s.heap.objs.size + 2 →
      (∀ b o, s.heap.get? b = some o → h'.get? b = some o) → Q (.ref (s.heap.objs.size + 1)) { s with heap := h' }) :
    wpAny (model prog w) A (call (.type "enumerate") [v]) Q E s := by
  refine callType_new F.called_enumerate (by decide) (F.typeCall_enumerate_1 _) (F.newCall_enumerate_1 _) (fun obj => F.args_object_init_2 obj _) F.entry_enumerate_new
    (meets_enumerate_newB1 B) ⟨h1, ?_⟩
  have hz : (s.heap.push o).objs.size = s.heap.objs.size + 1 := Heap.size_push ..
  show _ ∧ _
  rw [hz]
  have he : IsEnum ((s.heap.push o).push { cls := .type "enumerate", data := .fields #[.none, .bool false, .ref s.heap.objs.size, rawInt 0, .none, .none] }) (s.heap.objs.size + 1) s.heap.objs.size 0 .none := by
    have := Heap.get?_push_size (s.heap.push o) (o := { cls := .type "enumerate", data := .fields #[.none, .bool false, .ref s.heap.objs.size, rawInt 0, .none, .none] }) rfl
    rw [hz] at this; exact this
  refine ⟨⟨_, he, rfl⟩, h _ he (Heap.get?_push_of_some _ (Heap.get?_push_size _ B.free)) (by rw [Heap.size_push, hz]) fun b o x => Heap.get?_push_of_some _ (Heap.get?_push_of_some _ x)⟩
end
end PySem
namespace FS
open PySem PySem.Spec PyProof.Rows L2 LamX

/-! ### a list, a tuple, a text: whichever it is -/
def iSeq (K : PySem.W.Frag) (te : TE) : TI := fun σ H R => te σ H fun v H1 =>
  (∃ a, v = .ref a ∧ (∃ xs, SqL K H1 a xs) ∧ R (Itl K a) H1) ∨ (∃ a, v = .ref a ∧ (∃ xs, SqT K H1 a xs) ∧ R (Itt K a) H1) ∨ ∃ x, v = .str x ∧ R (Its x) H1
theorem pi_seq {X : Cx} {tg e : Expr} {te : TE} (he : PE X e te) : PI X tg e (iSeq X.K te) := by
  refine ⟨fun pins s σ H R I h => ?_⟩
  refine thn (he.run pins s σ H _ I h) fun v s1 ⟨y, H1, I1, r1, q1⟩ => ?_
  rcases q1 with ⟨a, rfl, ⟨xs, hq⟩, q⟩ | ⟨a, rfl, ⟨xs, hq⟩, q⟩ | ⟨x, rfl, q⟩
  · cases r1
    obtain ⟨its, rv, p, hz⟩ := I1.list hq
    refine wpAny_pyIter_list p.isList ?_
    refine ⟨s1.heap.objs.size, [s1.heap.objs.size], _, _, H1, rfl, I1.kept (t' := s1.toks) fun b o e => Heap.get?_push_of_some _ e, turn_list a _, ⟨_, Heap.get?_push_size _ rfl, rfl, rfl⟩, fun b hb => ?_, q⟩
    have e : b = s1.heap.objs.size := by simpa using hb
    subst e
    exact I1.fpOk (Nat.le_refl _) (I1.hok.fresh (Nat.le_refl _))
  · cases r1
    obtain ⟨its, rv, p, hz⟩ := I1.tuple hq
    refine wpAny_pyIter_tuple (show s1.heap.IsTuple a its.toArray from p) ?_
    refine ⟨s1.heap.objs.size, [s1.heap.objs.size], _, _, H1, rfl, I1.kept (t' := s1.toks) fun b o e => Heap.get?_push_of_some _ e, turn_tuple a _, ⟨_, Heap.get?_push_size _ rfl, rfl, rfl⟩, fun b hb => ?_, q⟩
    have e : b = s1.heap.objs.size := by simpa using hb
    subst e
    exact I1.fpOk (Nat.le_refl _) (I1.hok.fresh (Nat.le_refl _))
  · obtain ⟨t, rfl⟩ := r1
    cases ha : x.cps.all (· < 128)
    · exact wpAny_pyIter_wide ha (pi_one (tk := s1.toks) I1 _ (turn_str _ x t "str_iterator" (.inr rfl)) ⟨_, Heap.get?_push_size _ rfl, rfl, rfl⟩ q)
    · exact wpAny_pyIter_ascii ha (pi_one (tk := s1.toks) I1 _ (turn_str _ x t "str_ascii_iterator" (.inl rfl)) ⟨_, Heap.get?_push_size _ rfl, rfl, rfl⟩ q)

/-! ### sources of enumerate and zip -/
inductive Src where
  | lst (a : Addr) | tup (a : Addr) | txt (x : Str) (t : Tok)
def Src.own (h : Heap) (it : Addr) (i : Nat) : Src → Prop
  | .lst a => h.IsListIter it a i
  | .tup a => h.IsTupleIter it a i
  | .txt x t => h.IsStrIter it (strIterType x) x t i
def Src.at (K : PySem.W.Frag) (H : Hp) (xs : List V) : Src → Prop
  | .lst a => SqL K H a xs
  | .tup a => SqT K H a xs
  | .txt x _ => xs = x.cps.toList.map fun c => V.str ⟨#[c]⟩
def Src.below (n : Nat) : Src → Prop
  | .lst a => a < n
  | .tup a => a < n
  | .txt _ _ => True
def Src.fp : Src → List Addr
  | .lst a => [a]
  | .tup a => [a]
  | .txt _ _ => []
def Src.val : Src → Value
  | .lst a => .ref a
  | .tup a => .ref a
  | .txt x t => .str x t
def Src.obj : Src → Obj
  | .lst a => { cls := .type "list_iterator", data := .fields #[.ref a, .int 0 0] }
  | .tup a => { cls := .type "tuple_iterator", data := .fields #[.ref a, .int 0 0] }
  | .txt x t => { cls := .type (strIterType x), data := .fields #[.str x t, .int 0 0] }
theorem Src.live {h : Heap} {it : Addr} {i : Nat} {S : Src} (o : S.own h it i) : ∃ o, h.get? it = some o ∧ ∀ v, o.data ≠ .cell v := by
  cases S with
  | lst a => obtain ⟨o, e, c, d⟩ := o; exact ⟨o, e, fun v z => by rw [d] at z; cases z⟩
  | tup a => obtain ⟨o, e, c, d⟩ := o; exact ⟨o, e, fun v z => by rw [d] at z; cases z⟩
  | txt x t => obtain ⟨o, e, c, d⟩ := o; exact ⟨o, e, fun v z => by rw [d] at z; cases z⟩
theorem Src.keep {h h' : Heap} {it : Addr} {i : Nat} {S : Src} (o : S.own h it i) (k : ∀ o, h.get? it = some o → h'.get? it = some o) : S.own h' it i := by
  cases S with
  | lst a => exact Heap.IsListIter.at o k
  | tup a => exact Heap.IsTupleIter.at o k
  | txt x t => exact let ⟨o, ho, r⟩ := o; ⟨o, k o ho, r⟩
theorem Src.first {h : Heap} {it : Addr} {S : Src} (e : h.get? it = some S.obj) : S.own h it 0 := by
  cases S with
  | lst a => exact ⟨_, e, rfl, rfl⟩
  | tup a => exact ⟨_, e, rfl, rfl⟩
  | txt x t => exact ⟨_, e, rfl, rfl⟩
section
variable {X : Cx} {pins : List (Addr × Obj)} {σ : L2.St} {H : Hp} {s : Shared}
/-- what stands for the source in the heap -/
theorem Src.draws (I : Inv X pins σ H s) (hc : X.calm = true) {S : Src} {xs : List V} (hS : S.at X.K H xs) :
    ∃ (P : Nat → Value → Prop) (hd : Heap → Prop), (∀ it, (∀ a ∈ S.fp, a ≠ it) → Draws X.prog X.w X.A.in1 it (it :: S.fp) xs.length P (fun i h => S.own h it i ∧ hd h)) ∧ hd s.heap ∧
      (∀ i u, P i u → ∃ x, xs[i]? = some x ∧ RelV x u) ∧ Begins S.val S.obj hd := by
  cases S with
  | lst a =>
    obtain ⟨its, rv, p, hz⟩ := I.list hS
    have hl : its.toArray.size = xs.length := by have := rv.length; simp; omega
    refine ⟨fun i v => its.toArray[i]? = some v, fun h => h.IsList a its.toArray, fun it n => ?_, p.isList, fun i u e => ?_, begins_list a _⟩
    · rw [← hl]
      exact Draws.list (A := X.A.in1) (show X.A.in1.handled = none from I.ok.hd hc) it a (n a (List.mem_singleton.mpr rfl)) its.toArray
    · have hi : i < xs.length := by
        rw [← hl]
        exact (Array.getElem?_eq_some_iff.mp e).1
      obtain ⟨u', hu, ru⟩ := rv.get (List.getElem?_eq_getElem hi)
      have e' : its[i]? = some u := by simpa using e
      rw [hu] at e'
      cases e'
      exact ⟨_, List.getElem?_eq_getElem hi, ru⟩
  | tup a =>
    obtain ⟨its, rv, p, hz⟩ := I.tuple hS
    have hl : its.toArray.size = xs.length := by have := rv.length; simp; omega
    refine ⟨fun i v => its.toArray[i]? = some v, fun h => h.IsTuple a its.toArray, fun it n => ?_, p, fun i u e => ?_, begins_tuple a _⟩
    · rw [← hl]
      exact Draws.tuple (A := X.A.in1) (show X.A.in1.handled = none from I.ok.hd hc) it a (n a (List.mem_singleton.mpr rfl)) its.toArray
    · have hi : i < xs.length := by
        rw [← hl]
        exact (Array.getElem?_eq_some_iff.mp e).1
      obtain ⟨u', hu, ru⟩ := rv.get (List.getElem?_eq_getElem hi)
      have e' : its[i]? = some u := by simpa using e
      rw [hu] at e'
      cases e'
      exact ⟨_, List.getElem?_eq_getElem hi, ru⟩
  | txt x t =>
    have hS : xs = x.cps.toList.map fun c => V.str ⟨#[c]⟩ := hS
    subst hS
    refine ⟨fun i v => ∃ c u, x.cps[i]? = some c ∧ v = .str ⟨#[c]⟩ u, fun _ => True, fun it n => ?_, trivial, fun i u e => ?_, begins_text x t⟩
    · have D := Draws.text (prog := X.prog) (w := X.w) (A := X.A.in1) (I.ok.hd hc) it x t
      have hl : (x.cps.toList.map fun c => V.str ⟨#[c]⟩).length = x.cps.size := by simp
      rw [hl]
      exact ⟨fun i h o => D.live i h o.1, fun i h h' o k => ⟨D.frame i h h' o.1 k, trivial⟩, fun i s Q E hi o q => D.item i s Q E hi o.1 fun y h' tk p st sb => q y h' tk p ⟨st, trivial⟩ sb, fun s Q E o q => D.done s Q E o.1 q⟩
    · obtain ⟨c, u', e1, rfl⟩ := e
      have e2 : x.cps.toList[i]? = some c := by simpa using e1
      refine ⟨.str ⟨#[c]⟩, ?_, ⟨u', rfl⟩⟩
      rw [List.getElem?_map, e2]
      rfl
theorem Src.at_inj (I : Inv X pins σ H s) {S : Src} {xs ys : List V} (h : S.at X.K H xs) (g : S.at X.K H ys) : xs = ys := by
  cases S with
  | lst a => exact I.list_inj h g
  | tup a => exact I.tuple_inj h g
  | txt x t => exact Eq.trans h (Eq.symm g)
/-- items in pairs with their index -/
def Iteg (K : PySem.W.Frag) (S : Src) : It :=
  ⟨fun i H => ∃ (xs : List V) (x : V), S.at K H xs ∧ xs[i]? = some x, fun i H v H' => ∃ T x, v = .ref T ∧ H T = none ∧ ∃ o, TupHO [.int (i : Nat), x] o ∧ H' = upd H T o ∧ ∀ xs, S.at K H xs → xs[i]? = some x, fun i H => ∃ xs : List V, S.at K H xs ∧ xs.length = i⟩
theorem turn_enumG {P : Program} {w : World} {K : PySem.W.Frag} {elts : List Expr} {kk : Nat} {tpos : Pos} {S : Src} {N : Nat} (hb : S.below N) :
    Turn P w K (.Tuple elts kk tpos) (Iteg K S) [N + 1, N] (N + 1 : Nat) (fun i h => (∃ old, IsEnum h (N + 1 : Nat) N ((i : Nat) : Int) old) ∧ S.own h N i) where
  mem := by simp
  obj := fun i h st b hb => by
    obtain ⟨⟨old, he⟩, ho⟩ := st
    have e' : b = (N + 1 : Nat) ∨ b = N := by simpa using hb
    rcases e' with z | z
    · rw [z]; exact ⟨_, he, fun v q => nomatch q⟩
    · rw [z]; exact Src.live ho
  keep := fun i h h' st k => let ⟨⟨old, he⟩, hi⟩ := st; ⟨⟨old, k (N + 1 : Nat) (by simp) _ he⟩, Src.keep hi fun o q => k N (by simp) o q⟩
  item := by
    intro X hP hw hK hc i pins s σ H E I hf st hg
    subst hP hw hK
    obtain ⟨⟨old, he⟩, hit⟩ := st
    obtain ⟨xs, x, hq, hx⟩ := hg
    obtain ⟨P, hd, D, h1, hv, _⟩ := Src.draws I hc hq
    have hnf : ∀ a ∈ S.fp, a < N := by cases S <;> intro a ha <;> simp [Src.fp] at ha <;> subst ha <;> exact hb
    have D := D N fun a ha => Nat.ne_of_lt (hnf a ha)
    have hel : (N + 1 : Nat) < s.heap.objs.size := Heap.lt_size he
    have hi : i < xs.length := (List.getElem?_eq_some_iff.mp hx).1
    refine wpAny_pyNext_enum_itemC D he ⟨hit, h1⟩ hi (by show (N + 1 : Nat) ≠ N; omega) (fun z => ?_) fun y h' tk hP ho hs' hT hsz hk => ?_
    · rcases List.mem_cons.mp z with z | z
      · have z : (N + 1 : Nat) = N := z
        omega
      · have := hnf _ z
        have : (N + 1 : Nat) < N := this
        omega
    refine ⟨_, rfl, wpAny_letOwnedTupleGo_enum (s := { s with heap := h', toks := tk + 1 }) ho fun h'' he' sb => ?_⟩
    obtain ⟨x', hx', rx⟩ := hv i y hP
    have hT2 : h''.get? s.heap.objs.size = some { cls := .type "tuple", data := .seq #[.int i tk, y] } := (sb.2 _ (Nat.ne_of_gt hel)).trans hT
    have new : ObjOk X.prog X.w (upd H s.heap.objs.size (.frz (tupO [.int i tk, y]) (.tup [.int (i : Nat), x']))) h'' s.heap.objs.size (.frz (tupO [.int i tk, y]) (.tup [.int (i : Nat), x'])) :=
      ⟨hT2, by show 2 ≤ sizeLine; decide, [.int i tk, y], .cons ⟨_, rfl⟩ (.cons rx .nil), ⟨_, hT2, rfl, _, rfl⟩⟩
    have I1 : Inv X pins σ (upd H s.heap.objs.size (.frz (tupO [.int i tk, y]) (.tup [.int (i : Nat), x']))) { s with heap := h'', toks := tk + 1 } :=
      I.turnedNew (ch := [(N + 1 : Nat), N]) (fun b ob hb q => (sb.2 b (fun z => hb (by simp [z]))).trans (hk b ob (fun z => hb (by simp [z])) (fun z => hb (by simp [z])) q)) hf (Nat.le_refl _) new
    refine ⟨.ref s.heap.objs.size, _, I1, rfl, ⟨_, x', rfl, I.hok.fresh (Nat.le_refl _), _, ⟨_, rfl⟩, rfl, fun l hl => by rw [Src.at_inj I hl hq]; exact hx'⟩, ⟨⟨y, ?_⟩, Src.keep hs'.1 fun o q => (sb.2 N (by show N ≠ (N + 1 : Nat); omega)).trans q⟩, fun b hb => ?_⟩
    · have e1 : ((i + 1 : Nat) : Int) = (i : Int) + 1 := by omega
      rw [e1]; exact he'
    · have hb' : b < s.heap.objs.size := by
        have e' : b = (N + 1 : Nat) ∨ b = N := by simpa using hb
        rcases e' with z | z
        · rw [z]; exact hel
        · rw [z]; exact Nat.lt_of_succ_lt hel
      rw [upd_ne (Nat.ne_of_lt hb')]
      exact (hf b hb).1
  done := by
    intro X hP hw hK hc i pins s σ H E I hf st hg
    subst hP hw hK
    obtain ⟨⟨old, he⟩, hit⟩ := st
    obtain ⟨xs, hq, rfl⟩ := hg
    obtain ⟨P, hd, D, h1, hv, _⟩ := Src.draws I hc hq
    have hnf : ∀ a ∈ S.fp, a < N := by cases S <;> intro a ha <;> simp [Src.fp] at ha <;> subst ha <;> exact hb
    have D := D N fun a ha => Nat.ne_of_lt (hnf a ha)
    exact wpAny_pyNext_enum_endD D he ⟨hit, h1⟩ fun h' hx => ⟨rfl, I.turnedL (t' := s.toks) (ch := [(N + 1 : Nat), N]) (fun b o hb q => hx b o (fun e' => hb (by simp [e'])) q) hf⟩
  self := fun A i s Q E st h => let ⟨⟨_, he⟩, _⟩ := st; wpAny_pyIter_enum he h
def Itzg (K : PySem.W.Frag) (S U : Src) : It :=
  ⟨fun i H => ∃ (xs ys : List V), S.at K H xs ∧ U.at K H ys ∧ i < xs.length ∧ i < ys.length,
    fun i H v H' => ∃ T x y, v = .ref T ∧ H T = none ∧ ∃ o, TupHO [x, y] o ∧ H' = upd H T o ∧ (∀ xs, S.at K H xs → xs[i]? = some x) ∧ ∀ ys, U.at K H ys → ys[i]? = some y,
    fun i H => ∃ xs ys : List V, S.at K H xs ∧ U.at K H ys ∧ min xs.length ys.length = i⟩
theorem turn_zipG {P : Program} {w : World} {K : PySem.W.Frag} {elts : List Expr} {kk : Nat} {tpos : Pos} {S U : Src} {N : Nat} (hb : S.below N) (hb2 : U.below N) :
    Turn P w K (.Tuple elts kk tpos) (Itzg K S U) [N + 4, N + 2, N + 3, N, N + 1] (N + 4 : Nat) (fun i h => IsZip h (N + 4 : Nat) (N + 2 : Nat) (N + 3 : Nat) .none ∧ IsTupOf2 h (N + 2 : Nat) (.ref N) (.ref (N + 1 : Nat)) ∧ (∃ x y, IsTupOf2 h (N + 3 : Nat) x y) ∧ S.own h N i ∧ U.own h (N + 1 : Nat) i) where
  mem := by simp
  obj := fun i h st c hc => by
    obtain ⟨hz, hTI, ⟨x, y, hTO⟩, h1, h2⟩ := st
    have e' : c = (N + 4 : Nat) ∨ c = (N + 2 : Nat) ∨ c = (N + 3 : Nat) ∨ c = N ∨ c = (N + 1 : Nat) := by simpa using hc
    rcases e' with q | q | q | q | q
    · rw [q]; exact ⟨_, hz, fun v q => nomatch q⟩
    · rw [q]; exact ⟨_, hTI, fun v q => nomatch q⟩
    · rw [q]; exact ⟨_, hTO, fun v q => nomatch q⟩
    · rw [q]; exact Src.live h1
    · rw [q]; exact Src.live h2
  keep := fun i h h' st k => by
    obtain ⟨hz, hTI, ⟨x, y, hTO⟩, h1, h2⟩ := st
    exact ⟨k (N + 4 : Nat) (by simp) _ hz, k (N + 2 : Nat) (by simp) _ hTI, ⟨x, y, k (N + 3 : Nat) (by simp) _ hTO⟩, Src.keep h1 fun o q => k N (by simp) o q, Src.keep h2 fun o q => k (N + 1 : Nat) (by simp) o q⟩
  item := by
    intro X hP hw hK hc i pins s σ H E I hf st hg
    subst hP hw hK
    obtain ⟨hz, hTI, ⟨x0, y0, hTO⟩, h1, h2⟩ := st
    obtain ⟨xs, ys, hqx, hqy, hx, hy⟩ := hg
    obtain ⟨P1, d1, D1, g1, v1, _⟩ := Src.draws I hc hqx
    obtain ⟨P2, d2, D2, g2, v2, _⟩ := Src.draws I hc hqy
    have n1 : ∀ a ∈ S.fp, a < N := by cases S <;> intro a ha <;> simp [Src.fp] at ha <;> subst ha <;> exact hb
    have n2 : ∀ a ∈ U.fp, a < N := by cases U <;> intro a ha <;> simp [Src.fp] at ha <;> subst ha <;> exact hb2
    have D1 := D1 N fun a ha => Nat.ne_of_lt (n1 a ha)
    have D2 := D2 (N + 1 : Nat) fun a ha => Nat.ne_of_lt (Nat.lt_succ_of_lt (n2 a ha))
    have Sp := zip_sep2 n1 n2
    have hzl : (N + 4 : Nat) < s.heap.objs.size := Heap.lt_size hz
    refine wpAny_pyNext_zipD2_item Sp D1 D2 hz hTI hTO ⟨h1, g1⟩ ⟨h2, g2⟩ hx hy fun u u2 h' tk p1 p2 z' TO' s1' s2' hT hsz hk => ?_
    obtain ⟨x, ex, rx⟩ := v1 i u p1
    obtain ⟨y, ey, ry⟩ := v2 i u2 p2
    refine ⟨_, rfl, wpAny_letOwnedTupleGo_zip (s := { s with heap := h', toks := tk }) z' fun h'' z'' sb => ?_⟩
    have hT2 : h''.get? s.heap.objs.size = some { cls := .type "tuple", data := .seq #[u, u2] } := (sb.2 _ (Nat.ne_of_gt hzl)).trans hT
    have new : ObjOk X.prog X.w (upd H s.heap.objs.size (.frz (tupO [u, u2]) (.tup [x, y]))) h'' s.heap.objs.size (.frz (tupO [u, u2]) (.tup [x, y])) :=
      ⟨hT2, by show 2 ≤ sizeLine; decide, [u, u2], .cons rx (.cons ry .nil), ⟨_, hT2, rfl, _, rfl⟩⟩
    have hN : ∀ j : Nat, j < 4 → (N + j : Nat) ≠ N + 4 := fun j hj => by omega
    have I1 : Inv X pins σ (upd H s.heap.objs.size (.frz (tupO [u, u2]) (.tup [x, y]))) { s with heap := h'', toks := tk } :=
      I.turnedNew (t' := tk) (ch := [(N + 4 : Nat), (N + 2 : Nat), (N + 3 : Nat), N, (N + 1 : Nat)]) (fun c o hb q => (sb.2 c (fun q' => hb (by simp [q']))).trans (hk c o (fun q' => hb (by simp [q'])) (fun q' => hb (by simp [q'])) (fun q' => hb (by simp [q'])) (fun q' => hb (by simp [q'])) q)) hf (Nat.le_refl _) new
    refine ⟨.ref s.heap.objs.size, _, I1, rfl, ⟨_, x, y, rfl, I.hok.fresh (Nat.le_refl _), _, ⟨_, rfl⟩, rfl, fun l hl => by rw [Src.at_inj I hl hqx]; exact ex, fun l hl => by rw [Src.at_inj I hl hqy]; exact ey⟩, ⟨z'', ?_, ⟨u, u2, ?_⟩, ?_, ?_⟩, fun c hcm => ?_⟩
    · exact (sb.2 _ Sp.TIz).trans (hk _ _ Sp.TIz Sp.TITO Sp.TIi1 Sp.TIi2 hTI)
    · exact (sb.2 _ Sp.TOz).trans TO'
    · exact Src.keep s1'.1 fun o q => (sb.2 _ (Ne.symm Sp.zi1)).trans q
    · exact Src.keep s2'.1 fun o q => (sb.2 _ (Ne.symm Sp.zi2)).trans q
    · have hlt : c < s.heap.objs.size := by
        have e' : c = (N + 4 : Nat) ∨ c = (N + 2 : Nat) ∨ c = (N + 3 : Nat) ∨ c = N ∨ c = (N + 1 : Nat) := by simpa using hcm
        rcases e' with q | q | q | q | q <;> rw [q] <;> first | exact hzl | exact Nat.lt_of_le_of_lt (Nat.add_le_add_left (by decide) N) hzl | exact Nat.lt_of_le_of_lt (Nat.le_add_right _ _) hzl
      rw [upd_ne (Nat.ne_of_lt hlt)]
      exact (hf c hcm).1
  done := by
    intro X hP hw hK hc i pins s σ H E I hf st hg
    subst hP hw hK
    obtain ⟨hz, hTI, ⟨x0, y0, hTO⟩, h1, h2⟩ := st
    obtain ⟨xs, ys, hqx, hqy, hend⟩ := hg
    obtain ⟨P1, d1, D1, g1, v1, _⟩ := Src.draws I hc hqx
    obtain ⟨P2, d2, D2, g2, v2, _⟩ := Src.draws I hc hqy
    have n1 : ∀ a ∈ S.fp, a < N := by cases S <;> intro a ha <;> simp [Src.fp] at ha <;> subst ha <;> exact hb
    have n2 : ∀ a ∈ U.fp, a < N := by cases U <;> intro a ha <;> simp [Src.fp] at ha <;> subst ha <;> exact hb2
    have D1 := D1 N fun a ha => Nat.ne_of_lt (n1 a ha)
    have D2 := D2 (N + 1 : Nat) fun a ha => Nat.ne_of_lt (Nat.lt_succ_of_lt (n2 a ha))
    exact wpAny_pyNext_zipD2_end (zip_sep2 n1 n2) D1 D2 hz hTI hTO ⟨h1, g1⟩ ⟨h2, g2⟩ (by omega) (by omega) (by omega) fun h' tk hk => ⟨rfl, I.turnedL (t' := tk) (ch := [(N + 4 : Nat), (N + 2 : Nat), (N + 3 : Nat), N, (N + 1 : Nat)]) (fun c o hb q =>
      hk c o (fun q' => hb (by simp [q'])) (fun q' => hb (by simp [q'])) (fun q' => hb (by simp [q'])) (fun q' => hb (by simp [q'])) q) hf⟩
  self := fun A i s Q E st h => wpAny_pyIter_zip st.1 h
/-- a value is a source of xs, R of that source -/
def SrcR (K : PySem.W.Frag) (H : Hp) (v : V) (xs : List V) (R : Src → Prop) : Prop := (∃ a, v = .ref a ∧ SqL K H a xs ∧ R (.lst a)) ∨ (∃ a, v = .ref a ∧ SqT K H a xs ∧ R (.tup a)) ∨ ∃ x, v = .str x ∧ xs = (x.cps.toList.map fun c => V.str ⟨#[c]⟩) ∧ ∀ t, R (.txt x t)
theorem SrcR.src {v : V} {xs : List V} {R : Src → Prop} (h : SrcR X.K H v xs R) (I : Inv X pins σ H s) {u : Value} (r : RelV v u) : ∃ S : Src, S.val = u ∧ S.at X.K H xs ∧ S.below s.heap.objs.size ∧ R S := by
  rcases h with ⟨a, rfl, h, q⟩ | ⟨a, rfl, h, q⟩ | ⟨x, rfl, rfl, q⟩
  · cases r
    obtain ⟨its, rv, p, hz⟩ := I.list h
    exact ⟨.lst a, rfl, h, p.lt, q⟩
  · cases r
    obtain ⟨its, rv, p, hz⟩ := I.tuple h
    have p : s.heap.IsTuple a its.toArray := p
    exact ⟨.tup a, rfl, h, by obtain ⟨o, e, _⟩ := p; exact Heap.lt_size e, q⟩
  · obtain ⟨t, rfl⟩ := r
    exact ⟨.txt x t, rfl, rfl, trivial, q t⟩
end
section
variable {X : Cx} {tg : Expr}
def iEnumG (K : PySem.W.Frag) (ta : TA) : TI := fun σ H R => ta σ H fun vs H1 => ∃ v xs, vs = [v] ∧ SrcR K H1 v xs fun S => R (Iteg K S) H1
theorem pi_enumG {e : Expr} {ta : TA} {p pos tpos : Pos} {elts : List Expr} {kk : Nat} (hg : Gl X "enumerate") (hm : X.mg "enumerate" = none) (hc : X.calm = true) (ha : PA X [e] ta) (hs : starEach [e] X.env = [(false, eval e X.env)]) :
    PI X (.Tuple elts kk tpos) (.Call (.Name "enumerate" p) [e] [] pos) (iEnumG X.K ta) := by
  refine ⟨fun pins s σ H R I h => ?_⟩
  refine Call_ (ld_blt I hg hm boot_enumerate (PyProof.Rows.callWith_type1 (thn (ha.run pos pins s σ H _ I h) fun us s1 ⟨vs, H1, I1, r1, q1⟩ => ?_) hs rfl))
  obtain ⟨v, xs, ex, hq⟩ := q1
  subst ex
  cases r1 with
  | cons r rr =>
    cases rr
    obtain ⟨S, rfl, hS, hb, q⟩ := hq.src I1 r
    obtain ⟨P, hd, D, h1, hv, B⟩ := Src.draws I1 hc hS
    refine enum_begins1 B h1 fun h' he hit hsz hk => wpAny_pyIter_enum he ?_
    have I2 : Inv X pins σ H1 { s1 with heap := h' } := I1.kept (t' := s1.toks) hk
    refine ⟨s1.heap.objs.size + 1, [s1.heap.objs.size + 1, s1.heap.objs.size], _, _, H1, rfl, I2, turn_enumG hb, ⟨⟨.none, he⟩, Src.first hit⟩, fun b hb => ?_, q⟩
    have e' : b = s1.heap.objs.size + 1 ∨ b = s1.heap.objs.size := by simpa using hb
    have hle : s1.heap.objs.size ≤ b := by
      rcases e' with z | z
      · rw [z]; exact Nat.le_add_right _ _
      · rw [z]; exact Nat.le_refl _
    exact I1.fpOk hle (I1.hok.fresh hle)
def iZipG (K : PySem.W.Frag) (ta : TA) : TI := fun σ H R => ta σ H fun vs H1 => ∃ v w xs ys, vs = [v, w] ∧ SrcR K H1 v xs fun S => SrcR K H1 w ys fun U => R (Itzg K S U) H1
theorem pi_zipG {e e2 : Expr} {ta : TA} {p pos tpos : Pos} {elts : List Expr} {kk : Nat} (hg : Gl X "zip") (hm : X.mg "zip" = none) (hc : X.calm = true) (ha : PA X [e, e2] ta)
    (hs : starEach [e, e2] X.env = (false, eval e X.env) :: starEach [e2] X.env) (hpl : (backTo pos (starEach [e2] X.env)).any (·.1) = false) :
    PI X (.Tuple elts kk tpos) (.Call (.Name "zip" p) [e, e2] [] pos) (iZipG X.K ta) := by
  refine ⟨fun pins s σ H R I h => ?_⟩
  refine Call_ (ld_blt I hg hm PyProof.Rows.boot_zip (PyProof.Rows.callWith_type1 (thn (ha.run pos pins s σ H _ I h) fun us s1 ⟨vs, H1, I1, r1, q1⟩ => ?_) hs hpl))
  obtain ⟨v, v2, xs, ys, ex, hqx⟩ := q1
  subst ex
  cases r1 with
  | cons r rr =>
    cases rr with
    | cons r' rr =>
      cases rr
      obtain ⟨S, rfl, hS, hb, hqy⟩ := hqx.src I1 r
      obtain ⟨U, rfl, hU, hb2, q⟩ := hqy.src I1 r'
      obtain ⟨P, hd, D, h1, hv, B⟩ := Src.draws I1 hc hS
      obtain ⟨P2, hd2, D2, h2, hv2, B2⟩ := Src.draws I1 hc hU
      refine zip_begins2 B B2 h1 h2 fun h' hz hTI hTO i1 i2 hsz hk => wpAny_pyIter_zip hz ?_
      have I2 : Inv X pins σ H1 { s1 with heap := h' } := I1.kept (t' := s1.toks) hk
      refine ⟨s1.heap.objs.size + 4, [s1.heap.objs.size + 4, s1.heap.objs.size + 2, s1.heap.objs.size + 3, s1.heap.objs.size, s1.heap.objs.size + 1], _, _, H1, rfl, I2, turn_zipG hb hb2, ⟨hz, hTI, ⟨_, _, hTO⟩, Src.first i1, Src.first i2⟩, fun c hcm => ?_, q⟩
      have e' : c = s1.heap.objs.size + 4 ∨ c = s1.heap.objs.size + 2 ∨ c = s1.heap.objs.size + 3 ∨ c = s1.heap.objs.size ∨ c = s1.heap.objs.size + 1 := by simpa using hcm
      have hle : s1.heap.objs.size ≤ c := by
        rcases e' with z | z | z | z | z
        · rw [z]; exact Nat.le_add_right _ _
        · rw [z]; exact Nat.le_add_right _ _
        · rw [z]; exact Nat.le_add_right _ _
        · rw [z]; exact Nat.le_refl _
        · rw [z]; exact Nat.le_add_right _ _
      exact I1.fpOk hle (I1.hok.fresh hle)
end
end FS
namespace FS
open PySem PySem.Spec PyProof.Rows L2 LamX
/-! iterators of the plain reading -/
def charsP (z : Str) : List PV := z.cps.toList.map fun c => PyData.str ⟨#[c]⟩
theorem chars_dp {K : PySem.W.Frag} {F : Hp} : ∀ cs : List Nat, DpAll K F (cs.map fun c => V.str ⟨#[c]⟩) (cs.map fun c => PyData.str ⟨#[c]⟩)
  | [] => .nil
  | c :: cs => .cons (.str _) (chars_dp cs)
def seqP : PV → Option (List PV)
  | .list xs => some xs
  | .tuple xs => some xs
  | .str z => some (charsP z)
  | _ => none
section
variable {fx : Fx} {F : Hp} {a : Addr} {vs : List V} {xs : List PV}
theorem it_list (h : SqL fx.X.K F a vs) (d : DpAll fx.X.K F vs xs) : ItOk fx F (Itl fx.X.K a) xs := fun F2 σ2 H2 env2 sm s => by
  have q := sqL_sub s.c.sub (sqL_same sm h)
  have d2 := dpAll_same sm _ d
  have hl := d.length
  refine ⟨fun i hi => ?_, ⟨vs, q, by omega⟩, fun i x H3 hi hy => ?_⟩
  · exact ⟨vs, _, q, List.getElem?_eq_getElem (by omega)⟩
  · obtain ⟨rfl, hy⟩ := hy
    obtain ⟨d, e1, e2⟩ := d2.getV (hy vs q)
    exact ⟨F2, d, e1, Stp.refl, s, e2⟩
theorem it_tup (h : SqT fx.X.K F a vs) (d : DpAll fx.X.K F vs xs) : ItOk fx F (Itt fx.X.K a) xs := fun F2 σ2 H2 env2 sm s => by
  have q := sqT_sub s.c.sub (sqT_same sm h)
  have d2 := dpAll_same sm _ d
  have hl := d.length
  refine ⟨fun i hi => ?_, ⟨vs, q, by omega⟩, fun i x H3 hi hy => ?_⟩
  · exact ⟨vs, _, q, List.getElem?_eq_getElem (by omega)⟩
  · obtain ⟨rfl, hy⟩ := hy
    obtain ⟨d, e1, e2⟩ := d2.getV (hy vs q)
    exact ⟨F2, d, e1, Stp.refl, s, e2⟩
theorem it_str (z : Str) : ItOk fx F (Its z) (charsP z) := fun F2 σ2 H2 env2 sm s => by
  have hl : (charsP z).length = z.cps.size := by simp [charsP]
  refine ⟨fun i hi => by show i < z.cps.size; omega, by show z.cps.size ≤ _; omega, fun i x H3 hi hy => ?_⟩
  obtain ⟨rfl, c, e, rfl⟩ := hy
  refine ⟨F2, .str ⟨#[c]⟩, ?_, Stp.refl, s, .str _⟩
  have e2 : z.cps.toList[i]? = some c := by simpa using e
  rw [charsP, List.getElem?_map, e2]
  rfl
def rngP (lo : Int) (n : Nat) : List PV := (List.range n).map fun (k : Nat) => PyData.int (lo + (k : Nat))
theorem it_rng (lo : Int) (n : Nat) : ItOk fx F (Itr lo n) (rngP lo n) := fun F2 σ2 H2 env2 sm s => by
  have hl : (rngP lo n).length = n := by simp [rngP]
  refine ⟨fun i hi => by show i < n; omega, by show n ≤ _; omega, fun i x H3 hi hy => ?_⟩
  obtain ⟨rfl, rfl⟩ := hy
  refine ⟨F2, .int (lo + i), ?_, Stp.refl, s, .int _⟩
  rw [hl] at hi
  simp [rngP, hi]
def enumP (xs : List PV) (i : Nat) : List PV := match xs with
  | [] => []
  | x :: xs => .tuple [.int (i : Nat), x] :: enumP xs (i + 1)
theorem enumP_length : ∀ (xs : List PV) (i : Nat), (enumP xs i).length = xs.length
  | [], _ => rfl
  | x :: xs, i => congrArg Nat.succ (enumP_length xs (i + 1))
theorem enumP_get : ∀ (xs : List PV) (i j : Nat), (enumP xs i)[j]? = (xs[j]?).map fun x => .tuple [.int ((i + j : Nat) : Int), x]
  | [], i, j => by simp [enumP]
  | x :: xs, i, 0 => by simp [enumP]
  | x :: xs, i, j + 1 => by
    have := enumP_get xs (i + 1) j
    have e : i + 1 + j = i + (j + 1) := by omega
    rw [e] at this
    simpa [enumP] using this
def zipP (xs ys : List PV) : List PV := List.zipWith (fun x y => .tuple [x, y]) xs ys
/-- the source S stands for xs in what is known -/
def SrcF (fx : Fx) (F : Hp) (S : Src) (xs : List PV) : Prop := ∃ vs, (match S with
  | .lst a => SqL fx.X.K F a vs
  | .tup a => SqT fx.X.K F a vs
  | .txt x _ => vs = x.cps.toList.map fun c => V.str ⟨#[c]⟩) ∧ DpAll fx.X.K F vs xs
theorem SrcF.at {F2 H2 : Hp} {σ2 : L2.St} {env2 : En} {S : Src} (h : SrcF fx F S xs) (sm : Same F F2) (s : SOk fx F2 σ2 H2 env2) : ∃ vs, S.at fx.X.K H2 vs ∧ DpAll fx.X.K F2 vs xs := by
  obtain ⟨vs, h1, h2⟩ := h
  refine ⟨vs, ?_, dpAll_same sm _ h2⟩
  cases S with
  | lst a => exact sqL_sub s.c.sub (sqL_same sm h1)
  | tup a => exact sqT_sub s.c.sub (sqT_same sm h1)
  | txt x t => exact h1
end
section
variable {fx : Fx} {tg e a b : Expr} {m : M PV} {pos : Pos}
def seqM (d : PV) : M (List PV) := optM (seqP d)
theorem iSeq' (h : EOk fx e m) : IOk fx tg e (m >>= seqM) := by
  obtain ⟨t, p, s⟩ := h.ex
  refine ⟨_, pi_seq p, fun F σ H env P E R so hm hq hx => ?_⟩
  refine s F σ H env _ E _ so hm (fun d env1 F1 H1 v g sm le s1 dv => ?_) hx
  cases d <;> first | exact g.elim | skip
  · rename_i z
    cases dv
    exact .inr (.inr ⟨z, rfl, hq _ env1 F1 H1 _ g sm le s1 (it_str z)⟩)
  · cases dv with
    | lst hs ha => exact .inl ⟨_, rfl, ⟨_, sqL_sub s1.c.sub hs⟩, hq _ env1 F1 H1 _ g sm le s1 (it_list hs ha)⟩
  · cases dv with
    | tup hs ha => exact .inr (.inl ⟨_, rfl, ⟨_, sqT_sub s1.c.sub hs⟩, hq _ env1 F1 H1 _ g sm le s1 (it_tup hs ha)⟩)
/-- arguments that are one, two whole numbers -/
def arg1I : List PV → Option Int
  | [.int j] => some j
  | _ => none
def arg2I : List PV → Option (Int × Int)
  | [.int i, .int j] => some (i, j)
  | _ => none
theorem arg1I_eq {ds : List PV} {j : Int} (h : arg1I ds = some j) : ds = [.int j] := by
  unfold arg1I at h
  split at h
  · cases h; rfl
  · cases h
theorem arg2I_eq {ds : List PV} {i j : Int} (h : arg2I ds = some (i, j)) : ds = [.int i, .int j] := by
  unfold arg2I at h
  split at h
  · cases h; rfl
  · cases h
def rng1M (ds : List PV) : M (List PV) := optM (arg1I ds) >>= fun j s P _ => (-(2 ^ 62) ≤ j ∧ j < 2 ^ 62) ∧ P (rngP 0 j.toNat) s
def rng2M (ds : List PV) : M (List PV) := optM (arg2I ds) >>= fun p s P _ => (-(2 ^ 62) ≤ p.1 ∧ p.1 < 2 ^ 62 ∧ -(2 ^ 62) ≤ p.2 ∧ p.2 < 2 ^ 62) ∧ P (rngP p.1 (p.2 - p.1).toNat) s
theorem optM_run {α β : Type} {o : Option α} {f : α → M β} {s : En} {P : β → En → Prop} {E : EP'} (h : (optM o >>= f) s P E) : ∃ a, o = some a ∧ f a s P E := by
  cases o with
  | none => exact h.elim
  | some a => exact ⟨a, rfl, h⟩
theorem starEach_two (h1 : isStar a = false) (h2 : isStar b = false) {env : Env} : starEach [a, b] env = [(false, eval a env), (false, eval b env)] := by
  rw [starEach_plain h1, starEach_plain h2]
  rfl
theorem starEach_one (h1 : isStar a = false) {env : Env} : starEach [a] env = [(false, eval a env)] := by
  rw [starEach_plain h1]
  rfl
theorem DpAll_cons {K : PySem.W.Frag} {F : Hp} {vs : List V} {d : PV} {ds : List PV} (h : DpAll K F vs (d :: ds)) : ∃ v us, vs = v :: us ∧ Dp K F v d ∧ DpAll K F us ds := by
  cases h with
  | cons h1 h2 => exact ⟨_, _, rfl, h1, h2⟩
theorem DpAll_nil {K : PySem.W.Frag} {F : Hp} {vs : List V} (h : DpAll K F vs []) : vs = [] := by
  cases h
  rfl
theorem iRange1 {ms : M (List PV)} {p : Pos} (hg : Gl fx.X "range") (hm : fx.X.mg "range" = none) (hs : isStar a = false) (h : AOk fx [a] ms) : IOk fx tg (.Call (.Name "range" p) [a] [] pos) (ms >>= rng1M) := by
  obtain ⟨t, pa, s⟩ := h.ex
  refine ⟨_, pi_range1 hg hm pa (starEach_one hs), fun F σ H env P E R so hm hq hx => ?_⟩
  refine s F σ H env _ E _ so hm (fun ds env1 F1 H1 v g sm le s1 dv => ?_) hx
  obtain ⟨j, e, g⟩ := optM_run g
  cases arg1I_eq e
  obtain ⟨v1, _, rfl, d1, d2⟩ := DpAll_cons dv
  cases DpAll_nil d2
  cases d1
  exact ⟨j, rfl, g.1.1, g.1.2, hq _ env1 F1 H1 _ g.2 sm le s1 (it_rng 0 _)⟩
theorem iRange2 {ms : M (List PV)} {p : Pos} (hg : Gl fx.X "range") (hm : fx.X.mg "range" = none) (hs : isStar a = false) (hs2 : isStar b = false) (h : AOk fx [a, b] ms) : IOk fx tg (.Call (.Name "range" p) [a, b] [] pos) (ms >>= rng2M) := by
  obtain ⟨t, pa, s⟩ := h.ex
  refine ⟨_, pi_range2 hg hm pa (starEach_two hs hs2) (starEach_one hs2), fun F σ H env P E R so hm hq hx => ?_⟩
  refine s F σ H env _ E _ so hm (fun ds env1 F1 H1 v g sm le s1 dv => ?_) hx
  obtain ⟨⟨i, j⟩, e, g⟩ := optM_run g
  cases arg2I_eq e
  obtain ⟨v1, _, rfl, d1, d2⟩ := DpAll_cons dv
  obtain ⟨v2, _, rfl, d3, d4⟩ := DpAll_cons d2
  cases DpAll_nil d4
  cases d1
  cases d3
  exact ⟨i, j, rfl, g.1, hq _ env1 F1 H1 _ g.2 sm le s1 (it_rng i _)⟩
end
section
variable {fx : Fx} {tg e a b : Expr} {pos : Pos}
theorem srcR_of {F H : Hp} {σ : L2.St} {env : En} {d : PV} {v : V} {xs : List PV} (s : SOk fx F σ H env) (h : Dp fx.X.K F v d) (e : seqP d = some xs) : ∃ vs, ∀ R : Src → Prop, (∀ S, SrcF fx F S xs → R S) → SrcR fx.X.K H v vs R := by
  cases d <;> first | (cases e; done) | skip
  · rename_i z
    cases h
    cases e
    exact ⟨_, fun R q => .inr (.inr ⟨z, rfl, rfl, fun t => q _ ⟨_, rfl, chars_dp _⟩⟩)⟩
  · cases e
    cases h with
    | lst hs ha => exact ⟨_, fun R q => .inl ⟨_, rfl, sqL_sub s.c.sub hs, q _ ⟨_, hs, ha⟩⟩⟩
  · cases e
    cases h with
    | tup hs ha => exact ⟨_, fun R q => .inr (.inl ⟨_, rfl, sqT_sub s.c.sub hs, q _ ⟨_, hs, ha⟩⟩)⟩
end
section
variable {fx : Fx} {F : Hp} {S U : Src} {xs ys : List PV}
theorem it_enum (h : SrcF fx F S xs) : ItOk fx F (Iteg fx.X.K S) (enumP xs 0) := fun F2 σ2 H2 env2 sm s => by
  obtain ⟨vs, hv, d⟩ := h.at sm s
  have hl := d.length
  rw [enumP_length]
  refine ⟨fun i hi => ?_, ?_, fun i x H3 hi hy => ?_⟩
  · exact ⟨vs, _, hv, List.getElem?_eq_getElem (by omega)⟩
  · exact ⟨vs, hv, by omega⟩
  · obtain ⟨T, y, rfl, hT, o, ho, rfl, hy⟩ := hy
    obtain ⟨d, e1, e2⟩ := d.getV (hy vs hv)
    obtain ⟨F3, sm3, s3, r3⟩ := s.newTup hT ho (DpAll.cons (.int ((i : Nat) : Int)) (.cons e2 .nil))
    exact ⟨F3, _, by rw [enumP_get, e1]; simp, sm3, s3, r3⟩
end
section
variable {fx : Fx} {F : Hp} {S U : Src} {xs ys : List PV}
theorem it_zip (h : SrcF fx F S xs) (g : SrcF fx F U ys) : ItOk fx F (Itzg fx.X.K S U) (zipP xs ys) := fun F2 σ2 H2 env2 sm s => by
  obtain ⟨vs, hv, d⟩ := h.at sm s
  obtain ⟨us, hu, d'⟩ := g.at sm s
  have hl := d.length
  have hl' := d'.length
  have hz : (zipP xs ys).length = min xs.length ys.length := by simp [zipP]
  rw [hz]
  refine ⟨fun i hi => ⟨vs, us, hv, hu, by omega, by omega⟩, ⟨vs, us, hv, hu, by omega⟩, fun i x H3 hi hy => ?_⟩
  obtain ⟨T, y, z, rfl, hT, o, ho, rfl, hy, hw⟩ := hy
  obtain ⟨d, e1, e2⟩ := d.getV (hy vs hv)
  obtain ⟨d', e3, e4⟩ := d'.getV (hw us hu)
  obtain ⟨F3, sm3, s3, r3⟩ := s.newTup hT ho (DpAll.cons e2 (.cons e4 .nil))
  refine ⟨F3, _, ?_, sm3, s3, r3⟩
  rw [zipP, List.getElem?_zipWith, e1, e3]
end
section
variable {fx : Fx} {tg e a b : Expr} {pos tpos : Pos} {elts : List Expr} {kk : Nat}
def arg1 : List PV → Option PV
  | [d] => some d
  | _ => none
def arg2 : List PV → Option (PV × PV)
  | [d, e] => some (d, e)
  | _ => none
theorem arg1_eq {ds : List PV} {d : PV} (h : arg1 ds = some d) : ds = [d] := by
  unfold arg1 at h
  split at h
  · cases h; rfl
  · cases h
theorem arg2_eq {ds : List PV} {d e : PV} (h : arg2 ds = some (d, e)) : ds = [d, e] := by
  unfold arg2 at h
  split at h
  · cases h; rfl
  · cases h
def enumM (ds : List PV) : M (List PV) := optM (arg1 ds) >>= fun d => optM (seqP d) >>= fun xs => pure (enumP xs 0)
theorem iEnum' {ms : M (List PV)} {p : Pos} (hg : Gl fx.X "enumerate") (hm : fx.X.mg "enumerate" = none) (hc : fx.X.calm = true) (hs : isStar a = false) (h : AOk fx [a] ms) : IOk fx (.Tuple elts kk tpos) (.Call (.Name "enumerate" p) [a] [] pos) (ms >>= enumM) := by
  obtain ⟨t, pa, s⟩ := h.ex
  refine ⟨_, pi_enumG hg hm hc pa (starEach_one hs), fun F σ H env P E R so hm hq hx => ?_⟩
  refine s F σ H env _ E _ so hm (fun ds env1 F1 H1 v g sm le s1 dv => ?_) hx
  obtain ⟨d, e, g1⟩ := optM_run g
  obtain ⟨xs, e2, g2⟩ := optM_run g1
  cases arg1_eq e
  obtain ⟨v1, _, rfl, d1, d2⟩ := DpAll_cons dv
  cases DpAll_nil d2
  obtain ⟨vs, q⟩ := srcR_of s1 d1 e2
  exact ⟨v1, vs, rfl, q _ fun S hS => hq _ env1 F1 H1 _ g2 sm le s1 (it_enum hS)⟩
def zipM (ds : List PV) : M (List PV) := optM (arg2 ds) >>= fun p => optM (seqP p.1) >>= fun xs => optM (seqP p.2) >>= fun ys => pure (zipP xs ys)
theorem iZip' {ms : M (List PV)} {p : Pos} (hg : Gl fx.X "zip") (hm : fx.X.mg "zip" = none) (hc : fx.X.calm = true) (hs : isStar a = false) (hs2 : isStar b = false) (h : AOk fx [a, b] ms) : IOk fx (.Tuple elts kk tpos) (.Call (.Name "zip" p) [a, b] [] pos) (ms >>= zipM) := by
  obtain ⟨t, pa, s⟩ := h.ex
  refine ⟨_, pi_zipG hg hm hc pa (by rw [starEach_plain hs]) (by rw [starEach_one hs2]; rfl), fun F σ H env P E R so hm hq hx => ?_⟩
  refine s F σ H env _ E _ so hm (fun ds env1 F1 H1 v g sm le s1 dv => ?_) hx
  obtain ⟨⟨d, d'⟩, e, g1⟩ := optM_run g
  obtain ⟨xs, e2, g2⟩ := optM_run g1
  obtain ⟨ys, e3, g3⟩ := optM_run g2
  cases arg2_eq e
  obtain ⟨v1, _, rfl, d1, d2⟩ := DpAll_cons dv
  obtain ⟨v2, _, rfl, d3, d4⟩ := DpAll_cons d2
  cases DpAll_nil d4
  obtain ⟨vs, q⟩ := srcR_of s1 d1 e2
  obtain ⟨us, q'⟩ := srcR_of s1 d3 e3
  exact ⟨v1, v2, vs, us, rfl, q _ fun S hS => q' _ fun U hU => hq _ env1 F1 H1 _ g3 sm le s1 (it_zip hS hU)⟩
end
end FS
namespace FS
open PySem PySem.Spec PyProof.Rows L2 LamX
/-! list comprehensions -/
def NoE : EP' := fun _ => False
def wipeE (env : En) : List Nat → En
  | [] => env
  | v :: vs => (wipeE env vs).set v none
theorem wipeE_length (env : En) : ∀ vs : List Nat, (wipeE env vs).length = env.length
  | [] => rfl
  | v :: vs => by unfold wipeE; rw [List.length_set, wipeE_length env vs]
theorem wipeE_some {env : En} {i : Nat} {x : Slot} : ∀ {vs : List Nat}, (wipeE env vs)[i]? = some (some x) → env[i]? = some (some x) ∧ i ∉ vs
  | [], h => ⟨h, by simp⟩
  | v :: vs, h => by
    unfold wipeE at h
    rcases set_get h with ⟨_, e, _⟩ | ⟨n, h⟩
    · cases e
    · obtain ⟨a, b⟩ := wipeE_some h
      exact ⟨a, by simp [b]; exact fun z => n z.symm⟩
theorem wipe_at {σ : L2.St} {i : Nat} {vs : List Nat} (h : i ∉ vs) : (wipe σ vs)[i]? = σ[i]? := wipe_out h
theorem wipeE_at {env : En} {i : Nat} : ∀ {vs : List Nat}, i ∉ vs → (wipeE env vs)[i]? = env[i]?
  | [], _ => rfl
  | v :: vs, h => by
    have h1 : v ≠ i := fun e => h (by rw [e]; exact List.mem_cons_self)
    have h2 : i ∉ vs := fun m => h (List.mem_cons_of_mem _ m)
    unfold wipeE
    rw [List.getElem?_set_ne h1]
    exact wipeE_at h2
theorem wipe_none {σ : L2.St} {i : Nat} : ∀ {vs : List Nat}, i ∈ vs → i < σ.length → (wipe σ vs)[i]? = some none
  | v :: vs, h, hi => by
    unfold wipe
    by_cases e : v = i
    · subst e
      exact List.getElem?_set_self (by rw [wipe_length]; exact hi)
    · rw [List.getElem?_set_ne e]
      rcases List.mem_cons.mp h with z | z
      · exact absurd z.symm e
      · exact wipe_none z hi
theorem wipe_ext {σ σ' : L2.St} {vs : List Nat} (hl : σ'.length = σ.length) (h : ∀ j, j ∉ vs → σ'[j]? = (wipe σ vs)[j]?) : wipe σ' vs = wipe σ vs := by
  apply List.ext_getElem?
  intro j
  by_cases hj : j ∈ vs
  · by_cases hlt : j < σ.length
    · rw [wipe_none hj hlt, wipe_none hj (by rw [hl]; exact hlt)]
    · rw [List.getElem?_eq_none (by rw [wipe_length]; omega), List.getElem?_eq_none (by rw [wipe_length]; omega)]
  · rw [wipe_at hj, h j hj]
section
variable {fx : Fx} {F H : Hp} {σ : L2.St} {env : En}
theorem SOk.wipe {vs : List Nat} (h : SOk fx F σ H env) : SOk fx F (wipe σ vs) H (wipeE env vs) := by
  refine ⟨h.c, by rw [wipeE_length, wipe_length]; exact h.len, fun i s e => ?_, fun i j s t v e1 e2 m1 m2 e3 e4 => ?_⟩
  · obtain ⟨a, b⟩ := wipeE_some e
    rw [wipe_at b]
    exact h.slot i s a
  · obtain ⟨a1, b1⟩ := wipeE_some e1
    obtain ⟨a2, b2⟩ := wipeE_some e2
    rw [wipe_at b1] at e3
    rw [wipe_at b2] at e4
    exact h.sepS i j s t v a1 a2 m1 m2 e3 e4
theorem OwnAt.unwipe {vs : List Nat} {a : Addr} (h : OwnAt (wipe σ vs) (wipeE env vs) a) : OwnAt σ env a := by
  obtain ⟨i, xs, e1, e2⟩ := h
  obtain ⟨a1, b1⟩ := wipeE_some e1
  rw [wipe_at b1] at e2
  exact ⟨i, xs, a1, e2⟩
end
/-- the frame of a block -/
def Fx.blk (fx : Fx) (s : Shared) (H : Hp) (scope : Scope) (ce : Env) (fp : List Addr) : Fx := { fx with X := fx.X.blk s H scope ce fp, W := fun _ _ _ _ => False }
theorem SOk.blk {fx : Fx} {F H : Hp} {σ : L2.St} {env : En} {s : Shared} {H0 : Hp} {scope : Scope} {ce : Env} {fp : List Addr} (h : SOk fx F σ H env) : SOk (fx.blk s H0 scope ce fp) F σ H env :=
  ⟨⟨h.c.sub, h.c.f0, h.c.h0, h.c.fresh, h.c.mono, h.c.tabs, h.c.tn⟩, h.len, fun i sl e => by
    obtain ⟨v, e1, e2⟩ := h.slot i sl e
    refine ⟨v, e1, ?_⟩
    cases sl <;> exact e2, h.sepS⟩
theorem SOk.unblk {fx : Fx} {F H : Hp} {σ : L2.St} {env : En} {s : Shared} {H0 : Hp} {scope : Scope} {ce : Env} {fp : List Addr} (h : SOk (fx.blk s H0 scope ce fp) F σ H env) : SOk fx F σ H env :=
  ⟨⟨h.c.sub, h.c.f0, h.c.h0, h.c.fresh, h.c.mono, h.c.tabs, h.c.tn⟩, h.len, fun i sl e => by
    obtain ⟨v, e1, e2⟩ := h.slot i sl e
    refine ⟨v, e1, ?_⟩
    cases sl <;> exact e2, h.sepS⟩
theorem exOk_no {fx : Fx} {F : Hp} : ExOk fx F NoE := fun _ _ _ _ _ _ h => h.elim
/-- in every block of this comprehension -/
structure EBk (fx : Fx) (scope : Scope) (e : Expr) (m : M PV) : Prop where
  ok : ∀ (s : Shared) (H : Hp) (C : Addr) (cl : List (Str × Addr)) (fp : List Addr), EOk (fx.blk s H scope (compEnvC scope cl C fx.X.env) fp) e m
structure TBk (fx : Fx) (scope : Scope) (e : Expr) (m : M Bool) : Prop where
  ok : ∀ (s : Shared) (H : Hp) (C : Addr) (cl : List (Str × Addr)) (fp : List Addr), TOk (fx.blk s H scope (compEnvC scope cl C fx.X.env) fp) e m
structure GBk (fx : Fx) (scope : Scope) (e : Expr) (g : Tg) : Prop where
  ok : ∀ (s : Shared) (H : Hp) (C : Addr) (cl : List (Str × Addr)) (fp : List Addr), GOk (fx.blk s H scope (compEnvC scope cl C fx.X.env) fp) e g
structure IBk (fx : Fx) (scope : Scope) (tg e : Expr) (m : M (List PV)) : Prop where
  ok : ∀ (s : Shared) (H : Hp) (C : Addr) (cl : List (Str × Addr)) (fp : List Addr), IOk (fx.blk s H scope (compEnvC scope cl C fx.X.env) fp) tg e m
theorem PE.weak {X : Cx} {e : Expr} {t u : TE} (h : PE X e t) (k : ∀ σ H Q, u σ H Q → t σ H Q) : PE X e u := ⟨fun pins s σ H Q I q => h.run pins s σ H Q I (k _ _ _ q)⟩
theorem PT.weak {X : Cx} {e : Expr} {t u : TT} (h : PT X e t) (k : ∀ σ H Q, u σ H Q → t σ H Q) : PT X e u := ⟨fun pins s σ H Q I q => h.run pins s σ H Q I (k _ _ _ q)⟩
theorem PG.weak {X : Cx} {e : Expr} {t u : TG} (h : PG X e t) (k : ∀ v σ H Q, u v σ H Q → t v σ H Q) : PG X e u := ⟨fun pins s σ H v w Q I r q => h.run pins s σ H v w Q I r (k _ _ _ _ q)⟩
theorem PI.weak {X : Cx} {tg e : Expr} {t u : TI} (h : PI X tg e t) (k : ∀ σ H Q, u σ H Q → t σ H Q) : PI X tg e u := ⟨fun pins s σ H Q I q => h.run pins s σ H Q I (k _ _ _ q)⟩
section
variable {fx : Fx} {scope : Scope} {e tg : Expr}
/-- one reading for all blocks -/
theorem EBk.all {m : M PV} (h : EBk fx scope e m) : ∃ t : TE, (∀ (s : Shared) (H : Hp) (C : Addr) (cl : List (Str × Addr)) (fp : List Addr), PE (fx.X.blk s H scope (compEnvC scope cl C fx.X.env) fp) e t) ∧
    ∀ (F : Hp) (σ : L2.St) (H : Hp) (env : En) (P : PV → En → Prop) (Q : V → Hp → Prop), SOk fx F σ H env → m env P NoE → (∀ d env' F' H' v, P d env' → Stp F H σ env F' H' → EnLe env env' → SOk fx F' σ H' env' → Dp fx.X.K F' v d → Q v H') → t σ H Q := by
  refine ⟨fun σ H Q => ∀ (s : Shared) (H0 : Hp) (C : Addr) (cl : List (Str × Addr)) (fp : List Addr), Classical.choose ((h.ok s H0 C cl fp).ex) σ H Q, fun s H C cl fp => ?_, fun F σ H env P Q so hm hq s H0 C cl fp => ?_⟩
  · exact PE.weak (Classical.choose_spec ((h.ok s H C cl fp).ex)).1 fun σ H' Q q => q s H C cl fp
  · exact (Classical.choose_spec ((h.ok s H0 C cl fp).ex)).2 F σ H env P NoE Q so.blk hm (fun d env' F' H' v p st le s' dv => hq d env' F' H' v p st le s'.unblk dv) exOk_no
theorem TBk.all {m : M Bool} (h : TBk fx scope e m) : ∃ t : TT, (∀ (s : Shared) (H : Hp) (C : Addr) (cl : List (Str × Addr)) (fp : List Addr), PT (fx.X.blk s H scope (compEnvC scope cl C fx.X.env) fp) e t) ∧
    ∀ (F : Hp) (σ : L2.St) (H : Hp) (env : En) (P : Bool → En → Prop) (Q : Bool → Hp → Prop), SOk fx F σ H env → m env P NoE → (∀ d env' F' H', P d env' → Stp F H σ env F' H' → EnLe env env' → SOk fx F' σ H' env' → Q d H') → t σ H Q := by
  refine ⟨fun σ H Q => ∀ (s : Shared) (H0 : Hp) (C : Addr) (cl : List (Str × Addr)) (fp : List Addr), Classical.choose ((h.ok s H0 C cl fp).ex) σ H Q, fun s H C cl fp => ?_, fun F σ H env P Q so hm hq s H0 C cl fp => ?_⟩
  · exact PT.weak (Classical.choose_spec ((h.ok s H C cl fp).ex)).1 fun σ H' Q q => q s H C cl fp
  · exact (Classical.choose_spec ((h.ok s H0 C cl fp).ex)).2 F σ H env P NoE Q so.blk hm (fun d env' F' H' v p st le s' dv => dv ▸ hq d env' F' H' p st le s'.unblk) exOk_no
theorem GBk.all {g : Tg} (h : GBk fx scope e g) : ∃ t : TG, (∀ (s : Shared) (H : Hp) (C : Addr) (cl : List (Str × Addr)) (fp : List Addr), PG (fx.X.blk s H scope (compEnvC scope cl C fx.X.env) fp) e t) ∧
    ∀ (F : Hp) (σ : L2.St) (H : Hp) (env env' : En) (d : PV) (v : V) (Q : L2.St → Hp → Prop), SOk fx F σ H env → Dp fx.X.K F v d → g.put d env = some env' → (∀ σ', OutOf g.ids σ σ' → SOk fx F σ' H env' → Q σ' H) → t v σ H Q := by
  refine ⟨fun v σ H Q => ∀ (s : Shared) (H0 : Hp) (C : Addr) (cl : List (Str × Addr)) (fp : List Addr), Classical.choose ((h.ok s H0 C cl fp).ex) v σ H Q, fun s H C cl fp => ?_, fun F σ H env env' d v Q so dv hp hq s H0 C cl fp => ?_⟩
  · exact PG.weak (Classical.choose_spec ((h.ok s H C cl fp).ex)).1 fun v σ H' Q q => q s H C cl fp
  · exact (Classical.choose_spec ((h.ok s H0 C cl fp).ex)).2 F σ H env env' d v Q so.blk dv hp fun σ' o s' => hq σ' o s'.unblk
/-- the tests of a clause: none or one -/
inductive TsBk (fx : Fx) (scope : Scope) : List Expr → M Bool → Prop where
  | nil : TsBk fx scope [] (pure true)
  | one {c : Expr} {m : M Bool} : TBk fx scope c m → TsBk fx scope [c] m
theorem TsBk.all {ifs : List Expr} {m : M Bool} (h : TsBk fx scope ifs m) : ∃ t : TT, (∀ (s : Shared) (H : Hp) (C : Addr) (cl : List (Str × Addr)) (fp : List Addr), PTs (fx.X.blk s H scope (compEnvC scope cl C fx.X.env) fp) ifs t) ∧
    ∀ (F : Hp) (σ : L2.St) (H : Hp) (env : En) (P : Bool → En → Prop) (Q : Bool → Hp → Prop), SOk fx F σ H env → m env P NoE → (∀ d env' F' H', P d env' → Stp F H σ env F' H' → EnLe env env' → SOk fx F' σ H' env' → Q d H') → t σ H Q := by
  cases h with
  | nil => exact ⟨tYes, fun _ _ _ _ _ => pts_nil, fun F σ H env P Q so hm hq => hq true env F H hm Stp.refl (EnLe.refl _) so⟩
  | one h =>
    obtain ⟨t, p, q⟩ := h.all
    exact ⟨t, fun s H C cl fp => pts_one (p s H C cl fp), q⟩
end
/-! ### a list of ours is written -/
section
variable {fx : Fx} {F F' H : Hp} {σ σ' : L2.St} {env env' : En}
theorem tabs_upd {T : List (Addr × Str)} {D : Addr} {o o' : HO} (t : Tabs T H) (e : H D = some o) (n1 : ∀ ps, o ≠ .tbl ps) (n2 : ∀ φ, o ≠ .ext φ) : Tabs T (upd H D o') := fun p hp => by
  obtain ⟨ps, h1, h2, h3⟩ := t p hp
  have ne : ∀ {b x}, H b = some x → x ≠ o → b ≠ D := fun {b x} hb hx z => hx (by rw [z, e] at hb; exact (Option.some.inj hb).symm)
  refine ⟨ps, by rw [upd_ne (ne h1 fun z => n1 ps z.symm)]; exact h1, h2, fun pos cv hc => ?_⟩
  obtain ⟨c, e1, e2⟩ := h3 pos cv hc
  exact ⟨c, e1, by rw [upd_ne (ne e2 fun z => n2 _ z.symm)]; exact e2⟩
/-- written at a thing that is neither known nor a name's own -/
theorem SOk.write {D : Addr} {o o' : HO} (h : SOk fx F σ H env) (e : H D = some o) (n1 : ∀ ps, o ≠ .tbl ps) (n2 : ∀ φ, o ≠ .ext φ) (nF : F D = none) (n0 : fx.H0 D = none) (no : ¬ OwnAt σ env D) (nd : NotDc o) : SOk fx F σ (upd H D o') env := by
  refine ⟨⟨fun a x q => ?_, h.c.f0, fun a x q1 q2 q3 => ?_, h.c.fresh, fun a q => ?_, tabs_upd h.c.tabs e n1 n2, h.c.tn⟩, h.len, fun i s q => ?_, h.sepS⟩
  · have : a ≠ D := fun z => by rw [z, nF] at q; cases q
    obtain ⟨k1, k2⟩ := h.c.sub a x q
    refine ⟨fun z => ?_, fun z => by rw [upd_ne this]; exact k2 z⟩
    obtain ⟨x1, y1, z1, w1, w2⟩ := k1 z
    exact ⟨x1, y1, z1, by rw [upd_ne this]; exact w1, w2⟩
  · have : a ≠ D := fun z => by rw [z, n0] at q1; cases q1
    rw [upd_ne this]
    exact h.c.h0 a x q1 q2 q3
  · by_cases z : a = D
    · subst z
      rw [upd_same]
      simp
    · rw [upd_ne z]
      exact h.c.mono a q
  · obtain ⟨v, e1, e2⟩ := h.slot i s q
    refine ⟨v, e1, ?_⟩
    cases s with
    | val d => exact e2
    | own xs =>
      obtain ⟨a, vs, rfl, f1, f2⟩ := e2
      have : a ≠ D := fun z => no ⟨i, xs, q, z ▸ e1⟩
      exact ⟨a, vs, rfl, by rw [upd_ne this]; exact f1, f2⟩
    | well => exact e2
    | clo i cs => exact e2
    | dic p =>
      obtain ⟨a, oo, rfl, f1, f2, f3, f4⟩ := e2
      have : a ≠ D := fun z => by
        subst z
        rw [e] at f1
        cases f1
        exact f4.no nd
      exact ⟨a, oo, rfl, by rw [upd_ne this]; exact f1, f2, f3, f4⟩
    | dcf p => exact e2
/-- back from a block, in which some names were hidden -/
theorem blk_back {vs : List Nat} (h : SOk fx F σ H env) (st : Stp F H σ' env' F' H') (s' : SOk fx F' σ' H' env') (out : ∀ j, j ∉ vs → σ'[j]? = σ[j]? ∧ env'[j]? = env[j]?) (inn : ∀ (j : Nat) (xs : List PV), j ∈ vs → env'[j]? ≠ some (some (.own xs))) :
    SOk fx F' σ H' env ∧ ∀ b, OwnAt σ' env' b → OwnAt σ env b := by
  have own : ∀ b, OwnAt σ' env' b → ∃ i xs, i ∉ vs ∧ env[i]? = some (some (.own xs)) ∧ σ[i]? = some (some (.ref b)) := fun b ⟨i, xs, e1, e2⟩ => by
    have hi : i ∉ vs := fun z => inn i xs z e1
    exact ⟨i, xs, hi, by rw [← (out i hi).2]; exact e1, by rw [← (out i hi).1]; exact e2⟩
  refine ⟨⟨s'.c, h.len, fun i s e => ?_, h.sepS⟩, fun b hb => let ⟨i, xs, _, e1, e2⟩ := own b hb; ⟨i, xs, e1, e2⟩⟩
  by_cases hi : i ∈ vs
  · obtain ⟨v, e1, e2⟩ := h.slot i s e
    refine ⟨v, e1, ?_⟩
    cases s with
    | val d => exact dp_same st.sm d e2
    | own xs =>
      obtain ⟨a, ws, rfl, f1, f2, f3, f4, f5⟩ := e2
      obtain ⟨k1, k2⟩ := st.keep a _ f1 f2 (fun ps z => by cases z) fun z => by
        obtain ⟨j, ys, hj, g1, g2⟩ := own a z
        exact hj (h.sep i j xs ys _ e g1 e1 g2 ▸ hi)
      exact ⟨a, ws, rfl, k1, k2, f3, dpAll_same st.sm _ f4, f5⟩
    | well =>
      obtain ⟨a, rfl, f⟩ := e2
      exact ⟨a, rfl, st.sm _ _ f⟩
    | clo i cs => exact fx.cloMono _ _ _ _ _ st.sm e2
    | dic p =>
      obtain ⟨a, oo, rfl, f1, f2, f3, f4⟩ := e2
      obtain ⟨k1, k2⟩ := st.keep a _ f1 f2 f4.tbl fun z => by
        obtain ⟨j, ys, hj, g1, g2⟩ := own a z
        obtain ⟨v', g3, b, vs, g0, g4, _⟩ := h.slot j _ g1
        cases g0
        rw [g2] at g3
        cases g3
        rw [f1] at g4
        cases g4
        exact f4.lst
      exact ⟨a, oo, rfl, k1, k2, f3, f4.same st.sm⟩
    | dcf p => exact DcF.same st.sm e2
  · obtain ⟨v, e1, e2⟩ := s'.slot i s (by rw [(out i hi).2]; exact e)
    exact ⟨v, by rw [← (out i hi).1]; exact e1, e2⟩
end
theorem set_own {env : En} {i j : Nat} {d : PV} {xs : List PV} (h : (env.set i (some (.val d)))[j]? = some (some (.own xs))) : i ≠ j := fun z => by
  rcases set_get h with ⟨_, e, _⟩ | ⟨n, _⟩
  · cases e
  · exact n z
mutual
theorem put_out : ∀ {g : Tg} {d : PV} {env env' : En}, g.put d env = some env' → env'.length = env.length ∧ (∀ j, j ∉ g.ids → env'[j]? = env[j]?) ∧ ∀ j xs, env'[j]? = some (some (.own xs)) → j ∉ g.ids
  | .name i, d, env, env', h => by
    cases h
    refine ⟨by rw [List.length_set], fun j hj => List.getElem?_set_ne (by intro z; exact hj (by simp [Tg.ids, z])), fun j xs e z => ?_⟩
    have z : j = i := by simpa [Tg.ids] using z
    exact set_own e z.symm
  | .tup ts, d, env, env', h => by
    cases d <;> first | (cases h; done) | skip
    rename_i ds
    exact putAll_out (show Tg.putAll ts ds env = some env' from h)
theorem putAll_out : ∀ {gs : List Tg} {ds : List PV} {env env' : En}, Tg.putAll gs ds env = some env' → env'.length = env.length ∧ (∀ j, j ∉ Tg.idsAll gs → env'[j]? = env[j]?) ∧ ∀ j xs, env'[j]? = some (some (.own xs)) → j ∉ Tg.idsAll gs
  | [], [], env, env', h => by
    cases h
    exact ⟨rfl, fun _ _ => rfl, fun _ _ _ z => by cases z⟩
  | [], _ :: _, _, _, h => by cases h
  | _ :: _, [], _, _, h => by cases h
  | g :: gs, d :: ds, env, env', h => by
    have h : (g.put d env).bind (fun env1 => Tg.putAll gs ds env1) = some env' := h
    cases z : g.put d env with
    | none => rw [z] at h; cases h
    | some env1 =>
      rw [z] at h
      obtain ⟨a1, a2, a3⟩ := put_out z
      obtain ⟨b1, b2, b3⟩ := putAll_out (show Tg.putAll gs ds env1 = some env' from h)
      refine ⟨b1.trans a1, fun j hj => ?_, fun j xs e q => ?_⟩
      · have hj' : j ∉ g.ids ∧ j ∉ Tg.idsAll gs := by
          constructor
          · intro z; exact hj (List.mem_append_left _ z)
          · intro z; exact hj (List.mem_append_right _ z)
        rw [b2 j hj'.2, a2 j hj'.1]
      · rcases List.mem_append.mp q with q | q
        · have hn := b3 j xs e
          exact a3 j xs ((b2 j hn) ▸ e) q
        · exact b3 j xs e q
end
/-- the turns of a comprehension: s0 the names at each turn's start -/
def lcLoop (g : Tg) (mt : M Bool) (me : M PV) (s0 : En) (Q : List PV → Prop) : List PV → List PV → Prop
  | [], acc => Q acc
  | x :: xs, acc => ∃ s1, g.put x s0 = some s1 ∧ mt s1 (fun b s2 => s2 = s1 ∧ if b = true then me s1 (fun d s3 => s3 = s1 ∧ lcLoop g mt me s0 Q xs (acc ++ [d])) NoE else lcLoop g mt me s0 Q xs acc) NoE
def lcM (vs : List Nat) (g : Tg) (mt : M Bool) (me : M PV) (xs : List PV) : M Res := fun s P _ => xs.length ≤ sizeLine ∧ lcLoop g mt me (wipeE s vs) (fun ds => P (.new ds) s) xs []
section
variable {fx : Fx} {elt tg iter : Expr} {ifs : List Expr} {scope : Scope} {own : List (Str × Nat)} {pos : Pos} {mi : M (List PV)} {g : Tg} {mt : M Bool} {me : M PV}
theorem lc_sim {wi : TI} {tg' : TG} {tt : TT} {te : TE} {vs : List Nat} (hi : g.ids.all (vs.contains ·) = true)
    (si : ∀ (F : Hp) (σ : L2.St) (H : Hp) (env : En) (P : List PV → En → Prop) (E : EP') (R : It → Hp → Prop), SOk fx F σ H env → mi env P E →
      (∀ xs env' F' H' J, P xs env' → Stp F H σ env F' H' → EnLe env env' → SOk fx F' σ H' env' → ItOk fx F' J xs → R J H') → ExOk fx F E → wi σ H R)
    (sg : ∀ (F : Hp) (σ : L2.St) (H : Hp) (env env' : En) (d : PV) (v : V) (Q : L2.St → Hp → Prop), SOk fx F σ H env → Dp fx.X.K F v d → g.put d env = some env' → (∀ σ', OutOf g.ids σ σ' → SOk fx F σ' H env' → Q σ' H) → tg' v σ H Q)
    (st : ∀ (F : Hp) (σ : L2.St) (H : Hp) (env : En) (P : Bool → En → Prop) (Q : Bool → Hp → Prop), SOk fx F σ H env → mt env P NoE → (∀ d env' F' H', P d env' → Stp F H σ env F' H' → EnLe env env' → SOk fx F' σ H' env' → Q d H') → tt σ H Q)
    (se : ∀ (F : Hp) (σ : L2.St) (H : Hp) (env : En) (P : PV → En → Prop) (Q : V → Hp → Prop), SOk fx F σ H env → me env P NoE → (∀ d env' F' H' v, P d env' → Stp F H σ env F' H' → EnLe env env' → SOk fx F' σ H' env' → Dp fx.X.K F' v d → Q v H') → te σ H Q) :
    SimR fx (tLc wi tg' tt te vs) (mi >>= lcM vs g mt me) := by
  intro F σ H env P E Q so hm hq hx
  refine si F σ H env _ E _ so hm (fun xs env1 F1 H1 J g1 st1 le1 s1 it => ?_) hx
  obtain ⟨zl, g1⟩ := g1
  intro D hD
  obtain ⟨s2, nF, n0, no⟩ := s1.alloc (o := .lst []) hD
  have nHs : H D = none := by
    cases e : H D with
    | none => rfl
    | some o => exact absurd hD (st1.mono D (by rw [e]; simp))
  -- the turn's state: known F2, the list so far
  refine ⟨fun i m H2 => ∃ F2 acc vs', m = xs.length - i ∧ i ≤ xs.length ∧ acc.length ≤ i ∧ Same F1 F2 ∧ (∀ b o, H1 b = some o → F1 b = none → (∀ ps, o ≠ .tbl ps) → ¬ OwnAt σ env1 b → H2 b = some o ∧ F2 b = none) ∧ (∀ a, H1 a ≠ none → H2 a ≠ none) ∧ SOk fx F2 σ H2 env1 ∧
      H2 D = some (.lst vs') ∧ F2 D = none ∧ DpAll fx.X.K F2 vs' acc ∧ lcLoop g mt me (wipeE env1 vs) (fun ds => P (.new ds) env1) (xs.drop i) acc,
    ⟨xs.length, F1, [], [], by simp, Nat.zero_le _, Nat.le_refl _, Same.refl _, fun b o e f n w => ⟨by rw [upd_ne (ne_of_none e hD)]; exact e, f⟩, fun a h => ?_, s2, upd_same, nF, .nil, g1⟩, fun i m H2 hW => ?_⟩
  · by_cases e : a = D
    · subst e
      exact absurd hD h
    · rw [upd_ne e]; exact h
  obtain ⟨F2, acc, vs', rfl, hi', hacc, sm2, kp2, mo2, so2, hD2, nF2, da2, hl⟩ := hW
  obtain ⟨go, stop, yl⟩ := it F2 σ H2 env1 sm2 so2
  have noD : ¬ OwnAt σ env1 D := fun ⟨j, ys, e1, e2⟩ => no j ys e1 e2
  by_cases hlt : i < xs.length
  · rw [List.drop_eq_getElem_cons hlt] at hl
    refine .inr ⟨go i hlt, fun H' => ∃ F3 acc vs', acc.length ≤ i + 1 ∧ Same F1 F3 ∧ (∀ b o, H1 b = some o → F1 b = none → (∀ ps, o ≠ .tbl ps) → ¬ OwnAt σ env1 b → H' b = some o ∧ F3 b = none) ∧ (∀ a, H1 a ≠ none → H' a ≠ none) ∧ SOk fx F3 σ H' env1 ∧
      H' D = some (.lst vs') ∧ F3 D = none ∧ DpAll fx.X.K F3 vs' acc ∧ lcLoop g mt me (wipeE env1 vs) (fun ds => P (.new ds) env1) (xs.drop (i + 1)) acc, fun H' hN => ?_, fun x H3 hy => ?_⟩
    · obtain ⟨F3, acc, vs', a1, a2, a3, a4, a5, a6, a7, a8, a9⟩ := hN
      exact ⟨xs.length - (i + 1), by omega, F3, acc, vs', rfl, hlt, a1, a2, a3, a4, a5, a6, a7, a8, a9⟩
    · obtain ⟨F3, d, e1, st3, s3, d3⟩ := yl i x H3 hlt hy
      have ed : xs[i] = d := by
        rw [List.getElem?_eq_getElem hlt] at e1
        exact Option.some.inj e1
      rw [ed] at hl
      obtain ⟨env4, e4, hl⟩ := hl
      refine sg F3 (wipe σ vs) H3 (wipeE env1 vs) env4 d x _ s3.wipe d3 e4 fun σ4 o4 s4 => ?_
      have out : ∀ j, j ∉ vs → σ4[j]? = σ[j]? := fun j hj => by
        have hj' : j ∉ g.ids := fun z => hj (by simpa using List.all_eq_true.mp hi j z)
        rw [o4.2 j hj', wipe_at hj]
      have ew : wipe σ4 vs = wipe σ vs := wipe_ext (by rw [o4.1, wipe_length]) fun j hj => by rw [out j hj, wipe_at hj]
      refine ⟨ew, st F3 σ4 H3 env4 _ _ s4 hl fun b env5 F5 H5 g5 st5 le5 s5 => ?_⟩
      obtain ⟨rfl, g5⟩ := g5
      have po := put_out e4
      have outE : ∀ j, j ∉ vs → σ4[j]? = σ[j]? ∧ env5[j]? = env1[j]? := fun j hj => by
        have hj' : j ∉ g.ids := fun z => hj (by simpa using List.all_eq_true.mp hi j z)
        refine ⟨out j hj, ?_⟩
        rw [po.2.1 j hj', wipeE_at hj]
      have innE : ∀ (j : Nat) (xs : List PV), j ∈ vs → env5[j]? ≠ some (some (.own xs)) := fun j xs hj e => by
        have hn := po.2.2 j xs e
        rw [po.2.1 j hn] at e
        exact (wipeE_some e).2 hj
      -- what the block has left, seen from outside
      have fin : ∀ {F6 H6 : Hp}, Stp F3 H3 σ4 env5 F6 H6 → SOk fx F6 σ4 H6 env5 → Same F1 F6 ∧ (∀ b o, H1 b = some o → F1 b = none → (∀ ps, o ≠ .tbl ps) → ¬ OwnAt σ env1 b → H6 b = some o ∧ F6 b = none) ∧ (∀ a, H1 a ≠ none → H6 a ≠ none) ∧ SOk fx F6 σ H6 env1 ∧
          H6 D = some (.lst vs') ∧ F6 D = none ∧ DpAll fx.X.K F6 vs' acc := fun {F6 H6} st6 s6 => by
        obtain ⟨b1, b2⟩ := blk_back s3 st6 s6 outE innE
        have kp : ∀ b o, H2 b = some o → F2 b = none → (∀ ps, o ≠ .tbl ps) → ¬ OwnAt σ env1 b → H6 b = some o ∧ F6 b = none := fun b o e f n w => by
          obtain ⟨h1, f1⟩ := st3.keep b o e f n w
          exact st6.keep b o h1 f1 n fun z => w (b2 b z)
        obtain ⟨k1, k2⟩ := kp D _ hD2 nF2 (fun ps z => by cases z) noD
        exact ⟨sm2.trans (st3.sm.trans st6.sm), fun b o e f n w => by
          obtain ⟨h1, f1⟩ := kp2 b o e f n w
          exact kp b o h1 f1 n w, fun a h => st6.mono a (st3.mono a (mo2 a h)), b1, k1, k2, dpAll_same (st3.sm.trans st6.sm) _ da2⟩
      cases b with
      | false =>
        simp only [Bool.false_eq_true, if_false] at g5 ⊢
        obtain ⟨c1, c2, c3, c4, c5, c6, c7⟩ := fin st5 s5
        exact ⟨F5, acc, vs', by omega, c1, c2, c3, c4, c5, c6, c7, g5⟩
      | true =>
        simp only [if_true] at g5 ⊢
        refine se F5 σ4 H5 env5 _ _ s5 g5 fun d6 env6 F6 H6 v6 g6 st6 le6 s6 dv6 => ?_
        obtain ⟨rfl, g6⟩ := g6
        obtain ⟨c1, c2, c3, c4, c5, c6, c7⟩ := fin (st5.tr le5 st6) s6
        have hlen := da2.length
        refine ⟨vs', c5, by omega, F6, acc ++ [d6], vs' ++ [v6], by rw [List.length_append]; simp; omega, c1, fun b o e f n w => ?_, fun a h => ?_, c4.write c5 (fun ps z => by cases z) (fun φ z => by cases z) c6 n0 noD trivial, upd_same, c6, c7.app (.cons dv6 .nil), g6⟩
        · have : b ≠ D := fun z => by rw [z, hD] at e; cases e
          rw [upd_ne this]
          exact c2 b o e f n w
        · by_cases e : a = D
          · subst e
            rw [upd_same]; simp
          · rw [upd_ne e]
            exact c3 a h
  · have e : xs.drop i = [] := List.drop_eq_nil_of_le (by omega)
    rw [e] at hl
    have ei : i = xs.length := by omega
    refine .inl ⟨ei ▸ stop, hq (.new acc) env1 F2 H2 (.ref D) hl ⟨st1.sm.trans sm2, fun a h => mo2 a (st1.mono a h), fun b o h f n w => ?_⟩ le1 so2 ⟨D, vs', rfl, hD2, nF2, ?_, da2, ?_, nHs, fun j ys e => no j ys e⟩⟩
    · obtain ⟨h1, f1⟩ := st1.keep b o h f n w
      exact kp2 b o h1 f1 n fun z => w (z.back le1)
    · exact n0
    · rw [da2.length]; omega
/-- [elt for tg in iter if ..] -/
theorem rComp (hc : fx.X.calm = true) (hN : fx.X.N.Nodup) (ok : blkC fx.X.N fx.X.env.scope scope own = true) (hn : noSet iter = true) (hids : g.ids.all ((own.map (·.2)).contains ·) = true) (hi : IOk fx tg iter mi) (hg : GBk fx scope tg g) (ht : TsBk fx scope ifs mt) (he : EBk fx scope elt me) :
    ROk fx (.ListComp elt [⟨tg, iter, ifs, 0⟩] scope pos) (mi >>= lcM (own.map (·.2)) g mt me) := by
  obtain ⟨wi, pi, si⟩ := hi.ex
  obtain ⟨t1, p1, s1⟩ := hg.all
  obtain ⟨t2, p2, s2⟩ := ht.all
  obtain ⟨t3, p3, s3⟩ := he.all
  exact ⟨_, pe_lc hc hN pi (blkOk_by ok) p1 p2 p3 (folded_no hn), lc_sim hids si s1 s2 s3⟩
/-- name = [..], the name a local -/
theorem stSetComp {i : Nat} {y : Str} {py spos : Pos} (hsw : swapsWith (.ListComp elt [⟨tg, iter, ifs, 0⟩] scope pos) (some (.Name y py)) spos.line fx.X.env = pure true) (hc : fx.X.calm = true) (hN : fx.X.N.Nodup) (hy : fx.X.N[i]? = some y) (hyl : fx.X.env.scope.names.lookup y = some .local)
    (ok : blkC fx.X.N fx.X.env.scope scope own = true) (hn : noSet iter = true) (hids : g.ids.all ((own.map (·.2)).contains ·) = true) (hi : IOk fx tg iter mi) (hg : GBk fx scope tg g) (ht : TsBk fx scope ifs mt) (he : EBk fx scope elt me) :
    StOk fx (.Assign [.Name y py] (.ListComp elt [⟨tg, iter, ifs, 0⟩] scope pos) spos) ((mi >>= lcM (own.map (·.2)) g mt me) >>= setM i) := by
  obtain ⟨wi, pi, si⟩ := hi.ex
  obtain ⟨t1, p1, s1⟩ := hg.all
  obtain ⟨t2, p2, s2⟩ := ht.all
  obtain ⟨t3, p3, s3⟩ := he.all
  refine ⟨_, ps_setLc hc hN hy hyl hsw pi (blkOk_by ok) p1 p2 p3 (folded_no hn), fun F σ H env P E D so hm q1 q2 q3 q4 hx => ?_⟩
  refine lc_sim hids si s1 s2 s3 F σ H env _ E _ so hm (fun r env1 F1 H1 v g sm le s1 ro => ?_) hx
  exact set_res s1 ro g fun env2 F2 σ2 H2 g2 sm2 s2 => q1 env2 F2 σ2 H2 g2 (sm.sm.trans sm2) s2
/-- .. as a name that the block does not keep back (a cell, or of another line) -/
theorem stSetComp' {i : Nat} {y : Str} {py spos : Pos} {m : M Res} {sc : Scope} {cs : List Comprehension} (hsw : swapsWith (.ListComp elt cs sc pos) (some (.Name y py)) spos.line fx.X.env = pure false) (hN : fx.X.N.Nodup) (hy : fx.X.N[i]? = some y) (hx : Loc fx.X.env.scope y) (hf : fx.X.fn y = true ∨ fx.X.env.scope.names.lookup y = some .local)
    (h : ROk fx (.ListComp elt cs sc pos) m) : StOk fx (.Assign [.Name y py] (.ListComp elt cs sc pos) spos) (m >>= setM i) := by
  obtain ⟨t, p, s⟩ := h.ex
  refine ⟨_, ps_set hN hy hx p hsw hf, fun F σ H env P E D so hm q1 q2 q3 q4 hx => ?_⟩
  refine s F σ H env _ E _ so hm (fun r env1 F1 H1 v g sm le s1 ro => ?_) hx
  exact set_res s1 ro g fun env2 F2 σ2 H2 g2 sm2 s2 => q1 env2 F2 σ2 H2 g2 (sm.sm.trans sm2) s2
end
/-! ### own lists handed out ahead -/
def frz1 (i : Nat) (env : En) : En := match env[i]? with
  | some (some (.own xs)) => env.set i (some (.val (.list xs)))
  | _ => env
def frzM (is : List Nat) : M Unit := fun s P _ => P () (is.foldl (fun e i => frz1 i e) s)
theorem SOk.frz1 {fx : Fx} {F H : Hp} {σ : L2.St} {env : En} (h : SOk fx F σ H env) (i : Nat) : ∃ F', Stp F H σ env F' H ∧ EnLe env (FS.frz1 i env) ∧ SOk fx F' σ H (FS.frz1 i env) := by
  unfold FS.frz1
  split
  · rename_i xs e
    obtain ⟨v, ev, _⟩ := h.slot i _ e
    obtain ⟨F', a, b, c, _⟩ := h.freeze e ev
    exact ⟨F', a, b, c⟩
  · exact ⟨F, Stp.refl, EnLe.refl _, h⟩
theorem SOk.frzs {fx : Fx} {σ : L2.St} {H : Hp} : ∀ (is : List Nat) {F : Hp} {env : En}, SOk fx F σ H env → ∃ F', Stp F H σ env F' H ∧ EnLe env (is.foldl (fun e i => FS.frz1 i e) env) ∧ SOk fx F' σ H (is.foldl (fun e i => FS.frz1 i e) env)
  | [], F, env, h => ⟨F, Stp.refl, EnLe.refl _, h⟩
  | i :: is, F, env, h => by
    obtain ⟨F1, a1, b1, c1⟩ := h.frz1 i
    obtain ⟨F2, a2, b2, c2⟩ := SOk.frzs is c1
    exact ⟨F2, a1.tr b1 a2, b1.trans b2, c2⟩
theorem rFrz {fx : Fx} {e : Expr} {m : M Res} (is : List Nat) (h : ROk fx e m) : ROk fx e (frzM is >>= fun _ => m) := by
  obtain ⟨t, p, s⟩ := h.ex
  refine ⟨t, p, fun F σ H env P E Q so hm hq hx => ?_⟩
  obtain ⟨F1, st1, le1, s1⟩ := SOk.frzs is so
  exact s F1 σ H _ P E Q s1 hm (fun r env' F' H' v g st le s' ro => hq r env' F' H' v g (st1.tr le1 st) (le1.trans le) s' ro) (hx.later st1.sm)
theorem stFrz {fx : Fx} {e : Stmt} {m : M Out} (is : List Nat) (h : StOk fx e m) : StOk fx e (frzM is >>= fun _ => m) := by
  obtain ⟨t, p, s⟩ := h.ex
  refine ⟨t, p, fun F σ H env P E D so hm q1 q2 q3 q4 hx => ?_⟩
  obtain ⟨F1, st1, le1, s1⟩ := SOk.frzs is so
  have sm := st1.sm
  exact s F1 σ H _ P E D s1 hm (fun env' F' σ' H' g sm' => q1 env' F' σ' H' g (sm.trans sm')) (fun d env' F' σ' H' v g sm' => q2 d env' F' σ' H' v g (sm.trans sm')) (fun env' F' σ' H' g sm' => q3 env' F' σ' H' g (sm.trans sm')) (fun env' F' σ' H' g sm' => q4 env' F' σ' H' g (sm.trans sm')) (hx.later sm)
end FS
namespace FS
open PySem PySem.Spec PyProof.Rows L2 LamX
/-! what must hold of a frame -/
structure FxOk (fx : Fx) : Prop where
  calm : fx.X.calm = true
  nd : fx.X.N.Nodup
  hd : fx.X.A.handled = none
  gd : fx.X.A.guards = some []
  un : fx.X.A.units + 200 < cLine
  kt : ∀ a o, fx.X.K.lookup a = some o → o.cls = .type "tuple" → o.dict = none
theorem FxOk.blk {fx : Fx} (h : FxOk fx) {s : Shared} {H : Hp} {scope : Scope} {ce : Env} {fp : List Addr} : FxOk (fx.blk s H scope ce fp) := ⟨h.calm, h.nd, h.hd, h.gd, h.un, h.kt⟩

/-! ### built-in functions -/
/-- what a call of f at values says; one argument, two -/
structure Cal1 (fx : Fx) (f : Value) (o : PV → M Res) : Prop where
  ex : ∃ r, CallR fx.X f r ∧ ∀ (F : Hp) (σ : L2.St) (H : Hp) (env : En) (P : Res → En → Prop) (E : EP') (Q : V → Hp → Prop) (d : PV) (v : V), SOk fx F σ H env → PvOk fx F σ env d v → o d env P E →
    (∀ r' env' F' H' w, P r' env' → Stp F H σ env F' H' → EnLe env env' → SOk fx F' σ H' env' → ResOk fx H F' σ H' env' r' w → Q w H') → r [v] H Q
structure Cal2 (fx : Fx) (f : Value) (o : PV → PV → M Res) : Prop where
  ex : ∃ r, CallR fx.X f r ∧ ∀ (F : Hp) (σ : L2.St) (H : Hp) (env : En) (P : Res → En → Prop) (E : EP') (Q : V → Hp → Prop) (d e : PV) (v u : V), SOk fx F σ H env → PvOk fx F σ env d v → PvOk fx F σ env e u → o d e env P E →
    (∀ r' env' F' H' w, P r' env' → Stp F H σ env F' H' → EnLe env env' → SOk fx F' σ H' env' → ResOk fx H F' σ H' env' r' w → Q w H') → r [v, u] H Q
section
variable {fx : Fx} {a b : Expr} {ma mb : M PV} {x : Str} {p pos : Pos} {id T : String} {o1 : PV → M Res} {o2 : PV → PV → M Res}
theorem cal1_sim {ta : TE} {r : List V → Hp → VK → Prop} (sa : SimP fx ta ma)
    (h : ∀ (F : Hp) (σ : L2.St) (H : Hp) (env : En) (P : Res → En → Prop) (E : EP') (Q : V → Hp → Prop) (d : PV) (v : V), SOk fx F σ H env → PvOk fx F σ env d v → o1 d env P E →
    (∀ r' env' F' H' w, P r' env' → Stp F H σ env F' H' → EnLe env env' → SOk fx F' σ H' env' → ResOk fx H F' σ H' env' r' w → Q w H') → r [v] H Q) : SimR fx (tCB r (tCons ta tNil)) (ma >>= o1) := by
  intro F σ H env P E Q s hm hq hx
  refine sa F σ H env _ E _ s hm (fun d env1 F1 H1 v q1 sm1 le1 s1 p1 => ?_) hx
  exact h F1 σ H1 env1 P E Q d v s1 p1 q1 fun r' env' F' H' w g st le s' ro => hq r' env' F' H' w g (sm1.tr le1 st) (le1.trans le) s' (ro.back sm1.mono)
theorem cal2_sim {ta tb : TE} {r : List V → Hp → VK → Prop} (sa : SimP fx ta ma) (sb : SimP fx tb mb)
    (h : ∀ (F : Hp) (σ : L2.St) (H : Hp) (env : En) (P : Res → En → Prop) (E : EP') (Q : V → Hp → Prop) (d e : PV) (v u : V), SOk fx F σ H env → PvOk fx F σ env d v → PvOk fx F σ env e u → o2 d e env P E →
    (∀ r' env' F' H' w, P r' env' → Stp F H σ env F' H' → EnLe env env' → SOk fx F' σ H' env' → ResOk fx H F' σ H' env' r' w → Q w H') → r [v, u] H Q) : SimR fx (tCB r (tCons ta (tCons tb tNil))) (ma >>= fun d => mb >>= fun e => o2 d e) := by
  intro F σ H env P E Q s hm hq hx
  refine sa F σ H env _ E _ s hm (fun d env1 F1 H1 v q1 sm1 le1 s1 p1 => ?_) hx
  refine sb F1 σ H1 env1 _ E _ s1 q1 (fun e env2 F2 H2 u q2 sm2 le2 s2 p2 => ?_) (hx.later sm1.sm)
  exact h F2 σ H2 env2 P E Q d e v u s2 (p1.later sm2.sm le2 s2) p2 q2 fun r' env' F' H' w g st le s' ro => hq r' env' F' H' w g ((sm1.tr le1 sm2).tr (le1.trans le2) st) ((le1.trans le2).trans le) s' ((ro.back sm2.mono).back sm1.mono)
theorem back_one {e : Expr} {pos : Pos} {env : Env} (h : isStar e = false) : (backTo pos (starEach [e] env)).any (·.1) = false := by
  rw [starEach_one h]
  rfl
theorem rBlt1 (hc : Cal1 fx (.builtin id) o1) (hg : Gl fx.X x) (hm : fx.X.mg x = none) (hv : bootBuiltins x = some (.builtin id)) (hn : x ≠ "__name__") (hdb : (x == ("__debug__" : Str)) = false) (hs : isStar a = false) (ha : POk fx a ma) : ROk fx (.Call (.Name x p) [a] [] pos) (ma >>= o1) := by
  obtain ⟨r, c, h⟩ := hc.ex
  obtain ⟨ta, pa, sa⟩ := ha.ex
  exact ⟨_, pe_callB c hg hm hv (pa_cons pa pa_nil (starEach_plain hs)) hn hdb (starEach_plain hs) rfl, cal1_sim sa h⟩
theorem rTy1 (hc : Cal1 fx (.type T) o1) (hg : Gl fx.X x) (hm : fx.X.mg x = none) (hv : bootBuiltins x = some (.type T)) (hn : x ≠ "__name__") (hdb : (x == ("__debug__" : Str)) = false) (hs : isStar a = false) (ha : POk fx a ma) : ROk fx (.Call (.Name x p) [a] [] pos) (ma >>= o1) := by
  obtain ⟨r, c, h⟩ := hc.ex
  obtain ⟨ta, pa, sa⟩ := ha.ex
  exact ⟨_, pe_callTy c hg hm hv (pa_cons pa pa_nil (starEach_plain hs)) hn hdb (starEach_plain hs) rfl, cal1_sim sa h⟩
theorem rBlt2 (hc : Cal2 fx (.builtin id) o2) (hg : Gl fx.X x) (hm : fx.X.mg x = none) (hv : bootBuiltins x = some (.builtin id)) (hn : x ≠ "__name__") (hdb : (x == ("__debug__" : Str)) = false) (hs : isStar a = false) (hs2 : isStar b = false) (ha : POk fx a ma) (hb : POk fx b mb) :
    ROk fx (.Call (.Name x p) [a, b] [] pos) (ma >>= fun d => mb >>= fun e => o2 d e) := by
  obtain ⟨r, c, h⟩ := hc.ex
  obtain ⟨ta, pa, sa⟩ := ha.ex
  obtain ⟨tb, pb, sb⟩ := hb.ex
  exact ⟨_, pe_callB c hg hm hv (pa_cons pa (pa_cons pb pa_nil (starEach_plain hs2)) (starEach_plain hs)) hn hdb (starEach_plain hs) (back_one hs2), cal2_sim sa sb h⟩
end
/-- len -/
def lenM (d : PV) : M Res := fun s P _ => match d with
  | .list xs => P (.val (.int (xs.length : Nat))) s
  | .tuple xs => P (.val (.int (xs.length : Nat))) s
  | .str z => z.length ≤ sizeLine ∧ P (.val (.int (z.length : Nat))) s
  | _ => False
def intM' (d : PV) : M Res := fun s P _ => match d with
  | .int i => P (.val (.int i)) s
  | .bool b => P (.val (.int (if b then 1 else 0))) s
  | _ => False
def absM (d : PV) : M Res := fun s P _ => match d with
  | .int i => P (.val (.int (if i < 0 then -i else i))) s
  | _ => False
def tupleM (d : PV) : M Res := fun s P _ => match d with
  | .list xs => P (.val (.tuple xs)) s
  | .tuple xs => P (.val (.tuple xs)) s
  | _ => False
def listM (d : PV) : M Res := fun s P _ => match d with
  | .list xs => xs.length ≤ sizeLine ∧ P (.new xs) s
  | .tuple xs => xs.length ≤ sizeLine ∧ P (.new xs) s
  | _ => False
/-- a list of truth values -/
def boolsP : List PV → Option (List Bool)
  | [] => some []
  | .bool b :: r => (boolsP r).map (b :: ·)
  | _ => none
def intsP : List PV → Option (List Int)
  | [] => some []
  | .int b :: r => (intsP r).map (b :: ·)
  | _ => none
def allM (f : List Bool → Bool) (d : PV) : M Res := match d with
  | .list xs => optM (boolsP xs) >>= fun bs => pure (.val (.bool (f bs)))
  | _ => M.fail
def sumM (d : PV) : M Res := match d with
  | .list xs => optM (intsP xs) >>= fun ns => pure (.val (.int ns.sum))
  | _ => M.fail
theorem bools_v {K : PySem.W.Frag} {F : Hp} : ∀ {vs : List V} {xs : List PV} {bs : List Bool}, DpAll K F vs xs → boolsP xs = some bs → vs = bs.map V.bl
  | _, [], bs, h, e => by
    cases h
    cases e
    rfl
  | _, d :: ds, bs, h, e => by
    cases h with
    | cons h1 h2 =>
      cases d <;> first | (cases e; done) | skip
      rename_i b
      cases z : boolsP ds with
      | none =>
        have e : (boolsP ds).map (b :: ·) = some bs := e
        rw [z] at e
        cases e
      | some cs =>
        have e : (boolsP ds).map (b :: ·) = some bs := e
        rw [z] at e
        cases e
        cases h1
        rw [bools_v h2 z]
        rfl
theorem ints_v {K : PySem.W.Frag} {F : Hp} : ∀ {vs : List V} {xs : List PV} {bs : List Int}, DpAll K F vs xs → intsP xs = some bs → vs = bs.map V.int
  | _, [], bs, h, e => by
    cases h
    cases e
    rfl
  | _, d :: ds, bs, h, e => by
    cases h with
    | cons h1 h2 =>
      cases d <;> first | (cases e; done) | skip
      rename_i b
      cases z : intsP ds with
      | none =>
        have e : (intsP ds).map (b :: ·) = some bs := e
        rw [z] at e
        cases e
      | some cs =>
        have e : (intsP ds).map (b :: ·) = some bs := e
        rw [z] at e
        cases e
        cases h1
        rw [ints_v h2 z]
        rfl
section
variable {fx : Fx}
theorem cLen : Cal1 fx (.builtin "len") lenM := by
  refine ⟨_, call_len, fun F σ H env P E Q d v s pv hm hq => ?_⟩
  cases d <;> first | exact hm.elim | skip
  · rw [pv.str]
    exact ⟨_, _, rfl, ⟨hm.1, rfl⟩, hq _ env F H _ hm.2 Stp.refl (EnLe.refl _) s (.int _)⟩
  · obtain ⟨l, vs, rfl, sq, da⟩ := pv.lst s
    exact ⟨_, vs.length, rfl, .inl ⟨vs, sq, rfl⟩, by rw [da.length]; exact hq _ env F H _ hm Stp.refl (EnLe.refl _) s (.int _)⟩
  · obtain ⟨l, vs, rfl, sq, da⟩ := pv.tup s
    exact ⟨_, vs.length, rfl, .inr ⟨vs, sq, rfl⟩, by rw [da.length]; exact hq _ env F H _ hm Stp.refl (EnLe.refl _) s (.int _)⟩
theorem cInt : Cal1 fx (.type "int") intM' := by
  refine ⟨_, call_int1, fun F σ H env P E Q d v s pv hm hq => ?_⟩
  cases d <;> first | exact hm.elim | skip
  · rw [pv.bool]
    exact .inr ⟨_, rfl, hq _ env F H _ hm Stp.refl (EnLe.refl _) s (.int _)⟩
  · rw [pv.int]
    exact .inl ⟨_, rfl, hq _ env F H _ hm Stp.refl (EnLe.refl _) s (.int _)⟩
theorem cAbs : Cal1 fx (.builtin "abs") absM := by
  refine ⟨_, call_abs, fun F σ H env P E Q d v s pv hm hq => ?_⟩
  cases d <;> first | exact hm.elim | skip
  rw [pv.int]
  exact ⟨_, rfl, hq _ env F H _ hm Stp.refl (EnLe.refl _) s (.int _)⟩
theorem cTuple : Cal1 fx (.type "tuple") tupleM := by
  refine ⟨_, call_tupleF, fun F σ H env P E Q d v s pv hm hq => ?_⟩
  cases d <;> first | exact hm.elim | skip
  · obtain ⟨l, vs, rfl, sq, da⟩ := pv.lst s
    refine ⟨l, vs, rfl, .inl ⟨sq, fun p o np ho => ?_⟩⟩
    obtain ⟨F2, sm, s1, r1⟩ := s.newTup np ho da
    exact hq _ env F2 _ _ hm sm (EnLe.refl _) s1 r1
  · obtain ⟨l, vs, rfl, sq, da⟩ := pv.tup s
    rcases pv with pv | ⟨_, _, z, _⟩
    · exact ⟨l, vs, rfl, .inr ⟨sq, hq _ env F H _ hm Stp.refl (EnLe.refl _) s pv⟩⟩
    · cases z
theorem cList : Cal1 fx (.type "list") listM := by
  refine ⟨_, call_list_of, fun F σ H env P E Q d v s pv hm hq => ?_⟩
  cases d <;> first | exact hm.elim | skip
  · obtain ⟨l, vs, rfl, sq, da⟩ := pv.lst s
    refine ⟨l, vs, rfl, .inl sq, fun p np => ?_⟩
    obtain ⟨sm, s1, r1⟩ := s.newLst np da (by rw [da.length]; exact hm.1)
    exact hq _ env F _ _ hm.2 sm (EnLe.refl _) s1 (r1 H np)
  · obtain ⟨l, vs, rfl, sq, da⟩ := pv.tup s
    refine ⟨l, vs, rfl, .inr sq, fun p np => ?_⟩
    obtain ⟨sm, s1, r1⟩ := s.newLst np da (by rw [da.length]; exact hm.1)
    exact hq _ env F _ _ hm.2 sm (EnLe.refl _) s1 (r1 H np)
theorem cAll (hc : fx.X.calm = true) : Cal1 fx (.builtin "all") (allM fun bs => bs.all id) := by
  refine ⟨_, cr_all hc, fun F σ H env P E Q d v s pv hm hq => ?_⟩
  cases d <;> first | exact hm.elim | skip
  obtain ⟨bs, e, hm⟩ := optM_run hm
  obtain ⟨l, vs, rfl, sq, da⟩ := pv.lst s
  rw [bools_v da e] at sq
  exact ⟨l, bs, rfl, sq, hq _ env F H _ hm Stp.refl (EnLe.refl _) s (.bl _)⟩
theorem cAny (hc : fx.X.calm = true) : Cal1 fx (.builtin "any") (allM fun bs => bs.any id) := by
  refine ⟨_, cr_any hc, fun F σ H env P E Q d v s pv hm hq => ?_⟩
  cases d <;> first | exact hm.elim | skip
  obtain ⟨bs, e, hm⟩ := optM_run hm
  obtain ⟨l, vs, rfl, sq, da⟩ := pv.lst s
  rw [bools_v da e] at sq
  exact ⟨l, bs, rfl, sq, hq _ env F H _ hm Stp.refl (EnLe.refl _) s (.bl _)⟩
theorem cSum (hc : fx.X.calm = true) : Cal1 fx (.builtin "sum") sumM := by
  refine ⟨_, cr_sum hc, fun F σ H env P E Q d v s pv hm hq => ?_⟩
  cases d <;> first | exact hm.elim | skip
  obtain ⟨bs, e, hm⟩ := optM_run hm
  obtain ⟨l, vs, rfl, sq, da⟩ := pv.lst s
  rw [ints_v da e] at sq
  exact ⟨l, bs, rfl, sq, hq _ env F H _ hm Stp.refl (EnLe.refl _) s (.int _)⟩
def divmodM (a b : PV) : M Res := fun s P _ => match a, b with
  | .int i, .int j => (0 < j ∧ j < 1073741824) ∧ P (.val (.tuple [.int (i / j), .int (i % j)])) s
  | _, _ => False
theorem cDivmod : Cal2 fx (.builtin "divmod") divmodM := by
  refine ⟨_, call_divmodF, fun F σ H env P E Q d e v u s pv pu hm hq => ?_⟩
  cases d <;> cases e <;> first | exact hm.elim | skip
  rw [pv.int, pu.int]
  refine ⟨_, _, rfl, hm.1, fun p o np ho => ?_⟩
  obtain ⟨F2, sm, s1, r1⟩ := s.newTup np ho (.cons (.int _) (.cons (.int _) .nil))
  exact hq _ env F2 _ _ hm.2 sm (EnLe.refl _) s1 r1
def max2M (a b : PV) : M Res := fun s P _ => match a, b with
  | .int i, .int j => P (.val (.int (if j > i then j else i))) s
  | _, _ => False
def min2M (a b : PV) : M Res := fun s P _ => match a, b with
  | .int i, .int j => P (.val (.int (if j < i then j else i))) s
  | _, _ => False
theorem cMax2 (hc : fx.X.calm = true) : Cal2 fx (.builtin "max") max2M := by
  refine ⟨_, call_max2 hc, fun F σ H env P E Q d e v u s pv pu hm hq => ?_⟩
  cases d <;> cases e <;> first | exact hm.elim | skip
  rw [pv.int, pu.int]
  exact ⟨_, _, rfl, hq _ env F H _ hm Stp.refl (EnLe.refl _) s (.int _)⟩
theorem cMin2 (hc : fx.X.calm = true) : Cal2 fx (.builtin "min") min2M := by
  refine ⟨_, call_min2 hc, fun F σ H env P E Q d e v u s pv pu hm hq => ?_⟩
  cases d <;> cases e <;> first | exact hm.elim | skip
  rw [pv.int, pu.int]
  exact ⟨_, _, rfl, hq _ env F H _ hm Stp.refl (EnLe.refl _) s (.int _)⟩
end
/-! ### repr of data -/
mutual
theorem dp_noDict {K : PySem.W.Frag} {F : Hp} : ∀ {v : V} (d : PV), Dp K F v d → d.hasDict = false
  | _, .none, _ => rfl
  | _, .bool _, _ => rfl
  | _, .int _, _ => rfl
  | _, .str _, _ => rfl
  | _, .list ds, h => by
    cases h with
    | lst _ ha => exact dpAll_noDict ds ha
  | _, .tuple ds, h => by
    cases h with
    | tup _ ha => exact dpAll_noDict ds ha
  | _, .dict _, h => by cases h
theorem dpAll_noDict {K : PySem.W.Frag} {F : Hp} : ∀ {vs : List V} (ds : List PV), DpAll K F vs ds → PyData.hasDictAll ds = false
  | _, [], _ => rfl
  | _, d :: ds, h => by
    cases h with
    | cons h1 h2 =>
      show (d.hasDict || PyData.hasDictAll ds) = false
      rw [dp_noDict d h1, dpAll_noDict ds h2]
      rfl
end
def isSeqP : PV → Bool
  | .list _ => true
  | .tuple _ => true
  | _ => false
/-- of a list or a tuple of data -/
def reprM (d : PV) : M Res := fun s P _ => (isSeqP d = true ∧ d.showable = true ∧ d.depth ≤ 64 ∧ d.shown.length ≤ sizeLine) ∧ P (.val (.str d.shown)) s
theorem call_reprF {X : Cx} (hg : X.A.guards = some []) (hu : X.A.units + 200 < cLine) : CallR X (.builtin "repr") (fun xs H Q => ∃ v d, xs = [v] ∧ Dp X.K H v d ∧ isSeqP d = true ∧ d.showable = true ∧ d.depth ≤ 64 ∧ d.shown.length ≤ sizeLine ∧ Q (.str d.shown) H) := by
  intro pins s σ H xs us Q I r h
  obtain ⟨v, d, rfl, hd, h1, h2, h3, h4, q⟩ := h
  obtain ⟨u, rfl, rx⟩ := vals1 r
  obtain ⟨as, rd⟩ := Dp.reads I d v u hd rx
  have hr : ∃ a, u = .ref a := by
    cases d <;> first | (cases h1; done) | skip
    · cases hd
      cases rx
      exact ⟨_, rfl⟩
    · cases hd
      cases rx
      exact ⟨_, rfl⟩
  obtain ⟨a, rfl⟩ := hr
  refine repr_of_reads' rd h2 (fun e => by rw [dp_noDict d hd] at e; cases e) hg (by omega) (fun _ _ e => e) (fun h' u tk hk => ?_) h4
  exact ⟨.str _, H, I.kept hk, ⟨_, rfl⟩, q⟩
theorem cRepr {fx : Fx} (ok : FxOk fx) : Cal1 fx (.builtin "repr") reprM := by
  refine ⟨_, call_reprF ok.gd ok.un, fun F σ H env P E Q d v s pv hm hq => ?_⟩
  exact ⟨v, d, rfl, pv.dp s, hm.1.1, hm.1.2.1, hm.1.2.2.1, hm.1.2.2.2, hq _ env F H _ hm.2 Stp.refl (EnLe.refl _) s (.str _)⟩
/-! ### isinstance(x, T), T a built-in type -/
def tyP : PV → Option String
  | .none => some "NoneType"
  | .bool _ => some "bool"
  | .int _ => some "int"
  | .str _ => some "str"
  | .list _ => some "list"
  | .tuple _ => some "tuple"
  | .dict _ => none
def isiM (T : String) (d : PV) : M Res := optM (tyP d) >>= fun t => optM (L2.kitB t T) >>= fun b => pure (.val (.bool b))
end FS
namespace FS
open PySem PySem.Spec PyProof.Rows L2 LamX
/-! ### isinstance -/
theorem tyX_of {fx : Fx} {F H : Hp} {σ : L2.St} {env : En} {d : PV} {v : V} {t : String} (s : SOk fx F σ H env) (p : PvOk fx F σ env d v) (e : tyP d = some t) : TyX fx.X.K H v (.type t) := by
  cases d <;> cases e
  · rw [p.none]; exact .base .non
  · rw [p.bool]; exact .base (.bl _)
  · rw [p.int]; exact .base (.int _)
  · rw [p.str]; exact .base (.str _)
  · obtain ⟨a, vs, rfl, sq, da⟩ := p.lst s
    rcases sq with (sq | ⟨o, sq⟩) | ⟨o, its, n, h1, h2, _⟩
    · exact .base (.lst sq)
    · exact .base (.frz sq)
    · exact .kList h1 h2
  · obtain ⟨a, vs, rfl, sq, da⟩ := p.tup s
    rcases sq with (sq | ⟨o, sq⟩) | ⟨o, its, n, h1, h2, _⟩
    · exact .base (.tup sq)
    · exact .fTuple sq
    · exact .kTuple h1 h2
theorem rIsi' {fx : Fx} {a : Expr} {ma : M PV} {x : Str} {T : String} {p pos p2 : Pos} (hg : Gl fx.X "isinstance") (hm : fx.X.mg "isinstance" = none) (hg2 : Gl fx.X x) (hm2 : fx.X.mg x = none) (hv2 : bootBuiltins x = some (.type T)) (hn2 : x ≠ "__name__") (hd2 : (x == ("__debug__" : Str)) = false) (hs : isStar a = false) (ha : POk fx a ma) :
    ROk fx (.Call (.Name "isinstance" p) [a, .Name x p2] [] pos) (ma >>= isiM T) := by
  obtain ⟨ta, pa, sa⟩ := ha.ex
  refine ⟨_, pe_callB call_isi hg hm PyProof.Rows.boot_isinstance (pa_cons pa (pa_cons (pe_bltn (v := .ty T) hg2 hm2 hv2 rfl hn2 hd2) pa_nil rfl) (starEach_plain hs)) (by decide) (by decide) (starEach_plain hs) rfl, fun F σ H env P E Q s hm hq hx => ?_⟩
  refine sa F σ H env _ E _ s hm (fun d env1 F1 H1 v q1 sm1 le1 s1 p1 => ?_) hx
  obtain ⟨t, e, q2⟩ := optM_run q1
  obtain ⟨b, e2, q3⟩ := optM_run q2
  exact ⟨v, .ty T, .type t, .type T, b, rfl, .ty T, tyX_of s1 p1 e, kit_ty e2, hq _ env1 F1 H1 _ q3 sm1 le1 s1 (.bl _)⟩

/-! ### methods of lists and tuples -/
/-- the value is of that type, and has no dict of its own -/
def TyM (K : PySem.W.Frag) (H : Hp) (T : String) : V → Prop
  | .str _ => T = "str"
  | .ref p => (T = "list" ∧ ∃ xs, SqL K H p xs) ∨ (T = "tuple" ∧ ((∃ o xs, H p = some (.frz o (.tup xs)) ∧ o.dict = none) ∨ ∃ o, K.lookup p = some o ∧ o.cls = .type "tuple" ∧ o.dict = none))
  | _ => False
theorem TyM.is {X : Cx} {pins : List (Addr × Obj)} {σ : L2.St} {H : Hp} {s : Shared} {T : String} {x : V} {v : Value} (I : Inv X pins σ H s) (r : RelV x v) (ty : TyM X.K H T x) :
    s.TypeIs v T ∧ ∀ a, v = .ref a → ∃ ob, s.heap.get? a = some ob ∧ ob.dict = none := by
  cases x with
  | str z =>
    obtain ⟨t, rfl⟩ := r
    cases (show T = "str" from ty)
    exact ⟨typeIs_str s z t, fun _ e => nomatch e⟩
  | ref p =>
    cases r
    rcases ty with ⟨rfl, xs, hq⟩ | ⟨rfl, ⟨o, xs, hk, hd⟩ | ⟨o, hk, hc, hd⟩⟩
    · obtain ⟨its, _, pl, _⟩ := I.list hq
      refine ⟨pl.isList.typeIs, fun a e => ?_⟩
      cases e
      obtain ⟨o, n, e, c, hd, _⟩ := pl
      exact ⟨o, e, hd⟩
    · obtain ⟨e, _, _, _, ho⟩ := I.hok p _ hk
      obtain ⟨o', e', hc, _⟩ := ho
      have e' : s.heap.get? p = some o' := e'
      rw [e] at e'
      cases e'
      exact ⟨⟨o, e, hc⟩, fun a z => by cases z; exact ⟨o, e, hd⟩⟩
    · exact ⟨⟨o, I.kIn p o hk, hc⟩, fun a z => by cases z; exact ⟨o, I.kIn _ o hk, hd⟩⟩
  | _ => exact False.elim ty
/-- a method, told for a type -/
structure BMt (X : Cx) (name : Str) (T id : String) (r : V → List V → Hp → VK → Prop) : Prop where
  pa : PlainAttrs T
  slot : PySem.Slot T name id
  hty : typeOf (.builtin id) = pure (.type "method_descriptor")
  hm : MtR X id r
def tBM2 (K : PySem.W.Frag) (T1 T2 : String) (r1 r2 : V → List V → Hp → VK → Prop) (to : TE) (t : TA) : TE := fun σ H Q => to σ H fun x H1 => (TyM K H1 T1 x ∧ t σ H1 fun xs H2 => r1 x xs H2 Q) ∨ (TyM K H1 T2 x ∧ t σ H1 fun xs H2 => r2 x xs H2 Q)
/-- what a call of a method by its name asks of the text -/
structure MCall (X : Cx) (o : Expr) (name : Str) (apos cpos : Pos) (es : List Expr) : Prop where
  base : attributeBase o name X.env (eval o X.env) = eval o X.env
  few : ((backTo cpos (starEach es X.env)).all (fun x => !x.1) && (backToKw cpos (keywordEach [] X.env)).all (fun x => x.1.isSome)
      && decide (es.length + ([] : List Keyword).length + (if ([] : List Keyword).isEmpty then 0 else 1) < 30)) = true
  line : (apos.endLine == cpos.line) = true
theorem pe_bm2 {X : Cx} {o e : Expr} {es : List Expr} {name : Str} {T1 T2 id1 id2 : String} {r1 r2 : V → List V → Hp → VK → Prop} {to : TE} {t : TA} {apos cpos : Pos} (b1 : BMt X name T1 id1 r1) (b2 : BMt X name T2 id2 r2) (c : MCall X o name apos cpos (e :: es)) (ho : PE X o to) (ha : PA X (e :: es) t)
    (hs : starEach (e :: es) X.env = (false, eval e X.env) :: starEach es X.env) (hplain : (backTo cpos (starEach es X.env)).any (·.1) = false) :
    PE X (.Call (.Attribute o name apos) (e :: es) [] cpos) (tBM2 X.K T1 T2 r1 r2 to t) := by
  refine ⟨fun pins s σ H Q I h => ?_⟩
  refine wpAny_Call_method_late c.base c.few c.line rfl (thn (ho.run pins s σ H _ I h) fun v s1 ⟨x, H1, I1, rx, q1⟩ => ?_)
  have fin : ∀ {T id : String} {r : V → List V → Hp → VK → Prop}, BMt X name T id r → TyM X.K H1 T x → (t σ H1 fun xs H2 => r x xs H2 Q) → MethodOn X.prog X.w X.A name cpos v (backTo cpos (starEach (e :: es) X.env)) (EP X pins σ Q) X.xe s1 := fun {T id r} b ty q => by
    obtain ⟨h1, h2⟩ := ty.is I1 rx
    refine ⟨T, id, b.pa, b.slot, b.hty, h1, h2, ?_⟩
    have hA := ha.run cpos pins s1 σ H1 _ I1 q
    rw [hs] at hA ⊢
    refine Calls.callWith_builtin (by show (false || (backTo cpos (starEach es X.env)).any (·.1)) = false; rw [hplain]; rfl) (Calls.evalArgs_plain ?_)
    exact thn hA fun us s2 ⟨vs, H2, I2, r2, q2⟩ => b.hm pins s2 σ H2 x vs v us Q I2 rx r2 q2
  rcases q1 with ⟨ty, q⟩ | ⟨ty, q⟩
  · exact fin b1 ty q
  · exact fin b2 ty q
/-- count, index: by values -/
def rCntF (K : PySem.W.Frag) (tup : Bool) : V → List V → Hp → VK → Prop := fun x vs H Q => ∃ y d ds, vs = [y] ∧ Dp K H y d ∧ Dp K H x (if tup then .tuple ds else .list ds) ∧ min (PyData.depthAll ds) d.depth ≤ 64 ∧ Q (.int ((ds.countP fun z => PyData.eqv z d : Nat) : Int)) H
def rIdxF (K : PySem.W.Frag) (tup : Bool) : V → List V → Hp → VK → Prop := fun x vs H Q => ∃ y d ds, vs = [y] ∧ Dp K H y d ∧ Dp K H x (if tup then .tuple ds else .list ds) ∧ min (PyData.depthAll ds) d.depth ≤ 64 ∧ true ∈ (ds.map fun z => PyData.eqv z d) ∧ Q (.int (((ds.map fun z => PyData.eqv z d).idxOf true : Nat) : Int)) H
section
variable {X : Cx}
theorem dp_listV {F : Hp} {v : V} {ds : List PV} (h : Dp X.K F v (.list ds)) : ∃ a vs, v = .ref a ∧ SqL X.K F a vs ∧ DpAll X.K F vs ds := by
  cases h with
  | lst hs ha => exact ⟨_, _, rfl, hs, ha⟩
theorem dp_tupV {F : Hp} {v : V} {ds : List PV} (h : Dp X.K F v (.tuple ds)) : ∃ a vs, v = .ref a ∧ SqT X.K F a vs ∧ DpAll X.K F vs ds := by
  cases h with
  | tup hs ha => exact ⟨_, _, rfl, hs, ha⟩
theorem bm_count_list (hu : X.A.units + 66 < cLine) : BMt X "count" "list" "list.count" (rCntF X.K false) := by
  refine ⟨PySem.F.plainAttrs_list, PySem.F.slot_list_count, PySem.F.type_list_count, fun pins s σ H x xs v us Q I rx rs h => ?_⟩
  obtain ⟨y, d, ds, rfl, hd, hx, hz, q⟩ := h
  obtain ⟨u, rfl, ry⟩ := vals1 rs
  obtain ⟨a, vs, rfl, hs, ha⟩ := dp_listV hx
  cases rx
  obtain ⟨its, rv, pl, _⟩ := I.list hs
  obtain ⟨as, r1⟩ := Dp.readsAll I ds vs its ha rv
  obtain ⟨bs, r2⟩ := Dp.reads I d y u hd ry
  exact SeqAt.count_list_data pl.isList r1 r2 (dpAll_plain ds ha) (dp_plain d hd) (by omega) ⟨.int _, H, I.tok _, ⟨_, rfl⟩, q⟩
theorem bm_count_tuple (hu : X.A.units + 66 < cLine) : BMt X "count" "tuple" "tuple.count" (rCntF X.K true) := by
  refine ⟨PySem.F.plainAttrs_tuple, PySem.F.slot_tuple_count, PySem.F.type_tuple_count, fun pins s σ H x xs v us Q I rx rs h => ?_⟩
  obtain ⟨y, d, ds, rfl, hd, hx, hz, q⟩ := h
  obtain ⟨u, rfl, ry⟩ := vals1 rs
  obtain ⟨a, vs, rfl, hs, ha⟩ := dp_tupV hx
  cases rx
  obtain ⟨its, rv, pl, _⟩ := I.tuple hs
  obtain ⟨as, r1⟩ := Dp.readsAll I ds vs its ha rv
  obtain ⟨bs, r2⟩ := Dp.reads I d y u hd ry
  exact SeqAt.count_tuple_data pl r1 r2 (dpAll_plain ds ha) (dp_plain d hd) (by omega) ⟨.int _, H, I.tok _, ⟨_, rfl⟩, q⟩
theorem itemsEq_of {A : Around} {s : Shared} {its : List Value} {ds : List PV} {as bs : List Addr} {u : Value} {d : PV} (r1 : ReadsAll s.heap its ds as) (r2 : Reads s.heap u d bs) (h1 : PyData.plainAll ds = true) (h2 : d.plain = true) (hu : A.units + 1 + min (PyData.depthAll ds) d.depth < cLine) :
    SeqAt.ItemsEq A.in1 s its (ds.map fun z => PyData.eqv z d) u true := by
  have hl := SeqAt.ReadsAll.length ds its as r1
  refine ⟨by rw [List.length_map]; exact hl, fun j h3 h4 => ?_⟩
  have e := SeqAt.items_plain (A := A) (vs := its.toArray) r1 r2 h1 h2 hu its[j] (by simp)
  obtain ⟨h5, e2⟩ := SeqAt.readOf_at (vs := its.toArray) r1 h1 j (by simpa using h3)
  have e2 : SeqAt.readOf s.heap its[j] = ds[j] := by simpa using e2
  rw [e2] at e
  have e3 : decide ((ds.map fun z => PyData.eqv z d)[j] = true) = PyData.eqv ds[j] d := by
    rw [List.getElem_map]
    cases PyData.eqv ds[j] d <;> rfl
  rw [e3]
  exact e
theorem bm_index_list (hu : X.A.units + 66 < cLine) : BMt X "index" "list" "list.index" (rIdxF X.K false) := by
  refine ⟨PySem.F.plainAttrs_list, PySem.F.slot_list_index, PySem.F.type_list_index, fun pins s σ H x xs v us Q I rx rs h => ?_⟩
  obtain ⟨y, d, ds, rfl, hd, hx, hz, hin, q⟩ := h
  obtain ⟨u, rfl, ry⟩ := vals1 rs
  obtain ⟨a, vs, rfl, hs, ha⟩ := dp_listV hx
  cases rx
  obtain ⟨its, rv, pl, hz2⟩ := I.list hs
  obtain ⟨as, r1⟩ := Dp.readsAll I ds vs its ha rv
  obtain ⟨bs, r2⟩ := Dp.reads I d y u hd ry
  exact SeqAt.call_list_index pl.isList (itemsEq_of r1 r2 (dpAll_plain ds ha) (dp_plain d hd) (by omega)) (by rw [List.length_map, ← ha.length]; exact hz2) hin ⟨.int _, H, I.tok _, ⟨_, rfl⟩, q⟩
theorem bm_index_tuple (hu : X.A.units + 66 < cLine) : BMt X "index" "tuple" "tuple.index" (rIdxF X.K true) := by
  refine ⟨PySem.F.plainAttrs_tuple, PySem.F.slot_tuple_index, PySem.F.type_tuple_index, fun pins s σ H x xs v us Q I rx rs h => ?_⟩
  obtain ⟨y, d, ds, rfl, hd, hx, hz, hin, q⟩ := h
  obtain ⟨u, rfl, ry⟩ := vals1 rs
  obtain ⟨a, vs, rfl, hs, ha⟩ := dp_tupV hx
  cases rx
  obtain ⟨its, rv, pl, hz2⟩ := I.tuple hs
  obtain ⟨as, r1⟩ := Dp.readsAll I ds vs its ha rv
  obtain ⟨bs, r2⟩ := Dp.reads I d y u hd ry
  exact SeqAt.call_tuple_index pl (itemsEq_of r1 r2 (dpAll_plain ds ha) (dp_plain d hd) (by omega)) hin ⟨.int _, H, I.tok _, ⟨_, rfl⟩, q⟩
end
/-- only a list or a tuple -/
def seqOnly (x : PV) : M Unit := fun s P _ => isSeqP x = true ∧ P () s
def cntM (x d : PV) : M Res := fun s P _ => match itemsP x with
  | some ds => min (PyData.depthAll ds) d.depth ≤ 64 ∧ P (.val (.int ((ds.countP fun z => PyData.eqv z d : Nat) : Int))) s
  | none => False
def idxM (x d : PV) : M Res := fun s P _ => match itemsP x with
  | some ds => (min (PyData.depthAll ds) d.depth ≤ 64 ∧ true ∈ ds.map fun z => PyData.eqv z d) ∧ P (.val (.int (((ds.map fun z => PyData.eqv z d).idxOf true : Nat) : Int))) s
  | none => False
section
variable {fx : Fx} {F H : Hp} {σ : L2.St} {env : En}
theorem tyM_list {xs : List PV} {v : V} (p : PvOk fx F σ env (.list xs) v) (s : SOk fx F σ H env) : TyM fx.X.K H "list" v := by
  obtain ⟨a, vs, rfl, sq, _⟩ := p.lst s
  exact .inl ⟨rfl, _, sq⟩
theorem tyM_tuple (kt : ∀ a o, fx.X.K.lookup a = some o → o.cls = .type "tuple" → o.dict = none) {xs : List PV} {v : V} (p : PvOk fx F σ env (.tuple xs) v) (s : SOk fx F σ H env) : TyM fx.X.K H "tuple" v := by
  rcases p with p | ⟨_, _, z, _⟩
  · cases p with
    | tup hs ha =>
      refine .inr ⟨rfl, ?_⟩
      rcases hs with (hs | ⟨o, hs⟩) | ⟨o, its, n, h1, h2, _⟩
      · exact (s.c.tn _ _ hs).elim
      · exact .inl ⟨o, _, s.c.sub.at hs (by intro z; cases z), s.c.tn _ _ hs⟩
      · exact .inr ⟨o, h1, h2, kt _ o h1 h2⟩
  · cases z
theorem rMeth2 {a b : Expr} {ma mb : M PV} {name : Str} {id1 id2 : String} {r : Bool → V → List V → Hp → VK → Prop} {o2 : PV → PV → M Res} {apos pos : Pos} (ok : FxOk fx) (b1 : BMt fx.X name "list" id1 (r false)) (b2 : BMt fx.X name "tuple" id2 (r true)) (c : MCall fx.X a name apos pos [b])
    (h : ∀ (F : Hp) (σ : L2.St) (H : Hp) (env : En) (P : Res → En → Prop) (E : EP') (Q : V → Hp → Prop) (x d : PV) (v u : V) (k : Bool), SOk fx F σ H env → Dp fx.X.K H v x → (k = true → ∃ ds, x = .tuple ds) → (k = false → ∃ ds, x = .list ds) → PvOk fx F σ env d u → o2 x d env P E → (∀ w, P w env → ∀ y, (∃ d', w = .val d' ∧ Dp fx.X.K F y d') → Q y H) → r k v [u] H Q)
    (hs : isStar b = false) (ha : POk fx a ma) (hb : POk fx b mb) : ROk fx (.Call (.Attribute a name apos) [b] [] pos) (ma >>= fun x => seqOnly x >>= fun _ => mb >>= fun d => o2 x d) := by
  obtain ⟨ta, pa, sa⟩ := ha.ex
  obtain ⟨tb, pb, sb⟩ := hb.ex
  refine ⟨_, pe_bm2 b1 b2 c pa (pa_cons pb pa_nil (starEach_plain hs)) (starEach_plain hs) rfl, fun F σ H env P E Q s hm hq hx => ?_⟩
  refine sa F σ H env _ E _ s hm (fun x env1 F1 H1 v q0 sm1 le1 s1 p1 => ?_) hx
  obtain ⟨q0, q1⟩ := q0
  have fin : ∀ k : Bool, (k = true → ∃ ds, x = .tuple ds) → (k = false → ∃ ds, x = .list ds) → tb σ H1 fun u H2 => r k v [u] H2 Q := fun k hk hk2 =>
    sb F1 σ H1 env1 _ E _ s1 q1 (fun d env2 F2 H2 u q2 sm2 le2 s2 p2 => h F2 σ H2 env2 P E Q x d v u k s2 ((p1.later sm2.sm le2 s2).dp s2) hk hk2 p2 q2 fun w g y hw => by
      obtain ⟨d', rfl, dy⟩ := hw
      exact hq _ env2 F2 H2 y g (sm1.tr le1 sm2) (le1.trans le2) s2 dy) (hx.later sm1.sm)
  by_cases hk : ∃ ds, x = .tuple ds
  · obtain ⟨ds, rfl⟩ := hk
    exact .inr ⟨tyM_tuple ok.kt p1 s1, fin true (fun _ => ⟨ds, rfl⟩) fun z => nomatch z⟩
  · by_cases hk2 : ∃ ds, x = .list ds
    · obtain ⟨ds, rfl⟩ := hk2
      exact .inl ⟨tyM_list p1 s1, fin false (fun z => nomatch z) fun _ => ⟨ds, rfl⟩⟩
    · refine absurd q0 ?_
      cases x <;> first | exact Bool.false_ne_true | exact fun _ => hk ⟨_, rfl⟩ | exact fun _ => hk2 ⟨_, rfl⟩
theorem rCount {a b : Expr} {ma mb : M PV} {apos pos : Pos} (ok : FxOk fx) (c : MCall fx.X a "count" apos pos [b]) (hs : isStar b = false) (ha : POk fx a ma) (hb : POk fx b mb) : ROk fx (.Call (.Attribute a "count" apos) [b] [] pos) (ma >>= fun x => seqOnly x >>= fun _ => mb >>= fun d => cntM x d) := by
  have hu := ok.un
  refine rMeth2 ok (bm_count_list (by omega)) (bm_count_tuple (by omega)) c (fun F σ H env P E Q x d v u k s dx hk hk2 pu hm hq => ?_) hs ha hb
  cases k with
  | true =>
    obtain ⟨ds, rfl⟩ := hk rfl
    exact ⟨u, d, ds, rfl, pu.dp s, dx, hm.1, hq _ hm.2 _ ⟨_, rfl, .int _⟩⟩
  | false =>
    obtain ⟨ds, rfl⟩ := hk2 rfl
    exact ⟨u, d, ds, rfl, pu.dp s, dx, hm.1, hq _ hm.2 _ ⟨_, rfl, .int _⟩⟩
theorem rIndex' {a b : Expr} {ma mb : M PV} {apos pos : Pos} (ok : FxOk fx) (c : MCall fx.X a "index" apos pos [b]) (hs : isStar b = false) (ha : POk fx a ma) (hb : POk fx b mb) : ROk fx (.Call (.Attribute a "index" apos) [b] [] pos) (ma >>= fun x => seqOnly x >>= fun _ => mb >>= fun d => idxM x d) := by
  have hu := ok.un
  refine rMeth2 ok (bm_index_list (by omega)) (bm_index_tuple (by omega)) c (fun F σ H env P E Q x d v u k s dx hk hk2 pu hm hq => ?_) hs ha hb
  cases k with
  | true =>
    obtain ⟨ds, rfl⟩ := hk rfl
    exact ⟨u, d, ds, rfl, pu.dp s, dx, hm.1.1, hm.1.2, hq _ hm.2 _ ⟨_, rfl, .int _⟩⟩
  | false =>
    obtain ⟨ds, rfl⟩ := hk2 rfl
    exact ⟨u, d, ds, rfl, pu.dp s, dx, hm.1.1, hm.1.2, hq _ hm.2 _ ⟨_, rfl, .int _⟩⟩
end
end FS
namespace FS
open PySem PySem.Spec PyProof.Rows L2 LamX
/-! own lists that change -/
section
variable {fx : Fx} {F H : Hp} {σ : L2.St} {env : En}
theorem SOk.writeOwn {i : Nat} {xs ys : List PV} {ws : List V} {a : Addr} (h : SOk fx F σ H env) (e : env[i]? = some (some (.own xs))) (ev : σ[i]? = some (some (.ref a))) (d : DpAll fx.X.K F ws ys) (z : ws.length ≤ sizeLine) :
    SOk fx F σ (upd H a (.lst ws)) (env.set i (some (.own ys))) := by
  obtain ⟨v, e1, b, vs, rfl, f1, f2, f3, f4, f5⟩ := h.slot i _ e
  rw [ev] at e1
  cases e1
  have hi : i < env.length := (List.getElem?_eq_some_iff.mp e).1
  refine ⟨⟨fun b x q => ?_, h.c.f0, fun b x q1 q2 q3 => ?_, h.c.fresh, fun b q => ?_, tabs_upd h.c.tabs f1 (fun ps z => by cases z) (fun φ z => by cases z), h.c.tn⟩, by rw [List.length_set]; exact h.len, fun j s q => ?_, fun j k s1 s2 w q1 q2 m1 m2 q3 q4 => ?_⟩
  · have : b ≠ a := fun z => by rw [z, f2] at q; cases q
    obtain ⟨k1, k2⟩ := h.c.sub b x q
    refine ⟨fun z => ?_, fun z => by rw [upd_ne this]; exact k2 z⟩
    obtain ⟨x1, y1, z1, w1, w2⟩ := k1 z
    exact ⟨x1, y1, z1, by rw [upd_ne this]; exact w1, w2⟩
  · have : b ≠ a := fun z => by rw [z, f3] at q1; cases q1
    rw [upd_ne this]
    exact h.c.h0 b x q1 q2 q3
  · by_cases z : b = a
    · subst z
      rw [upd_same]
      simp
    · rw [upd_ne z]
      exact h.c.mono b q
  · rcases set_get q with ⟨rfl, q, _⟩ | ⟨n, q⟩
    · cases q
      exact ⟨.ref a, ev, a, ws, rfl, upd_same, f2, f3, d, z⟩
    · obtain ⟨v, e1, e2⟩ := h.slot j s q
      refine ⟨v, e1, ?_⟩
      cases s with
      | val d => exact e2
      | own us =>
        obtain ⟨b, vs', rfl, g1, g2⟩ := e2
        have : b ≠ a := fun z => n (h.sep i j xs us _ e q ev (z ▸ e1))
        exact ⟨b, vs', rfl, by rw [upd_ne this]; exact g1, g2⟩
      | well => exact e2
      | clo i cs => exact e2
      | dic p =>
        obtain ⟨b, oo, rfl, g1, g2, g3, g4⟩ := e2
        have : b ≠ a := fun z => by
          subst z
          rw [f1] at g1
          cases g1
          exact g4.lst
        exact ⟨b, oo, rfl, by rw [upd_ne this]; exact g1, g2, g3, g4⟩
      | dcf p => exact e2
  · have back : ∀ {j : Nat} {t : Slot}, (env.set i (some (.own ys)))[j]? = some (some t) → t.mine → ∃ t' : Slot, env[j]? = some (some t') ∧ t'.mine := fun {j t} q m => by
      rcases set_get q with ⟨rfl, _, _⟩ | ⟨_, q⟩
      · exact ⟨.own xs, e, trivial⟩
      · exact ⟨t, q, m⟩
    obtain ⟨us', q1, n1⟩ := back q1 m1
    obtain ⟨ws'', q2, n2⟩ := back q2 m2
    exact h.sepS j k us' ws'' w q1 q2 n1 n2 q3 q4
end
/-- an expression that may change own lists -/
def SimX (fx : Fx) (t : TE) (m : M PV) : Prop := ∀ (F : Hp) (σ : L2.St) (H : Hp) (env : En) (P : PV → En → Prop) (E : EP') (Q : V → Hp → Prop),
  SOk fx F σ H env → m env P E → (∀ d env' F' H' v, P d env' → Same F F' → SOk fx F' σ H' env' → Dp fx.X.K F' v d → Q v H') → ExOk fx F E → t σ H Q
structure XOk (fx : Fx) (e : Expr) (m : M PV) : Prop where
  ex : ∃ t, PE fx.X e t ∧ SimX fx t m
theorem EOk.x {fx : Fx} {e : Expr} {m : M PV} (h : EOk fx e m) : XOk fx e m := by
  obtain ⟨t, p, s⟩ := h.ex
  exact ⟨t, p, fun F σ H env P E Q so hm hq hx => s F σ H env P E Q so hm (fun d env' F' H' v g st le s' dv => hq d env' F' H' v g st.sm s' dv) hx⟩
/-- the own list at a name -/
def ownAt (i : Nat) : M (List PV) := fun s P _ => match s[i]? with
  | some (some (.own xs)) => P xs s
  | _ => False
theorem ownAt_run {α : Type} {i : Nat} {f : List PV → M α} {s : En} {P : α → En → Prop} {E : EP'} (h : (ownAt i >>= f) s P E) : ∃ xs, s[i]? = some (some (.own xs)) ∧ f xs s P E := by
  have h : ownAt i s (fun xs s' => f xs s' P E) E := h
  unfold ownAt at h
  split at h
  · exact ⟨_, by assumption, h⟩
  · exact h.elim
/-- .. takes new items -/
def putOwn (i : Nat) (ys : List PV) : M Unit := fun s P _ => P () (s.set i (some (.own ys)))
section
variable {fx : Fx} {e : Expr} {m : M PV} {x : Str} {i : Nat} {p apos pos : Pos}
/-- the receiver: a name with an own list -/
structure NameOk (fx : Fx) (i : Nat) (x : Str) : Prop where
  at_ : fx.X.N[i]? = some x
  vis : Vis fx.X.env.scope x
  d1 : (x == ("__debug__" : Str)) = false
  d2 : (x == ("__classdict__" : Str)) = false
theorem own_slot {F H : Hp} {σ : L2.St} {env : En} {xs : List PV} (s : SOk fx F σ H env) (e : env[i]? = some (some (.own xs))) : ∃ a vs, σ[i]? = some (some (.ref a)) ∧ H a = some (.lst vs) ∧ DpAll fx.X.K F vs xs ∧ vs.length ≤ sizeLine := by
  obtain ⟨v, e1, a, vs, rfl, f1, _, _, f4, f5⟩ := s.slot i _ e
  exact ⟨a, vs, e1, f1, f4, f5⟩
/-- x.append(e) -/
def appM (i : Nat) (d : PV) : M PV := ownAt i >>= fun xs => M.need (xs.length < sizeLine) >>= fun _ => putOwn i (xs ++ [d]) >>= fun _ => pure .none
theorem xAppend (n : NameOk fx i x) (c : MCall fx.X (.Name x p) "append" apos pos [e]) (hs : isStar e = false) (he : XOk fx e m) : XOk fx (.Call (.Attribute (.Name x p) "append" apos) [e] [] pos) (ownAt i >>= fun _ => m >>= appM i) := by
  obtain ⟨t, pe, se⟩ := he.ex
  refine ⟨_, pe_bm PySem.F.plainAttrs_list PySem.F.slot_list_append PySem.F.type_list_append mt_append (pe_var n.at_ n.vis n.d1 n.d2) (pa_cons pe pa_nil (starEach_plain hs)) c.base c.few c.line (starEach_plain hs) rfl, fun F σ H env P E Q s hm hq hx => ?_⟩
  obtain ⟨xs, e0, hm⟩ := ownAt_run hm
  obtain ⟨a, vs, ev, ha, da, za⟩ := own_slot s e0
  refine ⟨.ref a, ev, .inl ⟨rfl, vs, SqL.of ha⟩, ?_⟩
  refine se F σ H env _ E _ s hm (fun d env1 F1 H1 v g sm1 s1 dv => ?_) hx
  obtain ⟨ys, e1, hz, g⟩ := ownAt_run g
  obtain ⟨a', ws, ev', hb, db, zb⟩ := own_slot s1 e1
  rw [ev] at ev'
  cases ev'
  refine ⟨a, ws, v, rfl, rfl, hb, by rw [db.length]; exact hz, ?_⟩
  exact hq .none _ F1 _ .non g sm1 (s1.writeOwn e1 ev (db.app (.cons dv .nil)) (by rw [List.length_append, db.length]; exact hz)) .non
/-- x.pop(e), x.pop() -/
def popAtM (i : Nat) (d : PV) : M PV := match d with
  | .int k => ownAt i >>= fun xs => M.need (-(2 ^ 63) ≤ k ∧ k < 2 ^ 63) >>= fun _ => optM (seqIndex? k xs.length) >>= fun j => optM xs[j]? >>= fun y => putOwn i (xs.eraseIdx j) >>= fun _ => pure y
  | _ => M.fail
theorem DpAll.erase {K : PySem.W.Frag} {F : Hp} : ∀ {vs : List V} {ds : List PV} (j : Nat), DpAll K F vs ds → DpAll K F (vs.eraseIdx j) (ds.eraseIdx j)
  | _, [], j, h => by cases h; exact .nil
  | _, d :: ds, 0, h => by
    cases h with
    | cons h1 h2 => exact h2
  | _, d :: ds, j + 1, h => by
    cases h with
    | cons h1 h2 => exact .cons h1 (DpAll.erase j h2)
theorem xPopAt (n : NameOk fx i x) (c : MCall fx.X (.Name x p) "pop" apos pos [e]) (hs : isStar e = false) (he : EOk fx e m) : XOk fx (.Call (.Attribute (.Name x p) "pop" apos) [e] [] pos) (ownAt i >>= fun _ => m >>= popAtM i) := by
  obtain ⟨t, pe, se⟩ := he.ex
  refine ⟨_, pe_bm PySem.F.plainAttrs_list PySem.F.slot_list_pop PySem.F.type_list_pop mt_popAt (pe_var n.at_ n.vis n.d1 n.d2) (pa_cons pe pa_nil (starEach_plain hs)) c.base c.few c.line (starEach_plain hs) rfl, fun F σ H env P E Q s hm hq hx => ?_⟩
  obtain ⟨xs, e0, hm⟩ := ownAt_run hm
  obtain ⟨a, vs, ev, ha, da, za⟩ := own_slot s e0
  refine ⟨.ref a, ev, .inl ⟨rfl, vs, SqL.of ha⟩, ?_⟩
  refine se F σ H env _ E _ s hm (fun d env1 F1 H1 v g sm1 le1 s1 dv => ?_) hx
  cases d <;> first | exact g.elim | skip
  rename_i k
  obtain ⟨ys, e1, hz, g1⟩ := ownAt_run g
  obtain ⟨j, ej, g2⟩ := optM_run g1
  obtain ⟨y, ey, g3⟩ := optM_run g2
  obtain ⟨a', ws, ev', hb, db, zb⟩ := own_slot s1 e1
  rw [ev] at ev'
  cases ev'
  obtain ⟨w, ew, dw⟩ := db.get ey
  cases dv
  refine ⟨a, ws, k, j, w, rfl, rfl, hb, hz.1, hz.2, by rw [db.length]; exact ej, ew, ?_⟩
  exact hq y _ F1 _ w g3 sm1.sm (s1.writeOwn e1 ev (DpAll.erase j db) (Nat.le_trans (List.length_eraseIdx_le _ _) zb)) dw
/-- a statement of such an expression; a name takes its value -/
theorem stExprX (hn : noComp e = true) (h : XOk fx e m) : StOk fx (.Expr e pos) (m >>= fun _ => pure .nx) := by
  obtain ⟨t, p, s⟩ := h.ex
  exact ⟨_, ps_expr p (swaps_no hn), fun F σ H env P E D so hm q1 q2 q3 q4 hx => s F σ H env _ E _ so hm (fun d env1 F1 H1 v g sm s1 dv => q1 env1 F1 σ H1 g sm s1) hx⟩
theorem stSetX {i : Nat} {y : Str} {p2 : Pos} (hn : noComp e = true) (hN : fx.X.N.Nodup) (hi : fx.X.N[i]? = some y) (hx : Loc fx.X.env.scope y) (hf : fx.X.fn y = true ∨ fx.X.env.scope.names.lookup y = some .local) (h : XOk fx e m) : StOk fx (.Assign [.Name y p2] e pos) (m >>= fun d => setM i (.val d)) := by
  obtain ⟨t, p, s⟩ := h.ex
  refine ⟨_, ps_set hN hi hx p (swaps_no hn) hf, fun F σ H env P E D so hm q1 q2 q3 q4 hx => ?_⟩
  refine s F σ H env _ E _ so hm (fun d env1 F1 H1 v g sm s1 dv => ?_) hx
  exact q1 _ F1 _ H1 g sm (s1.setVal dv)
end
end FS
namespace FS
open PySem PySem.Spec PyProof.Rows L2 LamX
/-! calls of the program's own defs -/
/-- what is fixed through the whole law -/
structure Gr where
  P : Program
  w : World
  K : PySem.W.Frag
  mg : Str → Option Value
  base : Heap
  T : List (Addr × Str)
  clo : Hp → V → Nat → List PV → Prop
def gr (fx : Fx) : Gr := ⟨fx.X.prog, fx.X.w, fx.X.K, fx.X.mg, fx.X.base, fx.T, fx.clo⟩
structure GrOk (G : Gr) : Prop where
  kt : ∀ a o, G.K.lookup a = some o → o.cls = .type "tuple" → o.dict = none
  cloMono : ∀ F F' v i cs, Same F F' → G.clo F v i cs → G.clo F' v i cs
structure RoomG (k : Nat) (A : Around) : Prop where
  r : Room k A
  gd : A.guards = some []
theorem RoomG.mono {j k : Nat} {A : Around} (r : RoomG k A) (h : j ≤ k) : RoomG j A := ⟨r.r.mono h, r.gd⟩
theorem RoomG.deeper {k : Nat} {A : Around} (r : RoomG (k + 1) A) (env : Env) : RoomG k (A.deeper env) := ⟨r.r.deeper env, r.gd⟩
/-- an argument -/
def SlA (G : Gr) (F : Hp) : Slot → V → Prop
  | .val d, v => Dp G.K F v d
  | .own _, _ => False
  | .well, v => ∃ a, v = .ref a ∧ F a = some wellMark
  | .clo i cs, v => G.clo F v i cs
  | .dic _, _ => False
  | .dcf kv, v => DcF G.K G.P G.w F v kv
inductive SlsA (G : Gr) (F : Hp) : List Slot → List V → Prop where
  | nil : SlsA G F [] []
  | cons {s : Slot} {v : V} {ss : List Slot} {vs : List V} : SlA G F s v → SlsA G F ss vs → SlsA G F (s :: ss) (v :: vs)
theorem SlA.same {G : Gr} (g : GrOk G) {F F' : Hp} (sm : Same F F') {s : Slot} {v : V} (h : SlA G F s v) : SlA G F' s v := by
  cases s with
  | val d => exact dp_same sm d h
  | own _ => exact h
  | well => obtain ⟨a, e, h⟩ := h; exact ⟨a, e, sm _ _ h⟩
  | clo i cs => exact g.cloMono _ _ _ _ _ sm h
  | dic _ => exact h
  | dcf _ => exact DcF.same sm h
theorem SlsA.same {G : Gr} (g : GrOk G) {F F' : Hp} (sm : Same F F') {ss : List Slot} {vs : List V} (h : SlsA G F ss vs) : SlsA G F' ss vs := by
  induction h with
  | nil => exact .nil
  | cons h _ ih => exact .cons (h.same g sm) ih
theorem SlsA.length {G : Gr} {F : Hp} {ss : List Slot} {vs : List V} (h : SlsA G F ss vs) : vs.length = ss.length := by
  induction h with
  | nil => rfl
  | cons _ _ ih => exact congrArg Nat.succ ih
/-- a def in plain words: arguments, what is wanted of the value, of an exception -/
abbrev FnP := List Slot → (PV → Prop) → EP' → Prop
structure DOk (G : Gr) (k : Nat) (f : Addr) (fd : FuncData) (ps : List Str) (D : FnP) : Prop where
  run : ∀ (A : Around) (outer : List Env) (s : Shared) (H : Hp) (args : Args) (us : List Value) (vs : List V) (Q : VK) (E : XK) (F : Hp) (sl : List Slot) (P' : PV → Prop) (E' : EP'),
    RoomG k A → Env0 G.P G.w G.K G.mg G.base A outer s H → BindsTo s fd args (ps.zip us) → Vals vs us → vs.length = ps.length → CB G.T F H F H → SlsA G F sl vs → D sl P' E' →
    (∀ d F' H' v, P' d → CB G.T F H F' H' → Dp G.K F' v d → Q v H') → (∀ e F' H' cls dd, E' e → CB G.T F H F' H' → ExRep G.mg G.K F' H' e cls dd → E cls dd H') →
    codeAny (model G.P G.w) A (.call (.ref f) args) (CR (L2.CX G.P G.w) outer G.P G.w H s Q E) s
theorem DOk.mono {G : Gr} {j k : Nat} {f : Addr} {fd : FuncData} {ps : List Str} {D : FnP} (h : DOk G j f fd ps D) (hk : j ≤ k) : DOk G k f fd ps D :=
  ⟨fun A outer s H args us vs Q E F sl P' E' r => h.run A outer s H args us vs Q E F sl P' E' (r.mono hk)⟩
/-- a weaker promise -/
theorem DOk.imp {G : Gr} {k : Nat} {f : Addr} {fd : FuncData} {ps : List Str} {D D' : FnP} (h : DOk G k f fd ps D) (i : ∀ sl P E, D' sl P E → D sl P E) : DOk G k f fd ps D' :=
  ⟨fun A outer s H args us vs Q E F sl P' E' r e b rv hl c sa d => h.run A outer s H args us vs Q E F sl P' E' r e b rv hl c sa (i _ _ _ d)⟩
theorem CB.here {T : List (Addr × Str)} {F0 H0 F H : Hp} (c : CB T F0 H0 F H) : CB T F H F H := ⟨c.sub, Same.refl _, fun _ _ h _ _ => h, fun _ h => .inl h, fun _ h => h, c.tabs, c.tn⟩
/-- behind a call -/
theorem CB.back {T : List (Addr × Str)} {F0 H0 F H F' H' : Hp} (c : CB T F0 H0 F H) (d : CB T F H F' H') : CB T F0 H0 F' H' := by
  refine ⟨d.sub, c.f0.trans d.f0, fun a o h n m => ?_, fun a h => ?_, fun a h => d.mono a (c.mono a h), d.tabs, d.tn⟩
  · refine d.h0 a o (c.h0 a o h n m) (fun z => ?_) m
    rcases c.fresh a (by rw [z]; simp) with q | q
    · cases e : F0 a with
      | none => exact q e
      | some x =>
        have := c.f0 a x e
        rw [z] at this
        exact n (e.trans this.symm)
    · rw [q] at h; cases h
  · rcases d.fresh a h with q | q
    · exact c.fresh a q
    · refine .inr ?_
      cases e : H0 a with
      | none => rfl
      | some o => exact absurd q (c.mono a (by rw [e]; simp))
end FS
namespace FS
open PySem PySem.Spec PyProof.Rows L2 LamX
/-- what a frame has: its facts, its room, where its exceptions go -/
structure Fr (fx : Fx) (k : Nat) : Prop where
  ok : FxOk fx
  g : GrOk (gr fx)
  room : RoomG k fx.X.A
  tk : Takes fx.X fx.W
theorem Fr.blk {fx : Fx} {k : Nat} (h : Fr fx k) {s : Shared} {H : Hp} {scope : Scope} {ce : Env} {fp : List Addr} : Fr (fx.blk s H scope ce fp) k :=
  ⟨h.ok.blk, h.g, h.room, fun u s' ⟨a, B, sI, pins, σ, H, cls, d, e, I, nb, up, sky, na, os, ag, w⟩ => w.elim⟩
theorem Fr.mono {fx : Fx} {j k : Nat} (h : Fr fx k) (hk : j ≤ k) : Fr fx j := ⟨h.ok, h.g, h.room.mono hk, h.tk⟩
/-- a def's names at its start -/
def startE (N : List Str) (sl : List Slot) : En := sl.map some ++ List.replicate (N.length - sl.length) none
/-- a body, read as a def -/
def endM (P : PV → Prop) (o : Out) (_ : En) : Prop := match o with
  | .nx => P .none
  | .rt d => P d
  | _ => False
def fnM (N : List Str) (m : M Out) : FnP := fun sl P E => m (startE N sl) (endM P) E
theorem slsA_get {G : Gr} {F : Hp} : ∀ {ss : List Slot} {vs : List V}, SlsA G F ss vs → ∀ {i : Nat} {s : Slot}, ss[i]? = some s → ∃ v, vs[i]? = some v ∧ SlA G F s v
  | _, _, .nil, i, s, e => by simp at e
  | _, _, .cons h t, 0, s, e => by
    cases e
    exact ⟨_, rfl, h⟩
  | _, _, .cons h t, i + 1, s, e => slsA_get t (by simpa using e)
theorem SlA.slot {fx : Fx} {F H : Hp} {s : Slot} {v : V} (h : SlA (gr fx) F s v) : SlotOk fx F H s v := by
  cases s with
  | val d => exact h
  | own _ => exact h.elim
  | well => exact h
  | clo i cs => exact h
  | dic _ => exact h.elim
  | dcf _ => exact h
theorem SlA.notMine {G : Gr} {F : Hp} {s : Slot} {v : V} (h : SlA G F s v) (m : s.mine) : False := by
  cases s with
  | own _ => exact h
  | dic _ => exact h
  | val _ => exact m
  | well => exact m
  | clo _ _ => exact m
  | dcf _ => exact m
theorem sOk_start {fx : Fx} {N : List Str} {F H : Hp} {sl : List Slot} {vs : List V} (c : COk fx F H) (sa : SlsA (gr fx) F sl vs) : SOk fx F (L2.start N vs) H (startE N sl) := by
  have hl := sa.length
  have at_ : ∀ {i : Nat} {s : Slot}, (startE N sl)[i]? = some (some s) → sl[i]? = some s := fun {i s} e => by
    unfold startE at e
    rw [List.getElem?_append] at e
    split at e
    · rw [List.getElem?_map] at e
      cases q : sl[i]? with
      | none => rw [q] at e; cases e
      | some x => rw [q] at e; cases e; rfl
    · rw [List.getElem?_replicate] at e
      split at e <;> cases e
  have atV : ∀ {i : Nat} {v : V}, vs[i]? = some v → (L2.start N vs)[i]? = some (some v) := fun {i v} e => by
    have hi := (List.getElem?_eq_some_iff.mp e).1
    unfold L2.start
    rw [List.getElem?_append_left (by rw [List.length_map]; exact hi), List.getElem?_map, e]
    rfl
  refine ⟨c, by unfold startE L2.start; simp [hl], fun i s e => ?_, fun i j s t v e1 e2 m1 m2 e3 e4 => ?_⟩
  · obtain ⟨v, e1, e2⟩ := slsA_get sa (at_ e)
    exact ⟨v, atV e1, e2.slot⟩
  · obtain ⟨v, _, e2⟩ := slsA_get sa (at_ e1)
    exact (e2.notMine m1).elim
theorem DOk.of {G : Gr} (g : GrOk G) {k : Nat} {f : Addr} {name qual : Str} {params : Arguments} {body : List Stmt} {scope : Scope} {dV kV doc pm cdv ct oc : Value} {an od : Option Addr} {osl : Array (Option Value)} {N ps : List Str} {m : M Out}
    (lk : G.K.lookup f = some ⟨oc, od, .func (PySem.W.fnOf name qual params body scope dV kV doc pm an cdv ct), osl⟩) (hcd : PySem.W.codeIn G.K cdv qual = true) (S : FnScope N ps scope)
    (hb : ∀ fx : Fx, gr fx = G → Fr fx k → fx.X.N = N → fx.X.env.scope = scope → PassesOwn (model fx.X.prog fx.X.w) fx.X.A fx.X.env fx.X.xe → (∀ y, fx.X.fn y = true) → SsOk fx body m) :
    DOk G (k + 1) f (PySem.W.fnOf name qual params body scope dV kV doc pm an cdv ct) ps (fnM N m) := by
  refine ⟨fun A outer s H args us vs Q E F sl P' E' r e0 bt rv hl c sa d hQ hE => ?_⟩
  refine run_ofS (N := N) lk hcd S r.r e0 bt rv hl fun hr' => ?_
  let fx : Fx := { X := cxOf (L2.CX G.P G.w) G.P G.w G.K G.mg G.base N qual scope f cdv A outer s H E, W := fun cls d _ H => E cls d H, T := G.T, F0 := F, H0 := H, clo := G.clo, cloMono := g.cloMono }
  have fr : Fr fx k := ⟨⟨rfl, S.nd, r.r.hd, r.gd, by have := hr'.un; show (A.deeper _).units + 200 < cLine; omega, g.kt⟩, g, ⟨hr', r.gd⟩, takes_of rfl rfl rfl rfl⟩
  obtain ⟨t, p, sim⟩ := (hb fx rfl fr rfl rfl (passes_of rfl) fun _ => rfl).ex
  refine ⟨t, p, ?_⟩
  have so : SOk fx F (L2.start N vs) H (startE N sl) := sOk_start (fx := fx) c sa
  refine sim F _ H _ _ E' _ so d (fun env' F' σ' H' q sm s' => hQ .none F' H' .non q s'.c .non) (fun d env' F' σ' H' v q sm s' dv => hQ d F' H' v q s'.c dv) (fun _ _ _ _ q => q.elim) (fun _ _ _ _ q => q.elim) ?_
  exact fun e F' H' cls dd σ' q sm c' er => hE e F' H' cls dd q c' er
end FS
namespace FS
open PySem PySem.Spec PyProof.Rows L2 LamX
/-! ### arguments, calls -/
abbrev SimL (fx : Fx) (t : TA) (m : M (List Slot)) : Prop := SimG fx (List V) t m fun _ F _ _ _ ss vs => SlsA (gr fx) F ss vs
structure LOk (fx : Fx) (es : List Expr) (m : M (List Slot)) : Prop where
  ex : ∃ t, PA fx.X es t ∧ SimL fx t m
structure KOk (fx : Fx) (kws : List Keyword) (m : M (List Slot)) : Prop where
  ex : ∃ t, PK fx.X kws t ∧ SimL fx t m
/-- one argument -/
structure ArgOk (fx : Fx) (e : Expr) (m : M Slot) : Prop where
  ex : ∃ t, PE fx.X e t ∧ SimG fx V t m fun _ F _ _ _ s v => SlA (gr fx) F s v
theorem argVal {fx : Fx} {e : Expr} {m : M PV} (h : EOk fx e m) : ArgOk fx e (m >>= fun d => pure (.val d)) := by
  obtain ⟨t, p, s⟩ := h.ex
  exact ⟨t, p, fun F σ H env P E Q so hm hq hx => s F σ H env _ E _ so hm (fun d env' F' H' v g st le s' dv => hq (.val d) env' F' H' v g st le s' dv) hx⟩
/-- a name as an argument, whatever it holds -/
def rdA (i : Nat) : M Slot := fun s P _ => match s[i]? with
  | some (some (.val d)) => P (.val d) s
  | some (some (.own xs)) => P (.val (.list xs)) (s.set i (some (.val (.list xs))))
  | some (some .well) => P .well s
  | some (some (.clo c cs)) => P (.clo c cs) s
  | some (some (.dcf kv)) => P (.dcf kv) s
  | _ => False
theorem argName {fx : Fx} {i : Nat} {x : Str} {p : Pos} (n : NameOk fx i x) : ArgOk fx (.Name x p) (rdA i) := by
  refine ⟨_, pe_var n.at_ n.vis n.d1 n.d2, fun F σ H env P E Q s hm hq hx => ?_⟩
  unfold rdA at hm
  split at hm
  · rename_i d e
    obtain ⟨v, ev, so⟩ := s.slot i _ e
    exact ⟨v, ev, hq (.val d) env F H v hm Stp.refl (EnLe.refl _) s so⟩
  · rename_i xs e
    obtain ⟨v, ev, so⟩ := s.slot i _ e
    obtain ⟨F', st, le, s', dv⟩ := s.freeze e ev
    exact ⟨v, ev, hq (.val (.list xs)) _ F' H v hm st le s' dv⟩
  · rename_i e
    obtain ⟨v, ev, so⟩ := s.slot i _ e
    exact ⟨v, ev, hq .well env F H v hm Stp.refl (EnLe.refl _) s so⟩
  · rename_i c cs e
    obtain ⟨v, ev, so⟩ := s.slot i _ e
    exact ⟨v, ev, hq (.clo c cs) env F H v hm Stp.refl (EnLe.refl _) s so⟩
  · rename_i kv e
    obtain ⟨v, ev, so⟩ := s.slot i _ e
    exact ⟨v, ev, hq (.dcf kv) env F H v hm Stp.refl (EnLe.refl _) s so⟩
  · exact hm.elim
section
variable {fx : Fx} {e : Expr} {es : List Expr} {kws : List Keyword} {m : M Slot} {ms : M (List Slot)}
def consM (m : M Slot) (ms : M (List Slot)) : M (List Slot) := m >>= fun d => ms >>= fun ds => pure (d :: ds)
theorem consSim (g : GrOk (gr fx)) {te : TE} {t : TA} (se : SimG fx V te m fun _ F _ _ _ s v => SlA (gr fx) F s v) (s : SimL fx t ms) : SimL fx (tCons te t) (consM m ms) := by
  intro F σ H env P E Q so hm hq hx
  refine se F σ H env _ E _ so hm (fun d env1 F1 H1 v q1 st1 le1 s1 p1 => ?_) hx
  exact s F1 σ H1 env1 _ E _ s1 q1 (fun ds env2 F2 H2 vs q2 st2 le2 s2 p2 => hq _ env2 F2 H2 _ q2 (st1.tr le1 st2) (le1.trans le2) s2 (.cons (p1.same g st2.sm) p2)) (hx.later st1.sm)
theorem lNil : LOk fx [] (pure []) := ⟨_, pa_nil, fun F σ H env P E Q s hm hq hx => hq _ env F H _ hm Stp.refl (EnLe.refl _) s .nil⟩
theorem lCons (g : GrOk (gr fx)) (hs : isStar e = false) (he : ArgOk fx e m) (hr : LOk fx es ms) : LOk fx (e :: es) (consM m ms) := by
  obtain ⟨te, pe, se⟩ := he.ex
  obtain ⟨t, p, s⟩ := hr.ex
  exact ⟨_, pa_cons pe p (starEach_plain hs), consSim g se s⟩
theorem kNil : KOk fx [] (pure []) := ⟨_, pk_nil, fun F σ H env P E Q s hm hq hx => hq _ env F H _ hm Stp.refl (EnLe.refl _) s .nil⟩
theorem kCons (g : GrOk (gr fx)) {nm : Option Str} {kp : Pos} (he : ArgOk fx e m) (hr : KOk fx kws ms) : KOk fx (⟨nm, e, kp⟩ :: kws) (consM m ms) := by
  obtain ⟨te, pe, se⟩ := he.ex
  obtain ⟨t, p, s⟩ := hr.ex
  exact ⟨_, pk_cons pe p, consSim g se s⟩
end
/-- what the callee is asked -/
def RunD (G : Gr) (W : WX) (n : Nat) (D : FnP) (vs : List V) (H : Hp) (Q : VK) : Prop :=
  ∃ (F : Hp) (sl : List Slot) (P' : PV → Prop) (E' : EP'), vs.length = n ∧ CB G.T F H F H ∧ SlsA G F sl vs ∧ D sl P' E' ∧ (∀ d F' H' v, P' d → CB G.T F H F' H' → Dp G.K F' v d → Q v H') ∧ ∀ e F' H' cls dd, E' e → CB G.T F H F' H' → ExRep G.mg G.K F' H' e cls dd → ∀ σ', W cls dd σ' H'
theorem run_D {fx : Fx} {k : Nat} (fr : Fr fx k) {f : Addr} {fd : FuncData} {ps : List Str} {D : FnP} (Dk : DOk (gr fx) k f fd ps D) {pins : List (Addr × Obj)} {σ : L2.St} {H : Hp} {s : Shared} {Q : VK} {args : Args} {us : List Value} {vs : List V}
    (hb : BindsTo s fd args (ps.zip us)) (I : Inv fx.X pins σ H s) (r : Vals vs us) (h : RunD (gr fx) fx.W ps.length D vs H Q) : wpAny (model fx.X.prog fx.X.w) fx.X.A (call (.ref f) args.pos args.kw) (EP fx.X pins σ Q) fx.X.xe s := by
  obtain ⟨F, sl, P', E', hl, c, sa, d, hQ, hE⟩ := h
  refine wpAny_call (codeAny_mono (Dk.run fx.X.A fx.X.stack s H args us vs Q (fun cls dd H' => ∀ σ', fx.W cls dd σ' H') F sl P' E' fr.room I.env0 hb r hl c sa d hQ hE) fun r s' hq => ?_)
  cases r with
  | error e => exact passes_call fr.tk (fun cls d σ H h => h σ) pins σ H s e s' I hq
  | ok fl =>
    cases fl with
    | ret u => exact I.after hq
    | next => exact False.elim hq
    | brk => exact False.elim hq
    | cont => exact False.elim hq
/-- a call's answer -/
def callM (n : Nat) (D : FnP) (sl : List Slot) : M Res := fun s P E => sl.length = n ∧ D sl (fun d => P (.val d) s) E
/-- arguments put in order: ks the keywords' names -/
def arr {α : Type} (ps ks : List Str) (us ws : List α) : List α := us ++ (ps.drop us.length).filterMap fun p => (ks.zip ws).lookup p
theorem slsA_append {G : Gr} {F : Hp} {ss tt : List Slot} {vs ws : List V} (h : SlsA G F ss vs) (g : SlsA G F tt ws) : SlsA G F (ss ++ tt) (vs ++ ws) := by
  induction h with
  | nil => exact g
  | cons h _ ih => exact .cons h ih
theorem slsA_look {G : Gr} {F : Hp} {p : Str} : ∀ {ks : List Str} {tt : List Slot} {ws : List V}, SlsA G F tt ws → ((ks.zip tt).lookup p = none ∧ (ks.zip ws).lookup p = none) ∨ ∃ s v, (ks.zip tt).lookup p = some s ∧ (ks.zip ws).lookup p = some v ∧ SlA G F s v
  | [], _, _, _ => .inl ⟨rfl, rfl⟩
  | k :: ks, _, _, .nil => .inl ⟨rfl, rfl⟩
  | k :: ks, _, _, .cons (s := s) (v := v) h t => by
    rw [List.zip_cons_cons, List.zip_cons_cons, List.lookup_cons, List.lookup_cons]
    cases p == k with
    | true => exact .inr ⟨s, v, rfl, rfl, h⟩
    | false => exact slsA_look t
theorem slsA_arr {G : Gr} {F : Hp} {ps ks : List Str} {ss tt : List Slot} {vs ws : List V} (h : SlsA G F ss vs) (g : SlsA G F tt ws) : SlsA G F (arr ps ks ss tt) (arr ps ks vs ws) := by
  unfold arr
  rw [h.length]
  refine slsA_append h ?_
  induction ps.drop ss.length with
  | nil => exact .nil
  | cons p r ih =>
    rcases slsA_look (ks := ks) (p := p) g with ⟨e1, e2⟩ | ⟨s, v, e1, e2, q⟩
    · rw [List.filterMap_cons, List.filterMap_cons, e1, e2]
      exact ih
    · rw [List.filterMap_cons, List.filterMap_cons, e1, e2]
      exact .cons q ih
theorem vals_look {p : Str} : ∀ {ks : List Str} {ws : List V} {us : List Value}, Vals ws us → ((ks.zip ws).lookup p = none ∧ (ks.zip us).lookup p = none) ∨ ∃ v u, (ks.zip ws).lookup p = some v ∧ (ks.zip us).lookup p = some u ∧ RelV v u
  | [], _, _, _ => .inl ⟨rfl, rfl⟩
  | k :: ks, _, _, .nil => .inl ⟨rfl, rfl⟩
  | k :: ks, _, _, .cons (a := v) (b := u) h t => by
    rw [List.zip_cons_cons, List.zip_cons_cons, List.lookup_cons, List.lookup_cons]
    cases p == k with
    | true => exact .inr ⟨v, u, rfl, rfl, h⟩
    | false => exact vals_look t
theorem vals_arr {ps ks : List Str} {vs ws : List V} {us zs : List Value} (h : Vals vs us) (g : Vals ws zs) : Vals (arr ps ks vs ws) (arr ps ks us zs) := by
  unfold arr
  rw [h.length]
  refine h.append ?_
  induction ps.drop us.length with
  | nil => exact .nil
  | cons p r ih =>
    rcases vals_look (ks := ks) (p := p) g with ⟨e1, e2⟩ | ⟨s, v, e1, e2, q⟩
    · rw [List.filterMap_cons, List.filterMap_cons, e1, e2]
      exact ih
    · rw [List.filterMap_cons, List.filterMap_cons, e1, e2]
      exact .cons q ih
section
variable {fx : Fx} {k : Nat} {x : Str} {f : Addr} {fd : FuncData} {ps : List Str} {D : FnP} {e : Expr} {es : List Expr} {kws : List Keyword} {m mk : M (List Slot)} {p pos : Pos}
theorem SOk.called {F F' : Hp} {σ : L2.St} {H H' : Hp} {env : En} (s : SOk fx F σ H env) (c : CB fx.T F H F' H') : Stp F H σ env F' H' ∧ SOk fx F' σ H' env := by
  have sm : Same F F' := c.f0
  have kp : ∀ a o, H a = some o → F a = none → (∀ ps, o ≠ .tbl ps) → H' a = some o ∧ F' a = none := fun a o h n t => by
    refine ⟨c.h0 a o h (by rw [n]; simp) t, ?_⟩
    cases z : F' a with
    | none => rfl
    | some o' =>
      rcases c.fresh a (by rw [z]; simp) with q | q
      · exact absurd n q
      · rw [q] at h; cases h
  refine ⟨⟨sm, c.mono, fun a o h n t _ => kp a o h n t⟩, ⟨s.c.back c, s.len, fun i sl e => ?_, s.sepS⟩⟩
  obtain ⟨w, e1, e2⟩ := s.slot i sl e
  refine ⟨w, e1, ?_⟩
  cases sl with
  | val d => exact dp_same sm d e2
  | own xs =>
    obtain ⟨a, ws, rfl, f1, f2, f3, f4, f5⟩ := e2
    obtain ⟨k1, k2⟩ := kp a _ f1 f2 fun ps z => by cases z
    exact ⟨a, ws, rfl, k1, k2, f3, dpAll_same sm _ f4, f5⟩
  | well =>
    obtain ⟨a, rfl, e⟩ := e2
    exact ⟨a, rfl, sm _ _ e⟩
  | clo i cs => exact fx.cloMono _ _ _ _ _ sm e2
  | dic p =>
    obtain ⟨a, oo, rfl, f1, f2, f3, f4⟩ := e2
    obtain ⟨k1, k2⟩ := kp a _ f1 f2 f4.tbl
    exact ⟨a, oo, rfl, k1, k2, f3, f4.same sm⟩
  | dcf p => exact DcF.same sm e2
theorem call_sim {F : Hp} {σ : L2.St} {H : Hp} {env : En} {P : Res → En → Prop} {E : EP'} {Q : V → Hp → Prop} {sl : List Slot} {vs : List V} (s : SOk fx F σ H env) (sa : SlsA (gr fx) F sl vs) (hm : callM ps.length D sl env P E)
    (hq : ∀ r env' F' H' v, P r env' → Stp F H σ env F' H' → EnLe env env' → SOk fx F' σ H' env' → ResOk fx H F' σ H' env' r v → Q v H') (hx : ExOk fx F E) : RunD (gr fx) fx.W ps.length D vs H Q := by
  refine ⟨F, sl, _, E, by rw [sa.length]; exact hm.1, s.c.here, sa, hm.2, fun d F' H' v g c dv => ?_, fun e F' H' cls dd g c er σ' => hx e F' H' cls dd σ' g c.f0 (s.c.back c) er⟩
  obtain ⟨st, s'⟩ := s.called c
  exact hq (.val d) env F' H' v g st (EnLe.refl _) s' dv
theorem noStars_any {pos : Pos} {env : Env} : ∀ {es : List Expr}, es.any isStar = false → (backTo pos (starEach es env)).any (·.1) = false
  | [], _ => rfl
  | e :: es, h => by
    rw [List.any_cons, Bool.or_eq_false_iff] at h
    rw [starEach_plain h.1]
    show (false || (backTo pos (starEach es env)).any (·.1)) = false
    rw [noStars_any h.2]
    rfl
/-- f(e, ..) -/
theorem rCall (fr : Fr fx k) (hg : Gl fx.X x) (hm : fx.X.mg x = some (.ref f)) (hk : PySem.W.keepIn fx.X.K (.ref f) = true) (Dk : DOk (gr fx) k f fd ps D) (hb : ∀ us : List Value, us.length = ps.length → bindArgs fd ⟨us, []⟩ = pure (ps.zip us)) (hdb : (x == ("__debug__" : Str)) = false)
    (hs : (e :: es).any isStar = false) (ha : LOk fx (e :: es) m) : ROk fx (.Call (.Name x p) (e :: es) [] pos) (m >>= callM ps.length D) := by
  obtain ⟨t, pa, sa⟩ := ha.ex
  have hs' := hs
  rw [List.any_cons, Bool.or_eq_false_iff] at hs'
  refine ⟨fun σ H Q => t σ H fun vs H1 => RunD (gr fx) fx.W ps.length D vs H1 Q, ⟨fun pins s σ H Q I h => ?_⟩, fun F σ H env P E Q s hm hq hx => ?_⟩
  · refine wpAny_Call_Name_kw (ld_glob I hg hm ?_ hdb)
    refine PySem.W.callWith_K (h₀ := fx.X.base) I.ok.mod.kin hk (thn (pa.run pos pins s σ H _ I h) fun us s1 ⟨vs, H1, I1, r, q⟩ => ⟨I1.kIn, ?_⟩) (starEach_plain hs'.1) (noStars_any hs'.2)
    have hl : us.length = ps.length := by
      obtain ⟨_, _, _, _, hl, _⟩ := q
      rw [← r.length]; exact hl
    exact run_D fr Dk (args := ⟨us, []⟩) (.of_eq (hb us hl)) I1 r q
  · refine sa F σ H env _ E _ s hm (fun sl env1 F1 H1 vs g st le s1 sl1 => ?_) hx
    exact call_sim s1 sl1 g (fun r env2 F2 H2 v g2 st2 le2 s2 ro => hq r env2 F2 H2 v g2 (st.tr le st2) (le.trans le2) s2 (ro.back st.mono)) (hx.later st.sm)
theorem rCall0 (fr : Fr fx k) (hg : Gl fx.X x) (hm : fx.X.mg x = some (.ref f)) (hk : PySem.W.keepIn fx.X.K (.ref f) = true) (Dk : DOk (gr fx) k f fd [] D) (hb : bindArgs fd ⟨[], []⟩ = pure []) (hdb : (x == ("__debug__" : Str)) = false) : ROk fx (.Call (.Name x p) [] [] pos) (callM 0 D []) := by
  refine ⟨fun σ H Q => RunD (gr fx) fx.W 0 D [] H Q, ⟨fun pins s σ H Q I h => ?_⟩, fun F σ H env P E Q s hm hq hx => call_sim (ps := []) s .nil hm hq hx⟩
  refine wpAny_Call_Name_kw (ld_glob I hg hm ?_ hdb)
  exact PySem.W.callWith_K0 I.kIn hk (run_D fr Dk (args := ⟨[], []⟩) (us := []) (.of_eq hb) I .nil h)
/-- f(e, .., k = v, ..) -/
theorem rCallK {ks : List Str} {n : Nat} (fr : Fr fx k) (hg : Gl fx.X x) (hm : fx.X.mg x = some (.ref f)) (hk : PySem.W.keepIn fx.X.K (.ref f) = true) (Dk : DOk (gr fx) k f fd ps D)
    (hb : ∀ us ws : List Value, us.length = n → ws.length = ks.length → bindArgs fd ⟨us, ks.zip ws⟩ = pure (ps.zip (arr ps ks us ws))) (hdb : (x == ("__debug__" : Str)) = false) (hks : ∀ env : Env, (backToKw pos (keywordEach kws env)).map (·.1) = ks.map some)
    (hs : (e :: es).any isStar = false) (ha : LOk fx (e :: es) m) (hkw : KOk fx kws mk) : ROk fx (.Call (.Name x p) (e :: es) kws pos) (m >>= fun sl => mk >>= fun zl => M.need (sl.length = n ∧ zl.length = ks.length) >>= fun _ => callM ps.length D (arr ps ks sl zl)) := by
  obtain ⟨t, pa, sa⟩ := ha.ex
  obtain ⟨tk, pk, sk⟩ := hkw.ex
  have hs' := hs
  rw [List.any_cons, Bool.or_eq_false_iff] at hs'
  have h1 := hks fx.X.env
  have hall : (backToKw pos (keywordEach kws fx.X.env)).all (·.1.isSome) = true := by
    rw [List.all_eq_true]
    intro y hy
    have : y.1 ∈ ks.map some := h1 ▸ List.mem_map_of_mem hy
    obtain ⟨k, _, e⟩ := List.mem_map.mp this
    rw [← e]; rfl
  have hnone : (backToKw pos (keywordEach kws fx.X.env)).any (·.1.isNone) = false := by
    rw [List.any_eq_false]
    intro y hy
    have : y.1 ∈ ks.map some := h1 ▸ List.mem_map_of_mem hy
    obtain ⟨k, _, e⟩ := List.mem_map.mp this
    rw [← e]; simp
  have hfm : (backToKw pos (keywordEach kws fx.X.env)).filterMap (·.1) = ks := by
    have : (backToKw pos (keywordEach kws fx.X.env)).filterMap (·.1) = ((backToKw pos (keywordEach kws fx.X.env)).map (·.1)).filterMap id := by rw [List.filterMap_map]; rfl
    rw [this, h1, List.filterMap_map]
    simp
  refine ⟨fun σ H Q => t σ H fun vs H1 => tk σ H1 fun ws H2 => vs.length = n ∧ ws.length = ks.length ∧ RunD (gr fx) fx.W ps.length D (arr ps ks vs ws) H2 Q, ⟨fun pins s σ H Q I h => ?_⟩, fun F σ H env P E Q s hm hq hx => ?_⟩
  · refine wpAny_Call_Name_kw (ld_glob I hg hm ?_ hdb)
    refine PySem.W.callWith_KW (h₀ := fx.X.base) I.ok.mod.kin hk hall (thn (pa.run pos pins s σ H _ I h) fun us s1 ⟨vs, H1, I1, r, q⟩ => ?_) (by rw [noStars_any hs, hnone]; rfl) (starEach_plain hs'.1)
    refine thn (pk.run pos pins s1 σ H1 _ I1 q) fun ws s2 ⟨zs, H2, I2, rz, q1, q2, q3⟩ => ⟨I2.kIn, ?_⟩
    rw [hfm]
    exact run_D fr Dk (args := ⟨us, ks.zip ws⟩) (.of_eq (hb us ws (by rw [← r.length]; exact q1) (by rw [← rz.length]; exact q2))) I2 (vals_arr r rz) q3
  · refine sa F σ H env _ E _ s hm (fun sl env1 F1 H1 vs g st le s1 sl1 => ?_) hx
    refine sk F1 σ H1 env1 _ E _ s1 g (fun zl env2 F2 H2 ws g2 st2 le2 s2 zl2 => ?_) (hx.later st.sm)
    obtain ⟨⟨n1, n2⟩, g3⟩ := g2
    refine ⟨by rw [sl1.length]; exact n1, by rw [zl2.length]; exact n2, ?_⟩
    exact call_sim s2 (slsA_arr (sl1.same fr.g st2.sm) zl2) g3 (fun r env3 F3 H3 v g4 st3 le3 s3 ro => hq r env3 F3 H3 v g4 ((st.tr le st2).tr (le.trans le2) st3) ((le.trans le2).trans le3) s3 ((ro.back st2.mono).back st.mono)) (hx.later (st.tr le st2).sm)
/-- f(k = v, ..) -/
theorem rCallK0 {ks : List Str} (fr : Fr fx k) (hg : Gl fx.X x) (hm : fx.X.mg x = some (.ref f)) (hk : PySem.W.keepIn fx.X.K (.ref f) = true) (Dk : DOk (gr fx) k f fd ps D)
    (hb : ∀ ws : List Value, ws.length = ks.length → bindArgs fd ⟨[], ks.zip ws⟩ = pure (ps.zip (arr ps ks [] ws))) (hdb : (x == ("__debug__" : Str)) = false) (hks : ∀ env : Env, (backToKw pos (keywordEach kws env)).map (·.1) = ks.map some)
    (hkw : KOk fx kws mk) : ROk fx (.Call (.Name x p) [] kws pos) (mk >>= fun zl => M.need (zl.length = ks.length) >>= fun _ => callM ps.length D (arr ps ks [] zl)) := by
  obtain ⟨tk, pk, sk⟩ := hkw.ex
  have h1 := hks fx.X.env
  have hall : (backToKw pos (keywordEach kws fx.X.env)).all (·.1.isSome) = true := by
    rw [List.all_eq_true]
    intro y hy
    have : y.1 ∈ ks.map some := h1 ▸ List.mem_map_of_mem hy
    obtain ⟨k, _, e⟩ := List.mem_map.mp this
    rw [← e]; rfl
  have hnone : (backToKw pos (keywordEach kws fx.X.env)).any (·.1.isNone) = false := by
    rw [List.any_eq_false]
    intro y hy
    have : y.1 ∈ ks.map some := h1 ▸ List.mem_map_of_mem hy
    obtain ⟨k, _, e⟩ := List.mem_map.mp this
    rw [← e]; simp
  have hfm : (backToKw pos (keywordEach kws fx.X.env)).filterMap (·.1) = ks := by
    have : (backToKw pos (keywordEach kws fx.X.env)).filterMap (·.1) = ((backToKw pos (keywordEach kws fx.X.env)).map (·.1)).filterMap id := by rw [List.filterMap_map]; rfl
    rw [this, h1, List.filterMap_map]
    simp
  refine ⟨fun σ H Q => tk σ H fun ws H2 => ws.length = ks.length ∧ RunD (gr fx) fx.W ps.length D (arr ps ks [] ws) H2 Q, ⟨fun pins s σ H Q I h => ?_⟩, fun F σ H env P E Q s hm hq hx => ?_⟩
  · refine wpAny_Call_Name_kw (ld_glob I hg hm ?_ hdb)
    refine PySem.W.callWith_KW0 (h₀ := fx.X.base) I.ok.mod.kin hk hall (thn (pk.run pos pins s σ H _ I h) fun ws s2 ⟨zs, H2, I2, rz, q2, q3⟩ => ⟨I2.kIn, ?_⟩) (by rw [hnone]; rfl)
    rw [hfm]
    exact run_D fr Dk (args := ⟨[], ks.zip ws⟩) (.of_eq (hb ws (by rw [← rz.length]; exact q2))) I2 (vals_arr .nil rz) q3
  · refine sk F σ H env _ E _ s hm (fun zl env2 F2 H2 ws g2 st2 le2 s2 zl2 => ?_) hx
    obtain ⟨n2, g3⟩ := g2
    refine ⟨by rw [zl2.length]; exact n2, ?_⟩
    exact call_sim s2 (slsA_arr .nil zl2) g3 (fun r env3 F3 H3 v g4 st3 le3 s3 ro => hq r env3 F3 H3 v g4 (st2.tr le2 st3) (le2.trans le3) s3 (ro.back st2.mono)) (hx.later st2.sm)
end
end FS
namespace FS
open PySem PySem.Spec PyProof.Rows L2 LamX
/-! the well of draws; targets that write; a new well handed on -/
section
variable {fx : Fx} {F H : Hp} {σ : L2.St} {env : En}
theorem SOk.wellAt {a : Addr} (h : SOk fx F σ H env) (e : F a = some wellMark) : WellAt H a := (h.c.sub a _ e).1 rfl
theorem SOk.writeWell {a : Addr} {vs : List V} (h : SOk fx F σ H env) (e : F a = some wellMark) (w : WellAt (upd H a (.lst vs)) a) : SOk fx F σ (upd H a (.lst vs)) env := by
  obtain ⟨x0, y0, z0, e1, _⟩ := h.wellAt e
  refine ⟨⟨fun b x q => ?_, h.c.f0, fun b x q1 q2 q3 => ?_, h.c.fresh, fun b q => ?_, tabs_upd h.c.tabs e1 (fun ps z => by cases z) (fun φ z => by cases z), h.c.tn⟩, h.len, fun j s q => ?_, h.sepS⟩
  · obtain ⟨k1, k2⟩ := h.c.sub b x q
    by_cases hb : b = a
    · subst hb
      rw [e] at q
      cases q
      exact ⟨fun _ => w, fun z => (z rfl).elim⟩
    · refine ⟨fun z => ?_, fun z => by rw [upd_ne hb]; exact k2 z⟩
      obtain ⟨x1, y1, z1, w1, w2⟩ := k1 z
      exact ⟨x1, y1, z1, by rw [upd_ne hb]; exact w1, w2⟩
  · have : b ≠ a := fun z => by
      subst z
      rcases h.c.fresh b (by rw [e]; simp) with f | f
      · cases e2 : fx.F0 b with
        | none => exact f e2
        | some o' =>
          have := h.c.f0 b o' e2
          rw [e] at this
          exact q2 (e2.trans this.symm)
      · rw [f] at q1; cases q1
    rw [upd_ne this]
    exact h.c.h0 b x q1 q2 q3
  · by_cases z : b = a
    · subst z
      rw [upd_same]
      simp
    · rw [upd_ne z]
      exact h.c.mono b q
  · obtain ⟨v, e2, e3⟩ := h.slot j s q
    refine ⟨v, e2, ?_⟩
    cases s with
    | val d => exact e3
    | own us =>
      obtain ⟨b, vs', rfl, g1, g2, g3⟩ := e3
      have : b ≠ a := fun z => by rw [z, e] at g2; cases g2
      exact ⟨b, vs', rfl, by rw [upd_ne this]; exact g1, g2, g3⟩
    | well => exact e3
    | clo i cs => exact e3
    | dic p =>
      obtain ⟨b, oo, rfl, g1, g2, g3⟩ := e3
      have : b ≠ a := fun z => by rw [z, e] at g2; cases g2
      exact ⟨b, oo, rfl, by rw [upd_ne this]; exact g1, g2, g3⟩
    | dcf p => exact e3
end
/-- a number that may stand at place j of a well -/
def WellN (j : Nat) (x : Int) : Prop := 0 ≤ x ∧ (j = 1 → x < 2 ^ 32)
/-- some number that stands there -/
def rdWell (i j : Nat) : M Res := fun s P _ => (s[i]? = some (some .well) ∧ j < 3) ∧ ∀ x : Int, WellN j x → P (.val (.int x)) s
section
variable {fx : Fx} {i j : Nat} {x : Str} {p pos p2 : Pos} {k : Nat}
theorem well_slot {F H : Hp} {σ : L2.St} {env : En} (s : SOk fx F σ H env) (e : env[i]? = some (some .well)) : ∃ a, σ[i]? = some (some (.ref a)) ∧ F a = some wellMark ∧ WellAt H a := by
  obtain ⟨v, e1, a, rfl, e2⟩ := s.slot i _ e
  exact ⟨a, e1, e2, s.wellAt e2⟩
theorem rWellIx (n : NameOk fx i x) : ROk fx (.Subscript (.Name x p) (.Constant (.int (j : Nat)) k p2) pos) (rdWell i j) := by
  refine ⟨_, pe_ix ix_seq (pe_var n.at_ n.vis n.d1 n.d2) pe_int (plainIx rfl), fun F σ H env P E Q s hm hq hx => ?_⟩
  obtain ⟨⟨e, hj⟩, hm⟩ := hm
  obtain ⟨a, ev, ea, x0, y0, z0, eh, b1, b2, b3, b4⟩ := well_slot s e
  refine ⟨.ref a, ev, ?_⟩
  have fin : ∀ w : Int, WellN j w → [V.int x0, V.int y0, V.int z0][j]? = some (.int w) → rIx fx.X.K (.ref a) (.int (j : Nat)) H Q := fun w hw eg =>
    .inl ⟨a, _, (j : Nat), _, rfl, rfl, SqL.of eh, atI_nat eg, hq _ env F H _ (hm w hw) Stp.refl (EnLe.refl _) s (.int _)⟩
  match j, hj with
  | 0, _ => exact fin x0 ⟨b1, fun z => by cases z⟩ rfl
  | 1, _ => exact fin y0 ⟨b2, fun _ => b3⟩ rfl
  | 2, _ => exact fin z0 ⟨b4, fun z => by cases z⟩ rfl
end
/-- a target that may write: a name, a tuple, a place of a well, of an own list -/
structure TgOk (fx : Fx) (tg : Expr) (m : PV → M Unit) : Prop where
  ex : ∃ t, PG fx.X tg t ∧ ∀ (F : Hp) (σ : L2.St) (H : Hp) (env : En) (P : Unit → En → Prop) (E : EP') (d : PV) (v : V) (Q : L2.St → Hp → Prop), SOk fx F σ H env → Dp fx.X.K F v d → m d env P E →
    (∀ env' F' σ' H', P () env' → Same F F' → SOk fx F' σ' H' env' → Q σ' H') → ExOk fx F E → t v σ H Q
structure TgsOk (fx : Fx) (tgs : List Expr) (m : List PV → M Unit) : Prop where
  ex : ∃ t, PGs fx.X tgs t ∧ ∀ (F : Hp) (σ : L2.St) (H : Hp) (env : En) (P : Unit → En → Prop) (E : EP') (ds : List PV) (vs : List V) (Q : L2.St → Hp → Prop), SOk fx F σ H env → DpAll fx.X.K F vs ds → m ds env P E →
    (∀ env' F' σ' H', P () env' → Same F F' → SOk fx F' σ' H' env' → Q σ' H') → ExOk fx F E → t vs σ H Q
def putN (i : Nat) (d : PV) : M Unit := fun s P _ => P () (s.set i (some (.val d)))
def putWell (i j : Nat) (d : PV) : M Unit := fun s P _ => match d with
  | .int x => (s[i]? = some (some .well) ∧ j < 3 ∧ WellN j x) ∧ P () s
  | _ => False
def putsNil (ds : List PV) : M Unit := match ds with
  | [] => pure ()
  | _ => M.fail
def putsCons (m : PV → M Unit) (ms : List PV → M Unit) (ds : List PV) : M Unit := match ds with
  | d :: ds => m d >>= fun _ => ms ds
  | [] => M.fail
def putTup (n : Nat) (ms : List PV → M Unit) (d : PV) : M Unit := match d with
  | .tuple ds => M.need (ds.length = n) >>= fun _ => ms ds
  | _ => M.fail
section
variable {fx : Fx} {i j : Nat} {x : Str} {p pos p2 : Pos} {k : Nat}
theorem tgName (hN : fx.X.N.Nodup) (hi : fx.X.N[i]? = some x) (hx : Loc fx.X.env.scope x) (hf : fx.X.fn x = true ∨ fx.X.env.scope.names.lookup x = some .local) : TgOk fx (.Name x pos) (putN i) :=
  ⟨_, pg_name hN hi hx hf, fun F σ H env P E d v Q s dv hm hq hx => hq _ F _ H hm (Same.refl _) (s.setVal dv)⟩
theorem tgWell (n : NameOk fx i x) : TgOk fx (.Subscript (.Name x p) (.Constant (.int (j : Nat)) k p2) pos) (putWell i j) := by
  refine ⟨_, pg_sub (pe_var n.at_ n.vis n.d1 n.d2) pe_int set_list, fun F σ H env P E d v Q s dv hm hq hx => ?_⟩
  cases d <;> first | exact hm.elim | skip
  rename_i w
  obtain ⟨⟨e, hj, hw⟩, hm⟩ := hm
  obtain ⟨a, ev, ea, x0, y0, z0, eh, b1, b2, b3, b4⟩ := well_slot s e
  cases dv
  have ix : ixN [V.int x0, V.int y0, V.int z0].length ((j : Nat) : Int) = some j := by
    unfold ixN
    rw [if_pos (by omega), if_pos (by show ((j : Nat) : Int) < ((3 : Nat) : Int); omega)]
    rfl
  refine ⟨.ref a, ev, a, _, (j : Nat), j, rfl, rfl, eh, ix, ?_⟩
  refine hq env F σ _ hm (Same.refl _) (s.writeWell ea ?_)
  match j, hj, hw with
  | 0, _, hw => exact ⟨w, y0, z0, upd_same, hw.1, b2, b3, b4⟩
  | 1, _, hw => exact ⟨x0, w, z0, upd_same, b1, hw.1, hw.2 rfl, b4⟩
  | 2, _, hw => exact ⟨x0, y0, w, upd_same, b1, b2, b3, hw.1⟩
theorem tgsNil : TgsOk fx [] putsNil := ⟨_, pgs_nil, fun F σ H env P E ds vs Q s dv hm hq hx => by
  cases ds with
  | nil =>
    cases dv
    exact ⟨rfl, hq env F σ H hm (Same.refl _) s⟩
  | cons d ds => exact hm.elim⟩
theorem tgsCons {e : Expr} {es : List Expr} {m : PV → M Unit} {ms : List PV → M Unit} (hs : isStar e = false) (h1 : TgOk fx e m) (h2 : TgsOk fx es ms) : TgsOk fx (e :: es) (putsCons m ms) := by
  obtain ⟨t, p, a⟩ := h1.ex
  obtain ⟨u, q, b⟩ := h2.ex
  refine ⟨_, pgs_cons p q (by rw [assignEach_plain hs]; rfl), fun F σ H env P E ds vs Q s dv hm hq hx => ?_⟩
  cases ds with
  | nil => exact hm.elim
  | cons d ds =>
    cases dv with
    | cons d1 d2 =>
      exact ⟨_, _, rfl, a F σ H env _ E d _ _ s d1 hm (fun env1 F1 σ1 H1 g sm s1 => b F1 σ1 H1 env1 P E ds _ Q s1 (dpAll_same sm _ d2) g (fun env2 F2 σ2 H2 g2 sm2 s2 => hq env2 F2 σ2 H2 g2 (sm.trans sm2) s2) (hx.later sm)) hx⟩
theorem tgTup {es : List Expr} {ms : List PV → M Unit} (hc : fx.X.calm = true) (hs : es.any isStar = false) (h : TgsOk fx es ms) : TgOk fx (.Tuple es k pos) (putTup es.length ms) := by
  obtain ⟨t, p, a⟩ := h.ex
  refine ⟨_, pg_tup (n := es.length) hc p assignEach_len (assignEach_find hs), fun F σ H env P E d v Q s dv hm hq hx => ?_⟩
  cases d <;> first | exact hm.elim | skip
  rename_i ds
  obtain ⟨hn, hm⟩ := hm
  cases dv with
  | tup hs ha => exact ⟨_, _, rfl, sqT_sub s.c.sub hs, by rw [ha.length, hn], a F σ H env P E ds _ Q s ha hm hq hx⟩
theorem stTg {e tg : Expr} {m : M PV} {mt : PV → M Unit} (hn : noComp e = true) (hs : isStar tg = false) (hw : swappedStores [tg] e fx.X.env = pure none) (hg : TgOk fx tg mt) (h : EOk fx e m) : StOk fx (.Assign [tg] e pos) (m >>= fun d => mt d >>= fun _ => pure .nx) := by
  obtain ⟨t, p, s⟩ := h.ex
  obtain ⟨u, q, a⟩ := hg.ex
  refine ⟨_, ps_asg p q (by exact swaps_no hn) hw (by rw [assignEach_plain hs]; rfl), fun F σ H env P E D so hm q1 q2 q3 q4 hx => ?_⟩
  refine s F σ H env _ E _ so hm (fun d env1 F1 H1 v gg sm le s1 dv => ?_) hx
  exact a F1 σ H1 env1 _ E d v _ s1 dv gg (fun env2 F2 σ2 H2 g2 sm2 s2 => q1 env2 F2 σ2 H2 g2 (sm.sm.trans sm2) s2) (hx.later sm.sm)
end
/-! ### a block that ends in `return [x, y, z]`: a new well -/
/-- the list that is returned is still our own -/
def SimWl (fx : Fx) (t : TS) (m : M Res) : Prop := ∀ (F : Hp) (σ : L2.St) (H : Hp) (env : En) (P : Res → En → Prop) (E : EP') (D : Ends),
  SOk fx F σ H env → m env P E → (∀ r env' F' σ' H' v, P r env' → Same F F' → SOk fx F' σ' H' env' → ResOk fx (fun _ => none) F' σ' H' env' r v → D.rt v H') → ExOk fx F E → t D σ H
structure WlOk (fx : Fx) (sts : List Stmt) (m : M Res) : Prop where
  ex : ∃ t, PSs fx.X sts t ∧ SimWl fx t m
/-- only straight on -/
def onlyNx (m : M Out) (n : M Res) : M Res := fun s P E => m s (fun o s' => match o with
  | .nx => n s' P E
  | _ => False) E
section
variable {fx : Fx} {e : Expr} {st : Stmt} {rest : List Stmt} {m : M Out} {n mr : M Res} {pos : Pos}
theorem wlRet (h : ROk fx e mr) : WlOk fx [.Return (some e) pos] mr := by
  obtain ⟨t, p, s⟩ := h.ex
  refine ⟨_, pss_one (ps_ret p), fun F σ H env P E D so hm q hx => ?_⟩
  exact s F σ H env _ E _ so hm (fun r env1 F1 H1 v g sm le s1 ro => q r env1 F1 σ H1 v g sm.sm s1 (ro.back fun a z => absurd rfl z)) hx
theorem wlCons (h : StOk fx st m) (g : WlOk fx rest n) : WlOk fx (st :: rest) (onlyNx m n) := by
  obtain ⟨t, p, s⟩ := h.ex
  obtain ⟨u, q, r⟩ := g.ex
  refine ⟨_, pss_cons p q, fun F σ H env P E D so hm q2 hx => ?_⟩
  refine s F σ H env _ E _ so hm (fun env1 F1 σ1 H1 g1 sm1 s1 => ?_) (fun _ _ _ _ _ _ z => z.elim) (fun _ _ _ _ z => z.elim) (fun _ _ _ _ z => z.elim) hx
  exact r F1 σ1 H1 env1 P E D s1 g1 (fun r env2 F2 σ2 H2 v g2 sm2 s2 ro => q2 r env2 F2 σ2 H2 v g2 (sm1.trans sm2) s2 ro) (hx.later sm1)
end
/-- a def that makes a well -/
abbrev FnW := List Slot → (Int → Int → Int → Prop) → Prop
structure DOkW (G : Gr) (k : Nat) (f : Addr) (fd : FuncData) (ps : List Str) (D : FnW) : Prop where
  run : ∀ (A : Around) (outer : List Env) (s : Shared) (H : Hp) (args : Args) (us : List Value) (vs : List V) (Q : VK) (E : XK) (F : Hp) (sl : List Slot) (P' : Int → Int → Int → Prop),
    RoomG k A → Env0 G.P G.w G.K G.mg G.base A outer s H → BindsTo s fd args (ps.zip us) → Vals vs us → vs.length = ps.length → CB G.T F H F H → SlsA G F sl vs → D sl P' →
    (∀ x y z F' H' a, P' x y z → CB G.T F H F' H' → H' a = some (.lst [.int x, .int y, .int z]) → F' a = none → H a = none → Q (.ref a) H') →
    codeAny (model G.P G.w) A (.call (.ref f) args) (CR (L2.CX G.P G.w) outer G.P G.w H s Q E) s
def wellP (P : Int → Int → Int → Prop) (r : Res) (_ : En) : Prop := match r with
  | .new [.int x, .int y, .int z] => P x y z
  | _ => False
def fnW (N : List Str) (m : M Res) : FnW := fun sl P => m (startE N sl) (wellP P) NoE
theorem DOkW.of {G : Gr} (g : GrOk G) {k : Nat} {f : Addr} {name qual : Str} {params : Arguments} {body : List Stmt} {scope : Scope} {dV kV doc pm cdv ct oc : Value} {an od : Option Addr} {osl : Array (Option Value)} {N ps : List Str} {m : M Res}
    (lk : G.K.lookup f = some ⟨oc, od, .func (PySem.W.fnOf name qual params body scope dV kV doc pm an cdv ct), osl⟩) (hcd : PySem.W.codeIn G.K cdv qual = true) (S : FnScope N ps scope)
    (hb : ∀ fx : Fx, gr fx = G → Fr fx k → fx.X.N = N → fx.X.env.scope = scope → PassesOwn (model fx.X.prog fx.X.w) fx.X.A fx.X.env fx.X.xe → (∀ y, fx.X.fn y = true) → WlOk fx body m) :
    DOkW G (k + 1) f (PySem.W.fnOf name qual params body scope dV kV doc pm an cdv ct) ps (fnW N m) := by
  refine ⟨fun A outer s H args us vs Q E F sl P' r e0 bt rv hl c sa d hQ => ?_⟩
  refine run_ofS (N := N) lk hcd S r.r e0 bt rv hl fun hr' => ?_
  let fx : Fx := { X := cxOf (L2.CX G.P G.w) G.P G.w G.K G.mg G.base N qual scope f cdv A outer s H E, W := fun cls d _ H => E cls d H, T := G.T, F0 := F, H0 := H, clo := G.clo, cloMono := g.cloMono }
  have fr : Fr fx k := ⟨⟨rfl, S.nd, r.r.hd, r.gd, by have := hr'.un; show (A.deeper _).units + 200 < cLine; omega, g.kt⟩, g, ⟨hr', r.gd⟩, takes_of rfl rfl rfl rfl⟩
  obtain ⟨t, p, sim⟩ := (hb fx rfl fr rfl rfl (passes_of rfl) fun _ => rfl).ex
  refine ⟨t, p, ?_⟩
  have so : SOk fx F (L2.start N vs) H (startE N sl) := sOk_start (fx := fx) c sa
  refine sim F _ H _ _ NoE _ so d (fun r env' F' σ' H' v q sm s' ro => ?_) exOk_no
  unfold wellP at q
  split at q
  · rename_i x y z
    obtain ⟨a, ws, rfl, e1, e2, e3, e4, _⟩ := ro
    obtain ⟨v1, w1, rfl, d1, d2⟩ := DpAll_cons e4
    obtain ⟨v2, w2, rfl, d3, d4⟩ := DpAll_cons d2
    obtain ⟨v3, w3, rfl, d5, d6⟩ := DpAll_cons d4
    cases DpAll_nil d6
    cases d1
    cases d3
    cases d5
    exact hQ x y z F' H' a q s'.c e1 e2 e3
  · exact q.elim
/-- g(f(e, ..)): f makes a well, g gets it -/
def callWell (n : Nat) (Df : FnW) (Dg : FnP) (sl : List Slot) : M PV := fun s P _ => sl.length = n ∧ Df sl fun x y z => (WellN 0 x ∧ WellN 1 y ∧ WellN 2 z) ∧ Dg [.well] (fun d => P d s) NoE
theorem eCallWell {fx : Fx} {k : Nat} {x y : Str} {f g : Addr} {fd gd : FuncData} {ps : List Str} {q' : Str} {Df : FnW} {Dg : FnP} {e : Expr} {es : List Expr} {m : M (List Slot)} {p p2 pos pos2 : Pos} (fr : Fr fx k)
    (hg : Gl fx.X x) (hm : fx.X.mg x = some (.ref f)) (hk : PySem.W.keepIn fx.X.K (.ref f) = true) (Dk : DOkW (gr fx) k f fd ps Df) (hb : ∀ us : List Value, us.length = ps.length → bindArgs fd ⟨us, []⟩ = pure (ps.zip us)) (hdb : (x == ("__debug__" : Str)) = false)
    (hg2 : Gl fx.X y) (hm2 : fx.X.mg y = some (.ref g)) (hk2 : PySem.W.keepIn fx.X.K (.ref g) = true) (Dk2 : DOk (gr fx) k g gd [q'] Dg) (hb2 : ∀ u : Value, bindArgs gd ⟨[u], []⟩ = pure [(q', u)]) (hdb2 : (y == ("__debug__" : Str)) = false)
    (hs : (e :: es).any isStar = false) (ha : LOk fx (e :: es) m) : EOk fx (.Call (.Name y p2) [.Call (.Name x p) (e :: es) [] pos] [] pos2) (m >>= callWell ps.length Df Dg) := by
  obtain ⟨t, pa, sa⟩ := ha.ex
  have hs' := hs
  rw [List.any_cons, Bool.or_eq_false_iff] at hs'
  -- the inner call
  let RW : List V → Hp → VK → Prop := fun vs H Q => ∃ (F : Hp) (sl : List Slot) (P' : Int → Int → Int → Prop), vs.length = ps.length ∧ CB fx.T F H F H ∧ SlsA (gr fx) F sl vs ∧ Df sl P' ∧
    ∀ x y z F' H' a, P' x y z → CB fx.T F H F' H' → H' a = some (.lst [.int x, .int y, .int z]) → F' a = none → H a = none → Q (.ref a) H'
  have pin : PE fx.X (.Call (.Name x p) (e :: es) [] pos) (fun σ H Q => t σ H fun vs H1 => RW vs H1 Q) := by
    refine ⟨fun pins s σ H Q I h => ?_⟩
    refine wpAny_Call_Name_kw (ld_glob I hg hm ?_ hdb)
    refine PySem.W.callWith_K (h₀ := fx.X.base) I.ok.mod.kin hk (thn (pa.run pos pins s σ H _ I h) fun us s1 ⟨vs, H1, I1, r, q⟩ => ⟨I1.kIn, ?_⟩) (starEach_plain hs'.1) (noStars_any hs'.2)
    obtain ⟨F, sl, P', hl, c, sA, d, hQ⟩ := q
    have hl' : us.length = ps.length := by rw [← r.length]; exact hl
    refine wpAny_call (codeAny_mono (Dk.run fx.X.A fx.X.stack s1 H1 ⟨us, []⟩ us vs Q (fun _ _ _ => False) F sl P' fr.room I1.env0 (.of_eq (hb us hl')) r hl c sA d hQ) fun r s' hq => ?_)
    cases r with
    | error e => exact passes_call fr.tk (fun cls d σ H h => h.elim) pins σ H1 s1 e s' I1 hq
    | ok fl =>
      cases fl with
      | ret u => exact I1.after hq
      | next => exact False.elim hq
      | brk => exact False.elim hq
      | cont => exact False.elim hq
  have pout : PE fx.X (.Call (.Name y p2) [.Call (.Name x p) (e :: es) [] pos] [] pos2) (fun σ H Q => tCons (fun σ H Q => t σ H fun vs H1 => RW vs H1 Q) tNil σ H fun vs H1 => RunD (gr fx) fx.W 1 Dg vs H1 Q) := by
    refine ⟨fun pins s σ H Q I h => ?_⟩
    refine wpAny_Call_Name_kw (ld_glob I hg2 hm2 ?_ hdb2)
    refine PySem.W.callWith_K (h₀ := fx.X.base) I.ok.mod.kin hk2 (thn ((pa_cons pin pa_nil rfl).run pos2 pins s σ H _ I h) fun us s1 ⟨vs, H1, I1, r, q⟩ => ⟨I1.kIn, ?_⟩) rfl rfl
    have hl : us.length = 1 := by
      obtain ⟨_, _, _, _, hl, _⟩ := q
      rw [← r.length]; exact hl
    match us, hl, r with
    | [u], _, r => exact run_D (ps := [q']) (us := [u]) fr Dk2 (args := ⟨[u], []⟩) (.of_eq (hb2 u)) I1 r q
  refine ⟨_, pout, fun F σ H env P E Q s hm hq hx => ?_⟩
  refine sa F σ H env _ E _ s hm (fun sl env1 F1 H1 vs gg st le s1 sl1 => ?_) hx
  obtain ⟨hn, gg⟩ := gg
  refine ⟨F1, sl, _, by rw [sl1.length]; exact hn, s1.c.here, sl1, gg, fun x y z F2 H2 a ⟨⟨w1, w2, w3⟩, dg⟩ c ea ef eh => ?_⟩
  -- the list becomes a well
  have smW : Same F2 (upd F2 a wellMark) := same_upd_none ef
  have cW : CB fx.T F1 H1 (upd F2 a wellMark) H2 := by
    refine ⟨fun b o e => ?_, c.f0.trans smW, c.h0, fun b e => ?_, c.mono, c.tabs, fun b o e => ?_⟩
    · by_cases hb : b = a
      · subst hb
        rw [upd_same] at e
        cases e
        exact ⟨fun _ => ⟨x, y, z, ea, w1.1, w2.1, w2.2 rfl, w3.1⟩, fun z => (z rfl).elim⟩
      · rw [upd_ne hb] at e
        exact c.sub b o e
    · by_cases hb : b = a
      · subst hb
        exact .inr eh
      · rw [upd_ne hb] at e
        exact c.fresh b e
    · by_cases hb : b = a
      · subst hb
        rw [upd_same] at e
        cases e
        trivial
      · rw [upd_ne hb] at e
        exact c.tn b o e
  refine ⟨upd F2 a wellMark, [.well], _, NoE, rfl, cW.here, .cons ⟨a, rfl, upd_same⟩ .nil, dg, fun d F3 H3 v g3 c3 dv => ?_, fun _ _ _ _ _ z => z.elim⟩
  obtain ⟨st3, s3⟩ := s1.called (cW.back c3)
  exact hq d env1 F3 H3 v g3 (st.tr le st3) le s3 dv
end FS
namespace FS
open PySem PySem.Spec PyProof.Rows L2 LamX
/-! what a result is kept as -/
/-- a result as a name may keep it, and that no name keeps it yet -/
structure Keepable (fx : Fx) (F : Hp) (σ : L2.St) (H : Hp) (env : En) (sl : Slot) (v : V) : Prop where
  ok : SlotOk fx F H sl v
  no : sl.mine → ∀ (l : Nat) (t : Slot), env[l]? = some (some t) → t.mine → σ[l]? ≠ some (some v)
theorem keep_back {σ : L2.St} {env env2 : En} {v : V} (le : EnLe env env2) (h : ∀ (l : Nat) (t : Slot), env[l]? = some (some t) → t.mine → σ[l]? ≠ some (some v)) : ∀ (l : Nat) (t : Slot), env2[l]? = some (some t) → t.mine → σ[l]? ≠ some (some v) := fun l t e m => by
  rcases le.2 l with z | ⟨_, _, z⟩
  · exact h l t (by rw [← z]; exact e) m
  · rw [z] at e
    cases e
    exact m.elim
theorem Keepable.later {fx : Fx} {F H F2 H2 : Hp} {σ : L2.St} {env env2 : En} {sl : Slot} {v : V} (k : Keepable fx F σ H env sl v) (st : Stp F H σ env F2 H2) (le : EnLe env env2) : Keepable fx F2 σ H2 env2 sl v := by
  refine ⟨?_, fun m => keep_back le (k.no m)⟩
  cases sl with
  | val d => exact dp_same st.sm d k.ok
  | own xs =>
    obtain ⟨a, vs, rfl, e1, e2, e3, e4, e5⟩ := k.ok
    obtain ⟨k1, k2⟩ := st.keep a _ e1 e2 (fun ps z => by cases z) fun ⟨l, zs, h1, h2⟩ => k.no trivial l _ h1 trivial h2
    exact ⟨a, vs, rfl, k1, k2, e3, dpAll_same st.sm _ e4, e5⟩
  | well =>
    obtain ⟨a, rfl, e⟩ := k.ok
    exact ⟨a, rfl, st.sm _ _ e⟩
  | clo i cs => exact fx.cloMono _ _ _ _ _ st.sm k.ok
  | dic p =>
    obtain ⟨a, o, rfl, e1, e2, e3, e4⟩ := k.ok
    obtain ⟨k1, k2⟩ := st.keep a _ e1 e2 e4.tbl fun ⟨l, zs, h1, h2⟩ => k.no trivial l _ h1 trivial h2
    exact ⟨a, o, rfl, k1, k2, e3, e4.same st.sm⟩
  | dcf p => exact DcF.same st.sm k.ok
/-! forms that printed proofs use -/
/-- a name that may be stored -/
structure LocOk (fx : Fx) (i : Nat) (x : Str) : Prop where
  at_ : fx.X.N[i]? = some x
  loc : Loc fx.X.env.scope x
  fn : fx.X.fn x = true ∨ fx.X.env.scope.names.lookup x = some .local
section
variable {fx : Fx} {i j : Nat} {x y : Str} {p pos p2 p3 p4 : Pos} {e a b : Expr} {m ma mb : M Res} {k k2 : Nat}
theorem rNm (n : NameOk fx i x) : ROk fx (.Name x p) (rdM i) := rName n.at_ n.vis n.d1 n.d2
theorem sSet (hd : fx.X.N.Nodup) (n : LocOk fx i x) (hn : noComp e = true) (h : ROk fx e m) : StOk fx (.Assign [.Name x p] e pos) (m >>= setM i) := stSet hn hd n.at_ n.loc n.fn h
theorem sSetX {mx : M PV} (hd : fx.X.N.Nodup) (n : LocOk fx i x) (hn : noComp e = true) (h : XOk fx e mx) : StOk fx (.Assign [.Name x p] e pos) (mx >>= fun d => setM i (.val d)) := stSetX hn hd n.at_ n.loc n.fn h
theorem gNm (hd : fx.X.N.Nodup) (n : LocOk fx i x) : GOk fx (.Name x pos) (.name i) := gName' hd n.at_ n.loc n.fn
theorem tNm (hd : fx.X.N.Nodup) (n : LocOk fx i x) : TgOk fx (.Name x pos) (putN i) := tgName hd n.at_ n.loc n.fn
/-- an own list of a name is handed out, a new one stays new -/
def toN : Res → M Res
  | .val d => M.ok (.val d)
  | .new xs => M.ok (.new xs)
  | .bor i xs => fun s P _ => P (.val (.list xs)) (s.set i (some (.val (.list xs))))
  | .dnew kv => M.ok (.dnew kv)
  | .dcf kv => M.ok (.dcf kv)
theorem SimR.toN {t : TE} (h : SimR fx t m) : SimR fx t (m >>= FS.toN) := by
  intro F σ H env P E Q s hm hq hx
  refine h F σ H env _ E Q s hm (fun r env' F' H' v q sm le s' ro => ?_) hx
  cases r with
  | val d => exact hq _ env' F' H' v q sm le s' ro
  | new xs => exact hq _ env' F' H' v q sm le s' ro
  | dnew xs => exact hq _ env' F' H' v q sm le s' ro
  | dcf xs => exact hq _ env' F' H' v q sm le s' ro
  | bor i xs =>
    obtain ⟨F2, sm2, le2, s2, d2⟩ := s'.freeze ro.1 ro.2
    exact hq _ _ F2 H' v q (sm.tr le sm2) (le.trans le2) s2 d2
/-- what a name holds then -/
def slotOf : Res → Option Slot
  | .val d => some (.val d)
  | .new xs => some (.own xs)
  | .bor _ _ => none
  | .dnew kv => some (.dic kv)
  | .dcf kv => some (.dcf kv)
def set2M (i j : Nat) (r q : Res) : M Out := fun s P _ => match slotOf r, slotOf q with
  | some a, some b => P .nx ((s.set i (some a)).set j (some b))
  | _, _ => False
theorem set2_run {i j : Nat} {r q : Res} {s : En} {P : Out → En → Prop} {E : EP'} (h : set2M i j r q s P E) : ∃ a b, slotOf r = some a ∧ slotOf q = some b ∧ P .nx ((s.set i (some a)).set j (some b)) := by
  cases r <;> cases q <;> first | exact h.elim | exact ⟨_, _, rfl, rfl, h⟩
theorem res_keep {fx : Fx} {Hs F : Hp} {σ : L2.St} {H : Hp} {env : En} {r : Res} {v : V} {sl : Slot} (so : SOk fx F σ H env) (ro : ResOk fx Hs F σ H env r v) (e : slotOf r = some sl) : Keepable fx F σ H env sl v ∧ (sl.mine → ∃ a, v = .ref a ∧ Hs a = none ∧ H a ≠ none) := by
  cases r with
  | bor _ _ => cases e
  | val d =>
    cases e
    exact ⟨⟨ro, fun z => z.elim⟩, fun z => z.elim⟩
  | new xs =>
    cases e
    obtain ⟨a, vs, rfl, e1, e2, e3, e4, e5, e6, e7⟩ := ro
    exact ⟨⟨⟨a, vs, rfl, e1, e2, e3, e4, e5⟩, fun _ => so.noMine e1 e7⟩, fun _ => ⟨a, rfl, e6, by rw [e1]; simp⟩⟩
  | dnew kv =>
    cases e
    obtain ⟨a, o, rfl, e1, e2, e3, e4, e6, e7⟩ := ro
    exact ⟨⟨⟨a, o, rfl, e1, e2, e3, e4⟩, fun _ => so.noMineD e1 e4 e7⟩, fun _ => ⟨a, rfl, e6, by rw [e1]; simp⟩⟩
  | dcf kv =>
    cases e
    exact ⟨⟨ro, fun z => z.elim⟩, fun z => z.elim⟩
theorem par2_set {fx : Fx} {F H : Hp} {σ : L2.St} {env : En} {i j : Nat} {sl1 sl2 : Slot} {v w : V} (k : SOk fx F σ H env) (o1 : Keepable fx F σ H env sl1 v) (o2 : Keepable fx F σ H env sl2 w) (ne12 : sl1.mine → sl2.mine → v ≠ w) :
    SOk fx F ((σ.set i (some v)).set j (some w)) H ((env.set i (some sl1)).set j (some sl2)) := by
  have e1 := k.set (i := i) o1.ok fun m l t _ h n => o1.no m l t h n
  exact e1.set (i := j) o2.ok fun m l t hm h n => by
    rcases set_get h with ⟨rfl, h, hi⟩ | ⟨hne, h⟩
    · cases h
      rw [List.getElem?_set_self (by rw [← k.len]; exact hi)]
      intro z
      cases z
      exact ne12 n m rfl
    · rw [List.getElem?_set_ne hne]
      exact o2.no m l t h n
/-- a, b = x, y -/
theorem sPar (hc : fx.X.calm = true) (hN : fx.X.N.Nodup) (n1 : LocOk fx i x) (n2 : LocOk fx j y) (hij : i ≠ j) (hx : fx.X.env.scope.names.lookup x = some .local) (hy : fx.X.env.scope.names.lookup y = some .local)
    (hw : swappedStores [.Tuple [.Name x p, .Name y p2] k p3] (.Tuple [a, b] k2 p4) fx.X.env = pure (some [x, y])) (hs : swapsWithSole [.Tuple [.Name x p, .Name y p2] k p3] (.Tuple [a, b] k2 p4) pos.line fx.X.env = pure false)
    (s1 : isStar a = false) (s2 : isStar b = false) (ha : ROk fx a ma) (hb : ROk fx b mb) :
    StOk fx (.Assign [.Tuple [.Name x p, .Name y p2] k p3] (.Tuple [a, b] k2 p4) pos) ((ma >>= toN) >>= fun r => (mb >>= toN) >>= fun q => set2M i j r q) := by
  obtain ⟨ta, pa, sa⟩ := ha.ex
  obtain ⟨tb, pb, sb⟩ := hb.ex
  refine ⟨_, ps_par hc hN n1.at_ n2.at_ hij hx hy (pa_cons pa (pa_cons pb pa_nil (starEach_plain s2)) (starEach_plain s1)) hw hs, fun F σ H env P E D so hm q1 q2 q3 q4 hx => ?_⟩
  refine SimR.toN sa F σ H env _ E _ so hm (fun r env1 F1 H1 v g st le sk ro => ?_) hx
  refine SimR.toN sb F1 σ H1 env1 _ E _ sk g (fun q env2 F2 H2 w g2 st2 le2 sk2 ro2 => ?_) (hx.later st.sm)
  refine ⟨v, w, rfl, ?_⟩
  obtain ⟨sl1, sl2, er, eq, g3⟩ := set2_run g2
  obtain ⟨o1, f1⟩ := res_keep sk ro er
  obtain ⟨o2, f2⟩ := res_keep sk2 ro2 eq
  have o1 := o1.later st2 le2
  refine q1 _ F2 _ H2 g3 (st.sm.trans st2.sm) (par2_set sk2 o1 o2 fun h1 h2 z => ?_)
  obtain ⟨a1, rfl, _, h4⟩ := f1 h1
  obtain ⟨a2, rfl, h5, _⟩ := f2 h2
  cases z
  exact h4 h5
end
/-! ### the program's defs, by name -/
structure DefOk (G : Gr) (x : Str) (k : Nat) (ps : List Str) (params : Arguments) (body : List Stmt) (scope : Scope) (D : FnP) : Prop where
  ex : ∃ f fd, G.mg x = some (.ref f) ∧ FunD G.K x x params body scope [] [] f fd ∧ DOk G k f fd ps D
structure DefOkW (G : Gr) (x : Str) (k : Nat) (ps : List Str) (params : Arguments) (body : List Stmt) (scope : Scope) (D : FnW) : Prop where
  ex : ∃ f fd, G.mg x = some (.ref f) ∧ FunD G.K x x params body scope [] [] f fd ∧ DOkW G k f fd ps D
theorem DefOk.mono {G : Gr} {x : Str} {j k : Nat} {ps : List Str} {params : Arguments} {body : List Stmt} {scope : Scope} {D : FnP} (h : DefOk G x j ps params body scope D) (hk : j ≤ k) : DefOk G x k ps params body scope D := by
  obtain ⟨f, fd, a, b, c⟩ := h.ex
  exact ⟨f, fd, a, b, c.mono hk⟩
theorem DOkW.mono {G : Gr} {j k : Nat} {f : Addr} {fd : FuncData} {ps : List Str} {D : FnW} (h : DOkW G j f fd ps D) (hk : j ≤ k) : DOkW G k f fd ps D :=
  ⟨fun A outer s H args us vs Q E F sl P' r => h.run A outer s H args us vs Q E F sl P' (r.mono hk)⟩
theorem DefOkW.mono {G : Gr} {x : Str} {j k : Nat} {ps : List Str} {params : Arguments} {body : List Stmt} {scope : Scope} {D : FnW} (h : DefOkW G x j ps params body scope D) (hk : j ≤ k) : DefOkW G x k ps params body scope D := by
  obtain ⟨f, fd, a, b, c⟩ := h.ex
  exact ⟨f, fd, a, b, c.mono hk⟩
/-- positional arguments bind in order -/
def Bd (x : Str) (ps : List Str) (params : Arguments) (body : List Stmt) (scope : Scope) : Prop := ∀ (kV doc pm : Value) (an : Option Addr) (cdv ct : Value) (us : List Value), us.length = ps.length → bindArgs (PySem.W.fnOf x x params body scope .none kV doc pm an cdv ct) ⟨us, []⟩ = pure (ps.zip us)
def BdK (x : Str) (ps : List Str) (params : Arguments) (body : List Stmt) (scope : Scope) (n : Nat) (ks : List Str) : Prop := ∀ (kV doc pm : Value) (an : Option Addr) (cdv ct : Value) (us ws : List Value), us.length = n → ws.length = ks.length →
  bindArgs (PySem.W.fnOf x x params body scope .none kV doc pm an cdv ct) ⟨us, ks.zip ws⟩ = pure (ps.zip (arr ps ks us ws))
section
variable {fx : Fx} {k : Nat} {x : Str} {ps : List Str} {params : Arguments} {body : List Stmt} {scope : Scope} {D : FnP} {e : Expr} {es : List Expr} {kws : List Keyword} {m mk : M (List Slot)} {p pos : Pos}
theorem fun_none {f : Addr} {fd : FuncData} {K : PySem.W.Frag} (F : FunD K x x params body scope [] [] f fd) : ∃ (kV doc pm : Value) (an : Option Addr) (cdv ct : Value), fd = PySem.W.fnOf x x params body scope .none kV doc pm an cdv ct := by
  obtain ⟨oc, od, dV, kV, doc, pm, an, cdv, ct, osl, rfl, lk, hcd, hD, hK⟩ := F.ex
  rcases hD with ⟨_, rfl⟩ | ⟨e, _⟩
  · exact ⟨kV, doc, pm, an, cdv, ct, rfl⟩
  · exact absurd rfl e
theorem cCall (fr : Fr fx k) (d : DefOk (gr fx) x k ps params body scope D) (b : Bd x ps params body scope) (hg : Gl fx.X x) (hdb : (x == ("__debug__" : Str)) = false) (hs : (e :: es).any isStar = false) (ha : LOk fx (e :: es) m) : ROk fx (.Call (.Name x p) (e :: es) [] pos) (m >>= callM ps.length D) := by
  obtain ⟨f, fd, hm, F, Dk⟩ := d.ex
  refine rCall fr hg hm F.kp Dk (fun us hl => ?_) hdb hs ha
  obtain ⟨kV, doc, pm, an, cdv, ct, rfl⟩ := fun_none F
  exact b kV doc pm an cdv ct us hl
theorem cCall0 (fr : Fr fx k) (d : DefOk (gr fx) x k [] params body scope D) (b : Bd x [] params body scope) (hg : Gl fx.X x) (hdb : (x == ("__debug__" : Str)) = false) : ROk fx (.Call (.Name x p) [] [] pos) (callM 0 D []) := by
  obtain ⟨f, fd, hm, F, Dk⟩ := d.ex
  obtain ⟨kV, doc, pm, an, cdv, ct, e⟩ := fun_none F
  refine rCall0 fr hg hm F.kp Dk ?_ hdb
  rw [e]
  exact b kV doc pm an cdv ct [] rfl
theorem cCallK {n : Nat} {ks : List Str} (fr : Fr fx k) (d : DefOk (gr fx) x k ps params body scope D) (b : BdK x ps params body scope n ks) (hg : Gl fx.X x) (hdb : (x == ("__debug__" : Str)) = false) (hks : ∀ env : Env, (backToKw pos (keywordEach kws env)).map (·.1) = ks.map some) (hs : (e :: es).any isStar = false) (ha : LOk fx (e :: es) m) (hkw : KOk fx kws mk) :
    ROk fx (.Call (.Name x p) (e :: es) kws pos) (m >>= fun sl => mk >>= fun zl => M.need (sl.length = n ∧ zl.length = ks.length) >>= fun _ => callM ps.length D (arr ps ks sl zl)) := by
  obtain ⟨f, fd, hm, F, Dk⟩ := d.ex
  refine rCallK fr hg hm F.kp Dk (fun us ws h1 h2 => ?_) hdb hks hs ha hkw
  obtain ⟨kV, doc, pm, an, cdv, ct, rfl⟩ := fun_none F
  exact b kV doc pm an cdv ct us ws h1 h2
theorem cCallK0 {ks : List Str} (fr : Fr fx k) (d : DefOk (gr fx) x k ps params body scope D) (b : BdK x ps params body scope 0 ks) (hg : Gl fx.X x) (hdb : (x == ("__debug__" : Str)) = false) (hks : ∀ env : Env, (backToKw pos (keywordEach kws env)).map (·.1) = ks.map some) (hkw : KOk fx kws mk) :
    ROk fx (.Call (.Name x p) [] kws pos) (mk >>= fun zl => M.need (zl.length = ks.length) >>= fun _ => callM ps.length D (arr ps ks [] zl)) := by
  obtain ⟨f, fd, hm, F, Dk⟩ := d.ex
  refine rCallK0 fr hg hm F.kp Dk (fun ws h2 => ?_) hdb hks hkw
  obtain ⟨kV, doc, pm, an, cdv, ct, rfl⟩ := fun_none F
  exact b kV doc pm an cdv ct [] ws rfl h2
theorem cCallWell {y : Str} {q : Str} {prm2 : Arguments} {bd2 : List Stmt} {sc2 : Scope} {Df : FnW} {p2 pos2 : Pos} (fr : Fr fx k) (d : DefOkW (gr fx) x k ps params body scope Df) (b : Bd x ps params body scope) (hg : Gl fx.X x) (hdb : (x == ("__debug__" : Str)) = false)
    (d2 : DefOk (gr fx) y k [q] prm2 bd2 sc2 D) (b2 : Bd y [q] prm2 bd2 sc2) (hg2 : Gl fx.X y) (hdb2 : (y == ("__debug__" : Str)) = false) (hs : (e :: es).any isStar = false) (ha : LOk fx (e :: es) m) : EOk fx (.Call (.Name y p2) [.Call (.Name x p) (e :: es) [] pos] [] pos2) (m >>= callWell ps.length Df D) := by
  obtain ⟨f, fd, hm, F, Dk⟩ := d.ex
  obtain ⟨g, gd, hm2, F2, Dk2⟩ := d2.ex
  refine eCallWell fr hg hm F.kp Dk (fun us hl => ?_) hdb hg2 hm2 F2.kp Dk2 (fun u => ?_) hdb2 hs ha
  · obtain ⟨kV, doc, pm, an, cdv, ct, rfl⟩ := fun_none F
    exact b kV doc pm an cdv ct us hl
  · obtain ⟨kV, doc, pm, an, cdv, ct, rfl⟩ := fun_none F2
    exact b2 kV doc pm an cdv ct [u] rfl
/-- a def of the law keeps its promise -/
theorem DefOk.of {G : Gr} {N : List Str} {mo : M Out} (g : GrOk G) (h : ∃ f fd, G.mg x = some (.ref f) ∧ FunD G.K x x params body scope [] [] f fd) (S : FnScope N ps scope)
    (hb : ∀ fx : Fx, gr fx = G → Fr fx k → fx.X.N = N → fx.X.env.scope = scope → PassesOwn (model fx.X.prog fx.X.w) fx.X.A fx.X.env fx.X.xe → (∀ y, fx.X.fn y = true) → SsOk fx body mo) : DefOk G x (k + 1) ps params body scope (fnM N mo) := by
  obtain ⟨f, fd, hm, F⟩ := h
  refine ⟨f, fd, hm, F, ?_⟩
  obtain ⟨oc, od, dV, kV, doc, pm, an, cdv, ct, osl, rfl, lk, hcd, _, _⟩ := F.ex
  exact DOk.of g lk hcd S hb
theorem DefOkW.of {G : Gr} {N : List Str} {mo : M Res} (g : GrOk G) (h : ∃ f fd, G.mg x = some (.ref f) ∧ FunD G.K x x params body scope [] [] f fd) (S : FnScope N ps scope)
    (hb : ∀ fx : Fx, gr fx = G → Fr fx k → fx.X.N = N → fx.X.env.scope = scope → PassesOwn (model fx.X.prog fx.X.w) fx.X.A fx.X.env fx.X.xe → (∀ y, fx.X.fn y = true) → WlOk fx body mo) : DefOkW G x (k + 1) ps params body scope (fnW N mo) := by
  obtain ⟨f, fd, hm, F⟩ := h
  refine ⟨f, fd, hm, F, ?_⟩
  obtain ⟨oc, od, dV, kV, doc, pm, an, cdv, ct, osl, rfl, lk, hcd, _, _⟩ := F.ex
  exact DOkW.of g lk hcd S hb
end
end FS
namespace FS
open PySem PySem.Spec PyProof.Rows L2 LamX
/-! the law's own call -/
/-- the ground of a law without lambdas -/
def ground (P : Program) (w : World) (K : PySem.W.Frag) (mg : Str → Option Value) (base : Heap) : Gr := ⟨P, w, K, mg, base, [], fun _ _ _ _ => False⟩
theorem ints_dp {K : PySem.W.Frag} {F : Hp} : ∀ ns : List Int, DpAll K F (ns.map V.int) (ns.map PyData.int)
  | [] => .nil
  | n :: ns => .cons (.int n) (ints_dp ns)
theorem only_cb {H : Hp} (hO : Only H) : CB [] H H H H := by
  have lst : ∀ a o, H a = some o → ∃ ob xs, o = .frz ob (.lst xs) := fun a o e => by
    rcases hO a with z | ⟨ob, xs, z⟩
    · rw [e] at z; cases z
    · rw [e] at z; cases z; exact ⟨ob, xs, rfl⟩
  refine ⟨fun a o e => ⟨fun z => ?_, fun _ => e⟩, Same.refl _, fun _ _ h _ _ => h, fun _ h => .inl h, fun _ h => h, fun p hp => (by cases hp), fun a o e => ?_⟩
  · obtain ⟨ob, xs, rfl⟩ := lst a o e
    cases z
  · obtain ⟨ob, xs, rfl⟩ := lst a o e
    trivial
/-- the promise at the call, over the heap that stands behind the top -/
def RunsAt (P : Program) (w : World) (K : PySem.W.Frag) (mg : Str → Option Value) (fa a : Addr) (ns : List Int) (s₁ : Shared) : Prop :=
  ∀ (base : Heap) (H : Hp), Only H → SqL K H a (ns.map V.int) → Env0 P w K mg base callerA [] s₁ H →
    codeAny (model P w) callerA (.call (.ref fa) ⟨[.ref a], []⟩) (CR (L2.CX P w) [] P w H s₁ (fun v _ => v = .bl true) fun _ _ _ => False) s₁
theorem runs_of {P : Program} {w : World} {K : PySem.W.Frag} {mg : Str → Option Value} {k n : Nat} {fa a : Addr} {fd : FuncData} {x : Str} {D : FnP} {ns : List Int} {s₁ : Shared} (hr : Room k callerA) (hl : ns.length ≤ n) (hb : ∀ (s : Shared) (u : Value), BindsTo s fd ⟨[u], []⟩ [(x, u)])
    (Dk : ∀ base : Heap, K.In base → base.Ns mainGlobals mg → DOk (ground P w K mg base) k fa fd [x] D) (hD : ∀ ns : List Int, ns.length ≤ n → D [.val (.list (ns.map PyData.int))] (fun d => d = .bool true) NoE) : RunsAt P w K mg fa a ns s₁ := by
  intro base H hO hS e0
  have M := e0.mod
  refine (Dk base M.kin M.glob).run callerA [] s₁ H ⟨[.ref a], []⟩ [.ref a] [.ref a] _ _ H [.val (.list (ns.map PyData.int))] _ NoE ⟨hr, rfl⟩ e0 (hb s₁ _) (.cons rfl .nil) rfl (only_cb hO) (.cons (.lst hS (ints_dp ns)) .nil) (hD ns hl) (fun d F' H' v q c dv => ?_) fun _ _ _ _ _ z => z.elim
  subst q
  cases dv
  rfl
theorem cx_no {P : Program} {w : World} {H : Hp} {s : Shared} {e : Value} {s' : Shared} : L2.CX P w [] H s (fun _ _ _ => False) e s' → False := fun ⟨_, _, _, _, _, _, _, _, _, _, _, _, z⟩ => z
/-- from the heap behind the top to the claim's answer -/
theorem law_runs {P : Program} {w : World} {K : PySem.W.Frag} {mg mb : Str → Option Value} {fa a : Addr} {s₁ : Shared} {vs : List Value} {ns : List Int}
    (KX : K.In s₁.heap) (hns : s₁.heap.Ns mainGlobals mg) (hb : s₁.heap.Ns builtinsNs mb) (hbb : ∀ x : Str, x ≠ "__name__" → mb x = bootBuiltins x) (hlim : s₁.heap.NoLimit) (hg : s₁.gens = #[])
    (ha : s₁.heap.get? a = some { cls := .type "list", data := .seq vs.toArray }) (hi : IntsAre vs ns) (hl : ns.length ≤ sizeLine) (R : RunsAt P w K mg fa a ns s₁) :
    codeAny (model P w) callerA (.call (.ref fa) ⟨[.ref a], []⟩) (fun r s' => r = .ok (.ret (.bool true)) ∧ OldK s₁.heap s'.heap ∧ s'.os = s₁.os ∧ AllBare s'.gens) s₁ := by
  have vv := vals_ints hi
  have vl := hi.length
  -- the script alone may be tracked
  have main : ∀ H : Hp, Only H → SqL K H a (ns.map V.int) → HOk P w H s₁.heap → (∀ b, H b ≠ none → b = a) → (H a ≠ none → K.lookup a = none) →
      codeAny (model P w) callerA (.call (.ref fa) ⟨[.ref a], []⟩) (fun r s' => r = .ok (.ret (.bool true)) ∧ OldK s₁.heap s'.heap ∧ s'.os = s₁.os ∧ AllBare s'.gens) s₁ := by
    intro H only sq hok one nk
    have free : ∀ {b : Addr} {o : Obj}, s₁.heap.get? b = some o → b ≠ a → H b = none := fun {b o} _ hne => by
      cases q : H b with
      | none => rfl
      | some u => exact absurd (one b (by rw [q]; simp)) hne
    have down : ∀ {b : Addr} {m : Str → Option Value}, s₁.heap.Ns b m → (hidT s₁.heap H).Ns b m := fun {b m} ⟨o, es, ep, e, d, r⟩ => by
      refine ⟨o, es, ep, hidT_get e (free e fun z => ?_), d, r⟩
      subst z
      rw [ha] at e
      cases e
      cases d
    have kin : K.In (hidT s₁.heap H) := fun b o e => by
      refine hidT_get (KX b o e) ?_
      cases q : H b with
      | none => rfl
      | some u =>
        have z := one b (by rw [q]; simp)
        subst z
        rw [nk (by rw [q]; simp)] at e
        cases e
    have md : Mod K mg (hidT s₁.heap H) := ⟨kin, down hns, ⟨mb, down hb, hbb⟩, let ⟨mc, h1, h2⟩ := hlim; ⟨mc, down h1, h2⟩⟩
    have env0 : Env0 P w K mg (hidT s₁.heap H) callerA [] s₁ H :=
      { frames := rfl, mod := md, bs := fun b o e => of_hidT e, bsz := Nat.le_of_eq (hidT_size _ _), funs := trivial, frf := fun b z => (List.not_mem_nil (show b ∈ ([] : List Addr) from z)).elim, hok := hok, bare := .of_eq hg }
    refine codeAny_mono (R _ H only sq env0) fun r s' h => ?_
    match r, h with
    | .error e, h => exact (cx_no h).elim
    | .ok .next, h => exact False.elim h
    | .ok .brk, h => exact False.elim h
    | .ok .cont, h => exact False.elim h
    | .ok (.ret u), ⟨v, H', os, bare, un, hok', rv, qv⟩ =>
      subst qv
      obtain rfl : u = Value.bool true := rv
      refine ⟨rfl, OldK.of_keep fun b o e => ?_, os, bare⟩
      cases q : H b with
      | none => exact un.keep b o e q (List.not_mem_nil) (List.not_mem_nil)
      | some u =>
        rcases only b with z | ⟨ob, xs, z⟩
        · rw [q] at z; cases z
        · have e1 := (hok b _ z).1
          have e2 := (hok' b _ (un.frzs b ob _ z)).1
          rw [e] at e1
          cases e1
          exact e2
  cases hk : K.lookup a with
  | some o =>
    have e := KX a o hk
    rw [ha] at e
    cases e
    exact main (fun _ => none) (fun _ => .inl rfl) (.inr ⟨_, vs.toArray, _, hk, rfl, rfl, rfl, by rw [List.size_toArray, vl]; exact hl, by simpa using vv⟩) (fun b u z => nomatch z) (fun b z => (z rfl).elim) fun z => (z rfl).elim
  | none =>
    let o : HO := .frz { cls := .type "list", data := .seq vs.toArray } (.lst (ns.map V.int))
    have at_ : ∀ b u, (if b = a then some o else none) = some u → b = a ∧ u = o := fun b u z => by
      by_cases hb : b = a
      · rw [if_pos hb] at z
        exact ⟨hb, (Option.some.inj z).symm⟩
      · rw [if_neg hb] at z
        cases z
    refine main (fun b => if b = a then some o else none) (fun b => ?_) (.inl (.inr ⟨_, if_pos rfl⟩)) (fun b u z => ?_) (fun b z => ?_) fun _ => hk
    · by_cases hb : b = a
      · exact .inr ⟨_, _, if_pos hb⟩
      · exact .inl (if_neg hb)
    · obtain ⟨rfl, rfl⟩ := at_ b u z
      exact ⟨ha, by rw [List.length_map]; exact hl, vs, _, vv, ha⟩
    · by_cases hb : b = a
      · exact hb
      · exact absurd (if_neg hb) z
/-- the walk of a law: facts lead to the promise over every base -/
theorem walk_law {l : PySem.W.OpenLaw} {n k : Nat} {q : Program} {loose : List Str} {XP : (Str → Option Value) → Heap → Prop} {YP : World → Heap → Prop} {d : DefRec} {x : Str} (hn : l.most = some n) (hn2 : n ≤ sizeLine) (hdf : d.params.defaults = []) (hr : Room k callerA)
    (F : ∀ (w : World) (mg : Str → Option Value) (fa : Addr) (h : Heap), YP w h → h.Ns mainGlobals mg → mg d.name = some (.ref fa) →
      ∃ (K : PySem.W.Frag) (fd : FuncData) (D : FnP), K.In h ∧ (∀ (s : Shared) (u : Value), BindsTo s fd ⟨[u], []⟩ [(x, u)]) ∧ (∀ ns : List Int, ns.length ≤ n → D [.val (.list (ns.map PyData.int))] (fun d => d = .bool true) NoE) ∧
        ∀ base : Heap, K.In base → base.Ns mainGlobals mg → DOk (ground l.prog w K mg base) k fa fd [x] D) :
    PySem.W.WalkO q loose XP YP l.row.toRowW d [] (fun f vs => PySem.call f vs) := by
  refine Att.attach_call hn hdf fun w s₀ s₁ mg mb fa o pm cd doc a vs ns G Y ho hd hcd hmg hobj hints hlen hg => ?_
  obtain ⟨K, fd, D, KX, hb, hD, Dk⟩ := F w mg fa _ Y G.T.g hmg
  exact law_runs KX G.T.g G.T.b G.T.builtins G.T.nolimit hg hobj hints (Nat.le_trans hlen hn2) (runs_of hr hlen hb Dk hD)
end FS
namespace FS
open PySem PySem.Spec PyProof.Rows L2 LamX
/-! contexts of printed proofs -/
/-- where a printed proof stands: the law's facts, the names, the scope -/
structure Ctx (Φ : Gr → Nat → Prop) (fx : Fx) (k : Nat) (N : List Str) (sc : Scope) : Prop where
  fr : Fr fx k
  hN : fx.X.N = N
  hs : fx.X.env.scope = sc
  φ : Φ (gr fx) k
/-- .. in a def's body, where a loop may stand -/
structure DCtx (Φ : Gr → Nat → Prop) (fx : Fx) (k : Nat) (N : List Str) (sc : Scope) : Prop extends Ctx Φ fx k N sc where
  po : PassesOwn (model fx.X.prog fx.X.w) fx.X.A fx.X.env fx.X.xe
  hk : sc.kind = .function
  fn : ∀ x, fx.X.fn x = true
def visB (sc : Scope) (x : Str) : Bool := match sc.names.lookup x with
  | some .local | some .cell | some .free => true
  | _ => false
def nmC (N : List Str) (sc : Scope) (i : Nat) (x : Str) : Bool := decide (N[i]? = some x) && visB sc x && !(x == ("__debug__" : Str)) && !(x == ("__classdict__" : Str))
def locB (sc : Scope) (x : Str) : Bool := match sc.names.lookup x with
  | some .local => true
  | _ => false
def lcC (N : List Str) (sc : Scope) (i : Nat) (x : Str) : Bool := decide (N[i]? = some x) && locB sc x
/-- a def's name, a cell of it too -/
def lcD (N : List Str) (sc : Scope) (i : Nat) (x : Str) : Bool := decide (N[i]? = some x) && match sc.names.lookup x with
  | some .local | some .cell => true
  | _ => false
def glC (sc : Scope) (x : Str) : Bool := match sc.names.lookup x with
  | some .globalImplicit => true
  | _ => false
section
variable {Φ : Gr → Nat → Prop} {fx : Fx} {k : Nat} {N : List Str} {sc : Scope} {x : Str} {i : Nat}
theorem Ctx.nm (c : Ctx Φ fx k N sc) (i : Nat) (x : Str) (h : nmC N sc i x = true) : NameOk fx i x := by
  unfold nmC at h
  simp only [Bool.and_eq_true, decide_eq_true_eq, Bool.not_eq_true'] at h
  obtain ⟨⟨⟨h1, h2⟩, h3⟩, h4⟩ := h
  refine ⟨by rw [c.hN]; exact h1, ?_, h3, h4⟩
  rw [c.hs]
  unfold visB at h2
  split at h2 <;> first | exact .inl (by assumption) | exact .inr (.inl (by assumption)) | exact .inr (.inr (by assumption)) | cases h2
theorem Ctx.lc (c : Ctx Φ fx k N sc) (i : Nat) (x : Str) (h : lcC N sc i x = true) : LocOk fx i x := by
  unfold lcC at h
  simp only [Bool.and_eq_true, decide_eq_true_eq] at h
  obtain ⟨h1, h2⟩ := h
  unfold locB at h2
  split at h2
  · rename_i e
    exact ⟨by rw [c.hN]; exact h1, by rw [c.hs]; exact .inl e, by rw [c.hs]; exact .inr e⟩
  · cases h2
theorem DCtx.ld (c : DCtx Φ fx k N sc) (i : Nat) (x : Str) (h : lcD N sc i x = true) : LocOk fx i x := by
  unfold lcD at h
  simp only [Bool.and_eq_true, decide_eq_true_eq] at h
  obtain ⟨h1, h2⟩ := h
  split at h2
  · rename_i e
    exact ⟨by rw [c.hN]; exact h1, by rw [c.hs]; exact .inl e, .inl (c.fn x)⟩
  · rename_i e
    exact ⟨by rw [c.hN]; exact h1, by rw [c.hs]; exact .inr e, .inl (c.fn x)⟩
  · cases h2
theorem Ctx.gl (c : Ctx Φ fx k N sc) (x : Str) (h : glC sc x = true) : Gl fx.X x := by
  unfold glC at h
  show fx.X.env.scope.names.lookup x = _
  rw [c.hs]
  split at h
  · assumption
  · cases h
theorem Ctx.nd (c : Ctx Φ fx k N sc) : fx.X.N.Nodup := c.fr.ok.nd
theorem Ctx.calm (c : Ctx Φ fx k N sc) : fx.X.calm = true := c.fr.ok.calm
theorem Ctx.un (c : Ctx Φ fx k N sc) : fx.X.A.units + 200 < cLine := c.fr.ok.un
/-- in the block of a comprehension -/
theorem Ctx.blk (c : Ctx Φ fx k N sc) (scope : Scope) (s : Shared) (H : Hp) (C : Addr) (cl : List (Str × Addr)) (fp : List Addr) : Ctx Φ (fx.blk s H scope (compEnvC scope cl C fx.X.env) fp) k N (relS scope sc) :=
  ⟨c.fr.blk, c.hN, by show relS scope fx.X.env.scope = _; rw [c.hs], c.φ⟩
theorem Ctx.e {scope : Scope} {e : Expr} {m : M PV} (c : Ctx Φ fx k N sc) (h : ∀ fx' : Fx, Ctx Φ fx' k N (relS scope sc) → EOk fx' e m) : EBk fx scope e m := ⟨fun s H C cl fp => h _ (c.blk scope s H C cl fp)⟩
theorem Ctx.t {scope : Scope} {e : Expr} {m : M Bool} (c : Ctx Φ fx k N sc) (h : ∀ fx' : Fx, Ctx Φ fx' k N (relS scope sc) → TOk fx' e m) : TsBk fx scope [e] m := .one ⟨fun s H C cl fp => h _ (c.blk scope s H C cl fp)⟩
theorem Ctx.g {scope : Scope} {e : Expr} {g : Tg} (c : Ctx Φ fx k N sc) (h : ∀ fx' : Fx, Ctx Φ fx' k N (relS scope sc) → GOk fx' e g) : GBk fx scope e g := ⟨fun s H C cl fp => h _ (c.blk scope s H C cl fp)⟩
/-- [elt for tg in iter if ..], in any context -/
theorem cComp {elt tg iter : Expr} {ifs : List Expr} {scope : Scope} (own : List (Str × Nat)) {pos : Pos} {mi : M (List PV)} {g : Tg} {mt : M Bool} {me : M PV} (c : Ctx Φ fx k N sc) (ok : blkC N sc scope own = true) (hn : noSet iter = true) (hids : g.ids.all ((own.map (·.2)).contains ·) = true) (hi : IOk fx tg iter mi) (hg : GBk fx scope tg g) (ht : TsBk fx scope ifs mt) (he : EBk fx scope elt me) :
    ROk fx (.ListComp elt [⟨tg, iter, ifs, 0⟩] scope pos) (mi >>= lcM (own.map (·.2)) g mt me) := rComp c.calm c.nd (by rw [c.hN, c.hs]; exact ok) hn hids hi hg ht he
/-- name = [..] -/
def scB (sc scope : Scope) (y : Str) : Bool := locB sc y && !(scope.names.any fun (n, k) => n == y && (k == .local || k == .cell))
theorem cSetComp {elt tg iter : Expr} {ifs : List Expr} {scope : Scope} (own : List (Str × Nat)) {pos : Pos} {mi : M (List PV)} {g : Tg} {mt : M Bool} {me : M PV} (i : Nat) (y : Str) {py spos : Pos} (c : DCtx Φ fx k N sc) (hl : (py.line == pos.line) = true) (h : (decide (N[i]? = some y) && scB sc scope y) = true) (ok : blkC N sc scope own = true) (hn : noSet iter = true) (hids : g.ids.all ((own.map (·.2)).contains ·) = true) (hi : IOk fx tg iter mi) (hg : GBk fx scope tg g) (ht : TsBk fx scope ifs mt) (he : EBk fx scope elt me) :
    StOk fx (.Assign [.Name y py] (.ListComp elt [⟨tg, iter, ifs, 0⟩] scope pos) spos) ((mi >>= lcM (own.map (·.2)) g mt me) >>= setM i) := by
  simp only [Bool.and_eq_true, decide_eq_true_eq] at h
  obtain ⟨h1, h2⟩ := h
  unfold scB at h2
  simp only [Bool.and_eq_true, Bool.not_eq_true'] at h2
  obtain ⟨h2, h3⟩ := h2
  have hy : sc.names.lookup y = some .local := by
    unfold locB at h2
    split at h2
    · assumption
    · cases h2
  exact stSetComp (sw_true (by rw [c.hs]; exact c.hk) (by rw [c.hs]; exact hy) hl h3) c.calm c.nd (by rw [c.hN]; exact h1) (by rw [c.hs]; exact hy) (by rw [c.hN, c.hs]; exact ok) hn hids hi hg ht he
/-- name = [..], the name a cell -/
def scF (sc scope : Scope) (y : Str) : Bool := match sc.names.lookup y with
  | some .cell => true
  | _ => false
theorem sw_false {elt : Expr} {gs : List Comprehension} {scope : Scope} {pos py : Pos} {y : Str} {l : Nat} {env : Env} (hy : env.scope.names.lookup y = some .cell) : swapsWith (.ListComp elt gs scope pos) (some (.Name y py)) l env = pure false := by
  have ky : env.kindOf y = some .cell := hy
  unfold swapsWith
  simp only [ky]
  cases env.blockKind <;> rfl
theorem cSetCell {elt : Expr} {scope : Scope} {pos : Pos} {cs : List Comprehension} {m : M Res} (i : Nat) (y : Str) {py spos : Pos} (c : DCtx Φ fx k N sc) (h : (lcD N sc i y && scF sc scope y) = true) (hr : ROk fx (.ListComp elt cs scope pos) m) : StOk fx (.Assign [.Name y py] (.ListComp elt cs scope pos) spos) (m >>= setM i) := by
  simp only [Bool.and_eq_true] at h
  obtain ⟨h1, h2⟩ := h
  have n := c.ld i y h1
  have hy : sc.names.lookup y = some .cell := by
    unfold scF at h2
    split at h2
    · assumption
    · cases h2
  exact stSetComp' (sw_false (by rw [c.hs]; exact hy)) c.nd n.at_ n.loc n.fn hr
/-! swapped stores hang on the scope alone -/
def env0 (sc : Scope) : Env := envOfC default sc 0 0 .none
theorem swapped_scope {ts : List Expr} {v : Expr} {env : Env} {sc : Scope} (h : env.scope = sc) : swappedStores ts v env = swappedStores ts v (env0 sc) := by
  have e1 : env.blockKind = (env0 sc).blockKind := by unfold Env.blockKind; rw [h]; rfl
  have e2 : ∀ x, env.kindOf x = (env0 sc).kindOf x := fun x => by unfold Env.kindOf; rw [h]; rfl
  unfold swappedStores
  simp only [e1, e2]
theorem swaps_scope {v : Expr} {t : Option Expr} {l : Nat} {env : Env} {sc : Scope} (h : env.scope = sc) : swapsWith v t l env = swapsWith v t l (env0 sc) := by
  have e1 : env.blockKind = (env0 sc).blockKind := by unfold Env.blockKind; rw [h]; rfl
  have e2 : ∀ x, env.kindOf x = (env0 sc).kindOf x := fun x => by unfold Env.kindOf; rw [h]; rfl
  have e3 : env.scope.kind = (env0 sc).scope.kind := by rw [h]; rfl
  unfold swapsWith
  simp only [e1, e2, e3]
/-- a, b = x, y, both names local -/
theorem cPar {a b : Expr} {ma mb : M Res} (i j : Nat) (x y : Str) {p p2 p3 p4 pos : Pos} {kt k2 : Nat} (c : DCtx Φ fx k N sc) (h : (lcC N sc i x && lcC N sc j y && decide (i ≠ j)) = true) (hw : swappedStores [.Tuple [.Name x p, .Name y p2] kt p3] (.Tuple [a, b] k2 p4) (env0 sc) = pure (some [x, y]))
    (s1 : isStar a = false) (s2 : isStar b = false) (ha : ROk fx a ma) (hb : ROk fx b mb) :
    StOk fx (.Assign [.Tuple [.Name x p, .Name y p2] kt p3] (.Tuple [a, b] k2 p4) pos) ((ma >>= toN) >>= fun r => (mb >>= toN) >>= fun q => set2M i j r q) := by
  simp only [Bool.and_eq_true, decide_eq_true_eq] at h
  obtain ⟨⟨h1, h2⟩, h3⟩ := h
  have loc : ∀ {i : Nat} {x : Str}, lcC N sc i x = true → fx.X.env.scope.names.lookup x = some .local := fun {i x} h => by
    unfold lcC locB at h
    simp only [Bool.and_eq_true] at h
    obtain ⟨_, h⟩ := h
    rw [c.hs]
    split at h
    · assumption
    · cases h
  exact sPar c.calm c.nd (c.lc i x h1) (c.lc j y h2) h3 (loc h1) (loc h2) (by rw [swapped_scope c.hs]; exact hw) rfl s1 s2 ha hb
/-! module constants -/
theorem rGlobI {i : Int} {p : Pos} (hg : Gl fx.X x) (hm : ∃ t, fx.X.mg x = some (.int i t)) (hd : (x == ("__debug__" : Str)) = false) : ROk fx (.Name x p) (pure (.val (.int i))) := by
  obtain ⟨t, hm⟩ := hm
  exact rGlob hg hm (v := .int i) ⟨t, rfl⟩ (fun F => .int i) hd
theorem rGlobS {z : Str} {p : Pos} (hg : Gl fx.X x) (hm : ∃ t, fx.X.mg x = some (.str z t)) (hd : (x == ("__debug__" : Str)) = false) : ROk fx (.Name x p) (pure (.val (.str z))) := by
  obtain ⟨t, hm⟩ := hm
  exact rGlob hg hm (v := .str z) ⟨t, rfl⟩ (fun F => .str z) hd
theorem rGlobD {d : PV} {p : Pos} (hg : Gl fx.X x) (hm : ∃ a, fx.X.mg x = some (.ref a) ∧ ∀ F, Dp fx.X.K F (.ref a) d) (hd : (x == ("__debug__" : Str)) = false) : ROk fx (.Name x p) (pure (.val d)) := by
  obtain ⟨a, hm, h⟩ := hm
  exact rGlob hg hm (v := .ref a) rfl h hd
/-! a comparison of three -/
theorem tChain2 {op op' : CmpOp} {o o' : PV → PV → M Res} {a b e : Expr} {ma mb me : M PV} {pos : Pos} (h : OpS fx (compareOp op) o) (h' : OpS fx (compareOp op') o') (hm : lastMarks [op, op'] [b, e] = false) (ha : POk fx a ma) (hb : POk fx b mb) (he : POk fx e me) :
    TOk fx (.Compare a [op, op'] [b, e] pos) (ma >>= fun x => mb >>= fun y => (o x y >>= asBool) >>= fun k => if k then (me >>= fun z => o' y z) >>= asBool else pure false) := by
  obtain ⟨r, h1, h2⟩ := h
  obtain ⟨r', h1', h2'⟩ := h'
  obtain ⟨ta, pa, sa⟩ := ha.ex
  obtain ⟨tb, pb, sb⟩ := hb.ex
  obtain ⟨te, pe, se⟩ := he.ex
  refine ⟨_, pt_chain h1 h1' pa pb pe hm, fun F σ H env P E Q s hq0 hq hx => ?_⟩
  refine sa F σ H env _ E _ s hq0 (fun x env1 F1 H1 v q1 st1 le1 s1 p1 => ?_) hx
  refine sb F1 σ H1 env1 _ E _ s1 q1 (fun y env2 F2 H2 u q2 st2 le2 s2 p2 => ?_) (hx.later st1.sm)
  have st12 := st1.tr le1 st2
  have le12 := le1.trans le2
  refine h2 F2 σ H2 env2 _ E _ x y v u s2 (p1.later st2.sm le2 s2) p2 q2 (fun r3 env3 F3 H3 w q3 st3 le3 s3 ro3 => ?_) (hx.later st12.sm)
  cases r3 with
  | bor _ _ => exact q3.elim
  | new _ => exact q3.elim
  | dnew _ => exact q3.elim
  | dcf _ => exact q3.elim
  | val d =>
    cases d <;> first | exact q3.elim | skip
    rename_i k
    cases ro3
    refine ⟨k, rfl, ?_⟩
    have st13 := st12.tr le12 st3
    have le13 := le12.trans le3
    cases k with
    | false => exact ⟨false, rfl, hq false env3 F3 H3 _ q3 st13 le13 s3 rfl⟩
    | true =>
      refine se F3 σ H3 env3 _ E _ s3 q3 (fun z env4 F4 H4 t q4 st4 le4 s4 p4 => ?_) (hx.later st13.sm)
      have st14 := st13.tr le13 st4
      refine h2' F4 σ H4 env4 _ E _ y z u t s4 (((p2.later st3.sm le3 s3)).later st4.sm le4 s4) p4 q4 (fun r5 env5 F5 H5 w5 q5 st5 le5 s5 ro5 => ?_) (hx.later st14.sm)
      cases r5 with
      | bor _ _ => exact q5.elim
      | new _ => exact q5.elim
      | dnew _ => exact q5.elim
      | dcf _ => exact q5.elim
      | val d5 =>
        cases d5 <;> first | exact q5.elim | skip
        cases ro5
        exact ⟨_, rfl, hq _ env5 F5 H5 _ q5 (st14.tr (le13.trans le4) st5) ((le13.trans le4).trans le5) s5 rfl⟩
end
end FS
/-! sorted(xs) of a list or a tuple of data -/
namespace PySem.W
open PySem PySem.Calls PyProof.Rows
section
variable {prog : Program} {w : World} {A : Around} {E : Value → Shared → Prop} {s : Shared} {β : Type} {R : Value → β → Prop} {enc : β → PyData} {vs : List Value} {bs : List β}
theorem sorted_anyseq {l : Addr} {T : String} {o : Obj} {n : Nat} {Q : Value → Shared → Prop} (hT : T = "list" ∨ T = "tuple") (ho : s.heap.get? l = some o) (hc : o.cls = .type T) (hd : o.data = .seq vs.toArray n)
    (e : EachIs R vs bs) (er : EachIs (fun v b => ∃ as, Reads s.heap v (enc b) as) vs bs) (hal : AllAlike (bs.map enc)) (hk : Sortable (bs.map enc)) (hL : bs.length ≤ sizeLine) (hu : ∀ b, b ∈ bs → A.units + 2 + (enc b).depth < cLine)
    (h : ∀ (h1 h' : Heap) m out, (∀ b o', s.heap.get? b = some o' → h1.get? b = some o') → (∀ b o', h1.get? b = some o' → h'.get? b = some o') → h'.get? h1.objs.size = some (seqObj "list" (List.toArray out) m) → EachIs R out (bs.mergeSort (dataLe false enc)) → Q (.ref h1.objs.size) { s with heap := h' }) :
    wpAny (model prog w) A (call (.builtin "sorted") [.ref l]) Q E s := by
  have hL' : vs.length ≤ sizeLine := by rw [e.length]; exact hL
  refine call_function_entry_kw kind_sorted plain_sorted entry_sorted (args_sorted1 _) ?_
  unfold Builtin.«sorted»
  refine wpAny_bind (m := checkCount "sorted" 1 1 _) (wpAny_pure ?_)
  refine wpAny_bind (wpAny_collect_seq l hT ho hc hd (fun h1 k1 => ?_) (by rw [List.size_toArray]; exact hL'))
  show wpAny _ _ (newList vs >>= _) _ _ _
  refine wpAny_bind (wpAny_newList ?_ hL')
  have at1 : (h1.push (seqObj "list" vs.toArray 0)).get? h1.objs.size = some (seqObj "list" vs.toArray 0) := Heap.get?_push_size _ rfl
  have k2 : ∀ b o', s.heap.get? b = some o' → (h1.push (seqObj "list" vs.toArray 0)).get? b = some o' := fun b o' e => Heap.get?_push_of_some _ (k1 b o' e)
  have hlt : ∀ {b o'}, s.heap.get? b = some o' → b ≠ h1.objs.size := fun e z => by
    have := Heap.lt_size (k1 _ _ e)
    rw [z] at this
    exact Nat.lt_irrefl _ this
  refine wpAny_bind (wpAny_holding (wpAny_call_entry_kw slot_list_sort ⟨_, at1, rfl⟩ entry_list_sort ?body (args_list_sort _)))
  case body =>
    have k3 : ∀ b o', s.heap.get? b = some o' → (sortingHeap (h1.push (seqObj "list" vs.toArray 0)) h1.objs.size vs).get? b = some o' := fun b o' e => sortingHeap_old (hlt e) (k2 b o' e)
    have er' : EachIs (fun v b => ∃ as, Reads (sortingHeap (h1.push (seqObj "list" vs.toArray 0)) h1.objs.size vs) v (enc b) as) vs bs := er.mono fun _ _ ⟨as, r⟩ => ⟨as, PyProof.Rows.Reads.keeps k3 r⟩
    have S := SortsAt.data (prog := prog) (w := w) (A := A.in1.in1) (s := { s with heap := sortingHeap (h1.push (seqObj "list" vs.toArray 0)) h1.objs.size vs }) (each_map (R := fun v d => ∃ as, Reads (sortingHeap (h1.push (seqObj "list" vs.toArray 0)) h1.objs.size vs) v d as) enc er') hal hk (bound_map hu)
    show wpAny (model prog w) A.in1.in1 (Builtin.«list.sort» ⟨[.ref h1.objs.size], []⟩) _ _ _
    refine list_sort_vals (s := { s with heap := h1.push (seqObj "list" vs.toArray 0) }) at1 S hL' ?_
    obtain ⟨m, hm⟩ := sortedHeap_at (vs := vs) (out := (sortVals (dataKind (sortingHeap (h1.push (seqObj "list" vs.toArray 0)) h1.objs.size vs) (bs.map enc)) false vs vs).toArray) at1
    have hsz : h1.objs.size < (h1.push (seqObj "list" vs.toArray 0)).objs.size := Heap.lt_size at1
    have k4 : ∀ b o', h1.get? b = some o' → (sortedHeap (h1.push (seqObj "list" vs.toArray 0)) h1.objs.size vs (sortVals (dataKind (sortingHeap (h1.push (seqObj "list" vs.toArray 0)) h1.objs.size vs) (bs.map enc)) false vs vs).toArray).get? b = some o' := fun b o' e => by
      have hb := Heap.lt_size e
      rw [sortedHeap_old (Nat.ne_of_lt hb) (Nat.lt_trans hb hsz)]
      exact Heap.get?_push_of_some _ e
    exact ⟨_, rfl, wpAny_pure ⟨_, rfl, h h1 _ m _ k1 k4 hm (sortVals_data false e er' hal)⟩⟩
end
end PySem.W
namespace FS
open PySem PySem.Spec PyProof.Rows L2 LamX
/-- what a value stands for, told of what is known -/
theorem each_dp {K : PySem.W.Frag} {F : Hp} : ∀ {vs : List V} {us : List Value} {ds : List PV}, Vals vs us → DpAll K F vs ds → PySem.W.EachIs (fun u d => ∃ v, RelV v u ∧ Dp K F v d) us ds
  | _, _, [], .nil, h => by cases h; exact .nil
  | _, _, [], .cons _ _, h => by cases h
  | _, _, d :: ds, .nil, h => by cases h
  | _, _, d :: ds, .cons r t, h => by
    cases h with
    | cons h1 h2 => exact .cons ⟨_, r, h1⟩ (each_dp t h2)
theorem dp_each {K : PySem.W.Frag} {F : Hp} : ∀ {us : List Value} {ds : List PV}, PySem.W.EachIs (fun u d => ∃ v, RelV v u ∧ Dp K F v d) us ds → ∃ vs, Vals vs us ∧ DpAll K F vs ds
  | _, _, .nil => ⟨[], .nil, .nil⟩
  | _, _, .cons ⟨v, r, h⟩ t => by
    obtain ⟨vs, h1, h2⟩ := dp_each t
    exact ⟨v :: vs, .cons r h1, .cons h h2⟩
theorem each_reads {X : Cx} {pins : List (Addr × Obj)} {σ : L2.St} {H : Hp} {s : Shared} (I : Inv X pins σ H s) : ∀ {vs : List V} {us : List Value} {ds : List PV}, Vals vs us → DpAll X.K H vs ds → PySem.W.EachIs (fun u d => ∃ as, Reads s.heap u d as) us ds
  | _, _, [], .nil, h => by cases h; exact .nil
  | _, _, [], .cons _ _, h => by cases h
  | _, _, d :: ds, .nil, h => by cases h
  | _, _, d :: ds, .cons r t, h => by
    cases h with
    | cons h1 h2 => exact .cons (Dp.reads I d _ _ h1 r) (each_reads I t h2)
/-- what sorting asks of the items -/
structure SortOk (ds : List PV) : Prop where
  al : PySem.W.AllAlike ds
  so : PySem.W.Sortable ds
  len : ds.length ≤ sizeLine
  dep : ∀ d ∈ ds, d.depth ≤ 64
def sortedP (ds : List PV) : List PV := ds.mergeSort (PySem.W.dataLe false id)
def rSortF (K : PySem.W.Frag) : List V → Hp → VK → Prop := fun xs H Q => ∃ a vs ds F, xs = [.ref a] ∧ (SqL K H a vs ∨ SqT K H a vs) ∧ DpAll K H vs ds ∧ DpAll K F vs ds ∧ SortOk ds ∧ ∀ p ws, H p = none → DpAll K F ws (sortedP ds) → ws.length ≤ sizeLine → Q (.ref p) (upd H p (.lst ws))
theorem call_sortF {X : Cx} (hu : X.A.units + 200 < cLine) : CallR X (.builtin "sorted") (rSortF X.K) := by
  intro pins s σ H xs us Q I r h
  obtain ⟨a, vs, ds, F, rfl, sq, dH, dF, so, q⟩ := h
  obtain ⟨u, rfl, rx⟩ := vals1 r
  cases rx
  have fin : ∀ {T : String} {o : Obj} {n : Nat} {its : List Value}, (T = "list" ∨ T = "tuple") → s.heap.get? a = some o → o.cls = .type T → o.data = .seq its.toArray n → Vals vs its → wpAny (model X.prog X.w) X.A (call (.builtin "sorted") [.ref a]) (EP X pins σ Q) X.xe s := fun {T o n its} hT ho hc hd rv => by
    refine PySem.W.sorted_anyseq (enc := id) hT ho hc hd (each_dp rv dF) (each_reads I rv dH) (by rw [List.map_id]; exact so.al) (by rw [List.map_id]; exact so.so) so.len (fun d hd => by have := so.dep d hd; show X.A.units + 2 + d.depth < cLine; omega) fun h1 h' m out k1 k2 e eo => ?_
    obtain ⟨ws, r2, d2⟩ := dp_each eo
    have hl : ws.length ≤ sizeLine := by
      have e1 : ws.length = (ds.mergeSort (PySem.W.dataLe false id)).length := d2.length
      rw [e1, List.length_mergeSort]
      exact so.len
    have I1 : Inv X pins σ H { s with heap := h1 } := I.kept (t' := s.toks) k1
    exact ⟨.ref h1.objs.size, _, I1.laid (t' := s.toks) (o := .lst ws) k2 (Nat.le_refl _) ⟨hl, out, m, r2, e⟩, rfl, q _ ws (I1.hok.fresh (Nat.le_refl _)) d2 hl⟩
  rcases sq with sq | sq
  · obtain ⟨its, rv, ⟨o, n, ho, hc, _, hd⟩, _⟩ := I.list sq
    exact fin (.inl rfl) ho hc hd rv
  · obtain ⟨its, rv, ⟨o, ho, hc, n, hd⟩, _⟩ := I.tuple sq
    exact fin (.inr rfl) ho hc hd rv
def sortM (d : PV) : M Res := optM (itemsP d) >>= fun ds s P _ => SortOk ds ∧ P (.new (sortedP ds)) s
theorem cSorted {fx : Fx} (ok : FxOk fx) : Cal1 fx (.builtin "sorted") sortM := by
  refine ⟨_, call_sortF ok.un, fun F σ H env P E Q d v s pv hm hq => ?_⟩
  obtain ⟨ds, e, so, hm⟩ := optM_run hm
  have fin : ∀ {a : Addr} {vs : List V}, v = .ref a → (SqL fx.X.K H a vs ∨ SqT fx.X.K H a vs) → DpAll fx.X.K F vs ds → rSortF fx.X.K [v] H Q := fun {a vs} e1 sq da => by
    refine ⟨a, vs, ds, F, by rw [e1], sq, dpAll_sub s.c.sub _ da, da, so, fun p ws np dw hl => ?_⟩
    obtain ⟨sm, s1, r1⟩ := s.newLst np dw hl
    exact hq _ env F _ _ hm sm (EnLe.refl _) s1 (r1 H np)
  cases d <;> first | (cases e; done) | skip
  · cases e
    obtain ⟨a, vs, e1, sq, da⟩ := pv.lst s
    exact fin e1 (.inl sq) da
  · cases e
    obtain ⟨a, vs, e1, sq, da⟩ := pv.tup s
    exact fin e1 (.inr sq) da
end FS
namespace FS
open PySem PySem.Spec PyProof.Rows L2 LamX
/-! len(set(t)), t a tuple of ints -/
/-- each item once -/
def once : List Int → List Int
  | [] => []
  | a :: r => if r.contains a then once r else a :: once r
theorem once_mem (k : Int) : ∀ ns : List Int, k ∈ once ns ↔ k ∈ ns
  | [] => Iff.rfl
  | a :: r => by
    unfold once
    have ih := once_mem k r
    cases h : r.contains a with
    | true =>
      have h : a ∈ r := by simpa using h
      simp only [if_true, ih, List.mem_cons]
      exact ⟨.inr, fun z => z.elim (fun e => e ▸ h) id⟩
    | false => simp only [Bool.false_eq_true, if_false, List.mem_cons, ih]
theorem once_nodup : ∀ ns : List Int, (once ns).Nodup
  | [] => List.nodup_nil
  | a :: r => by
    unfold once
    cases h : r.contains a with
    | true => simpa using once_nodup r
    | false =>
      have h : a ∉ r := by simpa using h
      simp only [Bool.false_eq_true, if_false]
      exact List.nodup_cons.mpr ⟨fun z => h ((once_mem a r).mp z), once_nodup r⟩
theorem once_le : ∀ ns : List Int, (once ns).length ≤ ns.length
  | [] => Nat.le_refl _
  | a :: r => by
    unfold once
    have ih := once_le r
    cases h : r.contains a with
    | true => simp only [if_true, List.length_cons]; omega
    | false => simp only [Bool.false_eq_true, if_false, List.length_cons]; omega
theorem dedup_len {ks ns : List Int} (hn : ks.Nodup) (h : ∀ k, k ∈ ns ↔ k ∈ ks) : ks.length = (once ns).length :=
  ((List.perm_ext_iff_of_nodup hn (once_nodup ns)).mpr fun k => by rw [once_mem]; exact (h k).symm).length_eq
def tLenSetT (K : PySem.W.Frag) (ta : TE) : TE := fun σ H Q => ta σ H fun x H1 => ∃ (l : Addr) (ns : List Int), x = .ref l ∧ SqT K H1 l (ns.map V.int) ∧ ns.length < 4000 ∧ Q (.int ((once ns).length : Nat)) H1
theorem pe_lenSetT {X : Cx} {a : Expr} {ta : TE} {p p2 q pos : Pos} (hg : Gl X "len") (hm : X.mg "len" = none) (hg2 : Gl X "set") (hm2 : X.mg "set" = none) (ha : PE X a ta) (hc : X.calm = true) (na : isStar a = false) :
    PE X (.Call (.Name "len" p) [.Call (.Name "set" p2) [a] [] q] [] pos) (tLenSetT X.K ta) := by
  refine ⟨fun pins s σ H Q I h => Call_ (ld_blt I hg hm PySem.boot_len (PyProof.Rows.callWith_builtin1 (PyProof.Rows.args_cons (Call_ (ld_blt I hg2 hm2 PyProof.Rows.boot_set ?_)) rfl) rfl rfl))⟩
  refine PyProof.Rows.callWith_type1 (PyProof.Rows.args_cons (thn (ha.run pins s σ H _ I h) fun v s1 ⟨x, H1, I1, rx, l, ns, ex, sq, hz, q1⟩ => PyProof.Rows.args_nil ?_) (starEach_plain na)) (starEach_plain na) rfl
  subst ex
  cases rx
  obtain ⟨its, r, tp, _⟩ := I1.tuple sq
  have hit : IntsAre its.toArray.toList ns := by simpa using L2.intsAre_of r
  refine call_set_tupI ns (I1.ok.hd hc) tp hit (by unfold scanBound; omega) fun h' tk c R _ hk => PyProof.Rows.args_nil ?_
  obtain ⟨o, es, ep, t, ho, hex, hd, _, nd, mem, _, hf, hn, _⟩ := R
  have hc' : es.size = (once ns).length := by
    have e := dedup_len (ns := ns) nd fun k => by rw [← mem k]; simp
    rw [← e, List.length_map, Array.length_toList]
  have hle : (once ns).length ≤ ns.length := by
    exact once_le ns
  have I2 : Inv X pins σ H1 { s1 with heap := h', toks := tk } := I1.kept hk
  exact call_len_set ho hex hd hf (by rw [hc']; omega) ⟨.int ((once ns).length : Nat), H1, I2.tok _, ⟨_, by rw [hc']⟩, q1⟩
def lenSetM (d : PV) : M Res := match d with
  | .tuple xs => optM (intsP xs) >>= fun ns s P _ => ns.length < 4000 ∧ P (.val (.int ((once ns).length : Nat))) s
  | _ => M.fail
theorem rLenSet {fx : Fx} {a : Expr} {ma : M PV} {p p2 q pos : Pos} (hc : fx.X.calm = true) (hg : Gl fx.X "len") (hm : fx.X.mg "len" = none) (hg2 : Gl fx.X "set") (hm2 : fx.X.mg "set" = none) (na : isStar a = false) (ha : POk fx a ma) : ROk fx (.Call (.Name "len" p) [.Call (.Name "set" p2) [a] [] q] [] pos) (ma >>= lenSetM) := by
  obtain ⟨ta, pa, sa⟩ := ha.ex
  refine ⟨_, pe_lenSetT hg hm hg2 hm2 pa hc na, fun F σ H env P E Q s hm hq hx => ?_⟩
  refine sa F σ H env _ E _ s hm (fun d env1 F1 H1 v g st le s1 p1 => ?_) hx
  cases d <;> first | exact g.elim | skip
  obtain ⟨ns, e, hz, g⟩ := optM_run g
  obtain ⟨l, vs, rfl, sq, da⟩ := p1.tup s1
  rw [ints_v da e] at sq
  exact ⟨l, ns, rfl, sq, hz, hq _ env1 F1 H1 _ g st le s1 (.int _)⟩
end FS
namespace FS
open PySem PySem.Spec PyProof.Rows L2 LamX
/-! t[::-1] -/
theorem places_rev (n : Nat) : Builtin.Slice.slicePlaces ((n : Int) - 1) (-1) (-1) = n := by
  unfold Builtin.Slice.slicePlaces
  rw [if_neg (by decide)]
  by_cases h : n = 0
  · subst h
    rfl
  · rw [if_pos (by omega)]
    have : ((n : Int) - 1 - -1 - 1) / - -1 + 1 = n := by
      rw [show (- -1 : Int) = 1 by decide, Int.ediv_one]
      omega
    rw [this]
    omega
theorem fm_congr {α β : Type} {f g : α → Option β} : ∀ {l : List α}, (∀ x ∈ l, f x = g x) → l.filterMap f = l.filterMap g
  | [], _ => rfl
  | x :: l, h => by
    rw [List.filterMap_cons, List.filterMap_cons, h x (List.mem_cons_self ..), fm_congr fun y hy => h y (List.mem_cons_of_mem _ hy)]
theorem pick_rev (xs : Array Value) : ((List.range xs.size).filterMap fun (m : Nat) => xs[(((xs.size : Nat) : Int) - 1 + (m : Int) * -1).toNat]?).toArray = xs.toList.reverse.toArray := by
  have e : ∀ m ∈ List.range xs.size, xs[(((xs.size : Nat) : Int) - 1 + (m : Int) * -1).toNat]? = xs[xs.size - 1 - m]? := fun m hm => by
    have := List.mem_range.mp hm
    have : (((xs.size : Nat) : Int) - 1 + (m : Int) * -1).toNat = xs.size - 1 - m := by omega
    rw [this]
  rw [fm_congr e]
  have : (List.range xs.size).filterMap (fun m => xs[xs.size - 1 - m]?) = ((List.range xs.size).map fun k => xs.size - 1 - k).filterMap (xs[·]?) := by
    rw [List.filterMap_map]
    rfl
  rw [this, PySem.W.krv_range, List.filterMap_reverse, PySem.W.krv_all]
section
variable {prog : Program} {w : World} {A : Around} {E : Value → Shared → Prop} {s : Shared}
theorem sliceApplied_rev {sl : Addr} {vs : Value} {n : Nat} {Q : Int × Int × Nat → Shared → Prop} (hs : s.heap.IsSliceOf sl .none .none vs) (ps : IsPart vs (some (-1)))
    (h : Q ((n : Int) - 1, -1, n) s) : wpAny (model prog w) A (Builtin.Slice.sliceApplied (.ref sl) (pure (n : Int))) Q E s := by
  obtain ⟨os, hos, hcs, hds⟩ := id hs
  unfold Builtin.Slice.sliceApplied Builtin.Slice.sliceFields
  refine wpAny_bind (wpAny_bind (wpAny_field hos hds (x := .none) rfl (wpAny_bind (wpAny_field hos hds (x := .none) rfl (wpAny_bind (wpAny_field hos hds (x := vs) rfl (wpAny_pure ?_)))))))
  refine wpAny_bind (HT.slicePart_ ps ?_)
  show wpAny _ _ (if ((-1 : Int) == 0) = true then _ else _) _ _ s
  rw [if_neg (by decide)]
  refine wpAny_bind (HT.slicePart_ .none (wpAny_bind (HT.slicePart_ .none (wpAny_bind (wpAny_pure ?_)))))
  show wpAny _ _ (pure ((n : Int) - 1, (-1 : Int), Builtin.Slice.slicePlaces ((n : Int) - 1) (-1) (-1))) _ _ s
  rw [places_rev]
  exact wpAny_pure h
theorem getItem_tuple_rev {t sl : Addr} {items : Array Value} {vs : Value} {Q : Value → Shared → Prop} (ht : IsTup s.heap t items) (hs : s.heap.IsSliceOf sl .none .none vs) (ps : IsPart vs (some (-1)))
    (h : Q (.ref s.heap.objs.size) { s with heap := s.heap.push { cls := .type "tuple", data := .seq items.toList.reverse.toArray } })
    (hsz : items.size ≤ sizeLine) : wpAny (model prog w) A (getItem (.ref t) (.ref sl)) Q E s := by
  have htake : sizeOk (.seq items.toList.reverse.toArray) := by
    show items.toList.reverse.toArray.size ≤ sizeLine
    rw [List.size_toArray, List.length_reverse, Array.length_toList]
    exact hsz
  obtain ⟨os, hos, hcs, hds⟩ := id hs
  have hTs : s.TypeIs (.ref sl) "slice" := ⟨os, hos, hcs⟩
  unfold getItem
  try with_reducible refine wpAny_holding ?_
  first | refine wpAny_bind (wpAny_pure ?_) | skip
  refine wpAny_bind (wpAny_sequenceKey ht.typeIs (by decide) ?_)
  refine wpAny_bind (wpAny_callSpecial?_slot (name := Str.ofString "__getitem__") ht.typeIs PyProof.Rows.slot_tuple_getitem
    (wpAny_call_entry PyProof.Rows.slot_tuple_getitem ht.typeIs entry_tuple_getitem ?_ (args_tuple_getitem _ _)))
  show wpAny _ _ (Builtin.Tuple.tupleItemsOf (.ref t) >>= _) _ _ s
  refine wpAny_bind (tupleItemsOf_ ht ?_)
  refine wpAny_bind (wpAny_typeOf hTs ?_)
  rw [if_pos (by decide)]
  refine wpAny_bind (sliceApplied_rev hs ps ?_)
  have hno : ¬ ((((items.size : Nat) : Int) - 1 == 0 && (-1 : Int) == 1 && items.size == items.size) = true) := by
    rw [show ((-1 : Int) == 1) = false by decide, Bool.and_false, Bool.false_and]
    exact Bool.false_ne_true
  show wpAny _ _ (if (((items.size : Nat) : Int) - 1 == 0 && (-1 : Int) == 1 && items.size == items.size) = true then _ else _) _ _ s
  rw [if_neg hno, pick_rev]
  first
    | exact wpAny_bind (m := Builtin.Tuple.tupleExact _) (wpAny_newObj_type (wpAny_pure ⟨_, rfl, wpAny_pure h⟩) htake)
    | exact wpAny_bind (m := Builtin.Tuple.tupleExact _) (wpAny_newObj_type (wpAny_bind (wpAny_pure (wpAny_pure ⟨_, rfl, wpAny_pure h⟩))) htake)
    | exact wpAny_bind (wpAny_bind (m := Builtin.Tuple.tupleExact _) (wpAny_newObj_type (wpAny_pure (wpAny_pure ⟨_, rfl, wpAny_pure h⟩)) htake))
    | exact wpAny_bind (wpAny_bind (m := Builtin.Tuple.tupleExact _) (wpAny_newObj_type (wpAny_pure ⟨_, rfl, wpAny_pure h⟩) htake))
end
section
variable {X : Cx}
/-- x[::-1] -/
def tRevA (K : PySem.W.Frag) (te : TE) : TE := fun σ H Q => te σ H fun x H1 => ∃ a xs, x = .ref a ∧ ((SqL K H1 a xs ∧ ∀ p, H1 p = none → Q (.ref p) (upd H1 p (.lst xs.reverse))) ∨
  (SqT K H1 a xs ∧ ∀ p o, H1 p = none → TupHO xs.reverse o → Q (.ref p) (upd H1 p o)))
theorem pe_revA {e : Expr} {te : TE} {k : Nat} {p1 p2 p3 pos : Pos} (he : PE X e te) : PE X (.Subscript e (.Slice none none (some (.UnaryOp .USub (.Constant (.int 1) k p1) p2)) p3) pos) (tRevA X.K te) := by
  refine ⟨fun pins s σ H Q I h => ?_⟩
  refine Subscript_ (thn (he.run pins s σ H _ I h) fun v s1 ⟨x, H1, I1, r1, q1⟩ => ?_)
  obtain ⟨a, xs, ex, q1⟩ := q1
  subst ex
  cases r1
  have hst : PO X (some (.UnaryOp .USub (.Constant (.int 1) k p1) p2)) (tPart (tUn (rU fun i => .int (-i)) (tC (.int 1)))) := po_some (pe_un un_neg pe_int)
  refine wpAny_Slice (thn (po_none.run pins s1 σ H1 (fun o H2 => o = none ∧ H2 = H1) I1 ⟨rfl, rfl⟩) fun vl s2 ⟨l, H2, I2, pl, el, e2⟩ => ?_)
  subst el e2
  refine thn (po_none.run pins s2 σ H2 (fun o H3 => o = none ∧ H3 = H2) I2 ⟨rfl, rfl⟩) fun vu s3 ⟨u, H3, I3, pu, eu, e3⟩ => ?_
  subst eu e3
  refine thn (hst.run pins s3 σ H3 (fun o H4 => o = some (-1) ∧ H4 = H3) I3 ⟨1, rfl, -1, rfl, rfl, rfl⟩) fun vs s4 ⟨o, H4, I4, ps, eo, e4⟩ => ?_
  subst eo e4
  cases pl
  cases pu
  have I5 : Inv X pins σ H4 { s4 with heap := s4.heap.push { cls := .type "slice", data := .fields #[.none, .none, vs] } } := I4.kept (t' := s4.toks) fun b ob q => Heap.get?_push_of_some _ q
  show wpAny (model X.prog X.w) X.A (subscriptTail e (.Slice none none (some (.UnaryOp .USub (.Constant (.int 1) k p1) p2)) p3) (.ref a) (.ref s4.heap.objs.size)) (EP X pins σ Q) X.xe { s4 with heap := s4.heap.push { cls := .type "slice", data := .fields #[.none, .none, vs] } }
  rcases q1 with ⟨hx, q⟩ | ⟨hx, q⟩
  · obtain ⟨its, r, ht, hz⟩ := I5.list hx
    have hlen := r.length
    refine tail_any (ops := [.ref a, .ref s4.heap.objs.size]) ht.isList.typeIs (PySem.slot_list_getitem.lookup) ?_ (by with_unfolding_all rfl)
    refine wpAny_getItem_list_slice ht.isList (Heap.IsSliceOf.new _ .none .none vs) .none .none ps (by decide) ?_ (by rw [List.size_toArray]; omega)
    rw [PySem.W.krv_pick]
    refine ⟨.ref _, _, I5.laid (t' := s4.toks) (o := .lst xs.reverse) (fun b ob q => Heap.get?_push_of_some _ q) (Nat.le_refl _) ?_, rfl, q _ (I5.hok.fresh (Nat.le_refl _))⟩
    exact ⟨by rw [List.length_reverse]; exact hz, _, 0, r.reverse, Heap.get?_push_size _ rfl⟩
  · obtain ⟨its, r, ht, hz⟩ := I5.tuple hx
    have hlen := r.length
    refine tail_any (ops := [.ref a, .ref s4.heap.objs.size]) ht.typeIs (PyProof.Rows.slot_tuple_getitem.lookup) ?_ (by with_unfolding_all rfl)
    refine getItem_tuple_rev ht (Heap.IsSliceOf.new _ .none .none vs) ps ?_ (by rw [List.size_toArray]; omega)
    exact tup_push I5 r.reverse (by rw [List.length_reverse]; exact hz) q
end
def revM (x : PV) : M Res := fun s P _ => match x with
  | .list xs => xs.length ≤ sizeLine ∧ P (.new xs.reverse) s
  | .tuple xs => P (.val (.tuple xs.reverse)) s
  | _ => False
theorem rRev {fx : Fx} {a : Expr} {ma : M PV} {k : Nat} {p1 p2 p3 pos : Pos} (ha : POk fx a ma) : ROk fx (.Subscript a (.Slice none none (some (.UnaryOp .USub (.Constant (.int 1) k p1) p2)) p3) pos) (ma >>= revM) := by
  obtain ⟨ta, pa, sa⟩ := ha.ex
  refine ⟨_, pe_revA pa, fun F σ H env P E Q s hm hq hx => ?_⟩
  refine sa F σ H env _ E _ s hm (fun d env1 F1 H1 x q1 sm1 le1 s1 p1 => ?_) hx
  cases d <;> first | exact q1.elim | skip
  · obtain ⟨a, vs, rfl, sq, da⟩ := p1.lst s1
    refine ⟨a, vs, rfl, .inl ⟨sq, fun p np => ?_⟩⟩
    have zl : vs.reverse.length ≤ sizeLine := by rw [List.length_reverse, da.length]; exact q1.1
    obtain ⟨sm4, s4, r4⟩ := s1.newLst np da.rev zl
    exact hq _ env1 F1 _ _ q1.2 (sm1.tr le1 sm4) le1 s4 ((r4 H1 np).back sm1.mono)
  · obtain ⟨a, vs, rfl, sq, da⟩ := p1.tup s1
    refine ⟨a, vs, rfl, .inr ⟨sq, fun p o np ho => ?_⟩⟩
    obtain ⟨F4, sm4, s4, r4⟩ := s1.newTup np ho da.rev
    exact hq _ env1 F4 _ _ q1 (sm1.tr le1 sm4) le1 s4 r4
end FS
namespace FS
open PySem PySem.Spec PyProof.Rows L2 LamX
/-! len(set(t)), t a tuple of strings -/
def ndR : List Str → Nat
  | [] => 0
  | x :: r => if x ∈ r then ndR r else ndR r + 1
/-- how many unlike strings -/
def nd (l : List Str) : Nat := ndR l.reverse
theorem nd_snoc (l : List Str) (x : Str) : nd (l ++ [x]) = if x ∈ l then nd l else nd l + 1 := by
  unfold nd
  rw [List.reverse_append, List.reverse_singleton, List.singleton_append]
  show (if x ∈ l.reverse then _ else _) = _
  simp only [List.mem_reverse]
theorem ndR_le : ∀ l : List Str, ndR l ≤ l.length
  | [] => Nat.le_refl _
  | x :: r => by
    have := ndR_le r
    unfold ndR
    split <;> simp only [List.length_cons] <;> omega
theorem nd_le (l : List Str) : nd l ≤ l.length := by
  have := ndR_le l.reverse
  rwa [List.length_reverse] at this
section
variable {P : Program} {w : World} {A : Around} {E : Value → Shared → Prop} {s : Shared}
abbrev SS (P : Program) (w : World) (h : Heap) (a : Addr) (l : List Str) : Prop := h.SetOf (strKind P w) a (fun j => decide (j ∈ l)) (nd l)
theorem SS.at {h h' : Heap} {a : Addr} {l : List Str} (R : SS P w h a l) (k : ∀ o, h.get? a = some o → h'.get? a = some o) : SS P w h' a l := by
  obtain ⟨o, es, ep, t, ho, r⟩ := R
  exact ⟨o, es, ep, t, k o ho, r⟩
theorem ss_new {h : Heap} {a : Addr} (ho : h.get? a = some { cls := .type "set", dict := none, data := .set #[] 0 (.fresh 0 0 (!w.params.followText "set-order")) }) : SS P w h a [] :=
  ⟨_, #[], 0, _, ho, ⟨rfl, rfl, rfl⟩, rfl, (fun e he => by simp at he), (fun k => by simp), (by decide), (by rfl), rfl⟩
theorem upd_strs {I : Addr} {fp wr : List Addr} {G : Array GenState → Array GenState → Prop} {n : Nat} {Pv : Nat → Value → Prop} {St : Nat → Shared → Prop} {R : Result → Shared → Prop}
    (W : WalksS P w A.in1 I fp wr G n Pv St) (S : Addr) (hSf : S ∉ fp) (ns : List Str) (hn : n = ns.length) (hb : ns.length + 1 < scanBound) (hval : ∀ i v, Pv i v → ∃ k t, ns[i]? = some k ∧ v = .str k t) :
    ∀ (k i : Nat) (s : Shared), n - i = k → i ≤ n → St i s → SS P w s.heap S (ns.take i) →
      (∀ s', Moved (S :: wr) G s s' → SS P w s'.heap S ns → R (.ok (.ret .none)) s') →
      codeAny (model P w) A (.builtin "set.update.loop" ⟨[.ref S, .ref I], []⟩) R s := by
  have hSw : S ∉ wr := fun h => hSf (W.sub _ h)
  have hsub : ∀ b ∈ wr, b ∈ S :: wr := fun b hb => List.mem_cons_of_mem _ hb
  intro k
  induction k with
  | zero =>
    intro i s hk' hi hst hS hR
    have hin : i = n := by omega
    subst hin
    refine codeAny_builtin F.entry_set_update_loop ?_
    rw [Around.under_plainId F.plain_set_update_loop _]
    show wpAny _ A.in1 (pyNext (.ref I) >>= _) _ _ s
    refine wpAny_bind (W.done s _ _ hst fun s' hm => ?_)
    show wpAny _ A.in1 (ret Value.none) _ _ s'
    have e : ns.take i = ns := List.take_of_length_le (by omega)
    rw [e] at hS
    exact wpAny_pure (hR s' (hm.mono hsub) (hS.at fun o e => hm.heap S o hSw e))
  | succ k ih =>
    intro i s hk' hi hst hS hR
    have hlt : i < n := by omega
    refine codeAny_builtin F.entry_set_update_loop ?_
    rw [Around.under_plainId F.plain_set_update_loop _]
    show wpAny _ A.in1 (pyNext (.ref I) >>= _) _ _ s
    refine wpAny_bind (W.item i s _ _ hlt hst fun v s' hP hst' hm => ?_)
    obtain ⟨z, t, hz, rfl⟩ := hval i v hP
    have hS' : SS P w s'.heap S (ns.take i) := hS.at fun o e => hm.heap S o hSw e
    show wpAny _ A.in1 (holding [Value.str z t] (setAdd S (.str z t)) >>= _) _ _ s'
    refine wpAny_bind (wpAny_holding ?_)
    unfold setAdd
    refine wpAny_holding ?_
    refine wpAny_bind ((strKind P w).pyHash (k := z) (strKind_is _ _ _ _) ?_)
    have room : nd (ns.take i) + 1 < scanBound := by
      have := nd_le (ns.take i)
      rw [List.length_take] at this
      omega
    refine wpAny_setAddHashed_of (s := { s' with toks := s'.toks + 1 }) (knd := strKind P w) (strKind_is _ _ _ _) rfl hS' room fun h' hsb hS2 => ?_
    have hS3 : SS P w h' S (ns.take (i + 1)) := by
      have e1 : ns.take (i + 1) = ns.take i ++ [z] := by rw [List.take_add_one, hz]; rfl
      have e2 : (fun j => decide (j ∈ ns.take i ++ [z])) = fun j => (decide (j ∈ ns.take i) || decide (j = z)) := funext fun j => by
        simp [List.mem_append]
      show h'.SetOf (strKind P w) S (fun j => decide (j ∈ ns.take (i + 1))) (nd (ns.take (i + 1)))
      rw [e1, e2, nd_snoc]
      have e3 : (if decide (z ∈ ns.take i) = true then nd (ns.take i) else nd (ns.take i) + 1) = (if z ∈ ns.take i then nd (ns.take i) else nd (ns.take i) + 1) := by
        simp only [decide_eq_true_eq]
      rw [← e3]
      exact hS2
    refine wpAny_pure ⟨plainId_quiet F.plain_set_update_loop _, ih (i + 1) _ (by omega) hlt (W.frame _ s' _ _ hst' (Nat.le_succ _) fun b hb o e => ?_) hS3 fun s'' hm'' hS'' => ?_⟩
    · rw [hsb.2 b (fun h : b = S => hSf (by rw [← h]; exact hb))]; exact e
    · refine hR s'' (Moved.trans W.gtrans ((hm.mono hsub).then_heap (Nat.le_succ _) fun b o hb e => ?_) hm'') hS''
      rw [hsb.2 b (fun h : b = S => hb (by rw [h]; exact List.mem_cons_self))]; exact e
set_option maxHeartbeats 3200000 in
theorem set_strs {l : Addr} {items : Array Value} (ns : List Str) {Q : Value → Shared → Prop} (hh : A.handled = none) (hl : s.heap.IsTuple l items) (hit : PyProof.Rows.StrsAre items.toList ns) (hb : ns.length + 1 < scanBound)
    (h : ∀ (h' : Heap) (tk : Nat), SS P w h' s.heap.objs.size ns → (∀ b o, s.heap.get? b = some o → h'.get? b = some o) → Q (.ref s.heap.objs.size) { s with heap := h', toks := tk }) :
    wpAny (model P w) A (call (.type "set") [.ref l]) Q E s := by
  have hisz : items.size = ns.length := by
    have q := PyProof.Rows.StrsAre.length hit
    rw [Array.length_toList] at q
    exact q
  obtain ⟨c, tl, hmro⟩ := F.called_set.mro
  have hmade := F.called_set.made
  have hsub := F.called_set.sub
  refine wpAny_call (codeAny_of_tree ?_)
  show wpAny _ _ (callAny (.type "set") _) _ _ _
  refine wpAny_pure ⟨Code.quiet_builtin _ (by decide +kernel), codeAny_builtin F.entry_type_call ?_⟩
  rw [Around.under_plain (weight_type_call_type "set" [.ref l] []) rfl]
  have h1 := F.called_set.notType
  have h2 := F.called_set.canCreate
  have hct := F.typeCall_set_1 (.ref l)
  repeat (any_goals (first | assumption | wp_step))

  refine codeAny_mono (code_set_led1 (.ref l) (E := E) (Q₁ := fun obj s₁ => obj = .ref s.heap.objs.size ∧ s₁ = { s with heap := s.heap.push { cls := .type "set", dict := none, data := .set #[] 0 (.fresh 0 0 (!w.params.followText "set-order")) } }) ⟨rfl, rfl⟩) fun r s₁ hr => ?_
  cases r with
  | error e => exact hr
  | ok fl =>
    cases fl with
    | ret obj =>
      obtain ⟨rfl, rfl⟩ := hr
      have hS : (s.heap.push { cls := .type "set", dict := none, data := .set #[] 0 (.fresh 0 0 (!w.params.followText "set-order")) }).get? s.heap.objs.size = some { cls := .type "set", dict := none, data := .set #[] 0 (.fresh 0 0 (!w.params.followText "set-order")) } := Heap.get?_push_size _ rfl
      have hT : Shared.TypeIs { s with heap := s.heap.push { cls := .type "set", dict := none, data := .set #[] 0 (.fresh 0 0 (!w.params.followText "set-order")) } } (.ref s.heap.objs.size) "set" := ⟨_, hS, rfl⟩
      have hli := F.called_set.init.lookup
      have hbi := F.called_set.init.bind (.ref s.heap.objs.size)
      repeat (any_goals (first | assumption | wp_step))

      refine codeAny_mono (codeAny_call_builtin (R := wants (fun r s₂ => r = .none ∧ ∃ h' tk, s₂ = { s with heap := h', toks := tk } ∧ SS P w h' s.heap.objs.size ns ∧
          (∀ b o, s.heap.get? b = some o → h'.get? b = some o)) E) F.called_set.init.plain F.entry_set_init (check_set_init_1 hT ?_)) fun r₂ s₂ hr₂ => ?_
      · obtain ⟨ol, hol, hcl, nl, hdl⟩ := hl
        obtain ⟨ocls, odict, odata, oslots⟩ := ol
        simp only at hcl hdl
        subst hcl; subst hdl
        have hol' : (s.heap.push { cls := .type "set", dict := none, data := .set #[] 0 (.fresh 0 0 (!w.params.followText "set-order")) }).get? l = some { cls := .type "tuple", dict := odict, data := .seq items nl, slots := oslots } := Heap.get?_push_of_some _ hol
        have hsls := F.sub_tuple_set
        have hslf := F.sub_tuple_frozenset
        have hne : (Value.type "tuple" == Value.type "dict") = false := by decide
        have hl1 : (s.heap.push { cls := .type "set", dict := none, data := .set #[] 0 (.fresh 0 0 (!w.params.followText "set-order")) }).IsTuple l items := ⟨_, hol', rfl, nl, rfl⟩
        unfold Builtin.«set.__init__» noKeywords Builtin.Frozenset.updateFrom
        generalize hPI : pyIter = PI
        wp_walk
        subst hPI

        refine wpAny_pyIter_tuple hl1 ?_
        refine wpAny_bind (wpAny_runValue ?_)
        have hlS : l < s.heap.objs.size := Heap.lt_size hol
        have hh3 : A.in1.in1.in1.handled = none := by simp [hh]
        have hz1 : (s.heap.push { cls := .type "set", dict := none, data := .set #[] 0 (.fresh 0 0 (!w.params.followText "set-order")) }).objs.size = s.heap.objs.size + 1 := Heap.size_push ..
        have hneI : l ≠ (s.heap.push { cls := .type "set", dict := none, data := .set #[] 0 (.fresh 0 0 (!w.params.followText "set-order")) }).objs.size := by
          rw [Heap.size_push]; exact Nat.ne_of_lt (Nat.lt_succ_of_lt hlS)
        have hSf : s.heap.objs.size ∉ [(s.heap.push { cls := .type "set", dict := none, data := .set #[] 0 (.fresh 0 0 (!w.params.followText "set-order")) }).objs.size, l] := by
          rw [Heap.size_push]; simp only [List.mem_cons, List.mem_singleton, List.not_mem_nil, or_false, not_or]
          exact ⟨Nat.ne_of_lt (Nat.lt_succ_self _), Nat.ne_of_gt hlS⟩
        have hval : ∀ (i : Nat) (v : Value), items[i]? = some v → ∃ k t, ns[i]? = some k ∧ v = .str k t := fun i v hv => by
          obtain ⟨y, t, e, hy⟩ := PyProof.Rows.StrsAre.item hit i v (by rw [Array.getElem?_toList]; exact hv)
          exact ⟨y, t, hy, e⟩
        refine upd_strs ((Walks.tuple hh3 _ l hneI items).toS) s.heap.objs.size
          hSf ns hisz hb hval (items.size - 0) 0 _ (by omega) (Nat.zero_le _)
          ⟨⟨_, Heap.get?_push_size _ rfl, rfl, rfl⟩, (hl1.push _)⟩ ?hS0 ?hR
        case hS0 =>
          have hget : ((s.heap.push { cls := .type "set", dict := none, data := .set #[] 0 (.fresh 0 0 (!w.params.followText "set-order")) }).push { cls := .type "tuple_iterator", data := .fields #[.ref l, .int 0 0] }).get? s.heap.objs.size
              = some { cls := .type "set", dict := none, data := .set #[] 0 (.fresh 0 0 (!w.params.followText "set-order")) } := Heap.get?_push_of_some _ hS
          exact ss_new hget
        case hR =>
          intro s' hm hS'
          obtain ⟨h', g2, d', tk', os'⟩ := s'
          have eg : g2 = s.gens := hm.gens
          have ed : d' = s.drawn := hm.drawn
          have eo : os' = s.os := hm.os
          subst eg; subst ed; subst eo
          show wpAny _ _ _ _ _ _
          refine wpAny_pure ?_
          show wpAny _ _ (ret Value.none) _ _ _
          refine wpAny_pure ⟨rfl, h', tk', rfl, hS', fun b o e => ?_⟩
          have hb0 : b < s.heap.objs.size := Heap.lt_size e
          have hb1 : b ≠ s.heap.objs.size := Nat.ne_of_lt hb0
          have hb2 : b ≠ (s.heap.push { cls := .type "set", dict := none, data := .set #[] 0 (.fresh 0 0 (!w.params.followText "set-order")) }).objs.size := by
            rw [Heap.size_push]; exact Nat.ne_of_lt (Nat.lt_succ_of_lt hb0)
          exact hm.heap b o (by simp only [List.mem_cons, List.mem_singleton, List.not_mem_nil, or_false, not_or]; exact ⟨hb1, hb2⟩) (Heap.get?_push_of_some _ (Heap.get?_push_of_some _ e))

      · cases r₂ with
        | error e => exact hr₂
        | ok fl₂ =>
          cases fl₂ with
          | ret r =>
            obtain ⟨rfl, h', tk, rfl, hS', hk'⟩ := hr₂
            repeat (any_goals (first | assumption | wp_step))
            exact h _ _ hS' hk'
          | _ => exact hr₂.elim
    | _ => exact hr.elim

end
def tLenSetS (K : PySem.W.Frag) (ta : TE) : TE := fun σ H Q => ta σ H fun x H1 => ∃ (l : Addr) (ns : List Str), x = .ref l ∧ SqT K H1 l (ns.map V.str) ∧ ns.length < 4000 ∧ Q (.int (nd ns : Nat)) H1
theorem pe_lenSetS {X : Cx} {a : Expr} {ta : TE} {p p2 q pos : Pos} (hg : Gl X "len") (hm : X.mg "len" = none) (hg2 : Gl X "set") (hm2 : X.mg "set" = none) (ha : PE X a ta) (hc : X.calm = true) (na : isStar a = false) :
    PE X (.Call (.Name "len" p) [.Call (.Name "set" p2) [a] [] q] [] pos) (tLenSetS X.K ta) := by
  refine ⟨fun pins s σ H Q I h => Call_ (ld_blt I hg hm PySem.boot_len (PyProof.Rows.callWith_builtin1 (PyProof.Rows.args_cons (Call_ (ld_blt I hg2 hm2 PyProof.Rows.boot_set ?_)) rfl) rfl rfl))⟩
  refine PyProof.Rows.callWith_type1 (PyProof.Rows.args_cons (thn (ha.run pins s σ H _ I h) fun v s1 ⟨x, H1, I1, rx, l, ns, ex, sq, hz, q1⟩ => PyProof.Rows.args_nil ?_) (starEach_plain na)) (starEach_plain na) rfl
  subst ex
  cases rx
  obtain ⟨its, r, tp, _⟩ := I1.tuple sq
  have hit : PyProof.Rows.StrsAre its.toArray.toList ns := by simpa using L2.strsAre_of r
  refine set_strs ns (I1.ok.hd hc) tp hit (by unfold scanBound; omega) fun h' tk R hk => PyProof.Rows.args_nil ?_
  obtain ⟨o, es, ep, t, ho, hex, hd, _, _, _, hf, hn⟩ := R
  have hle := nd_le ns
  have I2 : Inv X pins σ H1 { s1 with heap := h', toks := tk } := I1.kept hk
  exact call_len_set ho hex hd hf (by rw [hn]; omega) ⟨.int (nd ns : Nat), H1, I2.tok _, ⟨_, by rw [hn]⟩, q1⟩
end FS
namespace FS
open PySem PySem.Spec PyProof.Rows L2 LamX
def strsP : List PV → Option (List Str)
  | [] => some []
  | .str b :: r => (strsP r).map (b :: ·)
  | _ => none
theorem strs_v {K : PySem.W.Frag} {F : Hp} : ∀ {vs : List V} {xs : List PV} {bs : List Str}, DpAll K F vs xs → strsP xs = some bs → vs = bs.map V.str
  | _, [], bs, h, e => by
    cases h
    cases e
    rfl
  | _, d :: ds, bs, h, e => by
    cases h with
    | cons h1 h2 =>
      cases d <;> first | (cases e; done) | skip
      rename_i b
      cases z : strsP ds with
      | none =>
        have e : (strsP ds).map (b :: ·) = some bs := e
        rw [z] at e
        cases e
      | some cs =>
        have e : (strsP ds).map (b :: ·) = some bs := e
        rw [z] at e
        cases e
        rw [strs_v h2 z]
        cases h1
        rfl
def lenSetSM (d : PV) : M Res := match d with
  | .tuple xs => optM (strsP xs) >>= fun ns s P _ => ns.length < 4000 ∧ P (.val (.int (nd ns : Nat))) s
  | _ => M.fail
theorem rLenSetS {fx : Fx} {a : Expr} {ma : M PV} {p p2 q pos : Pos} (hc : fx.X.calm = true) (hg : Gl fx.X "len") (hm : fx.X.mg "len" = none) (hg2 : Gl fx.X "set") (hm2 : fx.X.mg "set" = none) (na : isStar a = false) (ha : POk fx a ma) : ROk fx (.Call (.Name "len" p) [.Call (.Name "set" p2) [a] [] q] [] pos) (ma >>= lenSetSM) := by
  obtain ⟨ta, pa, sa⟩ := ha.ex
  refine ⟨_, pe_lenSetS hg hm hg2 hm2 pa hc na, fun F σ H env P E Q s hm hq hx => ?_⟩
  refine sa F σ H env _ E _ s hm (fun d env1 F1 H1 v g st le s1 p1 => ?_) hx
  cases d <;> first | exact g.elim | skip
  obtain ⟨ns, e, hz, g⟩ := optM_run g
  obtain ⟨l, vs, rfl, sq, da⟩ := p1.tup s1
  rw [strs_v da e] at sq
  exact ⟨l, ns, rfl, sq, hz, hq _ env1 F1 H1 _ g st le s1 (.int _)⟩
end FS
namespace FS
open PySem PySem.Spec PyProof.Rows L2 LamX
/-! list(x), x a list, a tuple or a string -/
def signsOf (z : Str) : List Str := z.cps.toList.map fun c => ⟨#[c]⟩
theorem vals_get : ∀ {xs : List V} {us : List Value}, xs.length = us.length → (∀ (j : Nat) (v : Value), us[j]? = some v → ∃ x, xs[j]? = some x ∧ RelV x v) → Vals xs us
  | [], [], _, _ => .nil
  | [], _ :: _, h, _ => by cases h
  | _ :: _, [], h, _ => by cases h
  | x :: xs, u :: us, h, g => by
    obtain ⟨y, e, r⟩ := g 0 u rfl
    cases e
    exact .cons r (vals_get (by simpa using h) fun j v e => by simpa using g (j + 1) v (by simpa using e))
theorem signs_vals (z : Str) {acc : Array Value} (h : PySem.ItemsOf (SignAt z) acc z.cps.size) : Vals ((signsOf z).map V.str) acc.toList := by
  refine vals_get ?_ fun j v e => ?_
  · rw [List.length_map, signsOf, List.length_map, Array.length_toList, Array.length_toList]
    exact h.1.symm
  · obtain ⟨c, u, hc, rfl⟩ := h.2 j v (by simpa using e)
    refine ⟨.str ⟨#[c]⟩, ?_, ⟨u, rfl⟩⟩
    rw [List.getElem?_map, signsOf, List.getElem?_map, Array.getElem?_toList, hc]
    rfl
section
variable {X : Cx}
theorem call_list_of2 (hc : X.calm = true) : CallR X (.type "list") (fun xs H Q => (∃ p ys, xs = [.ref p] ∧ (SqL X.K H p ys ∨ SqT X.K H p ys) ∧ ∀ l, H l = none → Q (.ref l) (upd H l (.lst ys))) ∨
    ∃ z, xs = [.str z] ∧ z.length ≤ sizeLine ∧ ∀ l, H l = none → Q (.ref l) (upd H l (.lst ((signsOf z).map V.str)))) := by
  intro pins s σ H xs us Q I r h
  rcases h with h | ⟨z, rfl, hz, q⟩
  · exact call_list_of pins s σ H xs us Q I r h
  obtain ⟨u, rfl, rx⟩ := vals1 r
  obtain ⟨t, rfl⟩ := rx
  refine PySem.call_list_str (I.ok.hd hc) z t (fun h' tk acc c' kp e hs => ?_) hz
  refine ⟨.ref s.heap.objs.size, _, I.laid (t' := tk) kp (Nat.le_refl _) (show ObjOk X.prog X.w _ h' _ (.lst ((signsOf z).map V.str)) from ⟨?_, acc.toList, c', signs_vals z hs, by simpa using e⟩), rfl, q _ (I.hok.fresh (Nat.le_refl _))⟩
  rw [List.length_map, signsOf, List.length_map, Array.length_toList]
  exact hz
end
theorem dp_strs {K : PySem.W.Frag} {F : Hp} : ∀ l : List Str, DpAll K F (l.map V.str) (l.map PyData.str)
  | [] => .nil
  | x :: l => .cons (.str x) (dp_strs l)
def listAM (d : PV) : M Res := fun s P _ => match d with
  | .list xs => xs.length ≤ sizeLine ∧ P (.new xs) s
  | .tuple xs => xs.length ≤ sizeLine ∧ P (.new xs) s
  | .str z => z.length ≤ sizeLine ∧ P (.new ((signsOf z).map .str)) s
  | _ => False
theorem cListA {fx : Fx} (hc : fx.X.calm = true) : Cal1 fx (.type "list") listAM := by
  refine ⟨_, call_list_of2 hc, fun F σ H env P E Q d v s pv hm hq => ?_⟩
  cases d <;> first | exact hm.elim | skip
  · rename_i z
    have e := pv.str
    subst e
    refine .inr ⟨z, rfl, hm.1, fun p np => ?_⟩
    have hz : ((signsOf z).map V.str).length ≤ sizeLine := by
      rw [List.length_map, signsOf, List.length_map, Array.length_toList]
      exact hm.1
    obtain ⟨sm, s1, r1⟩ := s.newLst np (dp_strs (signsOf z)) hz
    exact hq _ env F _ _ hm.2 sm (EnLe.refl _) s1 (r1 H np)
  · obtain ⟨l, vs, rfl, sq, da⟩ := pv.lst s
    refine .inl ⟨l, vs, rfl, .inl sq, fun p np => ?_⟩
    obtain ⟨sm, s1, r1⟩ := s.newLst np da (by rw [da.length]; exact hm.1)
    exact hq _ env F _ _ hm.2 sm (EnLe.refl _) s1 (r1 H np)
  · obtain ⟨l, vs, rfl, sq, da⟩ := pv.tup s
    refine .inl ⟨l, vs, rfl, .inr sq, fun p np => ?_⟩
    obtain ⟨sm, s1, r1⟩ := s.newLst np da (by rw [da.length]; exact hm.1)
    exact hq _ env F _ _ hm.2 sm (EnLe.refl _) s1 (r1 H np)
end FS
namespace FS
open PySem PySem.Spec PyProof.Rows L2 LamX
/-! list comprehensions of two clauses -/
/-- the turns of the inner clause, with the bound -/
def lcB (g : Tg) (mt : M Bool) (me : M PV) (s0 : En) (Q : List PV → Prop) : List PV → List PV → Prop
  | [], acc => Q acc
  | x :: xs, acc => ∃ s1, g.put x s0 = some s1 ∧ mt s1 (fun b s2 => s2 = s1 ∧ if b = true then me s1 (fun d s3 => s3 = s1 ∧ acc.length < sizeLine ∧ lcB g mt me s0 Q xs (acc ++ [d])) NoE else lcB g mt me s0 Q xs acc) NoE
def lc2L (g : Tg) (mt : M Bool) (mi1 : M (List PV)) (vs1 : List Nat) (g1 : Tg) (mt1 : M Bool) (me : M PV) (s0 : En) (Q : List PV → Prop) : List PV → List PV → Prop
  | [], acc => Q acc
  | x :: xs, acc => ∃ s1, g.put x s0 = some s1 ∧ mt s1 (fun b s2 => s2 = s1 ∧ if b = true then mi1 s1 (fun ys s3 => s3 = s1 ∧ lcB g1 mt1 me (wipeE s1 vs1) (fun acc' => lc2L g mt mi1 vs1 g1 mt1 me s0 Q xs acc') ys acc) NoE
      else lc2L g mt mi1 vs1 g1 mt1 me s0 Q xs acc) NoE
def lc2M (vs vs1 : List Nat) (g : Tg) (mt : M Bool) (mi1 : M (List PV)) (g1 : Tg) (mt1 : M Bool) (me : M PV) (xs : List PV) : M Res := fun s P _ => lc2L g mt mi1 vs1 g1 mt1 me (wipeE s vs) (fun ds => P (.new ds) s) xs []
/-- as Stp, but for D -/
structure StpD (D : Addr) (F H : Hp) (σ : L2.St) (env : En) (F' H' : Hp) : Prop where
  sm : Same F F'
  mono : ∀ a, H a ≠ none → H' a ≠ none
  keep : ∀ a o, a ≠ D → H a = some o → F a = none → (∀ ps, o ≠ .tbl ps) → ¬ OwnAt σ env a → H' a = some o ∧ F' a = none
section
variable {fx : Fx} {D : Addr} {F H F1 H1 F2 H2 F' H' : Hp} {σ σ' : L2.St} {env env' : En}
theorem StpD.tr (a : StpD D F H σ env F1 H1) (b : Stp F1 H1 σ' env' F2 H2) (o : ∀ x, OwnAt σ' env' x → OwnAt σ env x) : StpD D F H σ env F2 H2 :=
  ⟨a.sm.trans b.sm, fun x h => b.mono x (a.mono x h), fun x ob d h g n w => by
    obtain ⟨h1, g1⟩ := a.keep x ob d h g n w
    exact b.keep x ob h1 g1 n fun z => w (o x z)⟩
theorem Stp.toD (b : Stp F H σ env F1 H1) : StpD D F H σ env F1 H1 := ⟨b.sm, b.mono, fun x o _ h g n w => b.keep x o h g n w⟩
theorem StpD.put {o : HO} (a : StpD D F H σ env F1 H1) : StpD D F H σ env F1 (upd H1 D o) :=
  ⟨a.sm, fun x h => by
    by_cases e : x = D
    · subst e
      rw [upd_same]; simp
    · rw [upd_ne e]
      exact a.mono x h, fun x ob d h g n w => by
    rw [upd_ne d]
    exact a.keep x ob d h g n w⟩
/-- back from a block in which D was written -/
theorem blkD_back {vs : List Nat} (h : SOk fx F σ H env) (noD : ¬ OwnAt σ env D) (noDd : ∀ kv oo, H D = some oo → ¬ DcO fx.X.K fx.X.prog fx.X.w F D oo kv) (st : StpD D F H σ' env' F' H') (s' : SOk fx F' σ' H' env') (out : ∀ j, j ∉ vs → σ'[j]? = σ[j]? ∧ env'[j]? = env[j]?) (inn : ∀ (j : Nat) (xs : List PV), j ∈ vs → env'[j]? ≠ some (some (.own xs))) :
    SOk fx F' σ H' env ∧ ∀ b, OwnAt σ' env' b → OwnAt σ env b := by
  have own : ∀ b, OwnAt σ' env' b → ∃ i xs, i ∉ vs ∧ env[i]? = some (some (.own xs)) ∧ σ[i]? = some (some (.ref b)) := fun b ⟨i, xs, e1, e2⟩ => by
    have hi : i ∉ vs := fun z => inn i xs z e1
    exact ⟨i, xs, hi, by rw [← (out i hi).2]; exact e1, by rw [← (out i hi).1]; exact e2⟩
  refine ⟨⟨s'.c, h.len, fun i s e => ?_, h.sepS⟩, fun b hb => let ⟨i, xs, _, e1, e2⟩ := own b hb; ⟨i, xs, e1, e2⟩⟩
  by_cases hi : i ∈ vs
  · obtain ⟨v, e1, e2⟩ := h.slot i s e
    refine ⟨v, e1, ?_⟩
    cases s with
    | val d => exact dp_same st.sm d e2
    | own xs =>
      obtain ⟨a, ws, rfl, f1, f2, f3, f4, f5⟩ := e2
      have aD : a ≠ D := fun z => noD ⟨i, xs, e, z ▸ e1⟩
      obtain ⟨k1, k2⟩ := st.keep a _ aD f1 f2 (fun ps z => by cases z) fun z => by
        obtain ⟨j, ys, hj, g1, g2⟩ := own a z
        exact hj (h.sep i j xs ys _ e g1 e1 g2 ▸ hi)
      exact ⟨a, ws, rfl, k1, k2, f3, dpAll_same st.sm _ f4, f5⟩
    | well =>
      obtain ⟨a, rfl, f⟩ := e2
      exact ⟨a, rfl, st.sm _ _ f⟩
    | clo i cs => exact fx.cloMono _ _ _ _ _ st.sm e2
    | dic p =>
      obtain ⟨a, oo, rfl, f1, f2, f3, f4⟩ := e2
      have aD : a ≠ D := fun z => by
        subst z
        exact noDd p oo f1 f4
      obtain ⟨k1, k2⟩ := st.keep a _ aD f1 f2 f4.tbl fun z => by
        obtain ⟨j, ys, hj, g1, g2⟩ := own a z
        obtain ⟨v', g3, b, vs, g0, g4, _⟩ := h.slot j _ g1
        cases g0
        rw [g2] at g3
        cases g3
        rw [f1] at g4
        cases g4
        exact f4.lst
      exact ⟨a, oo, rfl, k1, k2, f3, f4.same st.sm⟩
    | dcf p => exact DcF.same st.sm e2
  · obtain ⟨v, e1, e2⟩ := s'.slot i s (by rw [(out i hi).2]; exact e)
    exact ⟨v, by rw [← (out i hi).1]; exact e1, e2⟩
end
section
variable {fx : Fx} {scope : Scope} {e tg : Expr}
theorem IBk.all {m : M (List PV)} (h : IBk fx scope tg e m) : ∃ t : TI, (∀ (s : Shared) (H : Hp) (C : Addr) (cl : List (Str × Addr)) (fp : List Addr), PI (fx.X.blk s H scope (compEnvC scope cl C fx.X.env) fp) tg e t) ∧
    ∀ (F : Hp) (σ : L2.St) (H : Hp) (env : En) (P : List PV → En → Prop) (R : It → Hp → Prop), SOk fx F σ H env → m env P NoE → (∀ xs env' F' H' J, P xs env' → Stp F H σ env F' H' → EnLe env env' → SOk fx F' σ H' env' → ItOk fx F' J xs → R J H') → t σ H R := by
  refine ⟨fun σ H Q => ∀ (s : Shared) (H0 : Hp) (C : Addr) (cl : List (Str × Addr)) (fp : List Addr), Classical.choose ((h.ok s H0 C cl fp).ex) σ H Q, fun s H C cl fp => ?_, fun F σ H env P Q so hm hq s H0 C cl fp => ?_⟩
  · exact PI.weak (Classical.choose_spec ((h.ok s H C cl fp).ex)).1 fun σ H' Q q => q s H C cl fp
  · refine (Classical.choose_spec ((h.ok s H0 C cl fp).ex)).2 F σ H env P NoE Q so.blk hm (fun d env' F' H' J p st le s' it => hq d env' F' H' J p st le s'.unblk fun F2 σ2 H2 env2 sm2 s2 => ?_) exOk_no
    obtain ⟨a, b, y⟩ := it F2 σ2 H2 env2 sm2 s2.blk
    refine ⟨a, b, fun i x H3 hi hy => ?_⟩
    obtain ⟨F3, d, e1, st3, s3, d3⟩ := y i x H3 hi hy
    exact ⟨F3, d, e1, st3, s3.unblk, d3⟩
end
section
variable {fx : Fx} {elt tg iter tg1 iter1 : Expr} {ifs ifs1 : List Expr} {scope : Scope} {own : List (Str × Nat)} {pos : Pos} {mi mi1 : M (List PV)} {g g1 : Tg} {mt mt1 : M Bool} {me : M PV}
abbrev SgOk (fx : Fx) (g : Tg) (t : TG) : Prop := ∀ (F : Hp) (σ : L2.St) (H : Hp) (env env' : En) (d : PV) (v : V) (Q : L2.St → Hp → Prop), SOk fx F σ H env → Dp fx.X.K F v d → g.put d env = some env' → (∀ σ', OutOf g.ids σ σ' → SOk fx F σ' H env' → Q σ' H) → t v σ H Q
abbrev SiOk (fx : Fx) (m : M (List PV)) (wi : TI) : Prop := ∀ (F : Hp) (σ : L2.St) (H : Hp) (env : En) (P : List PV → En → Prop) (R : It → Hp → Prop), SOk fx F σ H env → m env P NoE →
      (∀ xs env' F' H' J, P xs env' → Stp F H σ env F' H' → EnLe env env' → SOk fx F' σ H' env' → ItOk fx F' J xs → R J H') → wi σ H R
abbrev StTOk (fx : Fx) (m : M Bool) (t : TT) : Prop := ∀ (F : Hp) (σ : L2.St) (H : Hp) (env : En) (P : Bool → En → Prop) (Q : Bool → Hp → Prop), SOk fx F σ H env → m env P NoE → (∀ d env' F' H', P d env' → Stp F H σ env F' H' → EnLe env env' → SOk fx F' σ H' env' → Q d H') → t σ H Q
abbrev SeOk (fx : Fx) (m : M PV) (t : TE) : Prop := ∀ (F : Hp) (σ : L2.St) (H : Hp) (env : En) (P : PV → En → Prop) (Q : V → Hp → Prop), SOk fx F σ H env → m env P NoE → (∀ d env' F' H' v, P d env' → Stp F H σ env F' H' → EnLe env env' → SOk fx F' σ H' env' → Dp fx.X.K F' v d → Q v H') → t σ H Q
/-- what a block's stores leave outside -/
theorem put_block {g : Tg} {vs : List Nat} {σ σ4 : L2.St} {env env4 : En} {d : PV} (hi : g.ids.all (vs.contains ·) = true) (o4 : OutOf g.ids (wipe σ vs) σ4) (e4 : g.put d (wipeE env vs) = some env4) :
    wipe σ4 vs = wipe σ vs ∧ (∀ j, j ∉ vs → σ4[j]? = σ[j]? ∧ env4[j]? = env[j]?) ∧ ∀ (j : Nat) (xs : List PV), j ∈ vs → env4[j]? ≠ some (some (.own xs)) := by
  have hg : ∀ j, j ∉ vs → j ∉ g.ids := fun j hj z => hj (by simpa using List.all_eq_true.mp hi j z)
  have out : ∀ j, j ∉ vs → σ4[j]? = σ[j]? := fun j hj => by rw [o4.2 j (hg j hj), wipe_at hj]
  have po := put_out e4
  refine ⟨wipe_ext (by rw [o4.1, wipe_length]) fun j hj => by rw [out j hj, wipe_at hj], fun j hj => ⟨out j hj, by rw [po.2.1 j (hg j hj), wipeE_at hj]⟩, fun j xs hj e => ?_⟩
  have hn := po.2.2 j xs e
  rw [po.2.1 j hn] at e
  exact (wipeE_some e).2 hj
theorem lc2_sim {wi wi1 : TI} {tg' tg1' : TG} {tt tt1 : TT} {te : TE} {vs vs1 : List Nat} (hi : g.ids.all (vs.contains ·) = true) (hi1 : g1.ids.all (vs1.contains ·) = true)
    (si : ∀ (F : Hp) (σ : L2.St) (H : Hp) (env : En) (P : List PV → En → Prop) (E : EP') (R : It → Hp → Prop), SOk fx F σ H env → mi env P E →
      (∀ xs env' F' H' J, P xs env' → Stp F H σ env F' H' → EnLe env env' → SOk fx F' σ H' env' → ItOk fx F' J xs → R J H') → ExOk fx F E → wi σ H R)
    (sg : SgOk fx g tg') (st : StTOk fx mt tt) (si1 : SiOk fx mi1 wi1) (sg1 : SgOk fx g1 tg1') (st1' : StTOk fx mt1 tt1) (se : SeOk fx me te) :
    SimR fx (tLc2 wi tg' tt wi1 tg1' tt1 te vs vs1) (mi >>= lc2M vs vs1 g mt mi1 g1 mt1 me) := by
  intro F σ H env P E Q so hm hq hx
  refine si F σ H env _ E _ so hm (fun xs env1 F1 H1 J g1' st1 le1 s1 it => ?_) hx
  intro D hD
  obtain ⟨s2, nF, n0, no⟩ := s1.alloc (o := .lst []) hD
  have nHs : H D = none := by
    cases e : H D with
    | none => rfl
    | some o => exact absurd hD (st1.mono D (by rw [e]; simp))
  have noD : ¬ OwnAt σ env1 D := fun ⟨j, ys, e1, e2⟩ => no j ys e1 e2
  refine ⟨fun i m H2 => ∃ F2 acc vs', m = xs.length - i ∧ i ≤ xs.length ∧ acc.length ≤ sizeLine ∧ StpD D F1 H1 σ env1 F2 H2 ∧ SOk fx F2 σ H2 env1 ∧
      H2 D = some (.lst vs') ∧ F2 D = none ∧ DpAll fx.X.K F2 vs' acc ∧ lc2L g mt mi1 vs1 g1 mt1 me (wipeE env1 vs) (fun ds => P (.new ds) env1) (xs.drop i) acc,
    ⟨xs.length, F1, [], [], by simp, Nat.zero_le _, Nat.zero_le _, StpD.put (Stp.toD Stp.refl), s2, upd_same, nF, .nil, g1'⟩, fun i m H2 hW => ?_⟩
  obtain ⟨F2, acc, vs', rfl, hi', hacc, sd2, so2, hD2, nF2, da2, hl⟩ := hW
  obtain ⟨go, stop, yl⟩ := it F2 σ H2 env1 sd2.sm so2
  by_cases hlt : i < xs.length
  · rw [List.drop_eq_getElem_cons hlt] at hl
    refine .inr ⟨go i hlt, fun H' => ∃ F3 acc vs', acc.length ≤ sizeLine ∧ StpD D F1 H1 σ env1 F3 H' ∧ SOk fx F3 σ H' env1 ∧
      H' D = some (.lst vs') ∧ F3 D = none ∧ DpAll fx.X.K F3 vs' acc ∧ lc2L g mt mi1 vs1 g1 mt1 me (wipeE env1 vs) (fun ds => P (.new ds) env1) (xs.drop (i + 1)) acc, fun H' hN => ?_, fun x H3 hy => ?_⟩
    · obtain ⟨F3, acc, vs', a2, a3, a5, a6, a7, a8, a9⟩ := hN
      exact ⟨xs.length - (i + 1), by omega, F3, acc, vs', rfl, hlt, a2, a3, a5, a6, a7, a8, a9⟩
    · obtain ⟨F3, d, e1, st3, s3, d3⟩ := yl i x H3 hlt hy
      have ed : xs[i] = d := by
        rw [List.getElem?_eq_getElem hlt] at e1
        exact Option.some.inj e1
      rw [ed] at hl
      obtain ⟨env4, e4, hl⟩ := hl
      refine sg F3 (wipe σ vs) H3 (wipeE env1 vs) env4 d x _ s3.wipe d3 e4 fun σ4 o4 s4 => ?_
      obtain ⟨ew, outE, innE⟩ := put_block hi o4 e4
      have own4 : ∀ b, OwnAt σ4 env4 b → OwnAt σ env1 b := fun b ⟨j, ys, z1, z2⟩ => by
        have hj : j ∉ vs := fun z => innE j ys z z1
        exact ⟨j, ys, by rw [← (outE j hj).2]; exact z1, by rw [← (outE j hj).1]; exact z2⟩
      have noD4 : ¬ OwnAt σ4 env4 D := fun z => noD (own4 D z)
      obtain ⟨hD3, nF3⟩ := st3.keep D _ hD2 nF2 (fun ps z => by cases z) noD
      have da3 := dpAll_same st3.sm _ da2
      have sd3 : StpD D F1 H1 σ env1 F3 H3 := sd2.tr st3 fun _ z => z
      refine ⟨ew, st F3 σ4 H3 env4 _ _ s4 hl fun b env5 F5 H5 g5 st5 le5 s5 => ?_⟩
      obtain ⟨rfl, g5⟩ := g5
      -- what the block has left, seen from outside
      have fin : ∀ {F6 H6 : Hp}, StpD D F3 H3 σ4 env5 F6 H6 → SOk fx F6 σ4 H6 env5 → StpD D F1 H1 σ env1 F6 H6 ∧ SOk fx F6 σ H6 env1 := fun {F6 H6} st6 s6 => by
        obtain ⟨b1, b2⟩ := blkD_back s3 noD (fun kv oo e d => by rw [hD3] at e; cases e; exact d.lst) st6 s6 outE innE
        refine ⟨⟨sd3.sm.trans st6.sm, fun a h => st6.mono a (sd3.mono a h), fun a o n h f t w => ?_⟩, b1⟩
        obtain ⟨h1, f1⟩ := sd3.keep a o n h f t w
        exact st6.keep a o n h1 f1 t fun z => w (b2 a z)
      cases b with
      | false =>
        simp only [Bool.false_eq_true, if_false] at g5 ⊢
        obtain ⟨c1, c2⟩ := fin st5.toD s5
        obtain ⟨k1, k2⟩ := st5.keep D _ hD3 nF3 (fun ps z => by cases z) noD4
        exact ⟨F5, acc, vs', hacc, c1, c2, k1, k2, dpAll_same st5.sm _ da3, g5⟩
      | true =>
        simp only [if_true] at g5 ⊢
        refine si1 F5 σ4 H5 env5 _ _ s5 g5 fun ys env6 F6 H6 J1 g6 st6 le6 s6 it1 => ?_
        obtain ⟨rfl, g6⟩ := g6
        have st56 := st5.tr (EnLe.refl _) st6
        obtain ⟨k1, k2⟩ := st56.keep D _ hD3 nF3 (fun ps z => by cases z) noD4
        refine ⟨fun j k H7 => ∃ F7 acc vs', k = ys.length - j ∧ j ≤ ys.length ∧ acc.length ≤ sizeLine ∧ Same F6 F7 ∧ StpD D F3 H3 σ4 env6 F7 H7 ∧ SOk fx F7 σ4 H7 env6 ∧ H7 D = some (.lst vs') ∧ F7 D = none ∧ DpAll fx.X.K F7 vs' acc ∧
            lcB g1 mt1 me (wipeE env6 vs1) (fun acc' => lc2L g mt mi1 vs1 g1 mt1 me (wipeE env1 vs) (fun ds => P (.new ds) env1) (xs.drop (i + 1)) acc') (ys.drop j) acc,
          ⟨ys.length, F6, acc, vs', by simp, Nat.zero_le _, hacc, Same.refl _, st56.toD, s6, k1, k2, dpAll_same st56.sm _ da3, g6⟩, fun j k H7 hW => ?_⟩
        obtain ⟨F7, acc7, vs7, rfl, hj', hacc7, sm67, sd7, so7, hD7, nF7, da7, hl7⟩ := hW
        obtain ⟨go1, stop1, yl1⟩ := it1 F7 σ4 H7 env6 sm67 so7
        by_cases hlj : j < ys.length
        · rw [List.drop_eq_getElem_cons hlj] at hl7
          refine .inr ⟨go1 j hlj, fun H' => ∃ F8 acc vs', acc.length ≤ sizeLine ∧ Same F6 F8 ∧ StpD D F3 H3 σ4 env6 F8 H' ∧ SOk fx F8 σ4 H' env6 ∧ H' D = some (.lst vs') ∧ F8 D = none ∧ DpAll fx.X.K F8 vs' acc ∧
            lcB g1 mt1 me (wipeE env6 vs1) (fun acc' => lc2L g mt mi1 vs1 g1 mt1 me (wipeE env1 vs) (fun ds => P (.new ds) env1) (xs.drop (i + 1)) acc') (ys.drop (j + 1)) acc, fun H' hN => ?_, fun y H8 hy8 => ?_⟩
          · obtain ⟨F8, a, v, a1, a2, a3, a4, a5, a6, a7, a8⟩ := hN
            exact ⟨ys.length - (j + 1), by omega, F8, a, v, rfl, hlj, a1, a2, a3, a4, a5, a6, a7, a8⟩
          · obtain ⟨F8, d8, e8, st8, s8, dd8⟩ := yl1 j y H8 hlj hy8
            have ed8 : ys[j] = d8 := by
              rw [List.getElem?_eq_getElem hlj] at e8
              exact Option.some.inj e8
            rw [ed8] at hl7
            obtain ⟨env9, e9, hl7⟩ := hl7
            refine sg1 F8 (wipe σ4 vs1) H8 (wipeE env6 vs1) env9 d8 y _ s8.wipe dd8 e9 fun σ9 o9 s9 => ?_
            obtain ⟨ew9, outE9, innE9⟩ := put_block hi1 o9 e9
            have own9 : ∀ b, OwnAt σ9 env9 b → OwnAt σ4 env6 b := fun b ⟨j, ys, z1, z2⟩ => by
              have hj : j ∉ vs1 := fun z => innE9 j ys z z1
              exact ⟨j, ys, by rw [← (outE9 j hj).2]; exact z1, by rw [← (outE9 j hj).1]; exact z2⟩
            have noD9 : ¬ OwnAt σ9 env9 D := fun z => noD4 (own9 D z)
            obtain ⟨hD8, nF8⟩ := st8.keep D _ hD7 nF7 (fun ps z => by cases z) noD4
            refine ⟨ew9, st1' F8 σ9 H8 env9 _ _ s9 hl7 fun b env10 F10 H10 g10 st10 le10 s10 => ?_⟩
            obtain ⟨rfl, g10⟩ := g10
            have fin9 : ∀ {F11 H11 : Hp}, Stp F8 H8 σ9 env10 F11 H11 → SOk fx F11 σ9 H11 env10 → Same F6 F11 ∧ StpD D F3 H3 σ4 env6 F11 H11 ∧ SOk fx F11 σ4 H11 env6 ∧ H11 D = some (.lst vs7) ∧ F11 D = none ∧ DpAll fx.X.K F11 vs7 acc7 := fun {F11 H11} st11 s11 => by
              obtain ⟨b1, b2⟩ := blk_back s8 st11 s11 outE9 innE9
              obtain ⟨k1, k2⟩ := st11.keep D _ hD8 nF8 (fun ps z => by cases z) noD9
              exact ⟨sm67.trans (st8.sm.trans st11.sm), (sd7.tr st8 fun _ z => z).tr st11 own9, b1, k1, k2, dpAll_same (st8.sm.trans st11.sm) _ da7⟩
            cases b with
            | false =>
              simp only [Bool.false_eq_true, if_false] at g10 ⊢
              obtain ⟨c1, c2, c3, c4, c5, c6⟩ := fin9 st10 s10
              exact ⟨F10, acc7, vs7, hacc7, c1, c2, c3, c4, c5, c6, g10⟩
            | true =>
              simp only [if_true] at g10 ⊢
              refine se F10 σ9 H10 env10 _ _ s10 g10 fun d11 env11 F11 H11 v11 g11 st11 le11 s11 dv11 => ?_
              obtain ⟨rfl, hlen, g11⟩ := g11
              obtain ⟨c1, c2, c3, c4, c5, c6⟩ := fin9 (st10.tr (EnLe.refl _) st11) s11
              refine ⟨vs7, c4, by rw [c6.length]; exact hlen, F11, acc7 ++ [d11], vs7 ++ [v11], by rw [List.length_append]; exact hlen, c1, c2.put, c3.write c4 (fun ps z => by cases z) (fun φ z => by cases z) c5 n0 noD4 trivial, upd_same, c5, c6.app (.cons dv11 .nil), g11⟩
        · have e : ys.drop j = [] := List.drop_eq_nil_of_le (by omega)
          rw [e] at hl7
          have ej : j = ys.length := by omega
          obtain ⟨c1, c2⟩ := fin sd7 so7
          exact .inl ⟨ej ▸ stop1, F7, acc7, vs7, hacc7, c1, c2, hD7, nF7, da7, hl7⟩
  · have e : xs.drop i = [] := List.drop_eq_nil_of_le (by omega)
    rw [e] at hl
    have ei : i = xs.length := by omega
    refine .inl ⟨ei ▸ stop, hq (.new acc) env1 F2 H2 (.ref D) hl ⟨st1.sm.trans sd2.sm, fun a h => sd2.mono a (st1.mono a h), fun b o h f n w => ?_⟩ le1 so2 ⟨D, vs', rfl, hD2, nF2, n0, da2, by rw [da2.length]; exact hacc, nHs, fun j ys e => no j ys e⟩⟩
    obtain ⟨h1, f1⟩ := st1.keep b o h f n w
    exact sd2.keep b o (fun z => by rw [z, nHs] at h; cases h) h1 f1 n fun z => w (z.back le1)
/-- [elt for tg in iter if .. for tg1 in iter1 if ..] -/
theorem rComp2 {vs1 : List Nat} (hc : fx.X.calm = true) (hN : fx.X.N.Nodup) (ok : blkC fx.X.N fx.X.env.scope scope own = true) (hn : noSet iter = true) (hn1 : noSet iter1 = true) (hids : g.ids.all ((own.map (·.2)).contains ·) = true) (hids1 : g1.ids.all (vs1.contains ·) = true) (hv : vs1.all ((own.map (·.2)).contains ·) = true)
    (hi : IOk fx tg iter mi) (hg : GBk fx scope tg g) (ht : TsBk fx scope ifs mt) (hi1 : IBk fx scope tg1 iter1 mi1) (hg1 : GBk fx scope tg1 g1) (ht1 : TsBk fx scope ifs1 mt1) (he : EBk fx scope elt me) :
    ROk fx (.ListComp elt [⟨tg, iter, ifs, 0⟩, ⟨tg1, iter1, ifs1, 0⟩] scope pos) (mi >>= lc2M (own.map (·.2)) vs1 g mt mi1 g1 mt1 me) := by
  obtain ⟨wi, pi, si⟩ := hi.ex
  obtain ⟨t1, p1, s1⟩ := hg.all
  obtain ⟨t2, p2, s2⟩ := ht.all
  obtain ⟨t3, p3, s3⟩ := he.all
  obtain ⟨wi1, pi1, si1⟩ := hi1.all
  obtain ⟨t4, p4, s4⟩ := hg1.all
  obtain ⟨t5, p5, s5⟩ := ht1.all
  exact ⟨_, pe_lc2 hc hN pi (blkOk_by ok) (fun i z => by simpa using List.all_eq_true.mp hv i z) p1 p2 pi1 p4 p5 p3 (folded_no hn) (fun _ => folded_no hn1), lc2_sim hids hids1 si s1 s2 si1 s4 s5 s3⟩
end
section
variable {Φ : Gr → Nat → Prop} {fx : Fx} {k : Nat} {N : List Str} {sc : Scope}
theorem Ctx.i {scope : Scope} {tg e : Expr} {m : M (List PV)} (c : Ctx Φ fx k N sc) (h : ∀ fx' : Fx, Ctx Φ fx' k N (relS scope sc) → IOk fx' tg e m) : IBk fx scope tg e m := ⟨fun s H C cl fp => h _ (c.blk scope s H C cl fp)⟩
theorem cComp2 {elt tg iter tg1 iter1 : Expr} {ifs ifs1 : List Expr} {scope : Scope} (own : List (Str × Nat)) (vs1 : List Nat) {pos : Pos} {mi mi1 : M (List PV)} {g g1 : Tg} {mt mt1 : M Bool} {me : M PV} (c : Ctx Φ fx k N sc) (ok : blkC N sc scope own = true) (hn : noSet iter = true) (hn1 : noSet iter1 = true) (hids : g.ids.all ((own.map (·.2)).contains ·) = true) (hids1 : g1.ids.all (vs1.contains ·) = true) (hv : vs1.all ((own.map (·.2)).contains ·) = true)
    (hi : IOk fx tg iter mi) (hg : GBk fx scope tg g) (ht : TsBk fx scope ifs mt) (hi1 : IBk fx scope tg1 iter1 mi1) (hg1 : GBk fx scope tg1 g1) (ht1 : TsBk fx scope ifs1 mt1) (he : EBk fx scope elt me) :
    ROk fx (.ListComp elt [⟨tg, iter, ifs, 0⟩, ⟨tg1, iter1, ifs1, 0⟩] scope pos) (mi >>= lc2M (own.map (·.2)) vs1 g mt mi1 g1 mt1 me) := rComp2 c.calm c.nd (by rw [c.hN, c.hs]; exact ok) hn hn1 hids hids1 hv hi hg ht hi1 hg1 ht1 he
end
end FS
namespace FS
open PySem PySem.Spec PyProof.Rows L2 LamX NdefX
/-! lambdas handed to a def -/
section
variable {H : Hp} {T : List (Addr × Str)} {P k : Addr} {q : Str} {ps : Array Value} {pos : Pos}
/-- the table's heap behind a first making -/
def tabUp (H : Hp) (P k : Addr) (q : Str) (ps : Array Value) (pos : Pos) : Hp := upd (upd H P (.tbl (ps ++ #[rawInt pos.line, rawInt pos.col, .ref k]))) k (CodeO k q)
structure TabUp (T : List (Addr × Str)) (H H1 : Hp) : Prop where
  ext : ExtN H H1
  tabs : Tabs T H1
  dom : ∀ b, H b ≠ none → H1 b ≠ none
theorem tabUp_ok (hT : Tabs T H) (hu : ∀ p ∈ T, p.1 = P → p.2 = q) (hP : H P = some (.tbl ps)) (ht : TriplesOk ps.toList) (ha : ∀ (pos : Pos) (cv : Value), codeAmong pos ps.toList = some cv → ∃ c, cv = .ref c ∧ H c = some (CodeO c q)) (nk : H k = none) :
    TabUp T H (tabUp H P k q ps pos) := by
  have atP : tabUp H P k q ps pos P = some (.tbl (ps ++ #[rawInt pos.line, rawInt pos.col, .ref k])) := by
    unfold tabUp
    rw [upd_ne (ne_of_none hP nk)]
    exact upd_same
  have off : ∀ {b o}, H b = some o → b ≠ P → tabUp H P k q ps pos b = some o := fun {b o} e n => by
    unfold tabUp
    rw [upd_ne (ne_of_none e nk), upd_ne n]
    exact e
  have ex : ExtN H (tabUp H P k q ps pos) := fun b o e n => off e fun z => by
    rw [z, hP] at e
    exact n ps (Option.some.inj e).symm
  refine ⟨ex, fun p hp => ?_, fun b h => ?_⟩
  · by_cases z : p.1 = P
    · rw [hu p hp z, z]
      have el : (ps ++ #[rawInt pos.line, rawInt pos.col, Value.ref k]).toList = ps.toList ++ [rawInt pos.line, rawInt pos.col, .ref k] := Array.toList_append ..
      refine ⟨_, atP, ?_, fun x cv h => ?_⟩
      · rw [el]
        exact PySem.TriplesOk_snoc _ _ _ _ ht
      · rw [el] at h
        rcases among_app _ ht h with g | g
        · obtain ⟨a, e1, e2⟩ := ha x cv g
          exact ⟨a, e1, ex a _ e2 codeO_ne⟩
        · exact ⟨k, g, upd_same⟩
    · obtain ⟨xs, a1, a2, a3⟩ := hT p hp
      refine ⟨xs, off a1 z, a2, fun x cv h => ?_⟩
      obtain ⟨a, e1, e2⟩ := a3 x cv h
      exact ⟨a, e1, ex a _ e2 codeO_ne⟩
  · by_cases z : b = P
    · subst z
      rw [atP]
      simp
    · cases e : H b with
      | none => exact absurd e h
      | some o =>
        rw [off e z]
        simp
end
/-- a lambda's object -/
def LamAt (h : Heap) (f k : Addr) (q : Str) (params : Arguments) (body : Expr) (scope : Scope) (cl : List (Str × Addr)) : Prop := ∃ pm ctv, h.get? f = some (PySem.W.kla_obj "<lambda>" q params body scope cl pm k ctv)
section
variable {X : Cx} {pins : List (Addr × Obj)} {σ : L2.St} {H : Hp} {s : Shared} {T : List (Addr × Str)} {c P : Addr} {params : Arguments} {body : Expr} {scope : Scope} {pos : Pos}
/-- lambda ..: body, evaluated -/
theorem lamMake {E : Value → Shared → Prop} {Q : Value → Shared → Prop} (I : Inv X pins σ H s) (TB : TabB X.base X.mg c P) (hc : X.env.code = .ref c) (hm : (P, X.env.qual ++ "<lambda>") ∈ T) (hu : ∀ p ∈ T, p.1 = P → p.2 = X.env.qual ++ "<lambda>") (hT : Tabs T H) (hd : defaultsOf params X.env = ([], []))
    (hf : ∀ y ∈ scope.names, y.2 = .free → ∃ a, X.env.cells.lookup y.1 = some a)
    (go : ∀ (f k : Addr) (H1 : Hp) (s' : Shared), Inv X pins σ H1 s' → TabUp T H H1 → LamAt s'.heap f k (X.env.qual ++ "<lambda>") params body scope (cloFrom X.env.cells scope.names []) → H1 f = none → f ∉ frs X.stack → H1 k = some (CodeO k (X.env.qual ++ "<lambda>")) → Q (.ref f) s') :
    wpAny (model X.prog X.w) X.A (eval (.Lambda params body scope pos) X.env) Q E s := by
  obtain ⟨ps, hP, ht, ha⟩ := hT _ hm
  have nof : ∀ f, s.heap.objs.size ≤ f → f ∉ frs X.stack := fun f le z => by
    rcases List.mem_cons.mp (I.stkSub _ z) with e | e
    · have lt := I.lt
      rw [← e] at lt
      exact Nat.lt_irrefl _ (Nat.lt_of_lt_of_le lt le)
    · exact I.nofs le e
  have g1 := I.mod.glob.keeps I.bk
  have g2 := TB.code.keeps I.bk
  have g3 : s.heap.BuiltinsAt X.mg P := TB.bm.keeps I.bk
  have g4 : s.heap.get? P = some { cls := .none, data := .fields ps } := I.hok P _ hP
  refine PySem.W.kla_eval hd ?_
  cases e : codeAmong pos ps.toList with
  | some cv =>
    obtain ⟨k, rfl, hk⟩ := ha pos cv e
    refine PySem.W.kla_makeFunctionHit (closure_ok hf) I.ok.glob g1 hc g2 g4 ht e g3 fun ctv h' tk ex sz => ?_
    have I1 := I.kept (t' := tk) fun b o z => Heap.get?_push_of_some (PySem.W.kla_obj "<lambda>" (X.env.qual ++ "<lambda>") params body scope (cloFrom X.env.cells scope.names []) ((X.mg "__name__").getD .none) k ctv) (ex b o z)
    exact go _ k H _ I1 ⟨ExtN.refl H, hT, fun _ z => z⟩ ⟨_, ctv, Heap.get?_push_size _ rfl⟩ (I.hok.fresh sz) (nof _ sz) hk
  | none =>
    refine PySem.W.kla_makeFunction (closure_ok hf) I.ok.glob g1 hc g2 g4 ht e TB.gP g3 fun k ctv h' tk ex sz lt rec tab => ?_
    obtain ⟨_, oc, vs, t, e2, r1, r2, r3⟩ := rec
    cases e2
    have nk : H k = none := I.hok.fresh sz
    have sz2 : s.heap.objs.size ≤ h'.objs.size := by omega
    have up := tabUp_ok (pos := pos) (k := k) hT hu hP ht ha nk
    have I1 : Inv X pins σ (tabUp H P k (X.env.qual ++ "<lambda>") ps pos) { s with heap := h'.push (PySem.W.kla_obj "<lambda>" (X.env.qual ++ "<lambda>") params body scope (cloFrom X.env.cells scope.names []) ((X.mg "__name__").getD .none) k ctv), toks := tk } :=
      inv_table I hP (fun b o n z => Heap.get?_push_of_some _ (ex b o n z)) (Heap.get?_push_of_some _ tab) sz ⟨oc, vs, t, Heap.get?_push_of_some _ r1, r2, r3⟩
    refine go _ k _ _ I1 up ⟨_, ctv, Heap.get?_push_size _ rfl⟩ ?_ (nof _ sz2) upd_same
    have n1 : h'.objs.size ≠ k := by omega
    have n2 : h'.objs.size ≠ P := Nat.ne_of_gt (Nat.lt_of_lt_of_le (Heap.lt_size g4) sz2)
    unfold tabUp
    rw [upd_ne n1, upd_ne n2]
    exact I.hok.fresh sz2
end
/-! ### what a closure promises -/
/-- a lambda's names at its start: its arguments, what it captured -/
def startC (N : List Str) (sl : List Slot) (caps : List (Option PV)) : En := sl.map some ++ (caps.map (fun o => o.map Slot.val) ++ List.replicate (N.length - sl.length - caps.length) none)
def lamD (N : List Str) (caps : List (Option PV)) (mb : M PV) : FnP := fun sl P E => mb (startC N sl caps) (fun d _ => P d) E
def capOf (s : En) (j : Nat) : Option PV := match s[j]? with
  | some (some (.val d)) => some d
  | _ => none
/-- what the cells hold is known -/
def CapsOk (K : PySem.W.Frag) (F : Hp) (ws : List (Option V)) (caps : List (Option PV)) : Prop := caps.length = ws.length ∧ ∀ (i : Nat) (d : PV), caps[i]? = some (some d) → ∃ v, ws[i]? = some (some v) ∧ Dp K F v d
theorem slsA_vals {G : Gr} {F : Hp} {ss : List Slot} {vs : List V} (h : SlsA G F ss vs) {i : Nat} {s : Slot} (e : ss[i]? = some s) : ∃ v, vs[i]? = some v ∧ SlA G F s v := slsA_get h e
theorem sOk_startC {fx : Fx} {N : List Str} {F H : Hp} {sl : List Slot} {vs : List V} {ws : List (Option V)} {caps : List (Option PV)} (c : COk fx F H) (sa : SlsA (gr fx) F sl vs) (hw : CapsOk fx.X.K F ws caps) : SOk fx F (startF N vs ws) H (startC N sl caps) := by
  have hl := sa.length
  obtain ⟨hw1, hw2⟩ := hw
  have at_ : ∀ {i : Nat} {s : Slot}, (startC N sl caps)[i]? = some (some s) → sl[i]? = some s ∨ (sl.length ≤ i ∧ ∃ d, caps[i - sl.length]? = some (some d) ∧ s = .val d) := fun {i s} e => by
    unfold startC at e
    by_cases h1 : i < sl.length
    · rw [List.getElem?_append_left (by rw [List.length_map]; exact h1), List.getElem?_map] at e
      cases q : sl[i]? with
      | none => rw [q] at e; cases e
      | some x => rw [q] at e; cases e; exact .inl rfl
    · rw [List.getElem?_append_right (by rw [List.length_map]; omega), List.length_map] at e
      refine .inr ⟨by omega, ?_⟩
      by_cases h2 : i - sl.length < caps.length
      · rw [List.getElem?_append_left (by rw [List.length_map]; exact h2), List.getElem?_map] at e
        cases q : caps[i - sl.length]? with
        | none => rw [q] at e; cases e
        | some o =>
          rw [q] at e
          cases o with
          | none => cases e
          | some d =>
            cases e
            exact ⟨d, rfl, rfl⟩
      · rw [List.getElem?_append_right (by rw [List.length_map]; omega), List.getElem?_replicate] at e
        split at e <;> cases e
  refine ⟨c, ?_, fun i s e => ?_, fun i j s t v e1 e2 m1 m2 e3 e4 => ?_⟩
  · unfold startC startF
    simp [hl, hw1]
  · rcases at_ e with g | ⟨g, d, g1, rfl⟩
    · obtain ⟨v, e1, e2⟩ := slsA_get sa g
      refine ⟨v, ?_, e2.slot⟩
      have hi := (List.getElem?_eq_some_iff.mp e1).1
      unfold startF
      rw [List.getElem?_append_left (by rw [List.length_map]; exact hi), List.getElem?_map, e1]
      rfl
    · obtain ⟨v, e1, e2⟩ := hw2 _ d g1
      refine ⟨v, ?_, e2⟩
      have hi := (List.getElem?_eq_some_iff.mp e1).1
      unfold startF
      rw [List.getElem?_append_right (by rw [List.length_map]; omega), List.length_map, hl, List.getElem?_append_left hi]
      exact e1
  · rcases at_ e1 with g | ⟨_, _, _, g⟩
    · obtain ⟨v, _, e2⟩ := slsA_get sa g
      exact (e2.notMine m1).elim
    · cases g
      exact m1.elim
/-- THE RULE: a lambda called, by its body -/
theorem clo_run {G : Gr} (g : GrOk G) {j : Nat} {N ps fr : List Str} {F : NF} {f : Addr} {params : Arguments} {body : Expr} {mb : M PV} {A : Around} {outer : List Env} {s : Shared} {H Fk : Hp} {us : List Value} {vs : List V} {ws : List (Option V)} {Q : VK} {E : XK} {sl : List Slot} {caps : List (Option PV)} {P' : PV → Prop} {E' : EP'}
    (S : NScope N ps fr F.scope) (hb : ∀ (pm ctv : Value) (us : List Value), us.length = ps.length → bindArgs (PySem.W.kla_fn "<lambda>" F.qual params body F.scope F.cl pm (.ref F.c) ctv) ⟨us, []⟩ = pure (ps.zip us))
    (r : RoomG (j + 1) A) (e0 : Env0 G.P G.w G.K G.mg G.base A outer s H) (ho : LamAt s.heap f F.c F.qual params body F.scope F.cl) (hc : H F.c = some (CodeO F.c F.qual)) (C : CellsAt F.cl fr ws s.heap H) (rv : Vals vs us) (hl : vs.length = ps.length)
    (c : CB G.T Fk H Fk H) (sa : SlsA G Fk sl vs) (hw : CapsOk G.K Fk ws caps) (d : lamD N caps mb sl P' E')
    (hbody : ∀ fx : Fx, gr fx = G → Fr fx j → fx.X.N = N → fx.X.env.scope = F.scope → EOk fx body mb)
    (hQ : ∀ d F' H' v, P' d → CB G.T Fk H F' H' → Dp G.K F' v d → Q v H') (hE : ∀ e F' H' cls dd, E' e → CB G.T Fk H F' H' → ExRep G.mg G.K F' H' e cls dd → E cls dd H') :
    codeAny (model G.P G.w) A (.call (.ref f) ⟨us, []⟩) (CR (L2.CX G.P G.w) outer G.P G.w H s Q E) s := by
  obtain ⟨pm, ctv, ho⟩ := ho
  have lim : s.heap.NoLimit := e0.mod.nolimit.keeps fun b o e => (e0.bs b o e).1
  refine PySem.W.kla_callFunE r.r.depth ho rfl S.co S.gen rfl (codeO_at e0.hok hc) ?_
  rw [hb pm ctv us (by rw [← rv.length]; exact hl)]
  refine wpAny_pure (wpAny_newFunctionEnv S.nocell (fun ⟨n, _⟩ hy => S.par n (List.of_mem_zip hy).1) (fun h₁ hns hsb => ⟨lim.fresh _ hsb, ?_⟩) S.kind)
  have hr' : Room j (A.deeper (envF F f s.heap.objs.size)) := r.r.deeper _
  let fx : Fx := { X := ncx (L2.CX G.P G.w) G.P G.w G.K G.mg G.base N F f A outer s H E, W := fun cls d _ H => E cls d H, T := G.T, F0 := Fk, H0 := H, clo := G.clo, cloMono := g.cloMono }
  have fr : Fr fx j := ⟨⟨rfl, S.nd, r.r.hd, r.gd, by have := hr'.un; show (A.deeper _).units + 200 < cLine; omega, g.kt⟩, g, ⟨hr', r.gd⟩, takes_of rfl rfl rfl rfl⟩
  obtain ⟨t, p, sim⟩ := (hbody fx rfl fr rfl rfl).ex
  have kp : ∀ b o, s.heap.get? b = some o → h₁.get? b = some o := fun b o e => hsb.extBut b o (Nat.ne_of_lt (Heap.lt_size e)) (Heap.get?_push_of_some _ e)
  have I : Inv fx.X [] (startF N vs ws) H { s with heap := h₁, toks := s.toks + (ps.zip us).length } := inv_startN S r.r.hd e0 hl rv C hns kp
  have so : SOk fx Fk (startF N vs ws) H (startC N sl caps) := sOk_startC (fx := fx) c sa hw
  have tt : t (startF N vs ws) H Q := sim Fk _ H _ _ E' Q so d (fun d env' F' H' v q st le s' dv => hQ d F' H' v q s'.c dv) fun e F' H' cls dd σ' q sm c' er => hE e F' H' cls dd q c' er
  show codeAny _ _ (.expr body (envF F f s.heap.objs.size)) _ _
  refine PySem.W.kla_codeExpr (wpAny_mono (p.run [] _ _ H Q I tt) (fun v s' hq => ?_) fun e s' hq => hq)
  obtain ⟨w', H', J, rq, q⟩ := hq
  exact ⟨w', H', J.os, J.bare, J.base, J.hok, rq, q⟩
/-! ### a name that holds a closure, called -/
structure CloCall (fx : Fx) (n : Nat) (f : Addr) (D : FnP) : Prop where
  fn : ∀ {pins : List (Addr × Obj)} {σ : L2.St} {H : Hp} {s : Shared}, Inv fx.X pins σ H s → PySem.W.FnAt f s.heap
  run : ∀ {pins : List (Addr × Obj)} {σ : L2.St} {H F : Hp} {s : Shared} {us : List Value} {vs : List V} {Q : VK} {sl : List Slot} {P' : PV → Prop} {E' : EP'}, Inv fx.X pins σ H s → Vals vs us → vs.length = n → COk fx F H → SlsA (gr fx) F sl vs → D sl P' E' →
    (∀ d F' H' v, P' d → CB fx.T F H F' H' → Dp fx.X.K F' v d → Q v H') → (∀ e F' H' cls dd, E' e → CB fx.T F H F' H' → ExRep fx.X.mg fx.X.K F' H' e cls dd → ∀ σ', fx.W cls dd σ' H') → wpAny (model fx.X.prog fx.X.w) fx.X.A (call (.ref f) us) (EP fx.X pins σ Q) fx.X.xe s
def callV (i : Nat) (f : Addr) (n : Nat) (D : FnP) (sl : List Slot) : M Res := fun s P E => s[i]? = some (some (.clo f [])) ∧ sl.length = n ∧ D sl (fun d => P (.val d) s) E
def rdClo (i : Nat) (f : Addr) : M Unit := fun s P _ => s[i]? = some (some (.clo f [])) ∧ P () s
theorem rCallV {fx : Fx} {i n : Nat} {f : Addr} {x : Str} {e : Expr} {es : List Expr} {m : M (List Slot)} {D : FnP} {p pos : Pos} (cc : CloCall fx n f D) (hcl : ∀ F v cs, fx.clo F v f cs → v = .ref f) (nm : NameOk fx i x) (hs : (e :: es).any isStar = false) (ha : LOk fx (e :: es) m) :
    ROk fx (.Call (.Name x p) (e :: es) [] pos) (rdClo i f >>= fun _ => m >>= callM n D) := by
  obtain ⟨t, pa, sa⟩ := ha.ex
  have hs' := hs
  rw [List.any_cons, Bool.or_eq_false_iff] at hs'
  refine ⟨fun σ H Q => σ[i]? = some (some (.ref f)) ∧ t σ H fun vs H1 => ∃ (F : Hp) (sl : List Slot) (P' : PV → Prop) (E' : EP'), vs.length = n ∧ COk fx F H1 ∧ SlsA (gr fx) F sl vs ∧ D sl P' E' ∧
      (∀ d F' H' v, P' d → CB fx.T F H1 F' H' → Dp fx.X.K F' v d → Q v H') ∧ (∀ e F' H' cls dd, E' e → CB fx.T F H1 F' H' → ExRep fx.X.mg fx.X.K F' H' e cls dd → ∀ σ', fx.W cls dd σ' H'), ⟨fun pins s σ H Q I h => ?_⟩, fun F σ H env P E Q so hm hq hx => ?_⟩
  · obtain ⟨h1, h2⟩ := h
    refine wpAny_Call_Name_kw (thn ((pe_var (pos := p) nm.at_ nm.vis nm.d1 nm.d2).run pins s σ H (fun v H1 => v = .ref f ∧ H1 = H) I ⟨.ref f, h1, rfl, rfl⟩) fun u s1 ⟨v, H1, I1, r1, q1⟩ => ?_)
    obtain ⟨ev, eH⟩ := q1
    subst ev
    rw [eH] at I1
    obtain rfl : u = Value.ref f := r1
    refine PySem.W.callWith_F (first := []) (cc.fn I1) (thn (pa.run pos pins s1 σ H _ I1 h2) fun us s2 ⟨vs, H2, I2, r, F, sl, P', E', q1, q2, q3, q4, q5, q6⟩ => ⟨cc.fn I2, cc.run I2 r q1 q2 q3 q4 q5 q6⟩) (starEach_plain hs'.1) (noStars_any hs'.2)
  · obtain ⟨hm1, hm2⟩ := hm
    obtain ⟨v, ev, so1⟩ := so.slot i _ hm1
    have ev2 : v = .ref f := hcl F v [] so1
    subst ev2
    refine ⟨ev, sa F σ H env _ E _ so hm2 (fun sl env1 F1 H1 vs g st le s1 sl1 => ?_) hx⟩
    refine ⟨F1, sl, _, E, by rw [sl1.length]; exact g.1, s1.c, sl1, g.2, fun d F' H' v g' c dv => ?_, fun e F' H' cls dd g' c er σ' => hx.later st.sm e F' H' cls dd σ' g' c.f0 (s1.c.back c) er⟩
    obtain ⟨st2, s2⟩ := s1.called c
    exact hq (.val d) env1 F' H' v g' (st.tr le st2) le s2 dv
end FS
namespace FS
open PySem PySem.Spec PyProof.Rows L2 LamX NdefX
/-! a def that calls what it got; the def that hands it a lambda -/
abbrev DwP := Addr → FnP → FnP
/-- as DOk, for a def whose one argument is a closure of n arguments -/
structure DOkC (G : Gr) (k : Nat) (f : Addr) (fd : FuncData) (ps : List Str) (n : Nat) (Dw : DwP) : Prop where
  run : ∀ (A : Around) (outer : List Env) (s : Shared) (H : Hp) (args : Args) (us : List Value) (vs : List V) (Q : VK) (E : XK) (F : Hp) (sl : List Slot) (P' : PV → Prop) (E' : EP') (f0 : Addr) (D : FnP),
    RoomG (k + 1) A → Env0 G.P G.w G.K G.mg G.base A outer s H → BindsTo s fd args (ps.zip us) → Vals vs us → vs.length = ps.length → CB G.T F H F H → SlsA G F sl vs → Dw f0 D sl P' E' →
    (∀ fx : Fx, gr fx = G → Fr fx k → fx.F0 = F → fx.H0 = H → fx.X.s_0 = s → fx.X.H_0 = H → fx.X.outer = outer → fx.X.ex = [] → CloCall fx n f0 D) →
    (∀ d F' H' v, P' d → CB G.T F H F' H' → Dp G.K F' v d → Q v H') → (∀ e F' H' cls dd, E' e → CB G.T F H F' H' → ExRep G.mg G.K F' H' e cls dd → E cls dd H') →
    codeAny (model G.P G.w) A (.call (.ref f) args) (CR (L2.CX G.P G.w) outer G.P G.w H s Q E) s
theorem DOkC.of {G : Gr} (g : GrOk G) {k n : Nat} {f : Addr} {name qual : Str} {params : Arguments} {body : List Stmt} {scope : Scope} {dV kV doc pm cdv ct oc : Value} {an od : Option Addr} {osl : Array (Option Value)} {N ps : List Str} {m : Addr → FnP → M Out}
    (lk : G.K.lookup f = some ⟨oc, od, .func (PySem.W.fnOf name qual params body scope dV kV doc pm an cdv ct), osl⟩) (hcd : PySem.W.codeIn G.K cdv qual = true) (S : FnScope N ps scope)
    (hb : ∀ (f0 : Addr) (D : FnP) (fx : Fx), gr fx = G → Fr fx k → fx.X.N = N → fx.X.env.scope = scope → PassesOwn (model fx.X.prog fx.X.w) fx.X.A fx.X.env fx.X.xe → (∀ y, fx.X.fn y = true) → CloCall fx n f0 D → SsOk fx body (m f0 D)) :
    DOkC G k f (PySem.W.fnOf name qual params body scope dV kV doc pm an cdv ct) ps n (fun f0 D => fnM N (m f0 D)) := by
  refine ⟨fun A outer s H args us vs Q E F sl P' E' f0 D r e0 bt rv hl c sa d cc hQ hE => ?_⟩
  refine run_ofS (N := N) lk hcd S r.r e0 bt rv hl fun hr' => ?_
  let fx : Fx := { X := cxOf (L2.CX G.P G.w) G.P G.w G.K G.mg G.base N qual scope f cdv A outer s H E, W := fun cls d _ H => E cls d H, T := G.T, F0 := F, H0 := H, clo := G.clo, cloMono := g.cloMono }
  have fr : Fr fx k := ⟨⟨rfl, S.nd, r.r.hd, r.gd, by have := hr'.un; show (A.deeper _).units + 200 < cLine; omega, g.kt⟩, g, ⟨hr', r.gd⟩, takes_of rfl rfl rfl rfl⟩
  obtain ⟨t, p, sim⟩ := (hb f0 D fx rfl fr rfl rfl (passes_of rfl) (fun _ => rfl) (cc fx rfl fr rfl rfl rfl rfl rfl rfl)).ex
  refine ⟨t, p, ?_⟩
  have so : SOk fx F (L2.start N vs) H (startE N sl) := sOk_start (fx := fx) c sa
  refine sim F _ H _ _ E' _ so d (fun env' F' σ' H' q sm s' => hQ .none F' H' .non q s'.c .non) (fun d env' F' σ' H' v q sm s' dv => hQ d F' H' v q s'.c dv) (fun _ _ _ _ q => q.elim) (fun _ _ _ _ q => q.elim) ?_
  exact fun e F' H' cls dd σ' q sm c' er => hE e F' H' cls dd q c' er
structure DefOkC (G : Gr) (x : Str) (k : Nat) (ps : List Str) (params : Arguments) (body : List Stmt) (scope : Scope) (n : Nat) (Dw : DwP) : Prop where
  ex : ∃ f fd, G.mg x = some (.ref f) ∧ FunD G.K x x params body scope [] [] f fd ∧ DOkC G k f fd ps n Dw
theorem DefOkC.of {G : Gr} {x : Str} {k n : Nat} {ps N : List Str} {params : Arguments} {body : List Stmt} {scope : Scope} {m : Addr → FnP → M Out} (g : GrOk G) (h : ∃ f fd, G.mg x = some (.ref f) ∧ FunD G.K x x params body scope [] [] f fd) (S : FnScope N ps scope)
    (hb : ∀ (f0 : Addr) (D : FnP) (fx : Fx), gr fx = G → Fr fx k → fx.X.N = N → fx.X.env.scope = scope → PassesOwn (model fx.X.prog fx.X.w) fx.X.A fx.X.env fx.X.xe → (∀ y, fx.X.fn y = true) → CloCall fx n f0 D → SsOk fx body (m f0 D)) : DefOkC G x k ps params body scope n (fun f0 D => fnM N (m f0 D)) := by
  obtain ⟨f, fd, hm, F⟩ := h
  refine ⟨f, fd, hm, F, ?_⟩
  obtain ⟨oc, od, dV, kV, doc, pm, an, cdv, ct, osl, rfl, lk, hcd, _, _⟩ := F.ex
  exact DOkC.of g lk hcd S hb
/-! what the cells hold -/
theorem capsOk_of {fx : Fx} {F : Hp} {σ : L2.St} {H : Hp} {env : En} (so : SOk fx F σ H env) (js : List Nat) : CapsOk fx.X.K F (js.map (slotAt σ)) (js.map (capOf env)) := by
  refine ⟨by rw [List.length_map, List.length_map], fun i d e => ?_⟩
  rw [List.getElem?_map] at e
  cases q : js[i]? with
  | none => rw [q] at e; cases e
  | some j =>
    rw [q] at e
    have e : capOf env j = some d := Option.some.inj e
    unfold capOf at e
    split at e
    · rename_i d' h
      cases e
      obtain ⟨v, e1, e2⟩ := so.slot j _ h
      exact ⟨v, by rw [List.getElem?_map, q]; exact congrArg some (slotAt_of e1), e2⟩
    · cases e
theorem CapsOk.same {K : PySem.W.Frag} {F F' : Hp} {ws : List (Option V)} {caps : List (Option PV)} (h : CapsOk K F ws caps) (sm : Same F F') : CapsOk K F' ws caps := ⟨h.1, fun i d e => let ⟨v, e1, e2⟩ := h.2 i d e; ⟨v, e1, dp_same sm d e2⟩⟩
theorem cells_later {X : Cx} {pins : List (Addr × Obj)} {σ : L2.St} {H : Hp} {s : Shared} {cl : List (Str × Addr)} {fr : List Str} {ws : List (Option V)} (C : CellsAt cl fr ws X.s_0.heap X.H_0) (hx : X.ex = []) (I : Inv X pins σ H s) : CellsAt cl fr ws s.heap H := by
  have no : ∀ b : Addr, b ∉ X.ex := fun b z => by rw [hx] at z; cases z
  have kp : ∀ {c : Addr} {v : Option Value}, X.H_0 c = none → X.s_0.heap.IsCell c v → s.heap.IsCell c v := fun {c v} n ⟨o, ho, hd⟩ => by
    obtain ⟨sl, q⟩ := I.base.any ho n (no c)
    exact ⟨_, q, hd⟩
  refine ⟨C.len, fun y c e => ?_, C.inj, fun i y e => ?_⟩
  · obtain ⟨n, v, z⟩ := C.all y c e
    obtain ⟨o, ho, hd⟩ := id z
    exact ⟨I.base.free c o ho n (no c), v, kp n z⟩
  · obtain ⟨c, hc, hv⟩ := C.has i y e
    refine ⟨c, hc, fun v ev => ?_⟩
    obtain ⟨u, r, z⟩ := hv v ev
    exact ⟨u, r, kp (C.all y c hc).1 z⟩
/-- the maker's code object and its table -/
structure LamFx (fx : Fx) : Prop where
  ex : ∃ c P, TabB fx.X.base fx.X.mg c P ∧ fx.X.env.code = .ref c ∧ (P, fx.X.env.qual ++ "<lambda>") ∈ fx.T ∧ ∀ p ∈ fx.T, p.1 = P → p.2 = fx.X.env.qual ++ "<lambda>"
/-- a list of wells: a name that holds it is told by the slot .clo D [.int n] -/
def WellsAt (F : Hp) (D : Addr) (n : Int) : Prop := ∃ vs : List V, F D = some (.lst vs) ∧ (vs.length : Int) = n ∧ ∀ v ∈ vs, ∃ a, v = .ref a ∧ F a = some wellMark
theorem WellsAt.same {F F' : Hp} {D : Addr} {n : Int} (sm : Same F F') (h : WellsAt F D n) : WellsAt F' D n := by
  obtain ⟨vs, e1, e2, e3⟩ := h
  refine ⟨vs, sm _ _ e1, e2, fun v hv => ?_⟩
  obtain ⟨a, e4, e5⟩ := e3 v hv
  exact ⟨a, e4, sm _ _ e5⟩
/-- known closures are what they are told to be -/
structure GrC (G : Gr) : Prop where
  is_ : ∀ (F : Hp) (f : Addr), G.clo F (.ref f) f []
  un : ∀ (F : Hp) (v : V) (f : Addr) (cs : List PV), G.clo F v f cs → v = .ref f
  wl : ∀ (F : Hp) (v : V) (D : Addr) (n : Int), G.clo F v D [.int n] ↔ v = .ref D ∧ WellsAt F D n
def lamCall (N : List Str) (js : List Nat) (mb : M PV) (Dw : DwP) (d : PV) : M Res := fun s P E => ∀ f0, Dw f0 (lamD N (js.map (capOf s)) mb) [.val d, .clo f0 []] (fun r => P (.val r) s) E
theorem codeO_not_well {c : Addr} {q : Str} : CodeO c q ≠ wellMark := fun z => by
  unfold CodeO at z
  cases z
/-- the callee's frame may call the closure -/
theorem clo_ready {fx : Fx} {G : Gr} {Xm : Cx} {k j : Nat} {Nl ps fr : List Str} {NFx : NF} {f : Addr} {params : Arguments} {body : Expr} {mb : M PV} {s : Shared} {H F : Hp} {ws : List (Option V)} {caps : List (Option PV)}
    (eG : gr fx = G) (ok : Fr fx k) (hj : j + 1 ≤ k) (f0 : fx.F0 = F) (h0 : fx.H0 = H) (es : fx.X.s_0 = s) (eh : fx.X.H_0 = H) (eo : fx.X.outer = Xm.stack) (ex : fx.X.ex = [])
    (S : NScope Nl ps fr NFx.scope) (hb : ∀ (pm ctv : Value) (us : List Value), us.length = ps.length → bindArgs (PySem.W.kla_fn "<lambda>" NFx.qual params body NFx.scope NFx.cl pm (.ref NFx.c) ctv) ⟨us, []⟩ = pure (ps.zip us))
    (ho : LamAt s.heap f NFx.c NFx.qual params body NFx.scope NFx.cl) (hf : H f = none) (hfr : f ∉ frs Xm.stack) (hc : H NFx.c = some (CodeO NFx.c NFx.qual)) (C : CellsAt NFx.cl fr ws s.heap H) (c0 : CB G.T F H F H) (hw : CapsOk G.K F ws caps)
    (hbody : ∀ fx' : Fx, gr fx' = G → Fr fx' j → fx'.X.N = Nl → fx'.X.env.scope = NFx.scope → EOk fx' body mb) : CloCall fx ps.length f (lamD Nl caps mb) := by
  subst eG
  subst f0
  have at_ : ∀ {pins : List (Addr × Obj)} {σ : L2.St} {H' : Hp} {s' : Shared}, Inv fx.X pins σ H' s' → LamAt s'.heap f NFx.c NFx.qual params body NFx.scope NFx.cl := fun {pins σ H' s'} I => by
    obtain ⟨pm, ctv, o⟩ := ho
    refine ⟨pm, ctv, I.base.keep f _ (by rw [es]; exact o) (by rw [eh]; exact hf) ?_ (by rw [ex]; exact List.not_mem_nil)⟩
    show f ∉ frs fx.X.outer
    rw [eo]
    exact hfr
  refine ⟨fun I => ?_, fun {pins σ H' Fk s' us vs Q sl P' E'} I rv hl c sa d hQ hE => ?_⟩
  · obtain ⟨pm, ctv, o⟩ := at_ I
    exact ⟨_, _, _, _, o⟩
  · have nw : fx.F0 NFx.c ≠ some wellMark := fun z => by
      obtain ⟨x, y, z', w, _⟩ := (c0.sub NFx.c _ z).1 rfl
      rw [hc] at w
      have w := Option.some.inj w
      unfold CodeO at w
      cases w
    have hc' : H' NFx.c = some (CodeO NFx.c NFx.qual) := c.h0 _ _ (by rw [h0]; exact hc) nw fun ps z => codeO_ne ps z
    have C' : CellsAt NFx.cl fr ws s'.heap H' := cells_later (by rw [es, eh]; exact C) ex I
    refine wpAny_call (codeAny_mono (clo_run (G := gr fx) ok.g S hb (ok.mono hj).room I.env0 (at_ I) hc' C' rv hl c.here sa (hw.same c.f0) d hbody hQ hE (E := fun cls dd H' => ∀ σ', fx.W cls dd σ' H')) fun r s2 hq => ?_)
    cases r with
    | error e => exact passes_call ok.tk (fun cls d σ H h => h σ) pins σ H' s' e s2 I hq
    | ok fl =>
      cases fl with
      | ret u => exact I.after hq
      | next => exact False.elim hq
      | brk => exact False.elim hq
      | cont => exact False.elim hq
section
variable {fx : Fx} {k j n : Nat} {x : Str} {ps : List Str} {params prm : Arguments} {bd : List Stmt} {sc scope : Scope} {Dw : DwP} {e body : Expr} {me mb : M PV} {Nl lps lfr : List Str} {js : List Nat} {p lpos pos : Pos}
/-- behind the making of the lambda what was known is known -/
theorem CB.tabUp {T : List (Addr × Str)} {F H H2 : Hp} (c : CB T F H F H) (up : TabUp T H H2) : CB T F H2 F H2 := by
  refine ⟨fun a o e => ⟨fun z => ?_, fun z => ?_⟩, Same.refl _, fun _ _ h _ _ => h, fun _ h => .inl h, fun _ h => h, up.tabs, c.tn⟩
  · obtain ⟨x, y, z', w, r⟩ := (c.sub a o e).1 z
    exact ⟨x, y, z', up.ext a _ w (fun ps q => by cases q), r⟩
  · refine up.ext a o ((c.sub a o e).2 z) fun ps q => ?_
    have := c.tn a o e
    rw [q] at this
    exact this
theorem CB.overUp {T : List (Addr × Str)} {F H H2 F' H' : Hp} (up : TabUp T H H2) (c : CB T F H2 F' H') : CB T F H F' H' :=
  ⟨c.sub, c.f0, fun a o h n m => c.h0 a o (up.ext a o h m) n m, fun a h => (c.fresh a h).elim .inl fun z => .inr (by
    cases q : H a with
    | none => rfl
    | some o => exact absurd z (up.dom a (by rw [q]; simp))), fun a h => c.mono a (up.dom a h), c.tabs, c.tn⟩
/-- x(e, lambda ..: body) -/
theorem rLamCall (fr : Fr fx k) (gc : GrC (gr fx)) (dc : DefOkC (gr fx) x n ps prm bd sc lps.length Dw) (hps : ps.length = 2) (b : Bd x ps prm bd sc) (hg : Gl fx.X x) (hdb : (x == ("__debug__" : Str)) = false) (hs : isStar e = false) (hn : n + 1 ≤ k) (hj : j + 1 ≤ n) (lt : LamFx fx)
    (hdef : defaultsOf params fx.X.env = ([], [])) (hS : nscB Nl lps lfr scope = true) (hnd : ndefB fx.X.env.scope scope lfr = true) (hjs : js.map (fun j => fx.X.N[j]?) = lfr.map some)
    (hb : ∀ (q : Str) (cl : List (Str × Addr)) (pm cv ctv : Value) (us : List Value), us.length = lps.length → bindArgs (PySem.W.kla_fn "<lambda>" q params body scope cl pm cv ctv) ⟨us, []⟩ = pure (lps.zip us))
    (he : EOk fx e me) (hbody : ∀ fx' : Fx, gr fx' = gr fx → Fr fx' j → fx'.X.N = Nl → fx'.X.env.scope = scope → EOk fx' body mb) : ROk fx (.Call (.Name x p) [e, .Lambda params body scope lpos] [] pos) (me >>= lamCall Nl js mb Dw) := by
  obtain ⟨te, pe, se⟩ := he.ex
  obtain ⟨f, fd, hm, Fd, Dk⟩ := dc.ex
  obtain ⟨c, P, TB, hcode, hmem, hu⟩ := lt.ex
  have S := nscope_by hS
  refine ⟨fun σ H Q => te σ H fun v H1 => ∃ (F : Hp) (env : En) (d : PV) (P' : PV → Prop) (E' : EP'), SOk fx F σ H1 env ∧ Dp fx.X.K F v d ∧ (∀ f0, Dw f0 (lamD Nl (js.map (capOf env)) mb) [.val d, .clo f0 []] P' E') ∧
      (∀ d F' H' v, P' d → CB fx.T F H1 F' H' → Dp fx.X.K F' v d → Q v H') ∧ (∀ e F' H' cls dd, E' e → CB fx.T F H1 F' H' → ExRep fx.X.mg fx.X.K F' H' e cls dd → ∀ σ', fx.W cls dd σ' H'), ⟨fun pins s σ H Q I h => ?_⟩, fun F σ H env P E Q so hm hq hx => ?_⟩
  · refine wpAny_Call_Name_kw (ld_glob I hg hm ?_ hdb)
    refine PySem.W.callWith_K (h₀ := fx.X.base) I.ok.mod.kin Fd.kp ?_ (starEach_plain hs) (by rfl)
    rw [starEach_plain hs]
    show wpAny _ _ (spliced ((false, eval e fx.X.env) :: (false, eval (.Lambda params body scope lpos) fx.X.env) :: [])) _ _ s
    refine Calls.spliced_cons (thn (pe.run pins s σ H _ I h) fun u s1 ⟨v, H1, I1, ru, F, env, d, P', E', so, dv, hD, hQ, hE⟩ => ?_)
    have hfree : ∀ y ∈ scope.names, y.2 = .free → ∃ a, fx.X.env.cells.lookup y.1 = some a := fun y hy e => (ndef_free hnd y hy e).elim (fun z => I1.ok.has _ (.inl z)) fun z => I1.ok.has _ (.inr z)
    refine Calls.spliced_cons (lamMake I1 TB hcode hmem hu so.c.tabs hdef hfree fun fl kk H2 s2 I2 up ho nf nfr hck => ?_)
    refine Calls.spliced_nil ⟨I2.kIn, ?_⟩
    have C := cells_of I2 (Caps.made (scope := scope) I2.ok (ndef_free hnd) (ndef_fr hnd) hjs)
    have c2 : CB fx.T F H2 F H2 := CB.tabUp so.c.here up
    have vl : ∀ (us : List Value), us.length = ps.length → BindsTo s2 fd ⟨us, []⟩ (ps.zip us) := fun us hl => by
      obtain ⟨kV, doc, pm, an, cdv, ct, rfl⟩ := fun_none Fd
      exact .of_eq (b kV doc pm an cdv ct us hl)
    refine wpAny_call (codeAny_mono (Dk.run fx.X.A fx.X.stack s2 H2 ⟨[u, .ref fl], []⟩ [u, .ref fl] [v, .ref fl] Q (fun cls dd H' => ∀ σ', fx.W cls dd σ' H') F [.val d, .clo fl []] P' E' fl (lamD Nl (js.map (capOf env)) mb)
      (fr.mono hn).room I2.env0 (vl _ (by rw [hps]; rfl)) (.cons ru (.cons rfl .nil)) (by rw [hps]; rfl) c2 (.cons dv (.cons (gc.is_ _ _) .nil)) (hD fl)
      (fun fx' e1 e2 e3 e4 e5 e6 e7 e8 => clo_ready (Xm := fx.X) (NFx := ⟨"<lambda>", fx.X.env.qual ++ "<lambda>", params, [], scope, cloFrom fx.X.env.cells scope.names [], kk⟩) e1 e2 hj e3 e4 e5 e6 e7 e8 S (fun pm ctv us h => hb _ _ pm _ ctv us h) ho nf nfr hck C c2 (capsOk_of so js) hbody)
      (fun d F' H' v q c dv => hQ d F' H' v q (CB.overUp up c) dv) fun e F' H' cls dd q c er => hE e F' H' cls dd q (CB.overUp up c) er) fun r s3 hq => ?_)
    cases r with
    | error e => exact passes_call fr.tk (fun cls d σ H h => h σ) pins σ H2 s2 e s3 I2 hq
    | ok fl =>
      cases fl with
      | ret u => exact I2.after hq
      | next => exact False.elim hq
      | brk => exact False.elim hq
      | cont => exact False.elim hq
  · refine se F σ H env _ E _ so hm (fun d env1 F1 H1 v g st le s1 dv => ?_) hx
    refine ⟨F1, env1, d, _, E, s1, dv, g, fun r F' H' w g' c dw => ?_, fun e F' H' cls dd g' c er σ' => hx.later st.sm e F' H' cls dd σ' g' c.f0 (s1.c.back c) er⟩
    obtain ⟨st2, s2⟩ := s1.called c
    exact hq (.val r) env1 F' H' w g' (st.tr le st2) le s2 dw
end
end FS
namespace FS
open PySem PySem.Spec PyProof.Rows L2 LamX NdefX
/-! laws whose defs hand out lambdas: the ground, the end -/
def groundT (P : Program) (w : World) (K : PySem.W.Frag) (mg : Str → Option Value) (base : Heap) (T : List (Addr × Str)) : Gr := ⟨P, w, K, mg, base, T, fun F v i cs => v = .ref i ∧ ∀ n, cs = [.int n] → WellsAt F i n⟩
theorem groundT_c {P : Program} {w : World} {K : PySem.W.Frag} {mg : Str → Option Value} {base : Heap} {T : List (Addr × Str)} : GrC (groundT P w K mg base T) := ⟨fun _ _ => ⟨rfl, fun _ z => nomatch z⟩, fun _ _ _ _ h => h.1, fun _ _ _ n => ⟨fun h => ⟨h.1, h.2 n rfl⟩, fun h => ⟨h.1, fun m z => by cases z; exact h.2⟩⟩⟩
theorem groundT_mono {P : Program} {w : World} {K : PySem.W.Frag} {mg : Str → Option Value} {base : Heap} {T : List (Addr × Str)} (F F' : Hp) (v : V) (i : Nat) (cs : List PV) (sm : Same F F') (h : (groundT P w K mg base T).clo F v i cs) : (groundT P w K mg base T).clo F' v i cs := ⟨h.1, fun n e => (h.2 n e).same sm⟩
/-- the maker x has its table among the ground's -/
structure LamT (G : Gr) (x : Str) : Prop where
  ex : ∃ c P, TabB G.base G.mg c P ∧ (P, x ++ ".<locals>." ++ "<lambda>") ∈ G.T ∧ (∀ p ∈ G.T, p.1 = P → p.2 = x ++ ".<locals>." ++ "<lambda>") ∧
    ∀ (f : Addr) (oc : Value) (od : Option Addr) (fd : FuncData) (osl : Array (Option Value)), G.mg x = some (.ref f) → G.K.lookup f = some ⟨oc, od, .func fd, osl⟩ → fd.code = .ref c
/-- as DefOk.of, for a def that hands out a lambda -/
theorem DefOk.ofL {G : Gr} {x : Str} {k : Nat} {ps N : List Str} {params : Arguments} {body : List Stmt} {scope : Scope} {mo : M Out} (g : GrOk G) (h : ∃ f fd, G.mg x = some (.ref f) ∧ FunD G.K x x params body scope [] [] f fd) (S : FnScope N ps scope) (lt : LamT G x)
    (hb : ∀ fx : Fx, gr fx = G → Fr fx k → fx.X.N = N → fx.X.env.scope = scope → PassesOwn (model fx.X.prog fx.X.w) fx.X.A fx.X.env fx.X.xe → (∀ y, fx.X.fn y = true) → LamFx fx → SsOk fx body mo) : DefOk G x (k + 1) ps params body scope (fnM N mo) := by
  obtain ⟨f, fd, hm, F⟩ := h
  refine ⟨f, fd, hm, F, ?_⟩
  obtain ⟨oc, od, dV, kV, doc, pm, an, cdv, ct, osl, rfl, lk, hcd, _, _⟩ := F.ex
  obtain ⟨c, P, TB, m1, m2, m3⟩ := lt.ex
  have ec : cdv = .ref c := m3 f oc od _ osl hm lk
  refine ⟨fun A outer s H args us vs Q E Fk sl P' E' r e0 bt rv hl cb sa d hQ hE => ?_⟩
  refine run_ofS (N := N) lk hcd S r.r e0 bt rv hl fun hr' => ?_
  let fx : Fx := { X := cxOf (L2.CX G.P G.w) G.P G.w G.K G.mg G.base N x scope f cdv A outer s H E, W := fun cls d _ H => E cls d H, T := G.T, F0 := Fk, H0 := H, clo := G.clo, cloMono := g.cloMono }
  have fr : Fr fx k := ⟨⟨rfl, S.nd, r.r.hd, r.gd, by have := hr'.un; show (A.deeper _).units + 200 < cLine; omega, g.kt⟩, g, ⟨hr', r.gd⟩, takes_of rfl rfl rfl rfl⟩
  obtain ⟨t, p, sim⟩ := (hb fx rfl fr rfl rfl (passes_of rfl) (fun _ => rfl) ⟨c, P, TB, ec, m1, m2⟩).ex
  refine ⟨t, p, ?_⟩
  have so : SOk fx Fk (L2.start N vs) H (startE N sl) := sOk_start (fx := fx) cb sa
  refine sim Fk _ H _ _ E' _ so d (fun env' F' σ' H' q sm s' => hQ .none F' H' .non q s'.c .non) (fun d env' F' σ' H' v q sm s' dv => hQ d F' H' v q s'.c dv) (fun _ _ _ _ q => q.elim) (fun _ _ _ _ q => q.elim) ?_
  exact fun e F' H' cls dd σ' q sm c' er => hE e F' H' cls dd q c' er
/-! the law's own call, tables in the heap -/
structure TabsIn (K : PySem.W.Frag) (h : Heap) (cs : List (Addr × Addr)) : Prop where
  empty : ∀ p ∈ cs, h.get? p.2 = some { cls := .none, data := .fields #[] }
  out : ∀ p ∈ cs, K.lookup p.2 = none
  hd : ∀ p ∈ cs, PySem.W.CodeHd h p.1 p.2
/-- the heap at the start: the script perhaps, the tables -/
structure StartH (cs : List (Addr × Addr)) (a : Addr) (H : Hp) : Prop where
  kind : ∀ b u, H b = some u → (b = a ∧ ∃ ob xs, u = .frz ob (.lst xs)) ∨ (b ∈ cs.map (·.2) ∧ u = .tbl #[])
  tab : ∀ p ∈ cs, H p.2 = some (.tbl #[])
/-- what is known at the start: the script -/
def knownH (H : Hp) (a : Addr) (cs : List (Addr × Addr)) : Hp := fun b => if b ∈ cs.map (·.2) then none else H b
theorem start_cb {cs : List (Addr × Addr)} {a : Addr} {H : Hp} {T : List (Addr × Str)} (st : StartH cs a H) (hT : ∀ p ∈ T, p.1 ∈ cs.map (·.2)) : CB T (knownH H a cs) H (knownH H a cs) H := by
  have inn : ∀ {b o}, knownH H a cs b = some o → H b = some o ∧ ∃ ob xs, o = .frz ob (.lst xs) := fun {b o} e => by
    unfold knownH at e
    split at e
    · cases e
    · rename_i nb
      refine ⟨e, ?_⟩
      rcases st.kind b o e with ⟨_, z⟩ | ⟨z, _⟩
      · exact z
      · exact absurd z nb
  refine ⟨fun b o e => ?_, Same.refl _, fun _ _ h _ _ => h, fun _ h => .inl h, fun _ h => h, fun p hp => ?_, fun b o e => ?_⟩
  · obtain ⟨e1, ob, xs, rfl⟩ := inn e
    exact ⟨fun z => (by cases z), fun _ => e1⟩
  · obtain ⟨q, hq, e⟩ := List.mem_map.mp (hT p hp)
    exact TabS.nil (by rw [← e]; exact st.tab q hq)
  · obtain ⟨_, ob, xs, rfl⟩ := inn e
    trivial
def RunsT (P : Program) (w : World) (K : PySem.W.Frag) (mg : Str → Option Value) (cs : List (Addr × Addr)) (fa a : Addr) (ns : List Int) (s₁ : Shared) : Prop :=
  ∀ (base : Heap) (H : Hp), StartH cs a H → a ∉ cs.map (·.2) → SqL K H a (ns.map V.int) → (∀ p ∈ cs, TabB base mg p.1 p.2) → Env0 P w K mg base callerA [] s₁ H →
    codeAny (model P w) callerA (.call (.ref fa) ⟨[.ref a], []⟩) (CR (L2.CX P w) [] P w H s₁ (fun v _ => v = .bl true) fun _ _ _ => False) s₁
theorem runsT_of {P : Program} {w : World} {K : PySem.W.Frag} {mg : Str → Option Value} {cs : List (Addr × Addr)} {T : List (Addr × Str)} {k n : Nat} {fa a : Addr} {fd : FuncData} {x : Str} {D : FnP} {ns : List Int} {s₁ : Shared} (hT : ∀ p ∈ T, p.1 ∈ cs.map (·.2)) (hr : Room k callerA) (hl : ns.length ≤ n) (hb : ∀ (s : Shared) (u : Value), BindsTo s fd ⟨[u], []⟩ [(x, u)])
    (Dk : ∀ base : Heap, K.In base → base.Ns mainGlobals mg → (∀ p ∈ cs, TabB base mg p.1 p.2) → DOk (groundT P w K mg base T) k fa fd [x] D) (hD : ∀ ns : List Int, ns.length ≤ n → D [.val (.list (ns.map PyData.int))] (fun d => d = .bool true) NoE) : RunsT P w K mg cs fa a ns s₁ := by
  intro base H hO na hS tb e0
  have M := e0.mod
  have hS' : SqL K (knownH H a cs) a (ns.map V.int) := by
    rcases hS with z | z
    · refine .inl ?_
      have e : knownH H a cs a = H a := if_neg na
      rcases z with z | ⟨o, z⟩
      · exact .inl (e.trans z)
      · exact .inr ⟨o, e.trans z⟩
    · exact .inr z
  refine (Dk base M.kin M.glob tb).run callerA [] s₁ H ⟨[.ref a], []⟩ [.ref a] [.ref a] _ _ (knownH H a cs) [.val (.list (ns.map PyData.int))] _ NoE ⟨hr, rfl⟩ e0 (hb s₁ _) (.cons rfl .nil) rfl (start_cb hO hT) (.cons (.lst hS' (ints_dp ns)) .nil) (hD ns hl) (fun d F' H' v q c dv => ?_) fun _ _ _ _ _ z => z.elim
  subst q
  cases dv
  rfl
theorem law_runsT {P : Program} {w : World} {K : PySem.W.Frag} {mg mb : Str → Option Value} {cs : List (Addr × Addr)} {fa a : Addr} {s₁ : Shared} {vs : List Value} {ns : List Int}
    (KX : K.In s₁.heap) (hns : s₁.heap.Ns mainGlobals mg) (hb : s₁.heap.Ns builtinsNs mb) (hbb : ∀ x : Str, x ≠ "__name__" → mb x = bootBuiltins x) (hlim : s₁.heap.NoLimit) (hg : s₁.gens = #[]) (tin : TabsIn K s₁.heap cs)
    (hbm : ∃ (bm : Addr) (ob : Obj), mg "__builtins__" = some (.ref bm) ∧ bm ≠ builtinsNs ∧ s₁.heap.get? bm = some ob ∧ ob.cls = .type "module" ∧ ob.dict = some builtinsNs ∧ ob.data = .plain)
    (ha : s₁.heap.get? a = some { cls := .type "list", data := .seq vs.toArray }) (hi : IntsAre vs ns) (hl : ns.length ≤ sizeLine) (R : RunsT P w K mg cs fa a ns s₁) :
    codeAny (model P w) callerA (.call (.ref fa) ⟨[.ref a], []⟩) (fun r s' => r = .ok (.ret (.bool true)) ∧ OldK s₁.heap s'.heap ∧ s'.os = s₁.os ∧ AllBare s'.gens) s₁ := by
  have vv := vals_ints hi
  have vl := hi.length
  have tabAt : ∀ {b}, b ∈ cs.map (·.2) → s₁.heap.get? b = some { cls := .none, data := .fields #[] } := fun {b} h => by
    obtain ⟨p, hp, rfl⟩ := List.mem_map.mp h
    exact tin.empty p hp
  have na : a ∉ cs.map (·.2) := fun z => by
    have := tabAt z
    rw [ha] at this
    cases this
  have main : ∀ H : Hp, StartH cs a H → SqL K H a (ns.map V.int) → HOk P w H s₁.heap → (H a ≠ none → K.lookup a = none) →
      codeAny (model P w) callerA (.call (.ref fa) ⟨[.ref a], []⟩) (fun r s' => r = .ok (.ret (.bool true)) ∧ OldK s₁.heap s'.heap ∧ s'.os = s₁.os ∧ AllBare s'.gens) s₁ := by
    intro H st sq hok nk
    have free : ∀ {b : Addr} {o : Obj}, s₁.heap.get? b = some o → (∀ xs n, o.data ≠ .seq xs n) → o.data ≠ .fields #[] → H b = none := fun {b o} e n1 n2 => by
      cases q : H b with
      | none => rfl
      | some u =>
        rcases st.kind b u q with ⟨z, _⟩ | ⟨z, _⟩
        · rw [z, ha] at e
          cases e
          exact absurd rfl (n1 _ _)
        · rw [tabAt z] at e
          cases e
          exact absurd rfl n2
    have down : ∀ {b : Addr} {m : Str → Option Value}, s₁.heap.Ns b m → (hidT s₁.heap H).Ns b m := fun {b m} ⟨o, es, ep, e, d, r⟩ => ⟨o, es, ep, hidT_get e (free e (fun xs n z => by rw [d] at z; cases z) fun z => by rw [d] at z; cases z), d, r⟩
    have kin : K.In (hidT s₁.heap H) := fun b o e => by
      refine hidT_get (KX b o e) ?_
      cases q : H b with
      | none => rfl
      | some u =>
        rcases st.kind b u q with ⟨z, _⟩ | ⟨z, _⟩
        · subst z
          rw [nk (by rw [q]; simp)] at e
          cases e
        · obtain ⟨p, hp, z⟩ := List.mem_map.mp z
          rw [← z, tin.out p hp] at e
          cases e
    have md : Mod K mg (hidT s₁.heap H) := ⟨kin, down hns, ⟨mb, down hb, hbb⟩, let ⟨mc, h1, h2⟩ := hlim; ⟨mc, down h1, h2⟩⟩
    have env0 : Env0 P w K mg (hidT s₁.heap H) callerA [] s₁ H :=
      { frames := rfl, mod := md, bs := fun b o e => of_hidT e, bsz := Nat.le_of_eq (hidT_size _ _), funs := trivial, frf := fun b z => (List.not_mem_nil (show b ∈ ([] : List Addr) from z)).elim, hok := hok, bare := .of_eq hg }
    have tb : ∀ p ∈ cs, TabB (hidT s₁.heap H) mg p.1 p.2 := fun p hp => by
      have at2 := tin.empty p hp
      refine ⟨?_, ?_, fun z => ?_⟩
      · obtain ⟨o, us, f1, f2, f3, f4, f5, f6, f7, e1, e2, e3, e4, r⟩ := tin.hd p hp
        refine ⟨o, us, f1, f2, f3, f4, f5, f6, f7, hidT_get e1 (free e1 (fun xs n z => by rw [e3] at z; cases z) fun z => ?_), e2, e3, e4, r⟩
        rw [e3] at z
        cases z
        simp at e4
      · obtain ⟨bm, ob, m1, m2, m3, m4, m5, m6⟩ := hbm
        refine ⟨bm, ob, m1, m2, fun z => ?_, fun z => ?_, hidT_get m3 (free m3 (fun xs n z => by rw [m6] at z; cases z) fun z => by rw [m6] at z; cases z), m4, m5, m6⟩
        · obtain ⟨o, es, ep, e, d, _⟩ := hns
          rw [z, e] at m3
          cases m3
          rw [d] at m6
          cases m6
        · rw [z, at2] at m3
          cases m3
          cases m6
      · obtain ⟨o, es, ep, e, d, _⟩ := hns
        rw [z, at2] at e
        cases e
        cases d
    refine codeAny_mono (R _ H st na sq tb env0) fun r s' h => ?_
    match r, h with
    | .error e, h => exact (cx_no h).elim
    | .ok .next, h => exact False.elim h
    | .ok .brk, h => exact False.elim h
    | .ok .cont, h => exact False.elim h
    | .ok (.ret u), ⟨v, H', os, bare, un, hok', rv, qv⟩ =>
      subst qv
      obtain rfl : u = Value.bool true := rv
      have kept : ∀ b o, b ∉ cs.map (·.2) → s₁.heap.get? b = some o → s'.heap.get? b = some o := fun b o nb e => by
        cases q : H b with
        | none => exact un.keep b o e q (List.not_mem_nil) (List.not_mem_nil)
        | some u =>
          rcases st.kind b u q with ⟨_, ob, xs, rfl⟩ | ⟨z, _⟩
          · have e1 := (hok b _ q).1
            have e2 := (hok' b _ (un.frzs b ob _ q)).1
            rw [e] at e1
            cases e1
            exact e2
          · exact absurd z nb
      have grown : ∀ p ∈ cs, ∃ more : Array Value, s'.heap.get? p.2 = some { cls := .none, data := .fields (#[] ++ more) } := fun p hp => by
        obtain ⟨more, z⟩ := un.tbls p.2 #[] (st.tab p hp)
        exact ⟨more, hok' p.2 _ z⟩
      refine ⟨rfl, ⟨fun b o e => ?_, fun b o e => ?_⟩, os, bare⟩
      · by_cases hb : b ∈ cs.map (·.2)
        · obtain ⟨p, hp, rfl⟩ := List.mem_map.mp hb
          obtain ⟨more, g⟩ := grown p hp
          rw [tin.empty p hp] at e
          cases e
          exact .inr (.inl ⟨((tin.hd p hp).tab (tin.empty p hp)).isCodeTable, rfl, #[], more, rfl, g⟩)
        · exact .inl (kept b o hb e)
      · by_cases hb : b ∈ cs.map (·.2)
        · obtain ⟨p, hp, rfl⟩ := List.mem_map.mp hb
          obtain ⟨more, g⟩ := grown p hp
          exact ⟨_, g⟩
        · exact ⟨o, kept b o hb e⟩
  let tabs : Hp := fun b => if b ∈ cs.map (·.2) then some (.tbl #[]) else none
  have mem : ∀ p ∈ cs, p.2 ∈ cs.map (·.2) := fun p hp => List.mem_map.mpr ⟨p, hp, rfl⟩
  have tabs_at : ∀ b u, tabs b = some u → b ∈ cs.map (·.2) ∧ u = .tbl #[] := fun b u z => by
    by_cases h : b ∈ cs.map (·.2)
    · exact ⟨h, Option.some.inj (z.symm.trans (if_pos h))⟩
    · have z2 := z.symm.trans (if_neg h)
      cases z2
  cases hk : K.lookup a with
  | some o =>
    have e := KX a o hk
    rw [ha] at e
    cases e
    refine main tabs ⟨fun b u z => .inr (tabs_at b u z), fun p hp => if_pos (mem p hp)⟩ (.inr ⟨_, vs.toArray, _, hk, rfl, rfl, rfl, by rw [List.size_toArray, vl]; exact hl, by simpa using vv⟩) (fun b u z => ?_) fun z => (z (if_neg na)).elim
    obtain ⟨h, rfl⟩ := tabs_at b u z
    exact tabAt h
  | none =>
    let o : HO := .frz { cls := .type "list", data := .seq vs.toArray } (.lst (ns.map V.int))
    have at_ : ∀ b u, (if b = a then some o else tabs b) = some u → (b = a ∧ u = o) ∨ (b ∈ cs.map (·.2) ∧ u = .tbl #[]) := fun b u z => by
      by_cases hb : b = a
      · rw [if_pos hb] at z
        exact .inl ⟨hb, (Option.some.inj z).symm⟩
      · rw [if_neg hb] at z
        exact .inr (tabs_at b u z)
    refine main (fun b => if b = a then some o else tabs b) ⟨fun b u z => ?_, fun p hp => ?_⟩ (.inl (.inr ⟨_, if_pos rfl⟩)) (fun b u z => ?_) fun _ => hk
    · rcases at_ b u z with ⟨h, rfl⟩ | h
      · exact .inl ⟨h, _, _, rfl⟩
      · exact .inr h
    · have ne : ¬ p.2 = a := fun z => na (by rw [← z]; exact mem p hp)
      exact (if_neg ne).trans (if_pos (mem p hp))
    · rcases at_ b u z with ⟨rfl, rfl⟩ | ⟨h, rfl⟩
      · exact ⟨ha, by rw [List.length_map]; exact hl, vs, _, vv, ha⟩
      · exact tabAt h
/-- the walk of a law whose defs hand out lambdas -/
theorem walk_lawT {l : PySem.W.OpenLaw} {n k : Nat} {q : Program} {loose : List Str} {XP : (Str → Option Value) → Heap → Prop} {YP : World → Heap → Prop} {d : DefRec} {x : Str} (hn : l.most = some n) (hn2 : n ≤ sizeLine) (hdf : d.params.defaults = []) (hr : Room k callerA)
    (F : ∀ (w : World) (mg : Str → Option Value) (fa : Addr) (h : Heap), YP w h → h.Ns mainGlobals mg → mg d.name = some (.ref fa) →
      ∃ (K : PySem.W.Frag) (fd : FuncData) (D : FnP) (cs : List (Addr × Addr)) (T : List (Addr × Str)), K.In h ∧ TabsIn K h cs ∧ (∀ p ∈ T, p.1 ∈ cs.map (·.2)) ∧ (∀ (s : Shared) (u : Value), BindsTo s fd ⟨[u], []⟩ [(x, u)]) ∧ (∀ ns : List Int, ns.length ≤ n → D [.val (.list (ns.map PyData.int))] (fun d => d = .bool true) NoE) ∧
        ∀ base : Heap, K.In base → base.Ns mainGlobals mg → (∀ p ∈ cs, TabB base mg p.1 p.2) → DOk (groundT l.prog w K mg base T) k fa fd [x] D) :
    PySem.W.WalkO q loose XP YP l.row.toRowW d [] (fun f vs => PySem.call f vs) := by
  refine Att.attach_call hn hdf fun w s₀ s₁ mg mb fa o pm cd doc a vs ns G Y ho hd hcd hmg hobj hints hlen hg => ?_
  obtain ⟨K, fd, D, cs, T, KX, tin, hT, hb, hD, Dk⟩ := F w mg fa _ Y G.T.g hmg
  exact law_runsT KX G.T.g G.T.b G.T.builtins G.T.nolimit hg tin G.T.bmain hobj hints (Nat.le_trans hlen hn2) (runsT_of hT hr hlen hb Dk hD)
/-! the printed head's facts of a maker -/
theorem tabB_lam {K : PySem.W.Frag} {base : Heap} {mg : Str → Option Value} {P : Program} {w : World} {T : List (Addr × Str)} {x : Str} (X : K.In base) (tb : TabB base mg (He.cT K (x, none)).1 (He.cT K (x, none)).2) (hm : mg x = some (.ref (He.ga K x))) (hf : ∃ fd prm body sc, FunD K x x prm body sc [] [] (He.ga K x) fd)
    (m1 : ((He.cT K (x, none)).2, x ++ ".<locals>." ++ "<lambda>") ∈ T) (m2 : ∀ p ∈ T, p.1 = (He.cT K (x, none)).2 → p.2 = x ++ ".<locals>." ++ "<lambda>") : LamT (groundT P w K mg base T) x := by
  refine ⟨_, _, tb, m1, m2, fun f oc od fd osl h1 lk => ?_⟩
  have e := hm.symm.trans h1
  cases e
  obtain ⟨fd2, prm, body, sc, F⟩ := hf
  obtain ⟨oc', od', dV, kV, doc, pm, an, cdv, ct, osl', rfl, lk', hcd, _⟩ := F.ex
  have lk2 := lk'.symm.trans (show K.lookup (He.ga K x) = _ from lk)
  cases lk2
  obtain ⟨c, ec⟩ := He.codeIn_ref hcd
  have ec' : (PySem.W.fnOf x x prm body sc dV kV doc pm an cdv ct).code = .ref c := ec
  have e2 : He.codeOf K (x, none) = c := He.codeOf_eq lk ec'
  show _ = Value.ref (He.codeOf K (x, none))
  rw [e2]
  exact ec'
def tabT (K : PySem.W.Frag) (tf : List He.Defn) : List (Addr × Str) := tf.map fun q => ((He.cT K q).2, q.1 ++ ".<locals>." ++ "<lambda>")
def tabsApart (K : PySem.W.Frag) (tf : List He.Defn) : Bool := tf.all fun q => tf.all fun q' => !decide ((He.cT K q').2 = (He.cT K q).2) || decide (q' = q)
theorem tabsIn_of {fa : List He.Fa} {fn : List He.DefD} {ts : List He.Tab} {tf : List He.Defn} {ex : PySem.W.Frag → Bool} {w : World} {h : Heap} {K : PySem.W.Frag} (X : K.In h) (c : He.SaysX fa fn ts tf ex w h K) : TabsIn K h (tf.map (He.cT K)) := by
  refine ⟨fun p hp => ?_, fun p hp => ?_, fun p hp => ?_⟩ <;> obtain ⟨q, hq, rfl⟩ := List.mem_map.mp hp
  · exact c.empty q hq
  · exact c.out q hq
  · exact PySem.W.codeHd_of_K X (c.hd q hq)
theorem tabT_in {K : PySem.W.Frag} {tf : List He.Defn} : ∀ p ∈ tabT K tf, p.1 ∈ (tf.map (He.cT K)).map (·.2) := fun p hp => by
  obtain ⟨q, hq, rfl⟩ := List.mem_map.mp hp
  exact List.mem_map.mpr ⟨_, List.mem_map.mpr ⟨q, hq, rfl⟩, rfl⟩
theorem lam_fact {K : PySem.W.Frag} {base : Heap} {mg : Str → Option Value} {P : Program} {w : World} {tf : List He.Defn} {x : Str} (ap : tabsApart K tf = true) (hx : (x, none) ∈ tf) (X : K.In base) (tb : ∀ p ∈ tf.map (He.cT K), TabB base mg p.1 p.2) (hm : mg x = some (.ref (He.ga K x))) (hf : ∃ fd prm body sc, FunD K x x prm body sc [] [] (He.ga K x) fd) :
    LamT (groundT P w K mg base (tabT K tf)) x := by
  refine tabB_lam X (tb _ (List.mem_map.mpr ⟨_, hx, rfl⟩)) hm hf (List.mem_map.mpr ⟨_, hx, rfl⟩) fun p hp e => ?_
  obtain ⟨q, hq, rfl⟩ := List.mem_map.mp hp
  have a := List.all_eq_true.mp (List.all_eq_true.mp ap _ hx) _ hq
  rw [Bool.or_eq_true, Bool.not_eq_true', decide_eq_false_iff_not, decide_eq_true_eq] at a
  rcases a with a | a
  · exact absurd e a
  · rw [a]
end FS
namespace FS
open PySem PySem.Spec PyProof.Rows L2 LamX
/-! a short list, so many times -/
def mulL (a b : PV) : M Res := match a with
  | .list xs => (match b with
    | .int k => M.need (0 ≤ k ∧ k ≤ 256 ∧ xs.length * k.toNat ≤ 256) >>= fun _ => pure (.new (List.replicate k.toNat xs).flatten)
    | _ => M.fail)
  | _ => mulM_ a b
def rMulL (K : PySem.W.Frag) : R2 := fun x y H Q => ∃ l k xs, x = .ref l ∧ y = .int k ∧ SqL K H l xs ∧ 0 ≤ k ∧ k ≤ 256 ∧ xs.length * k.toNat ≤ 256 ∧ ∀ p, H p = none → Q (.ref p) (upd H p (.lst (List.replicate k.toNat xs).flatten))
theorem op_mulL {X : Cx} : OpR X (binaryOp .Mult) (rMulL X.K) := by
  intro pins s σ H x y v u Q I rx ry h
  obtain ⟨l, k, xs, rfl, rfl, sq, k0, k1, hz, q⟩ := h
  cases rx
  obtain ⟨t, rfl⟩ := ry
  obtain ⟨its, r, ⟨⟨cls, d, data, sl⟩, n, ho, hc, hd, hs⟩, _⟩ := I.list sq
  simp only at hc hd hs
  subst hc hd hs
  have hz2 : its.toArray.size * k.toNat ≤ 256 := by
    rw [List.size_toArray, ← r.length]
    exact hz
  have fl : (List.replicate k.toNat its).flatten.length = (List.replicate k.toNat xs).flatten.length := by
    rw [PyProof.Rows.lm_len_rep_flat, PyProof.Rows.lm_len_rep_flat, r.length]
  have lz : (List.replicate k.toNat xs).flatten.length ≤ sizeLine := by
    rw [PyProof.Rows.lm_len_rep_flat, Nat.mul_comm]
    exact Nat.le_trans hz (by decide)
  refine wpAny_binaryOp_repeat_ref (T := "list") (U := "int") (by decide) ⟨_, ho, rfl⟩ (fun s2 => typeIs_int s2 k t) noFill_list_mul F.fills_int_mul F.slot_int_rmul repeat_list F.slot_int_index.lookup (call_meets F.slot_int_rmul (typeIs_int s k t) F.entry_int_rmul (F.args_int_rmul_2 _ _)
    (lm_int_rmul_list_any k t l its.toArray n .none sl) ⟨ho, rfl, ⟨_, ho, rfl⟩, ?_⟩)
  refine call_meets F.slot_list_mul ⟨_, ho, rfl⟩ F.entry_list_mul (F.args_list_mul_2 _ _) (lm_list_mul_any l its.toArray n .none sl k t (by simp [Builtin.List.listFitsIndex]; omega) (by omega) (by simp [Builtin.List.listTooLong, sizeLine]; rw [List.size_toArray] at hz2; omega)) ⟨ho, ?_⟩
  rw [listMul_foldl_if]
  exact ⟨.ref _, _, I.lnew (t' := s.toks) (r.rep k.toNat) lz, rfl, q _ I.fresh⟩
theorem mulL_run {a b : PV} {env : En} {P : Res → En → Prop} {E : EP'} (h : mulL a b env P E) : mulM_ a b env P E ∨ ∃ xs k, a = .list xs ∧ b = .int k ∧ 0 ≤ k ∧ k ≤ 256 ∧ xs.length * k.toNat ≤ 256 ∧ P (.new (List.replicate k.toNat xs).flatten) env := by
  cases a <;> try exact .inl h
  cases b <;> first | exact h.elim | skip
  obtain ⟨⟨h1, h2, h3⟩, h4⟩ := h
  exact .inr ⟨_, _, rfl, rfl, h1, h2, h3, h4⟩
theorem opS_mulL {fx : Fx} : OpS fx (binaryOp .Mult) mulL := by
  obtain ⟨r, h1, h2⟩ := opS_mul (fx := fx)
  refine ⟨_, h1.or op_mulL, fun F σ H env P E Q a b x y s pa pb hm hq hx => ?_⟩
  rcases mulL_run hm with h | ⟨xs, k, rfl, rfl, k0, k1, hz, hm⟩
  · exact .inl (h2 F σ H env P E Q a b x y s pa pb h hq hx)
  · obtain ⟨l, vs, rfl, sq, da⟩ := pa.lst s
    have dr := FS.DpAll.rep da k.toNat
    have lz : (List.replicate k.toNat vs).flatten.length ≤ sizeLine := by
      rw [PyProof.Rows.lm_len_rep_flat, Nat.mul_comm, da.length]
      exact Nat.le_trans hz (by decide)
    refine .inr ⟨l, k, vs, rfl, pb.int, sq, k0, k1, by rw [da.length]; exact hz, fun p np => ?_⟩
    obtain ⟨sm, s1, r1⟩ := s.newLst np dr lz
    exact hq _ env F _ _ hm sm (EnLe.refl _) s1 (r1 H np)
theorem mulLI {i j : Int} {s : En} {P : Res → En → Prop} {E : EP'} : mulL (.int i) (.int j) s P E = ((CMul i j ∨ i.natAbs.log2 + j.natAbs.log2 < 1000000) ∧ P (.val (.int (i * j))) s) := rfl
theorem mulLL {xs : List PV} {k : Int} {s : En} {P : Res → En → Prop} {E : EP'} : mulL (.list xs) (.int k) s P E = ((0 ≤ k ∧ k ≤ 256 ∧ xs.length * k.toNat ≤ 256) ∧ P (.new (List.replicate k.toNat xs).flatten) s) := rfl
end FS
namespace FS
open PySem PySem.Spec PyProof.Rows L2 LamX
/-! sum(t) of a tuple of ints too -/
def sumA (d : PV) : M Res := match d with
  | .tuple xs => optM (intsP xs) >>= fun ns => pure (.val (.int ns.sum))
  | d => sumM d
def rSumT (K : PySem.W.Frag) : List V → Hp → VK → Prop := fun vs H Q => ∃ (a : Addr) (ns : List Int), vs = [V.ref a] ∧ (SqL K H a (ns.map V.int) ∨ SqT K H a (ns.map V.int)) ∧ Q (.int ns.sum) H
theorem cr_sumT {X : Cx} (hc : X.calm = true) : CallR X (.builtin "sum") (rSumT X.K) := by
  intro pins s σ H vs us Q I r h
  obtain ⟨a, ns, rfl, hs, q⟩ := h
  rcases hs with hs | hs
  · exact cr_sum hc pins s σ H _ us Q I r ⟨a, ns, rfl, hs, q⟩
  · obtain ⟨its, rv, ht, _⟩ := I.tuple hs
    rw [Vals.ref1 r]
    obtain ⟨xs, e⟩ := rv.ints.allInts.items
    have hn : numsOf (intItems xs).toList = ns := by rw [← e]; exact rv.ints.numsOf
    rw [nums_intItems] at hn
    have ht2 : s.heap.IsTuple a (intItems xs) := by
      rw [← e]
      obtain ⟨o, ho, hc, n, hd⟩ := ht
      exact ⟨o, ho, hc, n, hd⟩
    refine PySem.W.ktm_sumG (I.ok.hd hc) ht2 fun h' tk t' hk => ?_
    rw [preSum_eq, List.take_of_length_le (by simp), hn]
    exact ⟨.int _, H, I.kept hk, ⟨_, rfl⟩, q⟩
theorem cSumA {fx : Fx} (hc : fx.X.calm = true) : Cal1 fx (.builtin "sum") sumA := by
  refine ⟨_, cr_sumT hc, fun F σ H env P E Q d v s pv hm hq => ?_⟩
  cases d <;> first | exact hm.elim | skip
  · obtain ⟨bs, e, hm⟩ := optM_run hm
    obtain ⟨l, vs, rfl, sq, da⟩ := pv.lst s
    rw [ints_v da e] at sq
    exact ⟨l, bs, rfl, .inl sq, hq _ env F H _ hm Stp.refl (EnLe.refl _) s (.int _)⟩
  · obtain ⟨bs, e, hm⟩ := optM_run hm
    obtain ⟨l, vs, rfl, sq, da⟩ := pv.tup s
    rw [ints_v da e] at sq
    exact ⟨l, bs, rfl, .inr sq, hq _ env F H _ hm Stp.refl (EnLe.refl _) s (.int _)⟩
end FS
namespace FS
open PySem PySem.Spec PyProof.Rows L2 LamX
/-! repr(x) of an int too -/
def reprX (d : PV) : M Res := match d with
  | .int i => fun s P _ => i.natAbs.log2 < 1920 ∧ P (.val (.str (toString i))) s
  | d => reprM d
theorem cReprA {fx : Fx} (ok : FxOk fx) : Cal1 fx (.builtin "repr") reprX := by
  refine ⟨fun xs H Q => (∃ v d, xs = [v] ∧ Dp fx.X.K H v d ∧ isSeqP d = true ∧ d.showable = true ∧ d.depth ≤ 64 ∧ d.shown.length ≤ sizeLine ∧ Q (.str d.shown) H) ∨ ∃ i, xs = [.int i] ∧ i.natAbs.log2 < 1920 ∧ Q (.str (toString i)) H, fun pins s σ H xs us Q I r h => ?_, fun F σ H env P E Q d v s pv hm hq => ?_⟩
  · rcases h with h | h
    · exact call_reprF ok.gd ok.un pins s σ H xs us Q I r h
    · exact SkE.call_repr_int pins s σ H xs us Q I r h
  · cases d <;> first | exact .inl ⟨v, _, rfl, pv.dp s, hm.1.1, hm.1.2.1, hm.1.2.2.1, hm.1.2.2.2, hq _ env F H _ hm.2 Stp.refl (EnLe.refl _) s (.str _)⟩ | skip
    exact .inr ⟨_, by rw [pv.int], hm.1, hq _ env F H _ hm.2 Stp.refl (EnLe.refl _) s (.str _)⟩
theorem reprXA {d : PV} {s : En} {P : Res → En → Prop} {E : EP'} (h : isSeqP d = true ∧ d.showable = true ∧ d.depth ≤ 64 ∧ d.shown.length ≤ sizeLine) (g : P (.val (.str d.shown)) s) : reprX d s P E := by
  cases d <;> first | exact ⟨h, g⟩ | skip
  cases h.1
theorem reprXI {i : Int} {s : En} {P : Res → En → Prop} {E : EP'} : reprX (.int i) s P E = (i.natAbs.log2 < 1920 ∧ P (.val (.str (toString i))) s) := rfl
end FS
namespace FS
open PySem PySem.Spec PyProof.Rows L2 LamX
/-! a, b, c = x, y, z -/
abbrev slotR : Res → Option Slot := slotOf
def set3M (i j l : Nat) (r q u : Res) : M Out := fun s P _ => match slotR r, slotR q, slotR u with
  | some a, some b, some c => P .nx (((s.set i (some a)).set j (some b)).set l (some c))
  | _, _, _ => False
theorem set3_run {i j l : Nat} {r q u : Res} {s : En} {P : Out → En → Prop} {E : EP'} (h : set3M i j l r q u s P E) : ∃ a b c, slotR r = some a ∧ slotR q = some b ∧ slotR u = some c ∧ P .nx (((s.set i (some a)).set j (some b)).set l (some c)) := by
  unfold set3M at h
  cases r <;> cases q <;> cases u <;> first | exact h.elim | exact ⟨_, _, _, rfl, rfl, rfl, h⟩
theorem par3_set {fx : Fx} {F H : Hp} {σ : L2.St} {env : En} {i j l : Nat} {sl1 sl2 sl3 : Slot} {v w t : V} (k : SOk fx F σ H env) (o1 : Keepable fx F σ H env sl1 v) (o2 : Keepable fx F σ H env sl2 w) (o3 : Keepable fx F σ H env sl3 t)
    (ne12 : sl1.mine → sl2.mine → v ≠ w) (ne13 : sl1.mine → sl3.mine → v ≠ t) (ne23 : sl2.mine → sl3.mine → w ≠ t) :
    SOk fx F (((σ.set i (some v)).set j (some w)).set l (some t)) H (((env.set i (some sl1)).set j (some sl2)).set l (some sl3)) := by
  have e2 := par2_set (i := i) (j := j) k o1 o2 ne12
  exact e2.set (i := l) o3.ok fun m n t hm h mt => by
    rcases set_get h with ⟨rfl, h, hi⟩ | ⟨hne, h⟩
    · cases h
      rw [List.getElem?_set_self (by rw [List.length_set] at hi ⊢; rw [← k.len]; exact hi)]
      intro z
      cases z
      exact ne23 mt m rfl
    · rw [List.getElem?_set_ne hne]
      rcases set_get h with ⟨rfl, h, hi⟩ | ⟨hne2, h⟩
      · cases h
        rw [List.getElem?_set_self (by rw [← k.len]; exact hi)]
        intro z
        cases z
        exact ne13 mt m rfl
      · rw [List.getElem?_set_ne hne2]
        exact o3.no m n t h mt
section
variable {fx : Fx} {i j l k k2 : Nat} {x y z : Str} {p p2 p3 p4 p5 pos : Pos} {a b c : Expr} {ma mb mc : M Res}
/-- three values, one behind the other -/
theorem par3_sim {ta tb tc : TE} {D : L2.St → Hp → Prop} (sa : SimR fx ta ma) (sb : SimR fx tb mb) (sc : SimR fx tc mc) {F : Hp} {σ : L2.St} {H : Hp} {env : En} {P : Out → En → Prop} {E : EP'} (so : SOk fx F σ H env)
    (hm : ((ma >>= toN) >>= fun r => (mb >>= toN) >>= fun q => (mc >>= toN) >>= fun u => set3M i j l r q u) env P E) (q1 : ∀ env' F' σ' H', P .nx env' → Same F F' → SOk fx F' σ' H' env' → D σ' H') (hx : ExOk fx F E) {Q : V → V → V → Hp → Prop}
    (hQ : ∀ v w t H3, D (((σ.set i (some v)).set j (some w)).set l (some t)) H3 → (∀ (p : Addr), H3 p = none → D (((σ.set i (some v)).set j (some w)).set l (some t)) (upd H3 p (.tup [v, w, t]))) → Q v w t H3) :
    ta σ H fun v H1 => tb σ H1 fun w H2 => tc σ H2 fun t H3 => Q v w t H3 := by
  refine SimR.toN sa F σ H env _ E _ so hm (fun r env1 F1 H1 v g1 st1 le1 k1 ro1 => ?_) hx
  refine SimR.toN sb F1 σ H1 env1 _ E _ k1 g1 (fun q env2 F2 H2 w g2 st2 le2 k2 ro2 => ?_) (hx.later st1.sm)
  refine SimR.toN sc F2 σ H2 env2 _ E _ k2 g2 (fun u env3 F3 H3 t g3 st3 le3 k3 ro3 => ?_) (hx.later (st1.tr le1 st2).sm)
  obtain ⟨sl1, sl2, sl3, er, eq, eu, g3⟩ := set3_run g3
  obtain ⟨o1, f1⟩ := res_keep k1 ro1 er
  obtain ⟨o2, f2⟩ := res_keep k2 ro2 eq
  obtain ⟨o3, f3⟩ := res_keep k3 ro3 eu
  have o1 := (o1.later st2 le2).later st3 le3
  have o2 := o2.later st3 le3
  have ne12 : sl1.mine → sl2.mine → v ≠ w := fun h1 h2 z => by
    obtain ⟨a1, rfl, _, h4⟩ := f1 h1
    obtain ⟨a2, rfl, h5, _⟩ := f2 h2
    cases z
    exact h4 h5
  have ne13 : sl1.mine → sl3.mine → v ≠ t := fun h1 h2 z => by
    obtain ⟨a1, rfl, _, h4⟩ := f1 h1
    obtain ⟨a2, rfl, h5, _⟩ := f3 h2
    cases z
    exact st2.mono a1 h4 h5
  have ne23 : sl2.mine → sl3.mine → w ≠ t := fun h1 h2 z => by
    obtain ⟨a1, rfl, _, h4⟩ := f2 h1
    obtain ⟨a2, rfl, h5, _⟩ := f3 h2
    cases z
    exact h4 h5
  refine hQ v w t H3 (q1 _ F3 _ H3 g3 ((st1.sm.trans st2.sm).trans st3.sm) (par3_set k3 o1 o2 o3 ne12 ne13 ne23)) fun p np => ?_
  obtain ⟨k4, nF, n0, no⟩ := k3.alloc (o := .tup [v, w, t]) np
  have st4 : Stp F3 H3 σ env3 F3 (upd H3 p (.tup [v, w, t])) := ⟨Same.refl _, fun a h => by
    by_cases e : a = p
    · subst e
      rw [upd_same]; simp
    · rw [upd_ne e]; exact h, fun a o h g n w => by
    rw [upd_ne (ne_of_none h np)]
    exact ⟨h, g⟩⟩
  exact q1 _ F3 _ _ g3 ((st1.sm.trans st2.sm).trans st3.sm) (par3_set k4 (o1.later st4 (EnLe.refl _)) (o2.later st4 (EnLe.refl _)) (o3.later st4 (EnLe.refl _)) ne12 ne13 ne23)
theorem sPar3 (hc : fx.X.calm = true) (hN : fx.X.N.Nodup) (n1 : LocOk fx i x) (n2 : LocOk fx j y) (n3 : LocOk fx l z) (hij : i ≠ j) (hil : i ≠ l) (hjl : j ≠ l) (hx : fx.X.env.scope.names.lookup x = some .local) (hy : fx.X.env.scope.names.lookup y = some .local) (hz : fx.X.env.scope.names.lookup z = some .local)
    (hw : swappedStores [.Tuple [.Name x p, .Name y p2, .Name z p3] k p4] (.Tuple [a, b, c] k2 p5) fx.X.env = pure (some [x, y, z])) (hs : swapsWithSole [.Tuple [.Name x p, .Name y p2, .Name z p3] k p4] (.Tuple [a, b, c] k2 p5) pos.line fx.X.env = pure false)
    (s1 : isStar a = false) (s2 : isStar b = false) (s3 : isStar c = false) (ha : ROk fx a ma) (hb : ROk fx b mb) (hcc : ROk fx c mc) :
    StOk fx (.Assign [.Tuple [.Name x p, .Name y p2, .Name z p3] k p4] (.Tuple [a, b, c] k2 p5) pos) ((ma >>= toN) >>= fun r => (mb >>= toN) >>= fun q => (mc >>= toN) >>= fun u => set3M i j l r q u) := by
  obtain ⟨ta, pa, sa⟩ := ha.ex
  obtain ⟨tb, pb, sb⟩ := hb.ex
  obtain ⟨tc, pc, sc⟩ := hcc.ex
  refine ⟨_, ps_par3 hc hN n1.at_ n2.at_ n3.at_ hij hil hjl hx hy hz (pa_cons (PE.weak pa fun _ _ _ h => h) (pa_cons pb (pa_cons pc pa_nil (starEach_plain s3)) (starEach_plain s2)) (starEach_plain s1)) hw hs, fun F σ H env P E D so hm q1 q2 q3 q4 hx => ?_⟩
  exact par3_sim (D := D.nx) sa sb sc so hm q1 hx fun v w t H3 h _ => ⟨v, w, t, rfl, h⟩
/-- .. where the stores are not swapped (a name is a cell) -/
theorem sPar3G (hc : fx.X.calm = true) (hN : fx.X.N.Nodup) (n1 : LocOk fx i x) (n2 : LocOk fx j y) (n3 : LocOk fx l z) (hw : swappedStores [.Tuple [.Name x p, .Name y p2, .Name z p3] k p4] (.Tuple [a, b, c] k2 p5) fx.X.env = pure none) (hs : swapsWithSole [.Tuple [.Name x p, .Name y p2, .Name z p3] k p4] (.Tuple [a, b, c] k2 p5) pos.line fx.X.env = pure false)
    (s1 : isStar a = false) (s2 : isStar b = false) (s3 : isStar c = false) (ha : ROk fx a ma) (hb : ROk fx b mb) (hcc : ROk fx c mc) :
    StOk fx (.Assign [.Tuple [.Name x p, .Name y p2, .Name z p3] k p4] (.Tuple [a, b, c] k2 p5) pos) ((ma >>= toN) >>= fun r => (mb >>= toN) >>= fun q => (mc >>= toN) >>= fun u => set3M i j l r q u) := by
  obtain ⟨ta, pa, sa⟩ := ha.ex
  obtain ⟨tb, pb, sb⟩ := hb.ex
  obtain ⟨tc, pc, sc⟩ := hcc.ex
  refine ⟨_, ps_asg (pe_tup (pa_cons pa (pa_cons pb (pa_cons pc pa_nil (starEach_plain s3)) (starEach_plain s2)) (starEach_plain s1))) (pg_tup (n := 3) hc (pgs_cons (pg_name hN n1.at_ n1.loc n1.fn) (pgs_cons (pg_name hN n2.at_ n2.loc n2.fn) (pgs_cons (pg_name hN n3.at_ n3.loc n3.fn) pgs_nil)))) hs hw, fun F σ H env P E D so hm q1 q2 q3 q4 hx => ?_⟩
  refine par3_sim (D := D.nx) sa sb sc so hm q1 hx fun v w t H3 _ h => ⟨show 3 ≤ sizeLine by decide, fun p np => ?_⟩
  exact ⟨p, [v, w, t], rfl, .inl (.inl upd_same), rfl, v, _, rfl, w, _, rfl, t, _, rfl, rfl, h p np⟩
end
theorem cPar3 {Φ : Gr → Nat → Prop} {fx : Fx} {kk : Nat} {N : List Str} {sc : Scope} {a b c : Expr} {ma mb mc : M Res} (i j l : Nat) (x y z : Str) {p p2 p3 p4 p5 pos : Pos} {kt k2 : Nat} (ct : DCtx Φ fx kk N sc) (h : (lcC N sc i x && lcC N sc j y && lcC N sc l z && decide (i ≠ j) && decide (i ≠ l) && decide (j ≠ l)) = true)
    (hw : swappedStores [.Tuple [.Name x p, .Name y p2, .Name z p3] kt p4] (.Tuple [a, b, c] k2 p5) (env0 sc) = pure (some [x, y, z])) (s1 : isStar a = false) (s2 : isStar b = false) (s3 : isStar c = false) (ha : ROk fx a ma) (hb : ROk fx b mb) (hcc : ROk fx c mc) :
    StOk fx (.Assign [.Tuple [.Name x p, .Name y p2, .Name z p3] kt p4] (.Tuple [a, b, c] k2 p5) pos) ((ma >>= toN) >>= fun r => (mb >>= toN) >>= fun q => (mc >>= toN) >>= fun u => set3M i j l r q u) := by
  simp only [Bool.and_eq_true, decide_eq_true_eq] at h
  obtain ⟨⟨⟨⟨⟨h1, h2⟩, h3⟩, h4⟩, h5⟩, h6⟩ := h
  have loc : ∀ {i : Nat} {x : Str}, lcC N sc i x = true → fx.X.env.scope.names.lookup x = some .local := fun {i x} h => by
    unfold lcC locB at h
    simp only [Bool.and_eq_true] at h
    obtain ⟨_, h⟩ := h
    rw [ct.hs]
    split at h
    · assumption
    · cases h
  exact sPar3 ct.calm ct.nd (ct.lc i x h1) (ct.lc j y h2) (ct.lc l z h3) h4 h5 h6 (loc h1) (loc h2) (loc h3) (by rw [swapped_scope ct.hs]; exact hw) rfl s1 s2 s3 ha hb hcc
theorem set3A {i j l : Nat} {r q u : Res} {a b c : Slot} {s : En} {P : Out → En → Prop} {E : EP'} (e1 : slotR r = some a) (e2 : slotR q = some b) (e3 : slotR u = some c) : set3M i j l r q u s P E = P .nx (((s.set i (some a)).set j (some b)).set l (some c)) := by
  show (match slotR r, slotR q, slotR u with
    | some a, some b, some c => P .nx (((s.set i (some a)).set j (some b)).set l (some c))
    | _, _, _ => False) = _
  rw [e1, e2, e3]
theorem set3vvn {i j l : Nat} {d e : PV} {xs : List PV} {s : En} {P : Out → En → Prop} {E : EP'} : set3M i j l (.val d) (.val e) (.new xs) s P E = P .nx (((s.set i (some (.val d))).set j (some (.val e))).set l (some (.own xs))) := rfl
theorem set3vvv {i j l : Nat} {d e f : PV} {s : En} {P : Out → En → Prop} {E : EP'} : set3M i j l (.val d) (.val e) (.val f) s P E = P .nx (((s.set i (some (.val d))).set j (some (.val e))).set l (some (.val f))) := rfl
theorem set3vnv {i j l : Nat} {d e : PV} {xs : List PV} {s : En} {P : Out → En → Prop} {E : EP'} : set3M i j l (.val d) (.new xs) (.val e) s P E = P .nx (((s.set i (some (.val d))).set j (some (.own xs))).set l (some (.val e))) := rfl
theorem set3vnn {i j l : Nat} {d : PV} {xs ys : List PV} {s : En} {P : Out → En → Prop} {E : EP'} : set3M i j l (.val d) (.new xs) (.new ys) s P E = P .nx (((s.set i (some (.val d))).set j (some (.own xs))).set l (some (.own ys))) := rfl
theorem set3nnn {i j l : Nat} {xs ys zs : List PV} {s : En} {P : Out → En → Prop} {E : EP'} : set3M i j l (.new xs) (.new ys) (.new zs) s P E = P .nx (((s.set i (some (.own xs))).set j (some (.own ys))).set l (some (.own zs))) := rfl
theorem cPar3G {Φ : Gr → Nat → Prop} {fx : Fx} {kk : Nat} {N : List Str} {sc : Scope} {a b c : Expr} {ma mb mc : M Res} (i j l : Nat) (x y z : Str) {p p2 p3 p4 p5 pos : Pos} {kt k2 : Nat} (ct : DCtx Φ fx kk N sc) (h : (lcD N sc i x && lcD N sc j y && lcD N sc l z) = true)
    (hw : swappedStores [.Tuple [.Name x p, .Name y p2, .Name z p3] kt p4] (.Tuple [a, b, c] k2 p5) (env0 sc) = pure none) (s1 : isStar a = false) (s2 : isStar b = false) (s3 : isStar c = false) (ha : ROk fx a ma) (hb : ROk fx b mb) (hcc : ROk fx c mc) :
    StOk fx (.Assign [.Tuple [.Name x p, .Name y p2, .Name z p3] kt p4] (.Tuple [a, b, c] k2 p5) pos) ((ma >>= toN) >>= fun r => (mb >>= toN) >>= fun q => (mc >>= toN) >>= fun u => set3M i j l r q u) := by
  simp only [Bool.and_eq_true] at h
  obtain ⟨⟨h1, h2⟩, h3⟩ := h
  exact sPar3G ct.calm ct.nd (ct.ld i x h1) (ct.ld j y h2) (ct.ld l z h3) (by rw [swapped_scope ct.hs]; exact hw) rfl s1 s2 s3 ha hb hcc
end FS
namespace FS
open PySem PySem.Spec PyProof.Rows L2 LamX
/-! plain laws of the readings -/
def rdK (n : Nat) (o : Option (Option Slot)) (P : Res → En → Prop) (s : En) : Prop := match o with
  | some (some (.val d)) => P (.val d) s
  | some (some (.own xs)) => P (.bor n xs) s
  | some (some (.dcf kv)) => P (.dcf kv) s
  | _ => False
def raK (n : Nat) (o : Option (Option Slot)) (P : Slot → En → Prop) (s : En) : Prop := match o with
  | some (some (.val d)) => P (.val d) s
  | some (some (.own xs)) => P (.val (.list xs)) (s.set n (some (.val (.list xs))))
  | some (some .well) => P .well s
  | some (some (.clo c cs)) => P (.clo c cs) s
  | some (some (.dcf kv)) => P (.dcf kv) s
  | _ => False
def owK (o : Option (Option Slot)) (P : List PV → En → Prop) (s : En) : Prop := match o with
  | some (some (.own xs)) => P xs s
  | _ => False
section
variable {α β : Type} {s : En} {P : α → En → Prop} {E : EP'}
theorem bindA {m : M α} {f : α → M β} {P : β → En → Prop} : (m >>= f) s P E = m s (fun a s' => f a s' P E) E := rfl
theorem pureA {a : α} : (pure a : M α) s P E = P a s := rfl
theorem okA {a : α} : (M.ok a : M α) s P E = P a s := rfl
theorem optA {a : α} : optM (some a) s P E = P a s := rfl
theorem needA {c : Prop} {P : Unit → En → Prop} : M.need c s P E = (c ∧ P () s) := rfl
theorem andThenA {m n : M Out} {P : Out → En → Prop} : andThen m n s P E = m s (fun o s' => match o with
  | .nx => n s' P E
  | o => P o s') E := rfl
theorem callA {n : Nat} {D : FnP} {sl : List Slot} {P : Res → En → Prop} : callM n D sl s P E = (sl.length = n ∧ D sl (fun d => P (.val d) s) E) := rfl
theorem toEv {d : PV} {P : PV → En → Prop} : toE (.val d) s P E = P d s := rfl
theorem toEn {xs : List PV} {P : PV → En → Prop} : toE (.new xs) s P E = P (.list xs) s := rfl
theorem toPv {d : PV} {P : PV → En → Prop} : toP (.val d) s P E = P d s := rfl
theorem toPn {xs : List PV} {P : PV → En → Prop} : toP (.new xs) s P E = P (.list xs) s := rfl
theorem toPb {i : Nat} {xs : List PV} {P : PV → En → Prop} : toP (.bor i xs) s P E = P (.list xs) s := rfl
end
section
variable {s : En} {P : Res → En → Prop} {E : EP'} {i j : Int} {n m : Nat} {d e : PV} {xs ys : List PV} {b c : Bool}
theorem rdMA : rdM n s P E = rdK n s[n]? P s := rfl
theorem rdK_val : rdK n (some (some (.val d))) P s = P (.val d) s := rfl
theorem rdK_own : rdK n (some (some (.own xs))) P s = P (.bor n xs) s := rfl
theorem rdAA {P : Slot → En → Prop} : rdA n s P E = raK n s[n]? P s := rfl
theorem raK_val {P : Slot → En → Prop} : raK n (some (some (.val d))) P s = P (.val d) s := rfl
theorem raK_own {P : Slot → En → Prop} : raK n (some (some (.own xs))) P s = P (.val (.list xs)) (s.set n (some (.val (.list xs)))) := rfl
theorem raK_well {P : Slot → En → Prop} : raK n (some (some .well)) P s = P .well s := rfl
theorem raK_clo {c : Nat} {cs : List PV} {P : Slot → En → Prop} : raK n (some (some (.clo c cs))) P s = P (.clo c cs) s := rfl
theorem truthBA {P : Bool → En → Prop} : truthM (.bool b) s P E = P b s := rfl
theorem truthIA {P : Bool → En → Prop} : truthM (.int i) s P E = P (i != 0) s := rfl
theorem truthLA {P : Bool → En → Prop} : truthM (.list xs) s P E = P (!xs.isEmpty) s := rfl
theorem truthTA {P : Bool → En → Prop} : truthM (.tuple xs) s P E = P (!xs.isEmpty) s := rfl
theorem truthNA {P : Bool → En → Prop} : truthM .none s P E = P false s := rfl
theorem truth_bool : truthP (.bool b) = some b := rfl
theorem truth_int : truthP (.int i) = some (i != 0) := rfl
theorem truth_list : truthP (.list xs) = some (!xs.isEmpty) := rfl
theorem truth_tuple : truthP (.tuple xs) = some (!xs.isEmpty) := rfl
theorem truth_none : truthP .none = some false := rfl
theorem asBoolA {P : Bool → En → Prop} : asBool (.val (.bool b)) s P E = P b s := rfl
theorem notA : notM (.bool b) s P E = P (.val (.bool (!b))) s := rfl
theorem ltA : ltM (.int i) (.int j) s P E = P (.val (.bool (decide (i < j)))) s := rfl
theorem leA : leM (.int i) (.int j) s P E = P (.val (.bool (decide (i ≤ j)))) s := rfl
theorem gtA : gtM (.int i) (.int j) s P E = P (.val (.bool (decide (j < i)))) s := rfl
theorem geA : geM (.int i) (.int j) s P E = P (.val (.bool (decide (j ≤ i)))) s := rfl
theorem addA : addM (.int i) (.int j) s P E = P (.val (.int (i + j))) s := rfl
theorem subA : subM (.int i) (.int j) s P E = P (.val (.int (i - j))) s := rfl
theorem mulA : mulM_ (.int i) (.int j) s P E = ((CMul i j ∨ i.natAbs.log2 + j.natAbs.log2 < 1000000) ∧ P (.val (.int (i * j))) s) := rfl
theorem modA : modM (.int i) (.int j) s P E = (0 < j ∧ P (.val (.int (i % j))) s) := rfl
theorem fdivA : fdivM' (.int i) (.int j) s P E = ((0 < j ∧ j.natAbs.log2 < 9000) ∧ P (.val (.int (i / j))) s) := rfl
theorem eqA : eqM d e s P E = (shallow d e ∧ P (.val (.bool (PyData.eqv d e))) s) := rfl
theorem neA : neM d e s P E = (shallow d e ∧ P (.val (.bool (!PyData.eqv d e))) s) := rfl
theorem isIA : isM (.int i) .none s P E = P (.val (.bool false)) s := rfl
theorem isNA : isM .none .none s P E = P (.val (.bool true)) s := rfl
theorem isNotIA : isNotM (.int i) .none s P E = P (.val (.bool true)) s := rfl
theorem isNotNA : isNotM .none .none s P E = P (.val (.bool false)) s := rfl
theorem isP_int : isP (.int i) .none = some false := rfl
theorem isP_non : isP .none .none = some true := rfl
theorem intA : intM' (.int i) s P E = P (.val (.int i)) s := rfl
theorem absA : absM (.int i) s P E = P (.val (.int (if i < 0 then -i else i))) s := rfl
theorem negA : negM (.int i) s P E = P (.val (.int (-i))) s := rfl
theorem lenLA : lenM (.list xs) s P E = P (.val (.int (xs.length : Nat))) s := rfl
theorem lenTA : lenM (.tuple xs) s P E = P (.val (.int (xs.length : Nat))) s := rfl
theorem lenSA {z : Str} : lenM (.str z) s P E = (z.length ≤ sizeLine ∧ P (.val (.int (z.length : Nat))) s) := rfl
theorem tupA : tupM xs s P E = (xs.length ≤ sizeLine ∧ P (.val (.tuple xs)) s) := rfl
theorem lstA : lstM xs s P E = (xs.length ≤ sizeLine ∧ P (.new xs) s) := rfl
theorem tupleLA : tupleM (.list xs) s P E = P (.val (.tuple xs)) s := rfl
theorem tupleTA : tupleM (.tuple xs) s P E = P (.val (.tuple xs)) s := rfl
theorem listLA : listM (.list xs) s P E = (xs.length ≤ sizeLine ∧ P (.new xs) s) := rfl
theorem listALA : listAM (.list xs) s P E = (xs.length ≤ sizeLine ∧ P (.new xs) s) := rfl
theorem listATA : listAM (.tuple xs) s P E = (xs.length ≤ sizeLine ∧ P (.new xs) s) := rfl
theorem listASA {z : Str} : listAM (.str z) s P E = (z.length ≤ sizeLine ∧ P (.new ((signsOf z).map .str)) s) := rfl
theorem revLA : revM (.list xs) s P E = (xs.length ≤ sizeLine ∧ P (.new xs.reverse) s) := rfl
theorem revTA : revM (.tuple xs) s P E = P (.val (.tuple xs.reverse)) s := rfl
theorem listTA : listM (.tuple xs) s P E = (xs.length ≤ sizeLine ∧ P (.new xs) s) := rfl
theorem itemLA : itemM (.list xs) (.int i) s P E = optM (atI xs i) s (fun d s' => P (.val d) s') E := by
  unfold itemM optM
  show (match atI xs i with
    | some d => P (.val d) s
    | none => False) = _
  cases atI xs i <;> rfl
theorem itemTA : itemM (.tuple xs) (.int i) s P E = optM (atI xs i) s (fun d s' => P (.val d) s') E := by
  unfold itemM optM
  show (match atI xs i with
    | some d => P (.val d) s
    | none => False) = _
  cases atI xs i <;> rfl
theorem setVA {P : Out → En → Prop} : setM n (.val d) s P E = P .nx (s.set n (some (.val d))) := rfl
theorem setNA {P : Out → En → Prop} : setM n (.new xs) s P E = P .nx (s.set n (some (.own xs))) := rfl
theorem setVbA {P : Out → En → Prop} : setM n (.bor m xs) s P E = P .nx ((s.set m (some (.val (.list xs)))).set n (some (.val (.list xs)))) := rfl
theorem divmodA : divmodM (.int i) (.int j) s P E = ((0 < j ∧ j < 1073741824) ∧ P (.val (.tuple [.int (i / j), .int (i % j)])) s) := rfl
theorem reprA : reprM d s P E = ((isSeqP d = true ∧ d.showable = true ∧ d.depth ≤ 64 ∧ d.shown.length ≤ sizeLine) ∧ P (.val (.str d.shown)) s) := rfl
theorem rdWellA : rdWell n m s P E = ((s[n]? = some (some .well) ∧ m < 3) ∧ ∀ x : Int, WellN m x → P (.val (.int x)) s) := rfl
theorem putWellA {P : Unit → En → Prop} : putWell n m (.int i) s P E = ((s[n]? = some (some .well) ∧ m < 3 ∧ WellN m i) ∧ P () s) := rfl
theorem putNA {P : Unit → En → Prop} : putN n d s P E = P () (s.set n (some (.val d))) := rfl
theorem putTupA {ms : List PV → M Unit} {P : Unit → En → Prop} : putTup n ms (.tuple xs) s P E = (xs.length = n ∧ ms xs s P E) := rfl
theorem putsNilA {P : Unit → En → Prop} : putsNil [] s P E = P () s := rfl
theorem putsConsA {m : PV → M Unit} {ms : List PV → M Unit} {P : Unit → En → Prop} : putsCons m ms (d :: xs) s P E = m d s (fun _ s' => ms xs s' P E) E := rfl
theorem orA {m n : M Bool} {P : Bool → En → Prop} : orB m n s P E = m s (fun b s' => (if b then pure true else n : M Bool) s' P E) E := rfl
theorem andA {m n : M Bool} {P : Bool → En → Prop} : andB m n s P E = m s (fun b s' => (if b then n else pure false : M Bool) s' P E) E := rfl
theorem iteA {α : Type} {p q : M α} {P : α → En → Prop} : (if b = true then p else q : M α) s P E = (if b = true then p s P E else q s P E) := by cases b <;> rfl
theorem consA {m : M Slot} {ms : M (List Slot)} {P : List Slot → En → Prop} : consM m ms s P E = m s (fun d s' => ms s' (fun ds s'' => P (d :: ds) s'') E) E := rfl
theorem seqA {P : List PV → En → Prop} : seqM d s P E = optM (seqP d) s P E := rfl
theorem seqL : seqP (.list xs) = some xs := rfl
theorem seqT : seqP (.tuple xs) = some xs := rfl
theorem rng1A {P : List PV → En → Prop} : rng1M [.int j] s P E = ((-(2 ^ 62) ≤ j ∧ j < 2 ^ 62) ∧ P (rngP 0 j.toNat) s) := rfl
theorem rng2A {P : List PV → En → Prop} : rng2M [.int i, .int j] s P E = ((-(2 ^ 62) ≤ i ∧ i < 2 ^ 62 ∧ -(2 ^ 62) ≤ j ∧ j < 2 ^ 62) ∧ P (rngP i (j - i).toNat) s) := rfl
theorem endRA {P : PV → Prop} : endM P (.rt d) s = P d := rfl
theorem endNA {P : PV → Prop} : endM P .nx s = P .none := rfl
end
section
variable {s : En} {P : Res → En → Prop} {E : EP'} {i j : Int} {n m : Nat} {d e : PV} {xs ys : List PV} {b c : Bool}
theorem onlyNxA {m : M Out} {n : M Res} : onlyNx m n s P E = m s (fun o s' => match o with
  | .nx => n s' P E
  | _ => False) E := rfl
theorem powA : powM (.int i) (.int j) s P E = (CPow i j ∧ P (.val (.int (i ^ j.toNat))) s) := rfl
theorem intOA {P : Option Int → En → Prop} : intM (.int i) s P E = P (some i) s := rfl
theorem cutLA {lo hi : Option Int} : cutM (.list xs) lo hi s P E = (xs.length ≤ sizeLine ∧ P (.new (cutP xs lo hi)) s) := rfl
theorem cutTA {lo hi : Option Int} : cutM (.tuple xs) lo hi s P E = P (.val (.tuple (cutP xs lo hi))) s := rfl
theorem lcA {vs : List Nat} {g : Tg} {mt : M Bool} {me : M PV} : lcM vs g mt me xs s P E = (xs.length ≤ sizeLine ∧ lcLoop g mt me (wipeE s vs) (fun ds => P (.new ds) s) xs []) := rfl
theorem callWellA {Df : FnW} {Dg : FnP} {sl : List Slot} {P : PV → En → Prop} : callWell n Df Dg sl s P E = (sl.length = n ∧ Df sl fun x y z => (WellN 0 x ∧ WellN 1 y ∧ WellN 2 z) ∧ Dg [.well] (fun d => P d s) NoE) := rfl
theorem cntTA : cntM (.tuple xs) d s P E = (min (PyData.depthAll xs) d.depth ≤ 64 ∧ P (.val (.int ((xs.countP fun z => PyData.eqv z d : Nat) : Int))) s) := rfl
theorem cntLA : cntM (.list xs) d s P E = (min (PyData.depthAll xs) d.depth ≤ 64 ∧ P (.val (.int ((xs.countP fun z => PyData.eqv z d : Nat) : Int))) s) := rfl
theorem seqOnlyL {P : Unit → En → Prop} : seqOnly (.list xs) s P E = (True ∧ P () s) := by
  show (isSeqP (.list xs) = true ∧ P () s) = _
  rw [show (isSeqP (.list xs) = true) = True from propext ⟨fun _ => trivial, fun _ => rfl⟩]
theorem seqOnlyT {P : Unit → En → Prop} : seqOnly (.tuple xs) s P E = (True ∧ P () s) := by
  show (isSeqP (.tuple xs) = true ∧ P () s) = _
  rw [show (isSeqP (.tuple xs) = true) = True from propext ⟨fun _ => trivial, fun _ => rfl⟩]
theorem itemsL : itemsP (.list xs) = some xs := rfl
theorem itemsT : itemsP (.tuple xs) = some xs := rfl
theorem addLA : addM (.list xs) (.list ys) s P E = (xs.length + ys.length ≤ sizeLine ∧ P (.new (xs ++ ys)) s) := rfl
theorem addTA : addM (.tuple xs) (.tuple ys) s P E = (xs.length + ys.length ≤ sizeLine ∧ P (.val (.tuple (xs ++ ys))) s) := rfl
theorem allA {f : List Bool → Bool} : allM f (.list xs) s P E = optM (boolsP xs) s (fun bs s' => P (.val (.bool (f bs))) s') E := rfl
theorem min2A : min2M (.int i) (.int j) s P E = P (.val (.int (if j < i then j else i))) s := rfl
theorem max2A : max2M (.int i) (.int j) s P E = P (.val (.int (if j > i then j else i))) s := rfl
theorem ownAtA {P : List PV → En → Prop} : ownAt n s P E = owK s[n]? P s := rfl
theorem owK_own {P : List PV → En → Prop} : owK (some (some (.own xs))) P s = P xs s := rfl
theorem appA {P : PV → En → Prop} : appM n d s P E = ownAt n s (fun xs s' => xs.length < sizeLine ∧ P .none (s'.set n (some (.own (xs ++ [d]))))) E := rfl
end
def frK (n : Nat) (o : Option (Option Slot)) (s : En) : En := match o with
  | some (some (.own xs)) => s.set n (some (.val (.list xs)))
  | _ => s
theorem frz1A {n : Nat} {s : En} : frz1 n s = frK n s[n]? s := by
  unfold frz1 frK
  rfl
theorem frK_val {n : Nat} {d : PV} {s : En} : frK n (some (some (.val d))) s = s := rfl
theorem frK_well {n : Nat} {s : En} : frK n (some (some .well)) s = s := rfl
theorem frK_clo {n : Nat} {c : Nat} {cs : List PV} {s : En} : frK n (some (some (.clo c cs))) s = s := rfl
theorem frK_none {n : Nat} {s : En} : frK n (some none) s = s := rfl
theorem frK_own {n : Nat} {xs : List PV} {s : En} : frK n (some (some (.own xs))) s = s.set n (some (.val (.list xs))) := rfl
theorem frzNil {s : En} {P : Unit → En → Prop} {E : EP'} : frzM [] s P E = P () s := rfl
theorem frzCons {n : Nat} {ns : List Nat} {s : En} {P : Unit → En → Prop} {E : EP'} : frzM (n :: ns) s P E = frzM ns (frz1 n s) P E := rfl
theorem putOwnA {n : Nat} {xs : List PV} {s : En} {P : Unit → En → Prop} {E : EP'} : putOwn n xs s P E = P () (s.set n (some (.own xs))) := rfl
theorem six {k : Int} {n : Nat} (h0 : 0 ≤ k) (h1 : k < (n : Nat)) : seqIndex? k n = some k.toNat := by
  unfold seqIndex?
  have h2 : ¬ k < 0 := by omega
  simp only [if_neg h2, decide_eq_true h0, decide_eq_true h1, Bool.and_self, if_true]
theorem wellPA {P : Int → Int → Int → Prop} {x y z : Int} {s : En} : wellP P (.new [.int x, .int y, .int z]) s = P x y z := rfl
theorem cut_mem {α : Type} {xs : List α} {lo hi : Option Int} {x : α} (h : x ∈ cutP xs lo hi) : x ∈ xs := List.mem_of_mem_drop (List.mem_of_mem_take h)
theorem cut_le {α : Type} {xs : List α} {lo hi : Option Int} : (cutP xs lo hi).length ≤ xs.length := by
  unfold cutP
  rw [List.length_take, List.length_drop]
  omega
theorem rng_get {lo : Int} {n j : Nat} {x : PV} (h : (rngP lo n)[j]? = some x) : j < n ∧ x = .int (lo + (j : Nat)) := by
  unfold rngP at h
  rw [List.getElem?_map] at h
  by_cases hj : j < n
  · rw [List.getElem?_range hj] at h
    exact ⟨hj, (Option.some.inj h).symm⟩
  · rw [List.getElem?_eq_none (by simpa using hj)] at h
    cases h
theorem rng0_get {n j : Nat} {x : PV} (h : (rngP 0 n)[j]? = some x) : j < n ∧ x = .int (j : Nat) := by
  obtain ⟨h, e⟩ := rng_get h
  rw [Int.zero_add] at e
  exact ⟨h, e⟩
theorem rng_len {lo : Int} {n : Nat} : (rngP lo n).length = n := by simp [rngP]
/-- a loop: I by the turn -/
theorem forM_inv {g : Tg} {body : M Out} {P : Out → En → Prop} {E : EP'} (I : Nat → En → Prop) : ∀ (xs : List PV) (i : Nat) (s : En), I i s →
    (∀ (j : Nat) (x : PV) (s : En) (K : Out → En → Prop), xs[j]? = some x → I (i + j) s → (∀ s2, I (i + j + 1) s2 → K .nx s2) → (∀ s2, I (i + j + 1) s2 → K .ct s2) → (∀ d s2, P (.rt d) s2 → K (.rt d) s2) → (∀ s2, P .nx s2 → K .bk s2) → ∃ s1, g.put x s = some s1 ∧ body s1 K E) →
    (∀ s, I (i + xs.length) s → P .nx s) → forM g body xs s P E
  | [], i, s, h0, _, hd => hd s h0
  | x :: xs, i, s, h0, hs, hd => by
    have go : ∀ s2, I (i + 1) s2 → forM g body xs s2 P E := fun s2 h => by
      refine forM_inv I xs (i + 1) s2 h (fun j y s K e hI k1 k2 k3 k4 => ?_) fun s h => hd s (by rw [List.length_cons, show i + (xs.length + 1) = i + 1 + xs.length by omega]; exact h)
      have e1 : i + 1 + j = i + (j + 1) := by omega
      rw [e1] at hI k1 k2
      exact hs (j + 1) y s K (by simpa using e) hI k1 k2 k3 k4
    obtain ⟨s1, e, hb⟩ := hs 0 x s (fun o s2 => match o with
      | .nx => forM g body xs s2 P E
      | .ct => forM g body xs s2 P E
      | .rt d => P (.rt d) s2
      | .bk => P .nx s2) rfl h0 (fun s2 h => go s2 h) (fun s2 h => go s2 h) (fun _ _ h => h) (fun _ h => h)
    show (match g.put x s with
      | none => False
      | some s1 => body s1 _ E)
    rw [e]
    exact hb
/-- a comprehension whose elements are told one by one -/
theorem lc_inv {g : Tg} {mt : M Bool} {me : M PV} {s0 : En} {Q : List PV → Prop} (I : Nat → List PV → Prop) : ∀ (xs : List PV) (i : Nat) (acc : List PV), I i acc →
    (∀ (j : Nat) (x : PV) (acc : List PV), xs[j]? = some x → I (i + j) acc → ∃ s1, g.put x s0 = some s1 ∧ ∀ (K : Bool → En → Prop), ((∀ (L : PV → En → Prop), (∀ d, I (i + j + 1) (acc ++ [d]) → L d s1) → me s1 L NoE) → K true s1) → (I (i + j + 1) acc → K false s1) → mt s1 K NoE) →
    (∀ acc, I (i + xs.length) acc → Q acc) → lcLoop g mt me s0 Q xs acc
  | [], i, acc, h0, _, hd => hd acc h0
  | x :: xs, i, acc, h0, hs, hd => by
    have go : ∀ acc', I (i + 1) acc' → lcLoop g mt me s0 Q xs acc' := fun acc' h => by
      refine lc_inv I xs (i + 1) acc' h (fun j y acc e hI => ?_) fun acc h => hd acc (by rw [List.length_cons, show i + (xs.length + 1) = i + 1 + xs.length by omega]; exact h)
      have e1 : i + 1 + j = i + (j + 1) := by omega
      rw [e1] at hI ⊢
      exact hs (j + 1) y acc (by simpa using e) hI
    obtain ⟨s1, e, h⟩ := hs 0 x acc rfl h0
    refine ⟨s1, e, h _ (fun hm => ⟨rfl, ?_⟩) fun hI => ⟨rfl, ?_⟩⟩
    · rw [if_pos rfl]
      exact hm _ fun d hI => ⟨rfl, go _ hI⟩
    · rw [if_neg (by decide)]
      exact go _ hI
/-- a plain comprehension -/
theorem lc_map {g : Tg} {me : M PV} {s0 : En} {Q : List PV → Prop} (f : Nat → PV → PV) (xs : List PV) (hs : ∀ (j : Nat) (x : PV), xs[j]? = some x → ∃ s1, g.put x s0 = some s1 ∧ ∀ (L : PV → En → Prop), L (f j x) s1 → me s1 L NoE) (hd : Q (xs.mapIdx f)) : lcLoop g (pure true) me s0 Q xs [] := by
  refine lc_inv (fun i acc => acc = (xs.mapIdx f).take i) xs 0 [] (by simp) (fun j x acc e hI => ?_) fun acc h => ?_
  · obtain ⟨s1, e1, h1⟩ := hs j x e
    refine ⟨s1, e1, fun K k1 k2 => k1 fun L hL => h1 L (hL _ ?_)⟩
    have hI : acc = (xs.mapIdx f).take (0 + j) := hI
    show acc ++ [f j x] = (xs.mapIdx f).take (0 + j + 1)
    rw [hI, Nat.zero_add, List.take_add_one, List.getElem?_mapIdx, e]
    rfl
  · have h : acc = (xs.mapIdx f).take (0 + xs.length) := h
    rw [Nat.zero_add, List.take_of_length_le (by simp)] at h
    rw [h]
    exact hd
/-- a plain comprehension over a list of a kind -/
theorem lc_mapL {α : Type} {g : Tg} {me : M PV} {s0 : En} {Q : List PV → Prop} (i f : α → PV) (xs : List α) (hs : ∀ x ∈ xs, ∃ s1, g.put (i x) s0 = some s1 ∧ ∀ (L : PV → En → Prop), L (f x) s1 → me s1 L NoE) (hd : Q (xs.map f)) : lcLoop g (pure true) me s0 Q (xs.map i) [] := by
  refine lc_inv (fun n acc => acc = (xs.take n).map f) _ 0 [] rfl (fun j x acc e hI => ?_) fun acc h => ?_
  · rw [List.getElem?_map] at e
    obtain ⟨x, ex, rfl⟩ := Option.map_eq_some_iff.mp e
    obtain ⟨s1, e1, h1⟩ := hs x (List.mem_of_getElem? ex)
    refine ⟨s1, e1, fun K k1 k2 => k1 fun L hL => h1 L (hL _ ?_)⟩
    have hI : acc = (xs.take (0 + j)).map f := hI
    show acc ++ [f x] = (xs.take (0 + j + 1)).map f
    rw [hI, Nat.zero_add, List.take_add_one, List.map_append, ex]
    rfl
  · have h : acc = (xs.take (0 + (xs.map i).length)).map f := h
    rw [Nat.zero_add, List.length_map, List.take_length] at h
    rw [h]
    exact hd
theorem lc_mapE {g : Tg} {me : M PV} {s0 : En} {Q : List PV → Prop} (f : PV → PV) (xs : List PV) (hs : ∀ x ∈ xs, ∃ s1, g.put x s0 = some s1 ∧ ∀ (L : PV → En → Prop), L (f x) s1 → me s1 L NoE) (hd : Q (xs.map f)) : lcLoop g (pure true) me s0 Q xs [] := by
  have q := lc_mapL (g := g) (me := me) (s0 := s0) (Q := Q) id f xs hs hd
  rwa [List.map_id] at q
theorem count_ints (rs : List Nat) (k : Nat) : ((rs.map fun (n : Nat) => PyData.int n).countP fun z => PyData.eqv z (.int k)) = rs.count k := by
  rw [List.countP_map, List.count]
  refine List.countP_congr fun x _ => ?_
  show (((x : Int) == (k : Int)) = true) ↔ _
  rw [beq_iff_eq, beq_iff_eq]
  omega
theorem atI_lt {α : Type} {xs : List α} {i : Int} (h0 : 0 ≤ i) (h : i < (xs.length : Nat)) : L2.atI xs i = xs[i.toNat]? := by
  unfold L2.atI L2.ixN
  rw [if_pos h0, if_pos h]
  rfl
theorem atI_of {α : Type} {xs : List α} {j : Nat} {x : α} (h : xs[j]? = some x) : L2.atI xs (j : Nat) = some x := by
  have hj : j < xs.length := by
    by_cases q : j < xs.length
    · exact q
    · rw [List.getElem?_eq_none (by omega)] at h
      cases h
  rw [atI_lt (by omega) (by omega)]
  simpa using h
theorem atI_end {α : Type} {xs : List α} {x : α} : L2.atI (xs ++ [x]) (-1) = some x := by
  unfold L2.atI L2.ixN
  have e : (xs ++ [x]).length = xs.length + 1 := by simp
  rw [e, if_neg (by decide), if_pos (by omega)]
  have e2 : (-1 + ((xs.length + 1 : Nat) : Int)).toNat = xs.length := by omega
  show (xs ++ [x])[_]? = _
  rw [e2, List.getElem?_append_right (Nat.le_refl _), Nat.sub_self]
  rfl
theorem eqv_int {i j : Int} : PyData.eqv (.int i) (.int j) = (i == j) := rfl
theorem eqv_str {x y : Str} : PyData.eqv (.str x) (.str y) = (x == y) := rfl
theorem neI {i j : Int} {s : En} {P : Res → En → Prop} {E : EP'} : neM (.int i) (.int j) s P E = P (.val (.bool (!(i == j)))) s := by
  show (0 ≤ 64 ∧ _) = _
  simp
  rfl
theorem neS {i j : Str} {s : En} {P : Res → En → Prop} {E : EP'} : neM (.str i) (.str j) s P E = P (.val (.bool (!(i == j)))) s := by
  show (0 ≤ 64 ∧ _) = _
  simp
  rfl
theorem eqI {i j : Int} {s : En} {P : Res → En → Prop} {E : EP'} : eqM (.int i) (.int j) s P E = P (.val (.bool (i == j))) s := by
  show (0 ≤ 64 ∧ _) = _
  simp
  rfl
theorem cntLI {xs : List PV} {k : Int} {s : En} {P : Res → En → Prop} {E : EP'} : cntM (.list xs) (.int k) s P E = P (.val (.int ((xs.countP fun z => PyData.eqv z (.int k) : Nat) : Int))) s := by
  rw [cntLA]
  exact propext ⟨fun h => h.2, fun h => ⟨Nat.le_trans (Nat.min_le_right ..) (Nat.zero_le 64), h⟩⟩
theorem toNv {d : PV} {s : En} {P : Res → En → Prop} {E : EP'} : toN (.val d) s P E = P (.val d) s := rfl
theorem toNn {xs : List PV} {s : En} {P : Res → En → Prop} {E : EP'} : toN (.new xs) s P E = P (.new xs) s := rfl
theorem set2A {i j : Nat} {d e : PV} {s : En} {P : Out → En → Prop} {E : EP'} : set2M i j (.val d) (.val e) s P E = P .nx ((s.set i (some (.val d))).set j (some (.val e))) := rfl
/-- the laps of a law all say yes -/
theorem bools_yes : ∀ n : Nat, boolsP (List.replicate n (PyData.bool true)) = some (List.replicate n true)
  | 0 => rfl
  | n + 1 => by
    rw [List.replicate_succ, List.replicate_succ]
    show (boolsP _).map _ = _
    rw [bools_yes n]
    rfl
theorem laps_end {n : Nat} {s : En} : optM (boolsP ((rngP 0 n).mapIdx fun (_ : Nat) (_ : PV) => PyData.bool true)) s (fun bs _ => PyData.bool (bs.all id) = PyData.bool true) NoE := by
  have e : ((rngP 0 n).mapIdx fun (_ : Nat) (_ : PV) => PyData.bool true) = List.replicate n (PyData.bool true) := by
    refine List.ext_getElem (by simp [rng_len]) fun i h1 h2 => ?_
    simp
  rw [e, bools_yes]
  show PyData.bool ((List.replicate n true).all id) = _
  congr 1
  simp
theorem set2nn {i j : Nat} {xs ys : List PV} {s : En} {P : Out → En → Prop} {E : EP'} : set2M i j (.new xs) (.new ys) s P E = P .nx ((s.set i (some (.own xs))).set j (some (.own ys))) := rfl
theorem set2nv {i j : Nat} {xs : List PV} {e : PV} {s : En} {P : Out → En → Prop} {E : EP'} : set2M i j (.new xs) (.val e) s P E = P .nx ((s.set i (some (.own xs))).set j (some (.val e))) := rfl
theorem set2vn {i j : Nat} {xs : List PV} {e : PV} {s : En} {P : Out → En → Prop} {E : EP'} : set2M i j (.val e) (.new xs) s P E = P .nx ((s.set i (some (.val e))).set j (some (.own xs))) := rfl
def inStr (z a : Str) : Bool := !(Builtin.Str.occurrences z a 0 z.length 1).isEmpty
theorem inSA {f : Bool → Bool} {z a : Str} {s : En} {P : Res → En → Prop} {E : EP'} : inM f (.str a) (.str z) s P E = P (.val (.bool (f (inStr z a)))) s := rfl
theorem inLA {f : Bool → Bool} {x : PV} {ys : List PV} {s : En} {P : Res → En → Prop} {E : EP'} : inM f x (.list ys) s P E = (min (PyData.depthAll ys) x.depth ≤ 64 ∧ P (.val (.bool (f (ys.any fun z => PyData.eqv z x)))) s) := rfl
theorem inTA {f : Bool → Bool} {x : PV} {ys : List PV} {s : En} {P : Res → En → Prop} {E : EP'} : inM f x (.tuple ys) s P E = (min (PyData.depthAll ys) x.depth ≤ 64 ∧ P (.val (.bool (f (ys.any fun z => PyData.eqv z x)))) s) := rfl
theorem addSA {x y : Str} {s : En} {P : Res → En → Prop} {E : EP'} : addM (.str x) (.str y) s P E = (x.length + y.length ≤ sizeLine ∧ P (.val (.str (x ++ y))) s) := rfl
theorem cutSA {z : Str} {lo hi : Option Int} {s : En} {P : Res → En → Prop} {E : EP'} : cutM (.str z) lo hi s P E = (z.length ≤ sizeLine ∧ P (.val (.str ⟨(cutP z.cps.toList lo hi).toArray⟩)) s) := rfl
theorem bools_map {α : Type} (f : α → Bool) : ∀ l : List α, boolsP (l.map fun x => PyData.bool (f x)) = some (l.map f)
  | [] => rfl
  | x :: l => by
    show (boolsP (l.map fun x => PyData.bool (f x))).map (f x :: ·) = _
    rw [bools_map f l]
    rfl
theorem all_map {α : Type} (f : α → Bool) (l : List α) : (l.map f).all id = l.all f := by
  rw [List.all_map]
  rfl
theorem seqS {z : Str} : seqP (.str z) = some (z.cps.toList.map fun c => PyData.str ⟨#[c]⟩) := rfl
theorem eqS {i j : Str} {s : En} {P : Res → En → Prop} {E : EP'} : eqM (.str i) (.str j) s P E = P (.val (.bool (i == j))) s := by
  show (0 ≤ 64 ∧ _) = _
  simp
  rfl
/-! the types of values -/
theorem kit_int_int : L2.kitB "int" "int" = some true := by decide +kernel
theorem kit_int_bool : L2.kitB "int" "bool" = some false := by decide +kernel
theorem kit_bool_int : L2.kitB "bool" "int" = some true := by decide +kernel
theorem kit_bool_bool : L2.kitB "bool" "bool" = some true := by decide +kernel
theorem kit_tuple_tuple : L2.kitB "tuple" "tuple" = some true := by decide +kernel
theorem kit_str_str : L2.kitB "str" "str" = some true := by decide +kernel
theorem isi_int_int {i : Int} {s : En} {P : Res → En → Prop} {E : EP'} : isiM "int" (.int i) s P E = P (.val (.bool true)) s := by
  show (optM (L2.kitB "int" "int") >>= fun b => (pure (.val (.bool b)) : M Res)) s P E = _
  rw [kit_int_int]; rfl
theorem isi_int_bool {i : Int} {s : En} {P : Res → En → Prop} {E : EP'} : isiM "bool" (.int i) s P E = P (.val (.bool false)) s := by
  show (optM (L2.kitB "int" "bool") >>= fun b => (pure (.val (.bool b)) : M Res)) s P E = _
  rw [kit_int_bool]; rfl
theorem isi_tuple {xs : List PV} {s : En} {P : Res → En → Prop} {E : EP'} : isiM "tuple" (.tuple xs) s P E = P (.val (.bool true)) s := by
  show (optM (L2.kitB "tuple" "tuple") >>= fun b => (pure (.val (.bool b)) : M Res)) s P E = _
  rw [kit_tuple_tuple]; rfl
theorem isi_str {x : Str} {s : En} {P : Res → En → Prop} {E : EP'} : isiM "str" (.str x) s P E = P (.val (.bool true)) s := by
  show (optM (L2.kitB "str" "str") >>= fun b => (pure (.val (.bool b)) : M Res)) s P E = _
  rw [kit_str_str]; rfl
end FS
namespace FS
open PySem PySem.Spec PyProof.Rows L2 LamX
/-! plain laws of sorted -/
theorem sortTA {xs : List PV} {s : En} {P : Res → En → Prop} {E : EP'} : sortM (.tuple xs) s P E = (SortOk xs ∧ P (.new (sortedP xs)) s) := rfl
theorem sortLA {xs : List PV} {s : En} {P : Res → En → Prop} {E : EP'} : sortM (.list xs) s P E = (SortOk xs ∧ P (.new (sortedP xs)) s) := rfl
def strLe (a b : Str) : Bool := decide (a.cps.toList ≤ b.cps.toList)
def sortS (ns : List Str) : List Str := ns.mergeSort strLe
theorem dataLe_strs (a b : Str) : PySem.W.dataLe false id (PyData.str a) (PyData.str b) = strLe a b := congrFun (congrFun (PySem.W.dataLe_str (β := Str) fun b => b) a) b
theorem sortedP_strs (ns : List Str) : sortedP (ns.map .str) = (sortS ns).map .str := by
  unfold sortedP sortS
  exact (List.map_mergeSort fun a _ b _ => (dataLe_strs a b).symm).symm
theorem sortS_perm (ns : List Str) : (sortS ns).Perm ns := List.mergeSort_perm ..
theorem strLe_trans (a b c : Str) (h : strLe a b = true) (g : strLe b c = true) : strLe a c = true := by
  unfold strLe at *
  rw [decide_eq_true_eq] at *
  exact List.le_trans h g
theorem strLe_total (a b : Str) : (strLe a b || strLe b a) = true := by
  unfold strLe
  rw [Bool.or_eq_true, decide_eq_true_eq, decide_eq_true_eq]
  exact List.le_total ..
theorem strLe_anti {a b : Str} (h : strLe a b = true) (g : strLe b a = true) : a = b := by
  unfold strLe at *
  rw [decide_eq_true_eq] at *
  have e : a.cps.toList = b.cps.toList := List.le_antisymm h g
  cases a
  cases b
  congr 1
  exact Array.toList_inj.mp e
theorem sortS_pw (ns : List Str) : (sortS ns).Pairwise fun a b => strLe a b = true := List.pairwise_mergeSort strLe_trans strLe_total ns
theorem perm_eq {α : Type} {r : α → α → Prop} (anti : ∀ a b, r a b → r b a → a = b) : ∀ {l m : List α}, l.Perm m → l.Pairwise r → m.Pairwise r → l = m
  | [], m, p, _, _ => (List.Perm.nil_eq p)
  | a :: l, [], p, _, _ => absurd p.length_eq (by simp)
  | a :: l, b :: m, p, h, g => by
    have e : a = b := by
      rcases List.mem_cons.mp (p.mem_iff.mp (List.mem_cons_self (a := a) (l := l))) with z | z
      · exact z
      · rcases List.mem_cons.mp (p.mem_iff.mpr (List.mem_cons_self (a := b) (l := m))) with z2 | z2
        · exact z2.symm
        · exact anti _ _ ((List.pairwise_cons.mp h).1 _ z2) ((List.pairwise_cons.mp g).1 _ z)
    subst e
    rw [perm_eq anti (List.Perm.cons_inv p) (List.pairwise_cons.mp h).2 (List.pairwise_cons.mp g).2]
theorem sortS_eq {ns ms : List Str} (h : ns.Perm ms) : sortS ns = sortS ms :=
  perm_eq (r := fun a b => strLe a b = true) (fun _ _ => strLe_anti) (((sortS_perm ns).trans h).trans (sortS_perm ms).symm) (sortS_pw ns) (sortS_pw ms)
theorem sortOk_strs {ns : List Str} (h : ns.length ≤ sizeLine) : SortOk (ns.map .str) := by
  refine ⟨fun d hd d' hd' => ?_, .inr fun d hd => ?_, by rw [List.length_map]; exact h, fun d hd => ?_⟩
  · obtain ⟨x, _, rfl⟩ := List.mem_map.mp hd
    obtain ⟨y, _, rfl⟩ := List.mem_map.mp hd'
    rfl
  · obtain ⟨x, _, rfl⟩ := List.mem_map.mp hd
    exact ⟨fun z => (by cases z), fun xs z => (by cases z)⟩
  · obtain ⟨x, _, rfl⟩ := List.mem_map.mp hd
    exact Nat.zero_le _
end FS
namespace FS
open PySem PySem.Spec PyProof.Rows L2 LamX
/-! data that may be shown -/
structure Fine (k n : Nat) (d : PV) : Prop where
  lv : d.leavesShort 13 = true
  sh : d.showable = true
  dep : d.depth ≤ k
  blk : d.bulk ≤ n
theorem Fine.mono {k n k' n' : Nat} {d : PV} (h : Fine k n d) (hk : k ≤ k') (hn : n ≤ n') : Fine k' n' d := ⟨h.lv, h.sh, Nat.le_trans h.dep hk, Nat.le_trans h.blk hn⟩
theorem Fine.fits {k n : Nat} {d : PV} (h : Fine k n d) (hn : n ≤ 2 ^ 20) : d.shown.length ≤ sizeLine := PyData.shown_fits_bulk (by decide) (by decide) h.lv (Nat.le_trans h.blk hn)
theorem Fine.repr {k n : Nat} {d : PV} (h : Fine k n d) (hs : isSeqP d = true) (hk : k ≤ 64) (hn : n ≤ 2 ^ 20) : isSeqP d = true ∧ d.showable = true ∧ d.depth ≤ 64 ∧ d.shown.length ≤ sizeLine := ⟨hs, h.sh, Nat.le_trans h.dep hk, h.fits hn⟩
theorem fineN {k n : Nat} : Fine k n .none := ⟨rfl, rfl, Nat.zero_le _, Nat.zero_le _⟩
theorem fineB {k n : Nat} {b : Bool} : Fine k n (.bool b) := ⟨rfl, rfl, Nat.zero_le _, Nat.zero_le _⟩
theorem fineI {k n : Nat} {i : Int} (h : i.natAbs < 10 ^ 12) : Fine k n (.int i) := by
  refine ⟨?_, ?_, Nat.zero_le _, Nat.zero_le _⟩
  · show decide ((PyData.shown (.int i)).length ≤ 13) = true
    rw [decide_eq_true_eq]
    exact PyData.shown_int_le h
  · show decide (i.natAbs.log2 < 1920) = true
    rw [decide_eq_true_eq]
    by_cases z : i.natAbs = 0
    · rw [z]
      decide
    · exact Nat.lt_of_lt_of_le ((Nat.log2_lt z).mpr (Nat.lt_of_lt_of_le h (show 10 ^ 12 ≤ 2 ^ 40 by decide))) (show 40 ≤ 1920 by decide)
theorem fineI' {k n : Nat} {i : Int} (h : 0 ≤ i) (g : i < 1000000000000) : Fine k n (.int i) := fineI (by
  have e : (10 : Nat) ^ 12 = 1000000000000 := by decide
  rw [e]
  omega)
theorem fineS {k n : Nat} {z : Str} (h : ∀ c ∈ z.cps.toList, c < 4294967296) (hn : z.length ≤ n) : Fine k n (.str z) := by
  refine ⟨?_, rfl, Nat.zero_le _, hn⟩
  show (z.cps.toList.all fun c => decide (c < 16 ^ 8)) = true
  rw [List.all_eq_true]
  intro c hc
  rw [decide_eq_true_eq]
  exact h c hc
theorem fine_all {k m : Nat} : ∀ {xs : List PV}, (∀ x ∈ xs, Fine k m x) → PyData.leavesShortAll 13 xs = true ∧ PyData.showableAll xs = true ∧ PyData.depthAll xs ≤ k ∧ PyData.bulkAll xs ≤ xs.length * (m + 1)
  | [], _ => ⟨rfl, rfl, Nat.zero_le _, Nat.zero_le _⟩
  | x :: xs, h => by
    obtain ⟨a, b, c, d⟩ := h x List.mem_cons_self
    obtain ⟨e, f, g, i⟩ := fine_all fun y hy => h y (List.mem_cons_of_mem _ hy)
    refine ⟨?_, ?_, Nat.max_le.mpr ⟨c, g⟩, ?_⟩
    · show (x.leavesShort 13 && PyData.leavesShortAll 13 xs) = true
      rw [a, e]
      rfl
    · show (x.showable && PyData.showableAll xs) = true
      rw [b, f]
      rfl
    · show x.bulk + 1 + PyData.bulkAll xs ≤ (xs.length + 1) * (m + 1)
      rw [Nat.succ_mul]
      omega
theorem fineT {k m n : Nat} {xs : List PV} (h : ∀ x ∈ xs, Fine k m x) (hn : xs.length * (m + 1) ≤ n) : Fine (k + 1) n (.tuple xs) := by
  obtain ⟨a, b, c, d⟩ := fine_all h
  exact ⟨a, b, Nat.succ_le_succ c, Nat.le_trans d hn⟩
theorem fineL {k m n : Nat} {xs : List PV} (h : ∀ x ∈ xs, Fine k m x) (hn : xs.length * (m + 1) ≤ n) : Fine (k + 1) n (.list xs) := by
  obtain ⟨a, b, c, d⟩ := fine_all h
  exact ⟨a, b, Nat.succ_le_succ c, Nat.le_trans d hn⟩
end FS
namespace FS
open PySem PySem.Spec PyProof.Rows L2 LamX
/-! plain laws: index, enumerate, comprehensions of two clauses, pairs -/
theorem idx_eqv {z : Str} : ∀ ns : List Str, ((ns.map PyData.str).map fun y => PyData.eqv y (.str z)).idxOf true = ns.idxOf z
  | [] => rfl
  | n :: ns => by
    show List.idxOf true ((n == z) :: _) = _
    rw [List.idxOf_cons, List.idxOf_cons, idx_eqv ns]
    cases n == z <;> rfl
theorem idxTS {ns : List Str} {z : Str} {s : En} {P : Res → En → Prop} {E : EP'} (h : z ∈ ns) (g : P (.val (.int (ns.idxOf z : Nat))) s) : idxM (.tuple (ns.map .str)) (.str z) s P E := by
  refine ⟨⟨Nat.le_trans (Nat.min_le_right ..) (Nat.zero_le _), ?_⟩, ?_⟩
  · rw [List.map_map, List.mem_map]
    exact ⟨z, h, beq_self_eq_true z⟩
  · rw [idx_eqv]
    exact g
theorem idxLS {ns : List Str} {z : Str} {s : En} {P : Res → En → Prop} {E : EP'} (h : z ∈ ns) (g : P (.val (.int (ns.idxOf z : Nat))) s) : idxM (.list (ns.map .str)) (.str z) s P E := idxTS (E := E) h g
theorem enumTA {xs : List PV} {s : En} {P : List PV → En → Prop} {E : EP'} : enumM [.tuple xs] s P E = P (enumP xs 0) s := rfl
theorem enumLA {xs : List PV} {s : En} {P : List PV → En → Prop} {E : EP'} : enumM [.list xs] s P E = P (enumP xs 0) s := rfl
theorem cut_headN {α : Type} (xs : List α) (k : Nat) : cutP xs none (some (k : Int)) = xs.take k := by
  unfold cutP
  have e0 : HT.sIx xs.length 0 none = 0 := rfl
  have e1 : HT.sIx xs.length xs.length (some (k : Int)) = min k xs.length := HT.sIx_nat _ _ k
  rw [e0, e1, List.drop_zero, Nat.sub_zero]
  by_cases h : k ≤ xs.length
  · rw [Nat.min_eq_left h]
  · rw [Nat.min_eq_right (by omega), List.take_of_length_le (Nat.le_refl _), List.take_of_length_le (by omega)]
theorem cut_tailN {α : Type} (xs : List α) (k : Nat) : cutP xs (some (k : Int)) none = xs.drop k := by
  unfold cutP
  have e0 : HT.sIx xs.length xs.length none = xs.length := rfl
  have e1 : HT.sIx xs.length 0 (some (k : Int)) = min k xs.length := HT.sIx_nat _ _ k
  rw [e0, e1]
  by_cases h : k ≤ xs.length
  · rw [Nat.min_eq_left h, List.take_of_length_le (by rw [List.length_drop]; omega)]
  · rw [Nat.min_eq_right (by omega), List.drop_eq_nil_of_le (show xs.length ≤ xs.length by omega), List.drop_eq_nil_of_le (by omega)]
    exact List.take_nil
theorem cut_lastN {α : Type} (xs : List α) : (cutP xs (some (-1)) none).length ≤ 1 := by
  unfold cutP
  have e0 : HT.sIx xs.length xs.length none = xs.length := rfl
  have e1 : xs.length - 1 ≤ HT.sIx xs.length 0 (some (-1)) := by
    unfold HT.sIx
    show xs.length - 1 ≤ if (-1 : Int) < 0 then (-1 + (xs.length : Nat) : Int).toNat else _
    rw [if_pos (by decide)]
    omega
  rw [e0, List.length_take, List.length_drop]
  omega
theorem neB {a b : Bool} {s : En} {P : Res → En → Prop} {E : EP'} : neM (.bool a) (.bool b) s P E = P (.val (.bool (a != b))) s := by
  show (0 ≤ 64 ∧ _) = _
  simp
  cases a <;> cases b <;> rfl
theorem eqB {a b : Bool} {s : En} {P : Res → En → Prop} {E : EP'} : eqM (.bool a) (.bool b) s P E = P (.val (.bool (a == b))) s := by
  show (0 ≤ 64 ∧ _) = _
  simp
  cases a <;> cases b <;> rfl
theorem succ_lt (a b : Nat) : decide ((a : Int) + 1 < (b : Int) + 1) = decide (a < b) := decide_eq_decide.mpr (by omega)
theorem iteI {a : Bool} {x y : Int} {s : En} {P : Res → En → Prop} {E : EP'} : (if a = true then (pure (Res.val (.int x)) : M Res) else pure (Res.val (.int y))) s P E = P (.val (.int (if a = true then x else y))) s := by
  cases a <;> rfl
theorem toEb {n : Nat} {xs : List PV} {s : En} {P : PV → En → Prop} {E : EP'} : toE (.bor n xs) s P E = P (.list xs) (s.set n (some (.val (.list xs)))) := rfl
theorem enum_get : ∀ {xs : List PV} {i j : Nat} {x : PV}, (enumP xs i)[j]? = some x → ∃ y, xs[j]? = some y ∧ x = .tuple [.int ((i + j : Nat) : Int), y]
  | [], i, j, x, h => by simp [enumP] at h
  | y :: xs, i, 0, x, h => by
    have h : some (PyData.tuple [.int (i : Nat), y]) = some x := h
    exact ⟨y, rfl, (Option.some.inj h).symm⟩
  | y :: xs, i, j + 1, x, h => by
    obtain ⟨z, h1, h2⟩ := enum_get (xs := xs) (i := i + 1) (j := j) (x := x) h
    exact ⟨z, h1, by rw [h2, show i + 1 + j = i + (j + 1) by omega]⟩
theorem enum0_get {xs : List PV} {j : Nat} {x : PV} (h : (enumP xs 0)[j]? = some x) : ∃ y, xs[j]? = some y ∧ x = .tuple [.int (j : Nat), y] := by
  obtain ⟨y, a, b⟩ := enum_get h
  rw [Nat.zero_add] at b
  exact ⟨y, a, b⟩
theorem enum0_strs {ns : List Str} {j : Nat} {x : PV} (h : (enumP (ns.map .str) 0)[j]? = some x) : ∃ z, ns[j]? = some z ∧ x = .tuple [.int (j : Nat), .str z] := by
  obtain ⟨y, a, b⟩ := enum0_get h
  rw [List.getElem?_map] at a
  obtain ⟨z, e, rfl⟩ := Option.map_eq_some_iff.mp a
  exact ⟨z, e, b⟩
theorem lcB_inv {g : Tg} {mt : M Bool} {me : M PV} {s0 : En} {Q : List PV → Prop} (I : Nat → List PV → Prop) : ∀ (xs : List PV) (i : Nat) (acc : List PV), I i acc →
    (∀ (j : Nat) (x : PV) (acc : List PV), xs[j]? = some x → I (i + j) acc → ∃ s1, g.put x s0 = some s1 ∧ ∀ (K : Bool → En → Prop), ((∀ (L : PV → En → Prop), (∀ d, acc.length < sizeLine ∧ I (i + j + 1) (acc ++ [d]) → L d s1) → me s1 L NoE) → K true s1) → (I (i + j + 1) acc → K false s1) → mt s1 K NoE) →
    (∀ acc, I (i + xs.length) acc → Q acc) → lcB g mt me s0 Q xs acc
  | [], i, acc, h0, _, hd => hd acc h0
  | x :: xs, i, acc, h0, hs, hd => by
    have go : ∀ acc', I (i + 1) acc' → lcB g mt me s0 Q xs acc' := fun acc' h => by
      refine lcB_inv I xs (i + 1) acc' h (fun j y acc e hI => ?_) fun acc h => hd acc (by rw [List.length_cons, show i + (xs.length + 1) = i + 1 + xs.length by omega]; exact h)
      have e1 : i + 1 + j = i + (j + 1) := by omega
      rw [e1] at hI ⊢
      exact hs (j + 1) y acc (by simpa using e) hI
    obtain ⟨s1, e, h⟩ := hs 0 x acc rfl h0
    refine ⟨s1, e, h _ (fun hm => ⟨rfl, ?_⟩) fun hI => ⟨rfl, ?_⟩⟩
    · rw [if_pos rfl]
      exact hm _ fun d hI => ⟨rfl, hI.1, go _ hI.2⟩
    · rw [if_neg (by decide)]
      exact go _ hI
/-- a plain inner clause -/
theorem lcB_map {g : Tg} {me : M PV} {s0 : En} {Q : List PV → Prop} (f : PV → PV) (xs acc : List PV) (hs : ∀ x ∈ xs, ∃ s1, g.put x s0 = some s1 ∧ ∀ (L : PV → En → Prop), L (f x) s1 → me s1 L NoE) (hl : acc.length + xs.length ≤ sizeLine) (hd : Q (acc ++ xs.map f)) : lcB g (pure true) me s0 Q xs acc := by
  refine lcB_inv (fun i a => a = acc ++ (xs.take i).map f) xs 0 acc (by simp) (fun j x a e hI => ?_) fun a h => ?_
  · obtain ⟨s1, e1, h1⟩ := hs x (List.mem_of_getElem? e)
    refine ⟨s1, e1, fun K k1 k2 => k1 fun L hL => h1 L (hL _ ?_)⟩
    have hj := (List.getElem?_eq_some_iff.mp e).1
    have hI : a = acc ++ (xs.take (0 + j)).map f := hI
    rw [Nat.zero_add] at hI ⊢
    refine ⟨?_, ?_⟩
    · rw [hI, List.length_append, List.length_map, List.length_take]
      omega
    · show a ++ [f x] = acc ++ (xs.take (j + 1)).map f
      rw [hI, List.take_add_one, List.map_append, e, List.append_assoc]
      rfl
  · have h : a = acc ++ (xs.take (0 + xs.length)).map f := h
    rw [Nat.zero_add, List.take_length] at h
    rw [h]
    exact hd
/-- a comprehension of two clauses -/
theorem lc2_inv {g : Tg} {mt : M Bool} {mi1 : M (List PV)} {vs1 : List Nat} {g1 : Tg} {mt1 : M Bool} {me : M PV} {s0 : En} {Q : List PV → Prop} (I : Nat → List PV → Prop) : ∀ (xs : List PV) (i : Nat) (acc : List PV), I i acc →
    (∀ (j : Nat) (x : PV) (acc : List PV), xs[j]? = some x → I (i + j) acc → ∃ s1, g.put x s0 = some s1 ∧ ∀ (K : Bool → En → Prop), ((∀ (L : List PV → En → Prop), (∀ ys, (∀ Q' : List PV → Prop, (∀ a, I (i + j + 1) a → Q' a) → lcB g1 mt1 me (wipeE s1 vs1) Q' ys acc) → L ys s1) → mi1 s1 L NoE) → K true s1) → (I (i + j + 1) acc → K false s1) → mt s1 K NoE) →
    (∀ acc, I (i + xs.length) acc → Q acc) → lc2L g mt mi1 vs1 g1 mt1 me s0 Q xs acc
  | [], i, acc, h0, _, hd => hd acc h0
  | x :: xs, i, acc, h0, hs, hd => by
    have go : ∀ acc', I (i + 1) acc' → lc2L g mt mi1 vs1 g1 mt1 me s0 Q xs acc' := fun acc' h => by
      refine lc2_inv I xs (i + 1) acc' h (fun j y acc e hI => ?_) fun acc h => hd acc (by rw [List.length_cons, show i + (xs.length + 1) = i + 1 + xs.length by omega]; exact h)
      have e1 : i + 1 + j = i + (j + 1) := by omega
      rw [e1] at hI ⊢
      exact hs (j + 1) y acc (by simpa using e) hI
    obtain ⟨s1, e, h⟩ := hs 0 x acc rfl h0
    refine ⟨s1, e, h _ (fun hm => ⟨rfl, ?_⟩) fun hI => ⟨rfl, ?_⟩⟩
    · rw [if_pos rfl]
      exact hm _ fun ys hy => ⟨rfl, hy _ fun a ha => go a ha⟩
    · rw [if_neg (by decide)]
      exact go _ hI
theorem lc2A {vs vs1 : List Nat} {g : Tg} {mt : M Bool} {mi1 : M (List PV)} {g1 : Tg} {mt1 : M Bool} {me : M PV} {xs : List PV} {s : En} {P : Res → En → Prop} {E : EP'} : lc2M vs vs1 g mt mi1 g1 mt1 me xs s P E = lc2L g mt mi1 vs1 g1 mt1 me (wipeE s vs) (fun ds => P (.new ds) s) xs [] := rfl
/-! pairs -/
section
variable {α : Type}
def pairsL : List α → List (α × α)
  | [] => []
  | a :: r => r.map (fun b => (a, b)) ++ pairsL r
theorem pairs_len : ∀ l : List α, (pairsL l).length * 2 = l.length * (l.length - 1)
  | [] => rfl
  | a :: r => by
    have ih := pairs_len r
    rw [pairsL, List.length_append, List.length_map, List.length_cons, Nat.add_sub_cancel, Nat.add_mul, ih]
    cases r with
    | nil => rfl
    | cons b r =>
      rw [List.length_cons, Nat.add_sub_cancel, Nat.mul_comm (r.length + 1) r.length, Nat.mul_comm (r.length + 1) 2, ← Nat.add_mul, Nat.add_comm 2 r.length]
theorem pairs_mem : ∀ {l : List α} {p : α × α}, p ∈ pairsL l → p.1 ∈ l ∧ p.2 ∈ l
  | a :: r, p, h => by
    rcases List.mem_append.mp h with h | h
    · obtain ⟨b, hb, rfl⟩ := List.mem_map.mp h
      exact ⟨List.mem_cons_self, List.mem_cons_of_mem _ hb⟩
    · exact ⟨List.mem_cons_of_mem _ (pairs_mem h).1, List.mem_cons_of_mem _ (pairs_mem h).2⟩
theorem count_pairs_perm {f : α × α → Bool} {l l' : List α} (h : l.Perm l') : (∀ a b, a ∈ l → b ∈ l → f (a, b) = f (b, a)) → (pairsL l).countP f = (pairsL l').countP f := by
  induction h with
  | nil => exact fun _ => rfl
  | cons a h ih =>
    intro sym
    rw [pairsL, pairsL, List.countP_append, List.countP_append, ih fun a b ha hb => sym a b (List.mem_cons_of_mem _ ha) (List.mem_cons_of_mem _ hb), (h.map _).countP_eq]
  | swap a b l =>
    intro sym
    simp only [pairsL, List.map_cons, List.countP_append, List.cons_append, List.countP_cons]
    rw [sym a b (List.mem_cons_of_mem _ List.mem_cons_self) List.mem_cons_self]
    omega
  | trans p1 _ h1 h2 => exact fun sym => (h1 sym).trans (h2 fun a b ha hb => sym a b (p1.mem_iff.mpr ha) (p1.mem_iff.mpr hb))
end
section
variable {α : Type} [BEq α] [LawfulBEq α]
theorem pairs_lt : ∀ {l : List α} {p : α × α}, l.Nodup → p ∈ pairsL l → l.idxOf p.1 < l.idxOf p.2
  | a :: r, p, hn, h => by
    obtain ⟨h1, h2⟩ := List.nodup_cons.mp hn
    rcases List.mem_append.mp h with h | h
    · obtain ⟨b, hb, rfl⟩ := List.mem_map.mp h
      have ne : a ≠ b := fun z => h1 (z ▸ hb)
      rw [List.idxOf_cons, List.idxOf_cons, beq_self_eq_true, beq_eq_false_iff_ne.mpr ne]
      exact Nat.zero_lt_succ _
    · have m := pairs_mem h
      have n1 : a ≠ p.1 := fun z => h1 (z ▸ m.1)
      have n2 : a ≠ p.2 := fun z => h1 (z ▸ m.2)
      rw [List.idxOf_cons, List.idxOf_cons, beq_eq_false_iff_ne.mpr n1, beq_eq_false_iff_ne.mpr n2]
      exact Nat.succ_lt_succ (pairs_lt h2 h)
theorem idx_get {l : List α} {j : Nat} {x : α} (hn : l.Nodup) (h : l[j]? = some x) : l.idxOf x = j := by
  obtain ⟨hj, rfl⟩ := List.getElem?_eq_some_iff.mp h
  exact hn.idxOf_getElem j hj
theorem idx_at {l : List α} {x : α} (h : x ∈ l) : l[l.idxOf x]? = some x := by
  have hl := List.idxOf_lt_length_of_mem h
  rw [List.getElem?_eq_getElem hl, List.getElem_idxOf hl]
theorem idx_rev {l : List α} {x : α} (hn : l.Nodup) (h : x ∈ l) : l.reverse.idxOf x + l.idxOf x + 1 = l.length := by
  have hl := List.idxOf_lt_length_of_mem h
  have e : l.reverse[l.length - 1 - l.idxOf x]? = some x := by
    rw [List.getElem?_reverse (by omega)]
    rw [show l.length - 1 - (l.length - 1 - l.idxOf x) = l.idxOf x by omega]
    exact idx_at h
  rw [idx_get ((List.reverse_perm l).nodup_iff.mpr hn) e]
  omega
theorem idx_inj {l : List α} {x y : α} (hx : x ∈ l) (hy : y ∈ l) (e : l.idxOf x = l.idxOf y) : x = y := by
  have a := idx_at hx
  rw [e, idx_at hy] at a
  exact (Option.some.inj a).symm
end
end FS
namespace FS
open PySem PySem.Spec PyProof.Rows L2 LamX
/-! plain laws: filters, sums, shelves led by askings -/
/-- a comprehension with a test -/
theorem lc_filterL {α : Type} {g : Tg} {mt : M Bool} {me : M PV} {s0 : En} {Q : List PV → Prop} (i : α → PV) (f : α → Bool) (e : α → PV) (xs : List α)
    (hs : ∀ x ∈ xs, ∃ s1, g.put (i x) s0 = some s1 ∧ (∀ K : Bool → En → Prop, K (f x) s1 → mt s1 K NoE) ∧ ∀ L : PV → En → Prop, L (e x) s1 → me s1 L NoE) (hd : Q ((xs.filter f).map e)) : lcLoop g mt me s0 Q (xs.map i) [] := by
  refine lc_inv (fun n acc => acc = ((xs.take n).filter f).map e) _ 0 [] rfl (fun j x acc ex hI => ?_) fun acc h => ?_
  · rw [List.getElem?_map] at ex
    obtain ⟨y, ey, rfl⟩ := Option.map_eq_some_iff.mp ex
    obtain ⟨s1, e1, h1, h2⟩ := hs y (List.mem_of_getElem? ey)
    have hI : acc = ((xs.take (0 + j)).filter f).map e := hI
    rw [Nat.zero_add] at hI ⊢
    have et : xs.take (j + 1) = xs.take j ++ [y] := by rw [List.take_add_one, ey]; rfl
    refine ⟨s1, e1, fun K k1 k2 => h1 K ?_⟩
    rw [et, List.filter_append, List.map_append] at k1 k2
    cases q : f y with
    | true =>
      refine k1 fun L hL => h2 L (hL _ ?_)
      rw [hI, List.filter_cons_of_pos q]
      rfl
    | false =>
      refine k2 ?_
      rw [hI, List.filter_cons_of_neg (by rw [q]; decide)]
      simp
  · have h : acc = ((xs.take (0 + (xs.map i).length)).filter f).map e := h
    rw [Nat.zero_add, List.length_map, List.take_length] at h
    rw [h]
    exact hd
theorem ints_some : ∀ ns : List Int, intsP (ns.map .int) = some ns
  | [] => rfl
  | n :: ns => by
    show (intsP (ns.map .int)).map (n :: ·) = _
    rw [ints_some ns]
    rfl
theorem sumLI {ns : List Int} {s : En} {P : Res → En → Prop} {E : EP'} : sumA (.list (ns.map .int)) s P E = P (.val (.int ns.sum)) s := by
  show (optM (intsP (ns.map .int)) >>= fun ns => (pure (.val (.int ns.sum)) : M Res)) s P E = _
  rw [ints_some]
  rfl
theorem sumTI {ns : List Int} {s : En} {P : Res → En → Prop} {E : EP'} : sumA (.tuple (ns.map .int)) s P E = P (.val (.int ns.sum)) s := sumLI (E := E)
theorem sumTN {l : List Nat} {s : En} {P : Res → En → Prop} {E : EP'} (h : P (.val (.int (l.sum : Nat))) s) : sumA (.tuple (l.map fun (k : Nat) => PyData.int k)) s P E := by
  have e : (l.map fun (k : Nat) => PyData.int k) = (l.map fun (k : Nat) => (k : Int)).map .int := (List.map_map ..).symm
  have c : ∀ l : List Nat, (l.map fun (k : Nat) => (k : Int)).sum = ((l.sum : Nat) : Int) := fun l => by
    induction l with
    | nil => rfl
    | cons k l ih =>
      rw [List.map_cons, List.sum_cons, List.sum_cons, ih]
      omega
  rw [e, sumTI, c]
  exact h
theorem sumLN {l : List Nat} {s : En} {P : Res → En → Prop} {E : EP'} (h : P (.val (.int (l.sum : Nat))) s) : sumA (.list (l.map fun (k : Nat) => PyData.int k)) s P E := sumTN (E := E) h
/-! shelves -/
def front (ns : List Str) (b : Str) : List Str := b :: ns.filter fun z => z != b
def ledL (ns : List Str) (as : List Str) : List Str := as.foldl front ns
def shelvesL (ns : List Str) : List Str → List (List Str)
  | [] => [ns]
  | b :: as => ns :: shelvesL (front ns b) as
def codeL (ns : List Str) : List Str → List Nat
  | [] => []
  | b :: as => (ns.idxOf b + 1) :: codeL (front ns b) as
theorem front_perm {ns : List Str} {b : Str} (hn : ns.Nodup) (hb : b ∈ ns) : (front ns b).Perm ns := by
  unfold front
  have e : (ns.filter fun z => z != b) = ns.erase b := (hn.erase_eq_filter b).symm
  rw [e]
  exact (List.perm_cons_erase hb).symm
theorem led_perm : ∀ {as ns : List Str}, ns.Nodup → (∀ b ∈ as, b ∈ ns) → (ledL ns as).Perm ns
  | [], ns, _, _ => List.Perm.refl _
  | b :: as, ns, hn, h => by
    have hp := front_perm hn (h b List.mem_cons_self)
    exact (led_perm (as := as) (hp.nodup_iff.mpr hn) fun c hc => hp.mem_iff.mpr (h c (List.mem_cons_of_mem _ hc))).trans hp
theorem led_append (ns as bs : List Str) : ledL ns (as ++ bs) = ledL (ledL ns as) bs := List.foldl_append
theorem code_append : ∀ (as bs ns : List Str), codeL ns (as ++ bs) = codeL ns as ++ codeL (ledL ns as) bs
  | [], bs, ns => rfl
  | b :: as, bs, ns => by
    show (ns.idxOf b + 1) :: codeL (front ns b) (as ++ bs) = _
    rw [code_append as bs (front ns b)]
    rfl
theorem shelves_len : ∀ (as ns : List Str), (shelvesL ns as).length = as.length + 1
  | [], ns => rfl
  | b :: as, ns => congrArg (· + 1) (shelves_len as (front ns b))
theorem code_len : ∀ (as ns : List Str), (codeL ns as).length = as.length
  | [], ns => rfl
  | b :: as, ns => congrArg (· + 1) (code_len as (front ns b))
theorem shelves_snoc : ∀ (as ns : List Str) (b : Str), shelvesL ns (as ++ [b]) = shelvesL ns as ++ [front (ledL ns as) b]
  | [], ns, b => rfl
  | c :: as, ns, b => by
    show ns :: shelvesL (front ns c) (as ++ [b]) = _
    rw [shelves_snoc as (front ns c) b]
    rfl
theorem shelves_last : ∀ (as ns : List Str), ∃ init, shelvesL ns as = init ++ [ledL ns as]
  | [], ns => ⟨[], rfl⟩
  | b :: as, ns => by
    obtain ⟨i, e⟩ := shelves_last as (front ns b)
    refine ⟨ns :: i, ?_⟩
    show ns :: shelvesL (front ns b) as = _
    rw [e]
    rfl
theorem shelves_get : ∀ (as ns : List Str) (j : Nat), j ≤ as.length → (shelvesL ns as)[j]? = some (ledL ns (as.take j))
  | [], ns, j, h => by
    have : j = 0 := Nat.le_zero.mp h
    subst this
    rfl
  | b :: as, ns, 0, h => rfl
  | b :: as, ns, j + 1, h => shelves_get as (front ns b) j (Nat.le_of_succ_le_succ h)
theorem code_get : ∀ (as ns : List Str) (j : Nat) (b : Str), as[j]? = some b → (codeL ns as)[j]? = some ((ledL ns (as.take j)).idxOf b + 1)
  | [], ns, j, b, h => by simp at h
  | c :: as, ns, 0, b, h => by
    cases h
    rfl
  | c :: as, ns, j + 1, b, h => code_get as (front ns c) j b h
theorem shelves_mem {as ns : List Str} (hn : ns.Nodup) (h : ∀ b ∈ as, b ∈ ns) : ∀ s ∈ shelvesL ns as, s.Perm ns := fun s hs => by
  obtain ⟨j, hj, rfl⟩ := List.mem_iff_getElem.mp hs
  rw [shelves_len] at hj
  have e := shelves_get as ns j (by omega)
  rw [List.getElem?_eq_getElem (by rw [shelves_len]; omega)] at e
  rw [Option.some.inj e]
  exact led_perm hn fun b hb => h b (List.mem_of_mem_take hb)
theorem code_bound {as ns : List Str} (hn : ns.Nodup) (h : ∀ b ∈ as, b ∈ ns) : ∀ k ∈ codeL ns as, k ≤ ns.length := fun k hk => by
  obtain ⟨j, hj, rfl⟩ := List.mem_iff_getElem.mp hk
  rw [code_len] at hj
  have e := code_get as ns j as[j] (List.getElem?_eq_getElem hj)
  rw [List.getElem?_eq_getElem (by rw [code_len]; omega)] at e
  rw [Option.some.inj e]
  have hp := led_perm (as := as.take j) hn fun b hb => h b (List.mem_of_mem_take hb)
  have hl := hp.length_eq
  have := List.idxOf_lt_length_of_mem (hp.mem_iff.mpr (h _ (List.getElem_mem hj)))
  omega
theorem sum_bound {m : Nat} : ∀ {l : List Nat}, (∀ k ∈ l, k ≤ m) → l.sum ≤ l.length * m
  | [], _ => Nat.zero_le _
  | k :: l, h => by
    have := sum_bound fun j hj => h j (List.mem_cons_of_mem _ hj)
    have := h k List.mem_cons_self
    rw [List.sum_cons, List.length_cons, Nat.succ_mul]
    omega
theorem sum_cast : ∀ l : List Nat, (l.map fun (k : Nat) => (k : Int)).sum = ((l.sum : Nat) : Int)
  | [] => rfl
  | k :: l => by
    rw [List.map_cons, List.sum_cons, List.sum_cons, sum_cast l]
    omega
/-! the books asked, the last one first -/
def lastsR : List Str → List Str
  | [] => []
  | b :: r => b :: (lastsR r).filter fun z => z != b
/-- one more, if it is none yet -/
def addNew (found : List Str) (b : Str) : List Str := if found.contains b then found else found ++ [b]
theorem lasts_fold : ∀ (l acc : List Str), l.foldl addNew acc = acc ++ (lastsR l).filter fun z => !acc.contains z
  | [], acc => by simp [lastsR]
  | b :: l, acc => by
    rw [List.foldl_cons, lastsR]
    cases q : acc.contains b with
    | true =>
      rw [show addNew acc b = acc by unfold addNew; rw [q]; rfl, lasts_fold l acc, List.filter_cons_of_neg (by rw [q]; decide), List.filter_filter]
      congr 1
      refine List.filter_congr fun z _ => ?_
      by_cases e : z = b
      · subst e
        rw [q]
        rfl
      · rw [show (z != b) = true from bne_iff_ne.mpr e, Bool.and_true]
    | false =>
      rw [show addNew acc b = acc ++ [b] by unfold addNew; rw [q]; rfl, lasts_fold l (acc ++ [b]), List.filter_cons_of_pos (by rw [q]; rfl), List.filter_filter, List.append_assoc]
      congr 1
      rw [List.singleton_append]
      congr 1
      refine List.filter_congr fun z _ => ?_
      rw [List.contains_append]
      show (!(acc.contains z || (z == b || false))) = _
      rw [Bool.or_false, Bool.not_or]
      rfl
def lastsL (as : List Str) : List Str := lastsR as.reverse
theorem led_fold (ns as : List Str) : ledL ns as = as.reverse.foldr (fun b s => front s b) ns := by
  unfold ledL
  rw [List.foldr_reverse]
theorem led_lasts (ns as : List Str) : ledL ns as = lastsL as ++ ns.filter fun z => !(lastsL as).contains z := by
  rw [led_fold]
  unfold lastsL
  generalize as.reverse = r
  induction r with
  | nil =>
    show ns = [] ++ ns.filter fun _ => true
    exact (List.filter_eq_self.mpr fun _ _ => rfl).symm
  | cons b r ih =>
    rw [List.foldr_cons, ih, lastsR]
    unfold front
    rw [List.filter_append, List.filter_filter, List.cons_append]
    congr 2
    refine List.filter_congr fun z _ => ?_
    rw [List.contains_cons]
    by_cases e : z = b
    · subst e
      rw [beq_self_eq_true]
      show (z != z && _) = _
      rw [show (z != z) = false from by simp]
      rfl
    · rw [show (z != b) = true from bne_iff_ne.mpr e, show (z == b) = false from beq_eq_false_iff_ne.mpr e, Bool.true_and, Bool.false_or]
      congr 1
      rw [Bool.eq_iff_iff, List.contains_iff_mem, List.contains_iff_mem, List.mem_filter]
      exact ⟨fun h => ⟨h, bne_iff_ne.mpr e⟩, fun h => h.1⟩
theorem lasts_sub (as : List Str) : ∀ z ∈ lastsL as, z ∈ as := by
  unfold lastsL
  have : ∀ r : List Str, ∀ z ∈ lastsR r, z ∈ r := fun r => by
    induction r with
    | nil => exact fun z h => h
    | cons b r ih =>
      intro z h
      rw [lastsR] at h
      rcases List.mem_cons.mp h with h | h
      · rw [h]
        exact List.mem_cons_self
      · exact List.mem_cons_of_mem _ (ih z (List.mem_filter.mp h).1)
  exact fun z h => List.mem_reverse.mp (this _ z h)
theorem lasts_nodup (as : List Str) : (lastsL as).Nodup := by
  unfold lastsL
  have : ∀ r : List Str, (lastsR r).Nodup := fun r => by
    induction r with
    | nil => exact List.Pairwise.nil
    | cons b r ih =>
      rw [lastsR]
      refine List.nodup_cons.mpr ⟨fun h => ?_, ih.filter _⟩
      have := (List.mem_filter.mp h).2
      simp at this
  exact this _
theorem eqvT_strs (l : List Str) : PyData.eqv (.tuple (l.map .str)) (.tuple (l.map .str)) = true := by
  show PyData.eqvAll (l.map .str) (l.map .str) = true
  induction l with
  | nil => rfl
  | cons a l ih =>
    show ((a == a) && PyData.eqvAll (l.map .str) (l.map .str)) = true
    rw [beq_self_eq_true, ih]
    rfl
theorem depthA_strs : ∀ l : List Str, PyData.depthAll (l.map .str) = 0
  | [] => rfl
  | a :: l => by
    show max 0 (PyData.depthAll (l.map .str)) = 0
    rw [depthA_strs l]
    rfl
theorem neT {a b : List Str} (e : a = b) {s : En} {P : Res → En → Prop} {E : EP'} (h : P (.val (.bool false)) s) : neM (.tuple (a.map .str)) (.tuple (b.map .str)) s P E := by
  subst e
  rw [neA, eqvT_strs]
  refine ⟨?_, h⟩
  show min (PyData.depthAll _ + 1) _ ≤ 64
  rw [depthA_strs]
  exact Nat.le_trans (Nat.min_le_left ..) (by decide)
theorem inTS {f : Bool → Bool} {z : Str} {ns : List Str} {s : En} {P : Res → En → Prop} {E : EP'} (h : P (.val (.bool (f (ns.contains z)))) s) : inM f (.str z) (.tuple (ns.map .str)) s P E := by
  have e : ((ns.map PyData.str).any fun y => PyData.eqv y (.str z)) = ns.contains z := by
    rw [List.any_map, List.contains_eq_any_beq]
    refine List.any_congr rfl fun y => ?_
    show (y == z) = (z == y)
    rw [Bool.eq_iff_iff, beq_iff_eq, beq_iff_eq]
    exact eq_comm
  rw [inTA, e]
  exact ⟨Nat.le_trans (Nat.min_le_right ..) (Nat.zero_le _), h⟩
theorem inLS {f : Bool → Bool} {z : Str} {ns : List Str} {s : En} {P : Res → En → Prop} {E : EP'} (h : P (.val (.bool (f (ns.contains z)))) s) : inM f (.str z) (.list (ns.map .str)) s P E := inTS (E := E) h
/-! zip -/
theorem zipLT {xs ys : List PV} {s : En} {P : List PV → En → Prop} {E : EP'} : zipM [.list xs, .tuple ys] s P E = P (zipP xs ys) s := rfl
theorem zipP_get {xs ys : List PV} {j : Nat} {p : PV} (h : (zipP xs ys)[j]? = some p) : ∃ x y, xs[j]? = some x ∧ ys[j]? = some y ∧ p = .tuple [x, y] := by
  unfold zipP at h
  rw [List.getElem?_zipWith] at h
  cases e1 : xs[j]? with
  | none => rw [e1] at h; cases h
  | some x =>
    cases e2 : ys[j]? with
    | none => rw [e1, e2] at h; cases h
    | some y =>
      rw [e1, e2] at h
      exact ⟨x, y, rfl, rfl, (Option.some.inj h).symm⟩
theorem zipP_len {xs ys : List PV} : (zipP xs ys).length = min xs.length ys.length := List.length_zipWith
/-- a comprehension told by its places -/
theorem lc_at {g : Tg} {me : M PV} {s0 : En} {Q : List PV → Prop} (xs ds : List PV) (hl : ds.length = xs.length) (hs : ∀ (j : Nat) (x d : PV), xs[j]? = some x → ds[j]? = some d → ∃ s1, g.put x s0 = some s1 ∧ ∀ (L : PV → En → Prop), L d s1 → me s1 L NoE) (hd : Q ds) : lcLoop g (pure true) me s0 Q xs [] := by
  refine lc_inv (fun n acc => acc = ds.take n) xs 0 [] rfl (fun j x acc e hI => ?_) fun acc h => ?_
  · have lj := (List.getElem?_eq_some_iff.mp e).1
    have ed : ds[j]? = some ds[j] := List.getElem?_eq_getElem (by omega)
    obtain ⟨s1, e1, h1⟩ := hs j x _ e ed
    refine ⟨s1, e1, fun K k1 k2 => k1 fun L hL => h1 L (hL _ ?_)⟩
    have hI : acc = ds.take (0 + j) := hI
    show acc ++ [_] = ds.take (0 + j + 1)
    rw [hI, Nat.zero_add, List.take_add_one, ed]
    rfl
  · have h : acc = ds.take (0 + xs.length) := h
    rw [Nat.zero_add, List.take_of_length_le (by omega)] at h
    rw [h]
    exact hd
end FS
namespace FS
open PySem PySem.Spec PyProof.Rows L2 LamX
/-! plain laws: how many others since -/
def sinceR (b : Str) : List Str → List Str → Option Nat
  | [], _ => none
  | o :: r, found => if o = b then some found.length else sinceR b r (addNew found o)
theorem since_none {b : Str} : ∀ (r found : List Str), b ∉ r → sinceR b r found = none
  | [], _, _ => rfl
  | o :: r, found, h => by
    have ne : o ≠ b := fun z => h (by rw [z]; exact List.mem_cons_self)
    rw [sinceR, if_neg ne]
    exact since_none r _ fun z => h (List.mem_cons_of_mem _ z)
theorem filt_two {f : List Str} {o : Str} {l : List Str} (h : o ∈ f) : ((l.filter fun z => z != o).filter fun z => !f.contains z) = l.filter fun z => !f.contains z := by
  rw [List.filter_filter]
  refine List.filter_congr fun z _ => ?_
  by_cases e : z = o
  · subst e
    rw [List.contains_iff_mem.mpr h]
    rfl
  · rw [show (z != o) = true from bne_iff_ne.mpr e, Bool.and_true]
theorem filt_snoc {f : List Str} {o : Str} {l : List Str} : ((l.filter fun z => z != o).filter fun z => !f.contains z) = l.filter fun z => !(f ++ [o]).contains z := by
  rw [List.filter_filter]
  refine List.filter_congr fun z _ => ?_
  rw [List.contains_append]
  show _ = !(f.contains z || (z == o || false))
  rw [Bool.or_false, Bool.not_or]
  rfl
theorem since_some {b : Str} : ∀ (r found : List Str), b ∈ r → b ∉ found → sinceR b r found = some (found.length + ((lastsR r).filter fun z => !found.contains z).idxOf b)
  | o :: r, found, h, hf => by
    rw [sinceR, lastsR]
    by_cases e : o = b
    · subst e
      rw [if_pos rfl, List.filter_cons_of_pos (by rw [show found.contains o = false from by rw [Bool.eq_false_iff]; exact fun z => hf (List.contains_iff_mem.mp z)]; rfl), List.idxOf_cons_self]
      rfl
    · rw [if_neg e]
      have hr : b ∈ r := (List.mem_cons.mp h).resolve_left (Ne.symm e)
      unfold addNew
      cases q : found.contains o with
      | true =>
        rw [if_pos rfl, since_some r found hr hf, List.filter_cons_of_neg (by rw [q]; decide), filt_two (List.contains_iff_mem.mp q)]
      | false =>
        rw [if_neg (by decide), since_some r (found ++ [o]) hr (fun z => by
          rcases List.mem_append.mp z with z | z
          · exact hf z
          · exact e (List.mem_singleton.mp z).symm), List.filter_cons_of_pos (by rw [q]; rfl), filt_snoc, List.idxOf_cons, show (o == b) = false from beq_eq_false_iff_ne.mpr e, List.length_append]
        show some (found.length + 1 + _) = some (found.length + (_ + 1))
        congr 1
        omega
theorem idx_app_l {b : Str} : ∀ {l m : List Str}, b ∈ l → (l ++ m).idxOf b = l.idxOf b
  | a :: l, m, h => by
    rw [List.cons_append, List.idxOf_cons, List.idxOf_cons]
    cases q : a == b with
    | true => rfl
    | false =>
      show (l ++ m).idxOf b + 1 = _
      rw [idx_app_l ((List.mem_cons.mp h).resolve_left fun z => by rw [z, beq_self_eq_true] at q; cases q)]
      rfl
theorem idx_app_r {b : Str} : ∀ {l m : List Str}, b ∉ l → (l ++ m).idxOf b = l.length + m.idxOf b
  | [], m, _ => (Nat.zero_add _).symm
  | a :: l, m, h => by
    have ne : a ≠ b := fun z => h (by rw [z]; exact List.mem_cons_self)
    rw [List.cons_append, List.idxOf_cons, beq_eq_false_iff_ne.mpr ne]
    show (l ++ m).idxOf b + 1 = l.length + 1 + m.idxOf b
    rw [idx_app_r fun z => h (List.mem_cons_of_mem _ z)]
    omega
theorem idx_filter {b : Str} {q : Str → Bool} (hq : q b = true) : ∀ {ns : List Str}, ns.Nodup → b ∈ ns → (ns.filter q).idxOf b = (ns.filter fun x => q x && decide (ns.idxOf x < ns.idxOf b)).length
  | a :: t, hn, hb => by
    obtain ⟨h1, h2⟩ := List.nodup_cons.mp hn
    by_cases e : a = b
    · subst e
      rw [List.filter_cons_of_pos hq, List.idxOf_cons_self]
      symm
      rw [List.length_eq_zero_iff, List.filter_eq_nil_iff]
      intro x _
      rw [List.idxOf_cons_self]
      simp
    · have hbt : b ∈ t := (List.mem_cons.mp hb).resolve_left (Ne.symm e)
      have sh : ∀ x ∈ t, (a :: t).idxOf x = t.idxOf x + 1 := fun x hx => by
        have ne : a ≠ x := fun z => h1 (z ▸ hx)
        rw [List.idxOf_cons, beq_eq_false_iff_ne.mpr ne]
        rfl
      have et : (t.filter fun x => q x && decide ((a :: t).idxOf x < (a :: t).idxOf b)) = t.filter fun x => q x && decide (t.idxOf x < t.idxOf b) := by
        refine List.filter_congr fun x hx => ?_
        rw [sh x hx, sh b hbt]
        congr 1
        exact decide_eq_decide.mpr (by omega)
      have ha : decide ((a :: t).idxOf a < (a :: t).idxOf b) = true := by
        rw [List.idxOf_cons_self, sh b hbt]
        exact decide_eq_true (Nat.zero_lt_succ _)
      cases qa : q a with
      | true =>
        rw [List.filter_cons_of_pos qa, List.filter_cons_of_pos (by rw [qa, ha]; rfl), et, List.idxOf_cons, beq_eq_false_iff_ne.mpr e, List.length_cons]
        show _ + 1 = _
        rw [idx_filter hq h2 hbt]
      | false =>
        rw [List.filter_cons_of_neg (by rw [qa]; decide), List.filter_cons_of_neg (by rw [qa, Bool.false_and]; decide), et, idx_filter hq h2 hbt]
theorem lasts_mem {p : List Str} {z : Str} : z ∈ lastsL p ↔ z ∈ p := by
  have : ∀ r : List Str, z ∈ r → z ∈ lastsR r := fun r => by
    induction r with
    | nil => exact fun h => h
    | cons b r ih =>
      intro h
      rw [lastsR]
      by_cases e : z = b
      · rw [e]
        exact List.mem_cons_self
      · exact List.mem_cons_of_mem _ (List.mem_filter.mpr ⟨ih ((List.mem_cons.mp h).resolve_left e), bne_iff_ne.mpr e⟩)
  exact ⟨lasts_sub p z, fun h => this _ (List.mem_reverse.mpr h)⟩
/-- those ahead of a first asking -/
def aheadB (ns p : List Str) (b own : Str) : Bool := own != b && (p.contains own || decide (ns.idxOf own < ns.idxOf b))
theorem count_or {f g : Str → Bool} : ∀ l : List Str, (l.filter fun x => f x || g x).length = (l.filter f).length + (l.filter fun x => !f x && g x).length
  | [] => rfl
  | a :: l => by
    have ih := count_or (f := f) (g := g) l
    cases h1 : f a <;> cases h2 : g a <;> simp only [List.filter_cons, h1, h2, Bool.or_self, Bool.or_true, Bool.true_or, Bool.or_false, Bool.false_or, Bool.not_true, Bool.not_false, Bool.and_true, Bool.and_false, Bool.true_and, Bool.false_and, if_true, if_false, Bool.false_eq_true, List.length_cons, ih] <;> omega
/-- what an asking costs, by what was asked since -/
theorem cost_since {ns p : List Str} {b : Str} (hn : ns.Nodup) (hs : ∀ z ∈ p, z ∈ ns) (hb : b ∈ ns) : (ledL ns p).idxOf b = (sinceR b p.reverse []).getD (ns.filter (aheadB ns p b)).length := by
  rw [led_lasts]
  by_cases h : b ∈ p
  · rw [since_some p.reverse [] (List.mem_reverse.mpr h) (by simp), idx_app_l (lasts_mem.mpr h)]
    show (lastsR p.reverse).idxOf b = 0 + ((lastsR p.reverse).filter fun _ => true).idxOf b
    rw [List.filter_eq_self.mpr fun _ _ => rfl, Nat.zero_add]
  · rw [since_none p.reverse [] fun z => h (List.mem_reverse.mp z), idx_app_r fun z => h (lasts_mem.mp z)]
    show _ = (ns.filter (aheadB ns p b)).length
    have hq : (!(lastsL p).contains b) = true := by
      rw [Bool.not_eq_true', Bool.eq_false_iff]
      exact fun z => h (lasts_mem.mp (List.contains_iff_mem.mp z))
    rw [idx_filter (q := fun z => !(lastsL p).contains z) hq hn hb]
    have e1 : (ns.filter (aheadB ns p b)) = ns.filter fun x => (lastsL p).contains x || decide (ns.idxOf x < ns.idxOf b) := by
      refine List.filter_congr fun x hx => ?_
      unfold aheadB
      have c : p.contains x = (lastsL p).contains x := by
        rw [Bool.eq_iff_iff, List.contains_iff_mem, List.contains_iff_mem, lasts_mem]
      rw [c]
      by_cases e : x = b
      · subst e
        rw [show (x != x) = false from by simp, Bool.false_and, decide_eq_false (Nat.lt_irrefl _), Bool.or_false]
        rw [Bool.not_eq_true'] at hq
        exact hq.symm
      · rw [show (x != b) = true from bne_iff_ne.mpr e, Bool.true_and]
    rw [e1, count_or]
    congr 1
    have pm : (ns.filter fun x => (lastsL p).contains x).Perm (lastsL p) := (List.perm_ext_iff_of_nodup (hn.filter _) (lasts_nodup p)).mpr fun z => by
      rw [List.mem_filter, List.contains_iff_mem]
      exact ⟨fun h => h.2, fun h => ⟨hs z (lasts_sub p z h), h⟩⟩
    exact pm.length_eq.symm
end FS
namespace FS
open PySem PySem.Spec PyProof.Rows L2 LamX
/-! plain laws: windows, first askings, spots -/
theorem cut_midN {α : Type} (xs : List α) (a b : Nat) : cutP xs (some (a : Int)) (some (b : Int)) = (xs.take b).drop a := by
  unfold cutP
  have e0 : HT.sIx xs.length 0 (some (a : Int)) = min a xs.length := HT.sIx_nat _ _ a
  have e1 : HT.sIx xs.length xs.length (some (b : Int)) = min b xs.length := HT.sIx_nat _ _ b
  rw [e0, e1, List.drop_take]
  by_cases h : a ≤ xs.length
  · rw [Nat.min_eq_left h]
    by_cases h2 : b ≤ xs.length
    · rw [Nat.min_eq_left h2]
    · rw [Nat.min_eq_right (by omega), List.take_of_length_le (by rw [List.length_drop]; omega), List.take_of_length_le (by rw [List.length_drop]; omega)]
  · rw [show min a xs.length = xs.length from Nat.min_eq_right (by omega), List.drop_eq_nil_of_le (show xs.length ≤ xs.length by omega), List.drop_eq_nil_of_le (show xs.length ≤ a by omega), List.take_nil, List.take_nil]
theorem filt_len {x : Str} : ∀ {L : List Str}, L.Nodup → (L.filter fun z => z != x).length + (if x ∈ L then 1 else 0) = L.length
  | [], _ => rfl
  | a :: L, h => by
    obtain ⟨h1, h2⟩ := List.nodup_cons.mp h
    have ih := filt_len (x := x) h2
    by_cases e : a = x
    · subst e
      rw [List.filter_cons_of_neg (by simp), if_pos List.mem_cons_self, List.length_cons]
      rw [if_neg h1] at ih
      omega
    · rw [List.filter_cons_of_pos (p := fun z => z != x) (bne_iff_ne.mpr e), List.length_cons, List.length_cons]
      have : (x ∈ a :: L) ↔ x ∈ L := ⟨fun h => (List.mem_cons.mp h).resolve_left (Ne.symm e), List.mem_cons_of_mem _⟩
      simp only [this]
      omega
theorem lastsR_mem {z : Str} : ∀ r : List Str, z ∈ lastsR r ↔ z ∈ r := fun r => by
  have := lasts_mem (p := r.reverse) (z := z)
  unfold lastsL at this
  rw [List.reverse_reverse, List.mem_reverse] at this
  exact this
theorem lastsR_nodup (r : List Str) : (lastsR r).Nodup := by
  have := lasts_nodup r.reverse
  unfold lastsL at this
  rw [List.reverse_reverse] at this
  exact this
theorem ndR_lasts : ∀ r : List Str, ndR r = (lastsR r).length
  | [] => rfl
  | x :: r => by
    have ih := ndR_lasts r
    have fl := filt_len (x := x) (lastsR_nodup r)
    rw [ndR, lastsR, List.length_cons]
    by_cases h : x ∈ r
    · rw [if_pos h]
      rw [if_pos ((lastsR_mem r).mpr h)] at fl
      omega
    · rw [if_neg h]
      rw [if_neg fun z => h ((lastsR_mem r).mp z)] at fl
      omega
theorem nd_lasts (l : List Str) : nd l = (lastsL l).length := ndR_lasts l.reverse
/-- the books of a window -/
def winL (as : List Str) (w j : Nat) : List Str := (as.take j).drop (j - w)
theorem enum_map (ns : List Str) : enumP (ns.map .str) 0 = (List.range ns.length).map fun (j : Nat) => PyData.tuple [.int j, .str (ns.getD j "")] := by
  refine List.ext_getElem? fun j => ?_
  rw [enumP_get, List.getElem?_map, List.getElem?_map]
  by_cases h : j < ns.length
  · have e : ns.getD j "" = ns[j] := by rw [List.getD_eq_getElem?_getD, List.getElem?_eq_getElem h]; rfl
    rw [List.getElem?_range h, List.getElem?_eq_getElem h, Nat.zero_add]
    show some (PyData.tuple [.int (j : Nat), .str ns[j]]) = some (PyData.tuple [.int (j : Nat), .str (ns.getD j "")])
    rw [e]
  · rw [List.getElem?_eq_none (by omega), List.getElem?_eq_none (by rw [List.length_range]; omega)]
    rfl
def firstsL (as : List Str) : List Nat := (List.range as.length).filter fun j => !(as.take j).contains (as.getD j "")
def hitsL (as : List Str) (w : Nat) : List Nat := (List.range as.length).filter fun j => (winL as w j).contains (as.getD j "")
theorem addNew_mem {f : List Str} {b z : Str} : z ∈ addNew f b ↔ z ∈ f ∨ z = b := by
  unfold addNew
  split
  · rename_i h
    rw [List.contains_iff_mem] at h
    exact ⟨.inl, fun h2 => h2.elim id fun e => e ▸ h⟩
  · rw [List.mem_append, List.mem_singleton]
theorem fold_mem {z : Str} : ∀ (l f : List Str), z ∈ l.foldl addNew f ↔ z ∈ f ∨ z ∈ l
  | [], f => by simp
  | b :: l, f => by
    rw [List.foldl_cons, fold_mem l, addNew_mem, List.mem_cons]
    exact ⟨fun h => h.elim (fun h => h.elim .inl fun e => .inr (.inl e)) fun h => .inr (.inr h), fun h => h.elim (fun h => .inl (.inl h)) fun h => h.elim (fun e => .inl (.inr e)) .inr⟩
theorem getD_app {l : List Str} {b : Str} {j : Nat} (h : j < l.length) : (l ++ [b]).getD j "" = l.getD j "" := by
  rw [List.getD_eq_getElem?_getD, List.getD_eq_getElem?_getD, List.getElem?_append_left h]
theorem getD_end {l : List Str} {b : Str} : (l ++ [b]).getD l.length "" = b := by
  rw [List.getD_eq_getElem?_getD, List.getElem?_append_right (Nat.le_refl _), Nat.sub_self]
  rfl
theorem firsts_snoc (as : List Str) (b : Str) : firstsL (as ++ [b]) = firstsL as ++ if as.contains b then [] else [as.length] := by
  unfold firstsL
  rw [List.length_append, List.length_singleton, List.range_succ, List.filter_append]
  congr 1
  · refine List.filter_congr fun j hj => ?_
    have hj := List.mem_range.mp hj
    rw [getD_app hj, List.take_append_of_le_length (by omega)]
  · rw [show [as.length].filter (fun j => !((as ++ [b]).take j).contains ((as ++ [b]).getD j "")) = if (!((as ++ [b]).take as.length).contains ((as ++ [b]).getD as.length "")) = true then [as.length] else [] from by
      rw [List.filter_cons]
      rfl, getD_end, List.take_left]
    cases as.contains b <;> rfl
theorem firsts_books (as : List Str) : as.foldl addNew [] = (firstsL as).map fun j => as.getD j "" := by
  have key : ∀ r : List Str, r.reverse.foldl addNew [] = (firstsL r.reverse).map fun j => r.reverse.getD j "" := fun r => by
    induction r with
    | nil => rfl
    | cons b r ih =>
      rw [List.reverse_cons, List.foldl_append, ih, firsts_snoc, List.map_append]
      have e1 : ((firstsL r.reverse).map fun j => (r.reverse ++ [b]).getD j "") = (firstsL r.reverse).map fun j => r.reverse.getD j "" := by
        refine List.map_congr_left fun j hj => ?_
        exact getD_app (List.mem_range.mp (List.mem_filter.mp hj).1)
      rw [e1, ← ih]
      show addNew (r.reverse.foldl addNew []) b = _
      have hm : (r.reverse.foldl addNew []).contains b = r.reverse.contains b := by
        rw [Bool.eq_iff_iff, List.contains_iff_mem, List.contains_iff_mem, fold_mem]
        simp
      unfold addNew
      rw [show (r.reverse.foldl (fun found b => if found.contains b = true then found else found ++ [b]) []) = r.reverse.foldl addNew [] from rfl, hm]
      cases q : r.reverse.contains b with
      | true =>
        rw [if_pos rfl, if_pos rfl, List.map_nil, List.append_nil]
      | false =>
        rw [if_neg (by decide), if_neg (by decide), List.map_cons, List.map_nil, getD_end]
  have := key as.reverse
  rw [List.reverse_reverse] at this
  exact this
def spotsL (p : List Str) (b : Str) : List Nat := (List.range p.length).filter fun i => p.getD i "" == b
theorem spots_snoc (p : List Str) (o b : Str) : spotsL (p ++ [o]) b = spotsL p b ++ if o == b then [p.length] else [] := by
  unfold spotsL
  rw [List.length_append, List.length_singleton, List.range_succ, List.filter_append]
  congr 1
  · refine List.filter_congr fun j hj => ?_
    rw [getD_app (List.mem_range.mp hj)]
  · rw [List.filter_cons, getD_end]
    rfl
theorem spots_lt {p : List Str} {b : Str} {k : Nat} (h : k ∈ spotsL p b) : k < p.length := List.mem_range.mp (List.mem_filter.mp h).1
theorem since_spots {b : Str} : ∀ (r found : List Str), sinceR b r found = (spotsL r.reverse b).getLast?.map fun k => ((r.reverse.drop (k + 1)).reverse.foldl addNew found).length
  | [], found => rfl
  | o :: r, found => by
    rw [sinceR, List.reverse_cons, spots_snoc]
    by_cases e : o = b
    · subst e
      rw [if_pos rfl, beq_self_eq_true, if_pos rfl, List.getLast?_append]
      show some found.length = some ((((r.reverse ++ [o]).drop (r.reverse.length + 1)).reverse.foldl addNew found).length)
      rw [List.drop_eq_nil_of_le (by rw [List.length_append]; exact Nat.le_refl _)]
      rfl
    · rw [if_neg e, beq_eq_false_iff_ne.mpr e, if_neg (by decide), List.append_nil, since_spots r (addNew found o)]
      cases q : (spotsL r.reverse b).getLast? with
      | none => rfl
      | some k =>
        have hk : k < r.reverse.length := spots_lt (List.mem_of_getLast? q)
        show some ((((r.reverse).drop (k + 1)).reverse.foldl addNew (addNew found o)).length) = some ((((r.reverse ++ [o]).drop (k + 1)).reverse.foldl addNew found).length)
        rw [List.drop_append_of_le_length (by omega), List.reverse_append, List.reverse_singleton, List.singleton_append, List.foldl_cons]
theorem since_nd {b : Str} (p : List Str) : sinceR b p.reverse [] = (spotsL p b).getLast?.map fun k => nd (p.drop (k + 1)) := by
  rw [since_spots, List.reverse_reverse]
  cases (spotsL p b).getLast? with
  | none => rfl
  | some k =>
    show some (((p.drop (k + 1)).reverse.foldl addNew []).length) = some (nd (p.drop (k + 1)))
    rw [nd_lasts, lasts_fold]
    unfold lastsL
    congr 2
    exact List.filter_eq_self.mpr fun _ _ => rfl
end FS
namespace FS
open PySem PySem.Spec PyProof.Rows L2 LamX
theorem rng_map (n : Nat) : rngP 0 n = (List.range n).map fun (k : Nat) => PyData.int (k : Nat) := by
  unfold rngP
  refine List.map_congr_left fun k _ => ?_
  rw [Int.zero_add]
theorem shallow_nilR {xs : List PV} : shallow (.list xs) (.list []) := by
  show min _ (0 + 1) ≤ 64
  exact Nat.le_trans (Nat.min_le_right ..) (by decide)
theorem eqv_nilR (xs : List PV) : PyData.eqv (.list xs) (.list []) = xs.isEmpty := by
  cases xs <;> rfl
theorem neLnil {xs : List PV} {s : En} {P : Res → En → Prop} {E : EP'} : neM (.list xs) (.list []) s P E = P (.val (.bool (!xs.isEmpty))) s := by
  rw [neA, eqv_nilR]
  exact propext ⟨fun h => h.2, fun h => ⟨shallow_nilR, h⟩⟩
theorem eqLnil {xs : List PV} {s : En} {P : Res → En → Prop} {E : EP'} : eqM (.list xs) (.list []) s P E = P (.val (.bool xs.isEmpty)) s := by
  rw [show eqM (.list xs) (.list []) s P E = (shallow (.list xs) (.list []) ∧ P (.val (.bool (PyData.eqv (.list xs) (.list [])))) s) from rfl, eqv_nilR]
  exact propext ⟨fun h => h.2, fun h => ⟨shallow_nilR, h⟩⟩
theorem atI_last {α : Type} {xs : List α} {x : α} (h : xs.getLast? = some x) : L2.atI xs (-1) = some x := by
  obtain ⟨ys, rfl⟩ := List.getLast?_eq_some_iff.mp h
  exact atI_end
theorem cut_betw {α : Type} (xs : List α) (a b : Nat) : cutP xs (some (a : Int)) (some (b : Int)) = (xs.take b).drop a := cut_midN xs a b
end FS
namespace FS
open PySem PySem.Spec PyProof.Rows L2 LamX
/-! plain laws: what pairs cost -/
theorem idx_cons_ne {a x : Str} {l : List Str} (h : a ≠ x) : (a :: l).idxOf x = l.idxOf x + 1 := by
  rw [List.idxOf_cons, beq_eq_false_iff_ne.mpr h]
  rfl
theorem idx_lt_filter {q : Str → Bool} {x y : Str} (hx : q x = true) (hy : q y = true) : ∀ l : List Str, x ∈ l → y ∈ l → ((l.filter q).idxOf x < (l.filter q).idxOf y ↔ l.idxOf x < l.idxOf y)
  | [], h, _ => by cases h
  | a :: l, h1, h2 => by
    by_cases ax : a = x
    · subst ax
      rw [List.filter_cons_of_pos hx, List.idxOf_cons_self, List.idxOf_cons_self]
      by_cases ay : a = y
      · subst ay
        rw [List.idxOf_cons_self, List.idxOf_cons_self]
      · rw [idx_cons_ne ay, idx_cons_ne ay]
        omega
    · by_cases ay : a = y
      · subst ay
        rw [List.filter_cons_of_pos hy, List.idxOf_cons_self, List.idxOf_cons_self]
        omega
      · have ih := idx_lt_filter hx hy l ((List.mem_cons.mp h1).resolve_left (Ne.symm ax)) ((List.mem_cons.mp h2).resolve_left (Ne.symm ay))
        rw [idx_cons_ne ax, idx_cons_ne ay]
        by_cases qa : q a = true
        · rw [List.filter_cons_of_pos qa, idx_cons_ne ax, idx_cons_ne ay]
          omega
        · rw [List.filter_cons_of_neg qa]
          omega
theorem front_lt {l : List Str} {b x y : Str} (hx : x ∈ l) (hy : y ∈ l) (bx : b ≠ x) (by' : b ≠ y) : ((front l b).idxOf x < (front l b).idxOf y ↔ l.idxOf x < l.idxOf y) := by
  unfold front
  rw [idx_cons_ne bx, idx_cons_ne by']
  have := idx_lt_filter (q := fun z => z != b) (bne_iff_ne.mpr (Ne.symm bx)) (bne_iff_ne.mpr (Ne.symm by')) l hx hy
  omega
def inP (x y z : Str) : Bool := [x, y].contains z
theorem inP_iff {x y z : Str} : inP x y z = true ↔ z = x ∨ z = y := by
  unfold inP
  rw [List.contains_iff_mem]
  simp
theorem filt_one {y : Str} : ∀ {l : List Str}, l.Nodup → y ∈ l → ∀ x, x ∉ l → l.filter (inP x y) = [y] ∧ l.filter (inP y x) = [y]
  | [], _, h, _, _ => by cases h
  | a :: l, hn, h, x, hx => by
    obtain ⟨h1, h2⟩ := List.nodup_cons.mp hn
    have xa : a ≠ x := fun e => hx (e ▸ List.mem_cons_self)
    by_cases ay : a = y
    · subst ay
      have e1 : l.filter (inP x a) = [] := List.filter_eq_nil_iff.mpr fun z hz => by
        rw [inP_iff]
        rintro (e | e)
        · exact hx (e ▸ List.mem_cons_of_mem _ hz)
        · exact h1 (e ▸ hz)
      have e2 : l.filter (inP a x) = [] := List.filter_eq_nil_iff.mpr fun z hz => by
        rw [inP_iff]
        rintro (e | e)
        · exact h1 (e ▸ hz)
        · exact hx (e ▸ List.mem_cons_of_mem _ hz)
      rw [List.filter_cons_of_pos (inP_iff.mpr (.inr rfl)), List.filter_cons_of_pos (inP_iff.mpr (.inl rfl)), e1, e2]
      exact ⟨rfl, rfl⟩
    · have ih := filt_one h2 ((List.mem_cons.mp h).resolve_left (Ne.symm ay)) x fun h => hx (List.mem_cons_of_mem _ h)
      rw [List.filter_cons_of_neg (fun h => (inP_iff.mp h).elim xa ay), List.filter_cons_of_neg (fun h => (inP_iff.mp h).elim ay xa)]
      exact ih
theorem filt_pair {x y : Str} (hxy : x ≠ y) : ∀ {l : List Str}, l.Nodup → x ∈ l → y ∈ l → l.filter (inP x y) = if l.idxOf x < l.idxOf y then [x, y] else [y, x]
  | [], _, h, _ => by cases h
  | a :: l, hn, h1, h2 => by
    obtain ⟨n1, n2⟩ := List.nodup_cons.mp hn
    by_cases ax : a = x
    · subst ax
      have hy := (List.mem_cons.mp h2).resolve_left (Ne.symm hxy)
      rw [List.filter_cons_of_pos (inP_iff.mpr (.inl rfl)), (filt_one n2 hy a n1).1, List.idxOf_cons_self, idx_cons_ne hxy, if_pos (by omega)]
    · have hx := (List.mem_cons.mp h1).resolve_left (Ne.symm ax)
      by_cases ay : a = y
      · subst ay
        rw [List.filter_cons_of_pos (inP_iff.mpr (.inr rfl)), (filt_one n2 hx a n1).2, List.idxOf_cons_self, idx_cons_ne ax, if_neg (by omega)]
      · have hy := (List.mem_cons.mp h2).resolve_left (Ne.symm ay)
        have ih := filt_pair hxy n2 hx hy
        rw [List.filter_cons_of_neg (fun h => (inP_iff.mp h).elim ax ay), idx_cons_ne ax, idx_cons_ne ay, ih]
        by_cases h : l.idxOf x < l.idxOf y
        · rw [if_pos h, if_pos (by omega)]
        · rw [if_neg h, if_neg (by omega)]
/-- the law's count: who is in front, how often the other one was asked -/
def stepB (x y : Str) (s : Str × Nat) (b : Str) : Str × Nat := if inP x y b then (b, s.2 + if b != s.1 then 1 else 0) else s
def behL (ns as : List Str) (x y : Str) : Str × Nat := as.foldl (stepB x y) (if ns.idxOf x < ns.idxOf y then x else y, 0)
theorem beh_snoc (ns as : List Str) (x y b : Str) : behL ns (as ++ [b]) x y = stepB x y (behL ns as x y) b := by
  unfold behL
  rw [List.foldl_append]
  rfl
theorem snoc_ind {P : List Str → Prop} (h0 : P []) (h1 : ∀ l b, P l → P (l ++ [b])) (l : List Str) : P l := by
  have : ∀ r : List Str, P r.reverse := fun r => by
    induction r with
    | nil => exact h0
    | cons b r ih => rw [List.reverse_cons]; exact h1 _ _ ih
  have := this l.reverse
  rwa [List.reverse_reverse] at this
theorem led_snoc (ns as : List Str) (b : Str) : ledL ns (as ++ [b]) = front (ledL ns as) b := by
  rw [led_append]
  rfl
theorem beh_front {ns : List Str} {x y : Str} (hn : ns.Nodup) (hx : x ∈ ns) (hy : y ∈ ns) (hxy : x ≠ y) (as : List Str) : (∀ b ∈ as, b ∈ ns) → (behL ns as x y).1 = if (ledL ns as).idxOf x < (ledL ns as).idxOf y then x else y := by
  induction as using snoc_ind with
  | h0 => exact fun _ => rfl
  | h1 l b ih =>
  intro hs
  have hs' : ∀ z ∈ l, z ∈ ns := fun z hz => hs z (List.mem_append_left _ hz)
  have hp := led_perm hn hs'
  have ih := ih hs'
  rw [beh_snoc, led_snoc]
  unfold stepB
  by_cases bx : b = x
  · subst bx
    rw [if_pos (inP_iff.mpr (.inl rfl))]
    show b = _
    unfold front
    rw [List.idxOf_cons_self, idx_cons_ne hxy, if_pos (by omega)]
  · by_cases by' : b = y
    · subst by'
      rw [if_pos (inP_iff.mpr (.inr rfl))]
      show b = _
      unfold front
      rw [List.idxOf_cons_self, idx_cons_ne bx, if_neg (by omega)]
    · rw [if_neg (fun h => (inP_iff.mp h).elim bx by'), ih]
      have := front_lt (hp.mem_iff.mpr hx) (hp.mem_iff.mpr hy) bx by'
      by_cases h : (ledL ns l).idxOf x < (ledL ns l).idxOf y
      · rw [if_pos h, if_pos (this.mpr h)]
      · rw [if_neg h, if_neg fun q => h (this.mp q)]
theorem beh_code {ns : List Str} {x y : Str} (hn : ns.Nodup) (hx : x ∈ ns) (hy : y ∈ ns) (hxy : x ≠ y) (as : List Str) : (((behL ns as x y).1 = x ∧ ledL (ns.filter (inP x y)) (as.filter (inP x y)) = [x, y]) ∨ ((behL ns as x y).1 = y ∧ ledL (ns.filter (inP x y)) (as.filter (inP x y)) = [y, x])) ∧ (codeL (ns.filter (inP x y)) (as.filter (inP x y))).sum = (behL ns as x y).2 + (as.filter (inP x y)).length := by
  induction as using snoc_ind with
  | h0 =>
    refine ⟨?_, rfl⟩
    show ((if ns.idxOf x < ns.idxOf y then x else y) = x ∧ ns.filter (inP x y) = _) ∨ ((if ns.idxOf x < ns.idxOf y then x else y) = y ∧ ns.filter (inP x y) = _)
    rw [filt_pair hxy hn hx hy]
    split
    · exact .inl ⟨rfl, rfl⟩
    · exact .inr ⟨rfl, rfl⟩
  | h1 l b ih =>
    obtain ⟨ih1, ih2⟩ := ih
    rw [beh_snoc, List.filter_append]
    unfold stepB
    by_cases q : inP x y b = true
    · rw [if_pos q, show [b].filter (inP x y) = [b] from by rw [List.filter_cons_of_pos q]; rfl, led_snoc, code_append, List.sum_append, ih2, List.length_append, List.length_singleton]
      have yx : (y == x) = false := beq_eq_false_iff_ne.mpr (Ne.symm hxy)
      have xy : (x == y) = false := beq_eq_false_iff_ne.mpr hxy
      show ((b = x ∧ _) ∨ (b = y ∧ _)) ∧ _ + (List.idxOf b (ledL (ns.filter (inP x y)) (l.filter (inP x y))) + 1 + 0) = _ + (if (b != (behL ns l x y).1) = true then 1 else 0) + _
      rcases inP_iff.mp q with rfl | rfl
      · rcases ih1 with ⟨e1, e2⟩ | ⟨e1, e2⟩
        · rw [e1, e2]
          refine ⟨.inl ⟨rfl, ?_⟩, ?_⟩
          · unfold front
            simp [yx, Ne.symm hxy]
          · rw [List.idxOf_cons_self]
            simp
            omega
        · rw [e1, e2]
          refine ⟨.inl ⟨rfl, ?_⟩, ?_⟩
          · unfold front
            simp [yx, Ne.symm hxy]
          · rw [idx_cons_ne (Ne.symm hxy), List.idxOf_cons_self]
            simp [hxy]
            omega
      · rcases ih1 with ⟨e1, e2⟩ | ⟨e1, e2⟩
        · rw [e1, e2]
          refine ⟨.inr ⟨rfl, ?_⟩, ?_⟩
          · unfold front
            simp [xy, hxy]
          · rw [idx_cons_ne hxy, List.idxOf_cons_self]
            simp [Ne.symm hxy]
            omega
        · rw [e1, e2]
          refine ⟨.inr ⟨rfl, ?_⟩, ?_⟩
          · unfold front
            simp [xy, hxy]
          · rw [List.idxOf_cons_self]
            simp
            omega
    · rw [if_neg q, show [b].filter (inP x y) = [] from by rw [List.filter_cons_of_neg q]; rfl, List.append_nil]
      exact ⟨ih1, ih2⟩
theorem beh_le (ns as : List Str) (x y : Str) : (behL ns as x y).2 ≤ as.length := by
  induction as using snoc_ind with
  | h0 => exact Nat.le_refl _
  | h1 l b ih =>
    rw [beh_snoc, List.length_append, List.length_singleton]
    unfold stepB
    split
    · show (behL ns l x y).2 + (if _ then 1 else 0) ≤ _
      split <;> omega
    · omega
theorem step_symm (x y : Str) : stepB x y = stepB y x := by
  funext s b
  unfold stepB
  have : inP x y b = inP y x b := by
    rw [Bool.eq_iff_iff, inP_iff, inP_iff]
    exact Or.comm
  rw [this]
theorem beh_symm {ns : List Str} {x y : Str} (hx : x ∈ ns) (hy : y ∈ ns) (hxy : x ≠ y) (as : List Str) : behL ns as x y = behL ns as y x := by
  have inj : ns.idxOf x ≠ ns.idxOf y := fun e => hxy (by
    have a1 := List.getElem_idxOf (List.idxOf_lt_length_of_mem hx)
    have a2 := List.getElem_idxOf (List.idxOf_lt_length_of_mem hy)
    rw [← a1, ← a2]
    congr 1)
  unfold behL
  rw [step_symm]
  congr 2
  by_cases h : ns.idxOf x < ns.idxOf y
  · rw [if_pos h, if_neg (by omega)]
  · rw [if_neg h, if_pos (by omega)]
def pairSum (f : Str × Str → Nat) (l : List Str) : Nat := ((pairsL l).map f).sum
theorem pairSum_cons (f : Str × Str → Nat) (a : Str) (l : List Str) : pairSum f (a :: l) = (l.map fun z => f (a, z)).sum + pairSum f l := by
  unfold pairSum
  rw [pairsL, List.map_append, List.sum_append, List.map_map]
  rfl
theorem pairSum_add (f g : Str × Str → Nat) (l : List Str) : pairSum (fun p => f p + g p) l = pairSum f l + pairSum g l := by
  unfold pairSum
  induction pairsL l with
  | nil => rfl
  | cons a r ih => simp only [List.map_cons, List.sum_cons, ih]; omega
/-- what an asking of b adds -/
def incB (b : Str) (f : Str → Bool) (p : Str × Str) : Nat := if p.1 = b then (if f p.2 then 1 else 0) else if p.2 = b then (if f p.1 then 1 else 0) else 0
theorem inc_none {b : Str} {f : Str → Bool} : ∀ {l : List Str}, b ∉ l → pairSum (incB b f) l = 0
  | [], _ => rfl
  | a :: l, h => by
    have ab : a ≠ b := fun e => h (e ▸ List.mem_cons_self)
    have hb : b ∉ l := fun q => h (List.mem_cons_of_mem _ q)
    rw [pairSum_cons, inc_none hb]
    have : (l.map fun z => incB b f (a, z)) = l.map fun _ => 0 := List.map_congr_left fun z hz => by
      unfold incB
      rw [if_neg ab]
      exact if_neg (show ¬ z = b from fun e => hb (e ▸ hz))
    rw [this]
    clear this h hb
    induction l with
    | nil => rfl
    | cons _ _ ih => simpa using ih
theorem sum_single {b : Str} {k : Nat} : ∀ {l : List Str}, l.Nodup → b ∈ l → (l.map fun z => if z = b then k else 0).sum = k
  | [], _, h => by cases h
  | a :: l, hn, h => by
    obtain ⟨h1, h2⟩ := List.nodup_cons.mp hn
    rw [List.map_cons, List.sum_cons]
    by_cases e : a = b
    · subst e
      rw [if_pos rfl]
      have : (l.map fun z => if z = a then k else 0) = l.map fun _ => 0 := List.map_congr_left fun z hz => by
        exact if_neg (show ¬ z = a from fun e => h1 (e ▸ hz))
      rw [this]
      clear this h h1 h2 hn
      induction l with
      | nil => rfl
      | cons _ _ ih => simpa using ih
    · rw [if_neg e, sum_single h2 ((List.mem_cons.mp h).resolve_left (Ne.symm e))]
      omega
theorem sum_ind (f : Str → Bool) : ∀ l : List Str, (l.map fun z => if f z then 1 else 0).sum = (l.filter f).length
  | [] => rfl
  | a :: l => by
    rw [List.map_cons, List.sum_cons, sum_ind f l]
    cases q : f a with
    | true => rw [List.filter_cons_of_pos q, List.length_cons, if_pos rfl]; omega
    | false => rw [List.filter_cons_of_neg (by rw [q]; decide), if_neg (by decide)]; omega
theorem inc_some {b : Str} {f : Str → Bool} (fb : f b = false) : ∀ {l : List Str}, l.Nodup → b ∈ l → pairSum (incB b f) l = (l.filter f).length
  | [], _, h => by cases h
  | a :: l, hn, h => by
    obtain ⟨h1, h2⟩ := List.nodup_cons.mp hn
    rw [pairSum_cons]
    by_cases ab : a = b
    · subst ab
      rw [inc_none h1, List.filter_cons_of_neg (by rw [fb]; decide), ← sum_ind f l]
      have : (l.map fun z => incB a f (a, z)) = l.map fun z => if f z then 1 else 0 := List.map_congr_left fun z hz => by
        unfold incB
        rw [if_pos rfl]
      rw [this]
      rfl
    · have hb := (List.mem_cons.mp h).resolve_left (Ne.symm ab)
      rw [inc_some fb h2 hb]
      have : (l.map fun z => incB b f (a, z)) = l.map fun z => if z = b then (if f a then 1 else 0) else 0 := List.map_congr_left fun z hz => by
        unfold incB
        rw [if_neg ab]
      rw [this, sum_single h2 hb]
      cases q : f a with
      | true => rw [List.filter_cons_of_pos q, List.length_cons, if_pos rfl]; omega
      | false => rw [List.filter_cons_of_neg (by rw [q]; decide), if_neg (by decide)]; omega
theorem ahead_count {l : List Str} {b : Str} (hn : l.Nodup) (hb : b ∈ l) : (l.filter fun z => decide (l.idxOf z < l.idxOf b)).length = l.idxOf b := by
  have := idx_filter (q := fun _ => true) rfl hn hb
  rw [List.filter_eq_self.mpr fun _ _ => rfl] at this
  exact this.symm
theorem cost_pairs {ns L : List Str} (hn : ns.Nodup) (hL : L.Perm ns) (as : List Str) : (∀ b ∈ as, b ∈ ns) → (codeL ns as).sum = as.length + pairSum (fun p => (behL ns as p.1 p.2).2) L := by
  induction as using snoc_ind with
  | h0 =>
    intro _
    show 0 = 0 + pairSum (fun _ => 0) L
    unfold pairSum
    induction pairsL L with
    | nil => rfl
    | cons _ _ ih => simpa using ih
  | h1 l b ih =>
    intro hs
    have hs' : ∀ z ∈ l, z ∈ ns := fun z hz => hs z (List.mem_append_left _ hz)
    have hb : b ∈ ns := hs b (List.mem_append_right _ List.mem_cons_self)
    have hp := led_perm hn hs'
    have ih := ih hs'
    have nc := hp.nodup_iff.mpr hn
    have bc := hp.mem_iff.mpr hb
    rw [code_append, List.sum_append, ih, List.length_append, List.length_singleton]
    show _ + (List.idxOf b (ledL ns l) + 1 + 0) = _
    have key : pairSum (fun p => (behL ns (l ++ [b]) p.1 p.2).2) L = pairSum (fun p => (behL ns l p.1 p.2).2 + incB b (fun z => decide ((ledL ns l).idxOf z < (ledL ns l).idxOf b)) p) L := by
      unfold pairSum
      congr 1
      refine List.map_congr_left fun p hp2 => ?_
      obtain ⟨m1, m2⟩ := pairs_mem hp2
      have ne : p.1 ≠ p.2 := fun e => by
        have := pairs_lt (hL.nodup_iff.mpr hn) hp2
        rw [e] at this
        omega
      obtain ⟨x, y⟩ := p
      have m1 := hL.mem_iff.mp m1
      have m2 := hL.mem_iff.mp m2
      have bf := beh_front hn m1 m2 ne l hs'
      have i1 := hp.mem_iff.mpr m1
      have i2 := hp.mem_iff.mpr m2
      rw [beh_snoc]
      unfold stepB incB
      have inj : (ledL ns l).idxOf x ≠ (ledL ns l).idxOf y := fun e => ne (by
        have a1 := List.getElem_idxOf (List.idxOf_lt_length_of_mem i1)
        have a2 := List.getElem_idxOf (List.idxOf_lt_length_of_mem i2)
        rw [← a1, ← a2]
        congr 1)
      show (if inP x y b = true then (b, (behL ns l x y).2 + if (b != (behL ns l x y).1) = true then 1 else 0) else behL ns l x y).2 = (behL ns l x y).2 + if x = b then _ else if y = b then _ else 0
      have ne : x ≠ y := ne
      by_cases bx : x = b
      · subst bx
        rw [if_pos (inP_iff.mpr (.inl rfl)), if_pos rfl, bf]
        by_cases h : (ledL ns l).idxOf x < (ledL ns l).idxOf y
        · rw [if_pos h]
          simp
          omega
        · rw [if_neg h]
          simp [ne]
          omega
      · by_cases by' : y = b
        · subst by'
          rw [if_pos (inP_iff.mpr (.inr rfl)), if_neg bx, if_pos rfl, bf]
          by_cases h : (ledL ns l).idxOf x < (ledL ns l).idxOf y
          · rw [if_pos h]
            simp [Ne.symm ne, h]
          · rw [if_neg h]
            simp [h]
        · rw [if_neg (fun h => (inP_iff.mp h).elim (Ne.symm bx) (Ne.symm by')), if_neg bx, if_neg by']
          rfl
    rw [key, pairSum_add, inc_some (by simp) (hL.nodup_iff.mpr hn) (hL.mem_iff.mpr hb)]
    have cp : (L.filter fun z => decide ((ledL ns l).idxOf z < (ledL ns l).idxOf b)).length = (ledL ns l).idxOf b := (((hL.trans hp.symm).filter _).length_eq).trans (ahead_count nc bc)
    rw [cp]
    omega
end FS
namespace FS
open PySem PySem.Spec PyProof.Rows L2 LamX
/-! x.extend([..]) -/
def extM (i : Nat) (r : Res) : M PV := match r with
  | .new ys => ownAt i >>= fun xs => M.need (xs.length + ys.length ≤ sizeLine) >>= fun _ => putOwn i (xs ++ ys) >>= fun _ => pure PyData.none
  | _ => M.fail
section
variable {fx : Fx} {e : Expr} {m : M Res} {x : Str} {i : Nat} {p apos pos : Pos}
theorem xExtend (n : NameOk fx i x) (c : MCall fx.X (.Name x p) "extend" apos pos [e]) (hs : isStar e = false) (he : ROk fx e m) : XOk fx (.Call (.Attribute (.Name x p) "extend" apos) [e] [] pos) (ownAt i >>= fun _ => m >>= extM i) := by
  obtain ⟨t, pe, se⟩ := he.ex
  refine ⟨_, pe_bm PySem.F.plainAttrs_list PySem.F.slot_list_extend PySem.F.type_list_extend mt_extend (pe_var n.at_ n.vis n.d1 n.d2) (pa_cons pe pa_nil (starEach_plain hs)) c.base c.few c.line (starEach_plain hs) rfl, fun F σ H env P E Q s hm hq hx => ?_⟩
  obtain ⟨xs, e0, hm⟩ := ownAt_run hm
  obtain ⟨a, vs, ev, ha, da, za⟩ := own_slot s e0
  refine ⟨.ref a, ev, .inl ⟨rfl, vs, SqL.of ha⟩, ?_⟩
  refine se F σ H env _ E _ s hm (fun r env1 F1 H1 v g sm1 le1 s1 dv => ?_) hx
  cases r <;> first | exact g.elim | skip
  rename_i zs
  obtain ⟨b, us, rfl, hb1, hb2, hb3, hb4, hb5, hb6, hb7⟩ := dv
  obtain ⟨ys, e1, hz, g⟩ := ownAt_run g
  obtain ⟨a', ws, ev', hb, db, zb⟩ := own_slot s1 e1
  rw [ev] at ev'
  cases ev'
  refine ⟨a, b, ws, us, rfl, rfl, hb, hb1, by rw [db.length, hb4.length]; exact hz, ?_⟩
  exact hq .none _ F1 _ .non g sm1.sm (s1.writeOwn e1 ev (db.app hb4) (by rw [List.length_append, db.length, hb4.length]; exact hz)) .non
end
theorem ownExtA {i : Nat} {ys : List PV} {s : En} {P : PV → En → Prop} {E : EP'} : extM i (.new ys) s P E = (ownAt i >>= fun xs => M.need (xs.length + ys.length ≤ sizeLine) >>= fun _ => putOwn i (xs ++ ys) >>= fun _ => pure PyData.none) s P E := rfl
end FS
namespace FS
open PySem PySem.Spec PyProof.Rows L2 LamX
theorem extA {n : Nat} {ys : List PV} {s : En} {P : PV → En → Prop} {E : EP'} : extM n (.new ys) s P E = ownAt n s (fun xs s' => xs.length + ys.length ≤ sizeLine ∧ P .none (s'.set n (some (.own (xs ++ ys))))) E := rfl
end FS
namespace FS
open PySem PySem.Spec PyProof.Rows L2 LamX
/-! plain laws: deeds, all shelves -/
def deedL (ns as : List Str) : List Str := (lastsL as).take (ns.length - 1)
theorem lasts_perm {ns as : List Str} (hn : ns.Nodup) (hs : ∀ b ∈ as, b ∈ ns) : (lastsL as ++ ns.filter fun z => !(lastsL as).contains z).Perm ns := by
  rw [← led_lasts]
  exact led_perm hn hs
theorem lasts_len {ns as : List Str} (hn : ns.Nodup) (hs : ∀ b ∈ as, b ∈ ns) : (lastsL as).length ≤ ns.length := by
  have := (lasts_perm hn hs).length_eq
  rw [List.length_append] at this
  omega
theorem take_last {α : Type} {A B : List α} {n : Nat} (hp : A.Perm B) (hA : A.length = n) (h : A.take (n - 1) = B.take (n - 1)) : A = B := by
  have hB : B.length = n := by rw [← hp.length_eq]; exact hA
  have eA := List.take_append_drop (n - 1) A
  have eB := List.take_append_drop (n - 1) B
  have lA : (A.drop (n - 1)).length ≤ 1 := by rw [List.length_drop]; omega
  have lB : (B.drop (n - 1)).length = (A.drop (n - 1)).length := by rw [List.length_drop, List.length_drop]; omega
  have hd : (A.drop (n - 1)).Perm (B.drop (n - 1)) := by
    rw [← eA, ← eB, h] at hp
    exact (List.perm_append_left_iff _).mp hp
  have : A.drop (n - 1) = B.drop (n - 1) := by
    generalize A.drop (n - 1) = X at lA lB hd
    generalize B.drop (n - 1) = Y at lB hd
    match X, Y, lA, lB, hd with
    | [], [], _, _, _ => rfl
    | [a], [b], _, _, hd => exact List.perm_singleton.mp hd
  rw [← eA, ← eB, h, this]
theorem alike_of_deed {ns one two : List Str} (hn : ns.Nodup) (h1 : ∀ b ∈ one, b ∈ ns) (h2 : ∀ b ∈ two, b ∈ ns) (hd : deedL ns one = deedL ns two) {own : List Str} (ho : own.Perm ns) : ledL own one = ledL own two := by
  have no := ho.nodup_iff.mpr hn
  have p1 := led_perm no fun b hb => ho.mem_iff.mpr (h1 b hb)
  have p2 := led_perm no fun b hb => ho.mem_iff.mpr (h2 b hb)
  have la := lasts_len hn h1
  have lb := lasts_len hn h2
  have lo := ho.length_eq
  unfold deedL at hd
  have ll := congrArg List.length hd
  rw [List.length_take, List.length_take] at ll
  by_cases c : (lastsL one).length < ns.length - 1
  · have : lastsL one = lastsL two := by
      rw [List.take_of_length_le (by omega), List.take_of_length_le (by omega)] at hd
      exact hd
    rw [led_lasts own one, led_lasts own two, this]
  · refine take_last (n := ns.length) (p1.trans p2.symm) (by rw [p1.length_eq]; exact lo) ?_
    rw [led_lasts own one, led_lasts own two, List.take_append_of_le_length (by omega), List.take_append_of_le_length (by omega)]
    exact hd
theorem deed_aux {ns one two : List Str} (hn : ns.Nodup) (h1 : ∀ b ∈ one, b ∈ ns) (h2 : ∀ b ∈ two, b ∈ ns) (hl : (lastsL one).length ≤ (lastsL two).length) (e1 : ledL ns one = ledL ns two) (e2 : ledL ns.reverse one = ledL ns.reverse two) : deedL ns one = deedL ns two := by
  have la := lasts_len hn h1
  have lb := lasts_len hn h2
  have lp := (lasts_perm hn h1).length_eq
  have np := (lasts_perm hn h1).nodup_iff.mpr hn
  rw [led_lasts, led_lasts ns two] at e1
  rw [led_lasts, led_lasts ns.reverse two, List.filter_reverse, List.filter_reverse] at e2
  unfold deedL
  generalize lastsL one = a at la lp np hl e1 e2 ⊢
  generalize lastsL two = b at lb hl e1 e2 ⊢
  generalize hc : ns.filter (fun z => !a.contains z) = c at lp np e1 e2
  rw [List.length_append] at lp
  have pre : a = b.take a.length := by
    have := congrArg (List.take a.length) e1
    rw [List.take_left, List.take_append_of_le_length hl] at this
    exact this
  by_cases q : a.length = b.length
  · rw [q, List.take_length] at pre
    rw [pre]
  · by_cases q2 : ns.length - 1 ≤ a.length
    · rw [pre, List.take_take, Nat.min_eq_left q2]
    · exfalso
      have g1 : (a ++ c)[a.length]? = (b ++ ns.filter fun z => !b.contains z)[a.length]? := by rw [e1]
      have g2 : (a ++ c.reverse)[a.length]? = (b ++ (ns.filter fun z => !b.contains z).reverse)[a.length]? := by rw [e2]
      rw [List.getElem?_append_right (Nat.le_refl _), Nat.sub_self, List.getElem?_append_left (by omega)] at g1 g2
      rw [← g1] at g2
      have nc := (List.nodup_append.mp np).2.1
      have l0 : 0 < c.length := by omega
      rw [List.getElem?_reverse l0] at g2
      have i0 := idx_get nc (List.getElem?_eq_getElem l0)
      have i1 := idx_get nc (g2.trans (List.getElem?_eq_getElem l0))
      omega
theorem alike_iff {ns one two : List Str} (hn : ns.Nodup) (h1 : ∀ b ∈ one, b ∈ ns) (h2 : ∀ b ∈ two, b ∈ ns) : (∀ own : List Str, own.Perm ns → ledL own one = ledL own two) ↔ deedL ns one = deedL ns two := by
  refine ⟨fun h => ?_, fun h own ho => alike_of_deed hn h1 h2 h ho⟩
  have e1 := h ns (List.Perm.refl _)
  have e2 := h ns.reverse (List.reverse_perm _)
  rcases Nat.le_total (lastsL one).length (lastsL two).length with c | c
  · exact deed_aux hn h1 h2 c e1 e2
  · exact (deed_aux hn h2 h1 c e1.symm e2.symm).symm
def stepS (bs : List Str) (found : List (List Str)) : List (List Str) := found.flatMap fun own => (bs.filter fun b => !own.contains b).map fun b => own ++ [b]
def shelvesN (bs : List Str) : Nat → List (List Str)
  | 0 => [[]]
  | k + 1 => stepS bs (shelvesN bs k)
theorem shelvesN_mem {bs : List Str} : ∀ (k : Nat) (own : List Str), own ∈ shelvesN bs k ↔ own.Nodup ∧ own.length = k ∧ ∀ z ∈ own, z ∈ bs
  | 0, own => by
    rw [show own ∈ shelvesN bs 0 ↔ own = [] from List.mem_singleton]
    constructor
    · rintro rfl
      exact ⟨List.nodup_nil, rfl, fun z hz => by cases hz⟩
    · rintro ⟨_, h, _⟩
      exact List.length_eq_zero_iff.mp h
  | k + 1, own => by
    show own ∈ (shelvesN bs k).flatMap _ ↔ _
    rw [List.mem_flatMap]
    constructor
    · rintro ⟨o, ho, h⟩
      obtain ⟨b, hb, rfl⟩ := List.mem_map.mp h
      obtain ⟨n1, n2, n3⟩ := (shelvesN_mem k o).mp ho
      obtain ⟨m1, m2⟩ := List.mem_filter.mp hb
      have nb : b ∉ o := fun z => by
        rw [List.contains_iff_mem.mpr z] at m2
        cases m2
      refine ⟨?_, by rw [List.length_append, n2]; rfl, fun z hz => ?_⟩
      · rw [List.nodup_append]
        refine ⟨n1, by simp, fun x hx y hy e => ?_⟩
        rw [List.mem_singleton] at hy
        exact nb (hy ▸ e ▸ hx)
      · rcases List.mem_append.mp hz with hz | hz
        · exact n3 z hz
        · rw [List.mem_singleton] at hz
          exact hz ▸ m1
    · rintro ⟨n1, n2, n3⟩
      obtain ⟨o, b, rfl⟩ : ∃ o b, own = o ++ [b] := ⟨own.dropLast, own.getLast (fun z => by rw [z] at n2; cases n2), (List.dropLast_concat_getLast _).symm⟩
      rw [List.nodup_append] at n1
      rw [List.length_append, List.length_singleton] at n2
      refine ⟨o, (shelvesN_mem k o).mpr ⟨n1.1, by omega, fun z hz => n3 z (List.mem_append_left _ hz)⟩, List.mem_map.mpr ⟨b, List.mem_filter.mpr ⟨n3 b (List.mem_append_right _ List.mem_cons_self), ?_⟩, rfl⟩⟩
      have : b ∉ o := fun z => n1.2.2 b z b List.mem_cons_self rfl
      cases q : o.contains b with
      | false => rfl
      | true => exact absurd (List.contains_iff_mem.mp q) this
theorem nodup_perm {bs : List Str} : ∀ {own : List Str}, own.Nodup → own.length = bs.length → (∀ z ∈ own, z ∈ bs) → own.Perm bs := fun {own} h1 h2 h3 => by
  induction own generalizing bs with
  | nil =>
    rw [List.length_eq_zero_iff.mp h2.symm]
  | cons a l ih =>
    obtain ⟨n1, n2⟩ := List.nodup_cons.mp h1
    have ha := h3 a List.mem_cons_self
    have pe := List.perm_cons_erase ha
    refine List.Perm.trans (List.Perm.cons a (ih n2 ?_ fun z hz => ?_)) pe.symm
    · rw [List.length_erase_of_mem ha, ← h2]; rfl
    · exact (List.mem_erase_of_ne fun (e : z = a) => n1 (e ▸ hz)).mpr (h3 z (List.mem_cons_of_mem _ hz))
theorem shelvesN_perm {ns bs : List Str} (hn : ns.Nodup) (hb : bs.Perm ns) (own : List Str) : own ∈ shelvesN bs ns.length ↔ own.Perm ns := by
  rw [shelvesN_mem]
  constructor
  · rintro ⟨h1, h2, h3⟩
    exact nodup_perm h1 h2 fun z hz => hb.mem_iff.mp (h3 z hz)
  · intro h
    exact ⟨h.nodup_iff.mpr hn, h.length_eq, fun z hz => hb.mem_iff.mpr (h.mem_iff.mp hz)⟩
theorem stepS_len {bs : List Str} {m : Nat} (hb : bs.length ≤ m) : ∀ found : List (List Str), (stepS bs found).length ≤ found.length * m
  | [] => Nat.le_of_eq (Nat.zero_mul m).symm
  | o :: f => by
    show (((bs.filter fun b => !o.contains b).map fun b => o ++ [b]) ++ stepS bs f).length ≤ _
    rw [List.length_append, List.length_map, List.length_cons, Nat.add_mul, Nat.one_mul]
    have := List.length_filter_le (fun b => !o.contains b) bs
    have := stepS_len hb f
    omega
theorem shelvesN_len {bs : List Str} {m : Nat} (hb : bs.length ≤ m) : ∀ k, (shelvesN bs k).length ≤ m ^ k
  | 0 => Nat.le_refl _
  | k + 1 => by
    rw [Nat.pow_succ]
    exact Nat.le_trans (stepS_len hb _) (Nat.mul_le_mul_right m (shelvesN_len hb k))
theorem lastsR_app (a b : List Str) : lastsR (a ++ b) = lastsR a ++ (lastsR b).filter fun z => !a.contains z := by
  have h1 := lasts_fold (a ++ b) []
  have e0 : ∀ l : List Str, l.foldl addNew [] = lastsR l := fun l => by
    rw [lasts_fold, List.nil_append]
    exact List.filter_eq_self.mpr fun _ _ => rfl
  rw [← e0 (a ++ b), List.foldl_append, e0 a, lasts_fold]
  congr 1
  refine List.filter_congr fun z _ => ?_
  congr 1
  rw [Bool.eq_iff_iff, List.contains_iff_mem, List.contains_iff_mem, lastsR_mem]
theorem lasts_again (x y : List Str) : lastsL (x ++ y ++ x) = lastsL (y ++ x) := by
  unfold lastsL
  rw [List.reverse_append, List.reverse_append, List.reverse_append, ← List.append_assoc, lastsR_app (x.reverse ++ y.reverse), lastsR_app x.reverse]
  have : ((lastsR x.reverse).filter fun z => !(x.reverse ++ y.reverse).contains z) = [] := List.filter_eq_nil_iff.mpr fun z hz => by
    have := (lastsR_mem _).mp hz
    rw [List.contains_iff_mem.mpr (List.mem_append_left _ this)]
    decide
  rw [this, List.append_nil]
theorem lasts_same (x : List Str) : lastsL (x ++ x) = lastsL x := by
  have := lasts_again x []
  rwa [List.append_nil, List.nil_append] at this
/-- the law's deed -/
theorem deed_law {ns as : List Str} (hn : ns.Nodup) (h1 : 1 ≤ ns.length) (hs : ∀ b ∈ as, b ∈ ns) : deedL ns as = if (lastsL as).length = ns.length then (lastsL as).dropLast else lastsL as := by
  have := lasts_len hn hs
  unfold deedL
  by_cases c : (lastsL as).length = ns.length
  · rw [if_pos c, List.dropLast_eq_take, c]
  · rw [if_neg c, List.take_of_length_le (by omega)]
theorem deed_sub {ns as : List Str} : ∀ z ∈ deedL ns as, z ∈ as := fun z hz => lasts_sub as z (List.mem_of_mem_take hz)
end FS
namespace FS
open PySem PySem.Spec PyProof.Rows L2 LamX
/-! equality of tuples of names; cuts -/
theorem eqvAll_strs : ∀ a b : List Str, PyData.eqvAll (a.map .str) (b.map .str) = decide (a = b)
  | [], [] => rfl
  | [], b :: l => rfl
  | a :: l, [] => rfl
  | a :: l, b :: m => by
    show ((a == b) && PyData.eqvAll (l.map .str) (m.map .str)) = _
    rw [eqvAll_strs l m]
    by_cases e : a = b
    · subst e
      rw [beq_self_eq_true, Bool.true_and]
      exact decide_eq_decide.mpr ⟨fun h => by rw [h], fun h => (List.cons.inj h).2⟩
    · rw [beq_eq_false_iff_ne.mpr e, Bool.false_and]
      exact (decide_eq_false fun h => e (List.cons.inj h).1).symm
theorem shallow_strs (a b : List Str) : shallow (.tuple (a.map .str)) (.tuple (b.map .str)) := by
  show min (PyData.depthAll _ + 1) _ ≤ 64
  rw [depthA_strs]
  exact Nat.le_trans (Nat.min_le_left ..) (by decide)
theorem eqTT {a b : List Str} {s : En} {P : Res → En → Prop} {E : EP'} : eqM (.tuple (a.map .str)) (.tuple (b.map .str)) s P E = P (.val (.bool (decide (a = b)))) s := by
  rw [show eqM (.tuple (a.map .str)) (.tuple (b.map .str)) s P E = (shallow (.tuple (a.map .str)) (.tuple (b.map .str)) ∧ P (.val (.bool (PyData.eqv (.tuple (a.map .str)) (.tuple (b.map .str))))) s) from rfl, show PyData.eqv (.tuple (a.map .str)) (.tuple (b.map .str)) = PyData.eqvAll (a.map .str) (b.map .str) from rfl, eqvAll_strs]
  exact propext ⟨fun h => h.2, fun h => ⟨shallow_strs a b, h⟩⟩
theorem neTT {a b : List Str} {s : En} {P : Res → En → Prop} {E : EP'} : neM (.tuple (a.map .str)) (.tuple (b.map .str)) s P E = P (.val (.bool (!decide (a = b)))) s := by
  rw [neA, show PyData.eqv (.tuple (a.map .str)) (.tuple (b.map .str)) = PyData.eqvAll (a.map .str) (b.map .str) from rfl, eqvAll_strs]
  exact propext ⟨fun h => h.2, fun h => ⟨shallow_strs a b, h⟩⟩
theorem cut_neg1 {α : Type} (xs : List α) : cutP xs none (some (-1)) = xs.dropLast := by
  unfold cutP
  have e0 : HT.sIx xs.length 0 none = 0 := rfl
  have e1 : HT.sIx xs.length xs.length (some (-1)) = xs.length - 1 := by
    unfold HT.sIx
    show (if (-1 : Int) < 0 then ((-1 : Int) + (xs.length : Nat)).toNat else _) = _
    rw [if_pos (by decide)]
    omega
  rw [e0, e1, List.drop_zero, List.dropLast_eq_take]
  rfl
end FS
namespace FS
open PySem PySem.Spec PyProof.Rows L2 LamX
/-! methods of texts: join, split -/
theorem strs_map {α : Type} (f : α → Str) : ∀ l : List α, strsP (l.map fun x => PyData.str (f x)) = some (l.map f)
  | [] => rfl
  | x :: l => by
    show (strsP (l.map fun x => PyData.str (f x))).map (f x :: ·) = _
    rw [strs_map f l]
    rfl
def strOnly (x : PV) : M Unit := fun s P _ => match x with
  | .str _ => P () s
  | _ => False
def joinM (a b : PV) : M Res := fun s P _ => match a, itemsP b with
  | .str z, some xs => match strsP xs with
    | some ys => (ys.map (·.length)).sum + ys.length * z.length ≤ 16777216 ∧ P (.val (.str (Txt.join z ys))) s
    | none => False
  | _, _ => False
def splitM (a b : PV) : M Res := fun s P _ => match a, b with
  | .str z, .str w => ((w.length == 0) = false ∧ z.length + 2 ≤ sizeLine) ∧ P (.new ((Txt.split z w).map .str)) s
  | _, _ => False
def wordsM (a : PV) : M Res := fun s P _ => match a with
  | .str z => z.length + 2 ≤ sizeLine ∧ P (.new ((Txt.words z).map .str)) s
  | _ => False
section
variable {fx : Fx} {a b : Expr} {ma mb : M PV} {apos pos : Pos}
theorem rJoin (c : MCall fx.X a "join" apos pos [b]) (hs : isStar b = false) (ha : POk fx a ma) (hb : POk fx b mb) : ROk fx (.Call (.Attribute a "join" apos) [b] [] pos) (ma >>= fun x => strOnly x >>= fun _ => mb >>= fun d => joinM x d) := by
  obtain ⟨ta, pa, sa⟩ := ha.ex
  obtain ⟨tb, pb, sb⟩ := hb.ex
  refine ⟨_, pe_join pa pb (starEach_plain hs) c.base c.line, fun F σ H env P E Q s hm hq hx => ?_⟩
  refine sa F σ H env _ E _ s hm (fun x env1 F1 H1 v q0 sm1 le1 s1 p1 => ?_) hx
  cases x <;> first | exact q0.elim | skip
  rename_i z
  have e := p1.str
  subst e
  refine ⟨⟨z, rfl⟩, ?_⟩
  refine sb F1 σ H1 env1 _ E _ s1 q0 (fun d env2 F2 H2 u q2 sm2 le2 s2 p2 => ?_) (hx.later sm1.sm)
  have fin : ∀ {l : Addr} {vs : List V} {xs : List PV} {ys : List Str}, u = .ref l → (SqL fx.X.K H2 l vs ∨ SqT fx.X.K H2 l vs) → DpAll fx.X.K F2 vs xs → strsP xs = some ys → (ys.map (·.length)).sum + ys.length * z.length ≤ 16777216 → P (.val (.str (Txt.join z ys))) env2 →
      ∃ a p, ∃ ys : List Str, V.str z = .str a ∧ [u] = [.ref p] ∧ (SqL fx.X.K H2 p (ys.map V.str) ∨ SqT fx.X.K H2 p (ys.map V.str)) ∧ (ys.map (·.length)).sum + ys.length * a.length ≤ 16777216 ∧ Q (.str (Txt.join a ys)) H2 := by
    intro l vs xs ys eu sq da e hz g
    subst eu
    rw [strs_v da e] at sq
    exact ⟨z, l, ys, rfl, rfl, sq, hz, hq _ env2 F2 H2 _ g (sm1.tr le1 sm2) (le1.trans le2) s2 (.str _)⟩
  cases d <;> first | exact q2.elim | skip
  · rename_i xs
    obtain ⟨l, vs, rfl, sq, da⟩ := p2.lst s2
    cases e : strsP xs with
    | none =>
      have q2 : (match strsP xs with
        | some ys => (ys.map (·.length)).sum + ys.length * z.length ≤ 16777216 ∧ P (.val (.str (Txt.join z ys))) env2
        | none => False) := q2
      rw [e] at q2
      exact q2.elim
    | some ys =>
      have q2 : (match strsP xs with
        | some ys => (ys.map (·.length)).sum + ys.length * z.length ≤ 16777216 ∧ P (.val (.str (Txt.join z ys))) env2
        | none => False) := q2
      rw [e] at q2
      exact fin rfl (.inl sq) da e q2.1 q2.2
  · rename_i xs
    obtain ⟨l, vs, rfl, sq, da⟩ := p2.tup s2
    cases e : strsP xs with
    | none =>
      have q2 : (match strsP xs with
        | some ys => (ys.map (·.length)).sum + ys.length * z.length ≤ 16777216 ∧ P (.val (.str (Txt.join z ys))) env2
        | none => False) := q2
      rw [e] at q2
      exact q2.elim
    | some ys =>
      have q2 : (match strsP xs with
        | some ys => (ys.map (·.length)).sum + ys.length * z.length ≤ 16777216 ∧ P (.val (.str (Txt.join z ys))) env2
        | none => False) := q2
      rw [e] at q2
      exact fin rfl (.inr sq) da e q2.1 q2.2
theorem rSplit (c : MCall fx.X a "split" apos pos [b]) (hs : isStar b = false) (ha : POk fx a ma) (hb : POk fx b mb) : ROk fx (.Call (.Attribute a "split" apos) [b] [] pos) (ma >>= fun x => strOnly x >>= fun _ => mb >>= fun d => splitM x d) := by
  obtain ⟨ta, pa, sa⟩ := ha.ex
  obtain ⟨tb, pb, sb⟩ := hb.ex
  refine ⟨_, pe_split pa pb (starEach_plain hs) c.base c.line, fun F σ H env P E Q s hm hq hx => ?_⟩
  refine sa F σ H env _ E _ s hm (fun x env1 F1 H1 v q0 sm1 le1 s1 p1 => ?_) hx
  cases x <;> first | exact q0.elim | skip
  rename_i z
  have e := p1.str
  subst e
  refine ⟨⟨z, rfl⟩, ?_⟩
  refine sb F1 σ H1 env1 _ E _ s1 q0 (fun d env2 F2 H2 u q2 sm2 le2 s2 p2 => ?_) (hx.later sm1.sm)
  cases d <;> first | exact q2.elim | skip
  rename_i w
  have e := p2.str
  subst e
  refine ⟨z, w, rfl, rfl, q2.1.1, q2.1.2, fun p np => ?_⟩
  obtain ⟨sm, s3, r3⟩ := s2.newLst np (dp_strs (Txt.split z w)) (by rw [List.length_map]; exact Nat.le_trans (PyProof.Rows.split_le z w) q2.1.2)
  exact hq _ env2 F2 _ _ q2.2 (sm1.tr le1 (sm2.tr le2 sm)) (le1.trans le2) s3 ((r3 H2 np).back (sm1.tr le1 sm2).mono)
theorem rWords (hb : attributeBase a "split" fx.X.env (eval a fx.X.env) = eval a fx.X.env) (hl : (apos.endLine == pos.line) = true) (ha : POk fx a ma) : ROk fx (.Call (.Attribute a "split" apos) [] [] pos) (ma >>= wordsM) := by
  obtain ⟨ta, pa, sa⟩ := ha.ex
  refine ⟨_, pe_words pa hb hl, fun F σ H env P E Q s hm hq hx => ?_⟩
  refine sa F σ H env _ E _ s hm (fun x env1 F1 H1 v q0 sm1 le1 s1 p1 => ?_) hx
  cases x <;> first | exact q0.elim | skip
  rename_i z
  have e := p1.str
  subst e
  refine ⟨⟨z, rfl⟩, z, rfl, rfl, q0.1, fun p np => ?_⟩
  obtain ⟨sm, s3, r3⟩ := s1.newLst np (dp_strs (Txt.words z)) (by rw [List.length_map]; exact Nat.le_trans (words_le z) (by have := q0.1; omega))
  exact hq _ env1 F1 _ _ q0.2 (sm1.tr le1 sm) le1 s3 ((r3 H1 np).back sm1.mono)
end
/-! list(range(..)) -/
theorem dp_rng {K : PySem.W.Frag} {F : Hp} (a b : Int) : DpAll K F (rgV a b) (rngP a (b - a).toNat) := by
  unfold rgV rngP
  generalize List.range (b - a).toNat = l
  induction l with
  | nil => exact .nil
  | cons k l ih => exact .cons (.int _) ih
def lrg1 (d : PV) : M Res := fun s P _ => match d with
  | .int n => RgOk 0 n ∧ P (.new (rngP 0 n.toNat)) s
  | _ => False
def lrg2 (d e : PV) : M Res := fun s P _ => match d, e with
  | .int i, .int j => RgOk i j ∧ P (.new (rngP i (j - i).toNat)) s
  | _, _ => False
section
variable {fx : Fx} {a b : Expr} {ma mb : M PV} {p pos p2 pos2 : Pos}
theorem rListRg1 (hc : fx.X.calm = true) (hg : Gl fx.X "list") (hm : fx.X.mg "list" = none) (hg2 : Gl fx.X "range") (hm2 : fx.X.mg "range" = none) (hs : isStar a = false) (ha : POk fx a ma) :
    ROk fx (.Call (.Name "list" p) [.Call (.Name "range" p2) [a] [] pos2] [] pos) (ma >>= lrg1) := by
  obtain ⟨ta, pa, sa⟩ := ha.ex
  refine ⟨_, pe_listRg hc hg hm (prg_1 hg2 hm2 pa (starEach_plain hs)), fun F σ H env P E Q s hm hq hx => ?_⟩
  refine sa F σ H env _ E _ s hm (fun x env1 F1 H1 v q0 sm1 le1 s1 p1 => ?_) hx
  cases x <;> first | exact q0.elim | skip
  rename_i n
  have e := p1.int
  subst e
  refine ⟨n, rfl, q0.1, fun q nq => ?_⟩
  have d := dp_rng (K := fx.X.K) (F := F1) 0 n
  obtain ⟨sm, s3, r3⟩ := s1.newLst nq d (by rw [rgV_length, sizeLine_eq]; have := q0.1.2.2.2.2; omega)
  rw [Int.sub_zero] at r3
  exact hq _ env1 F1 _ _ q0.2 (sm1.tr le1 sm) le1 s3 ((r3 H1 nq).back sm1.mono)
theorem rListRg2 (hc : fx.X.calm = true) (hg : Gl fx.X "list") (hm : fx.X.mg "list" = none) (hg2 : Gl fx.X "range") (hm2 : fx.X.mg "range" = none) (hs : isStar a = false) (hs2 : isStar b = false) (ha : POk fx a ma) (hb : POk fx b mb) :
    ROk fx (.Call (.Name "list" p) [.Call (.Name "range" p2) [a, b] [] pos2] [] pos) (ma >>= fun d => mb >>= fun e => lrg2 d e) := by
  obtain ⟨ta, pa, sa⟩ := ha.ex
  obtain ⟨tb, pb, sb⟩ := hb.ex
  refine ⟨_, pe_listRg hc hg hm (prg_2 hg2 hm2 pa pb (starEach_plain hs) (starEach_plain hs2) (by rw [starEach_plain hs2]; rfl)), fun F σ H env P E Q s hm hq hx => ?_⟩
  refine sa F σ H env _ E _ s hm (fun x env1 F1 H1 v q0 sm1 le1 s1 p1 => ?_) hx
  refine sb F1 σ H1 env1 _ E _ s1 q0 (fun y env2 F2 H2 u q0 sm2 le2 s2 p2 => ?_) (hx.later sm1.sm)
  cases x <;> first | exact q0.elim | skip
  cases y <;> first | exact q0.elim | skip
  have e := p1.int
  subst e
  have e := p2.int
  subst e
  refine ⟨_, _, rfl, rfl, q0.1, fun q nq => ?_⟩
  obtain ⟨sm, s3, r3⟩ := s2.newLst nq (dp_rng _ _) (by rw [rgV_length, sizeLine_eq]; have := q0.1.2.2.2.2; omega)
  exact hq _ env2 F2 _ _ q0.2 (sm1.tr le1 (sm2.tr le2 sm)) (le1.trans le2) s3 ((r3 H2 nq).back (sm1.tr le1 sm2).mono)
end
theorem strOnlyA {z : Str} {s : En} {P : Unit → En → Prop} {E : EP'} : strOnly (.str z) s P E = P () s := rfl
theorem joinLA {z : Str} {xs : List PV} {ys : List Str} (h : strsP xs = some ys) {s : En} {P : Res → En → Prop} {E : EP'} : joinM (.str z) (.list xs) s P E = ((ys.map fun y : Str => y.length).sum + ys.length * z.length ≤ 16777216 ∧ P (.val (.str (Txt.join z ys))) s) := by
  unfold joinM
  show (match strsP xs with
    | some ys => (ys.map fun y : Str => y.length).sum + ys.length * z.length ≤ 16777216 ∧ P (.val (.str (Txt.join z ys))) s
    | none => False) = _
  rw [h]
theorem joinTA {z : Str} {xs : List PV} {ys : List Str} (h : strsP xs = some ys) {s : En} {P : Res → En → Prop} {E : EP'} : joinM (.str z) (.tuple xs) s P E = ((ys.map fun y : Str => y.length).sum + ys.length * z.length ≤ 16777216 ∧ P (.val (.str (Txt.join z ys))) s) := by
  unfold joinM
  show (match strsP xs with
    | some ys => (ys.map fun y : Str => y.length).sum + ys.length * z.length ≤ 16777216 ∧ P (.val (.str (Txt.join z ys))) s
    | none => False) = _
  rw [h]
theorem splitA {z w : Str} {s : En} {P : Res → En → Prop} {E : EP'} : splitM (.str z) (.str w) s P E = (((w.length == 0) = false ∧ z.length + 2 ≤ sizeLine) ∧ P (.new ((Txt.split z w).map .str)) s) := rfl
theorem wordsA {z : Str} {s : En} {P : Res → En → Prop} {E : EP'} : wordsM (.str z) s P E = (z.length + 2 ≤ sizeLine ∧ P (.new ((Txt.words z).map .str)) s) := rfl
theorem lrg1A {n : Int} {s : En} {P : Res → En → Prop} {E : EP'} : lrg1 (.int n) s P E = (RgOk 0 n ∧ P (.new (rngP 0 n.toNat)) s) := rfl
theorem lrg2A {i j : Int} {s : En} {P : Res → En → Prop} {E : EP'} : lrg2 (.int i) (.int j) s P E = (RgOk i j ∧ P (.new (rngP i (j - i).toNat)) s) := rfl
end FS
namespace FS
open PySem PySem.Spec PyProof.Rows L2 LamX
theorem shallow_strsL (a b : List Str) : shallow (.list (a.map .str)) (.list (b.map .str)) := shallow_strs a b
theorem eqLL {a b : List Str} {s : En} {P : Res → En → Prop} {E : EP'} : eqM (.list (a.map .str)) (.list (b.map .str)) s P E = P (.val (.bool (decide (a = b)))) s := by
  have e : PyData.eqv (.list (a.map .str)) (.list (b.map .str)) = decide (a = b) := eqvAll_strs a b
  rw [eqA, e]
  exact propext ⟨fun h => h.2, fun h => ⟨shallow_strsL a b, h⟩⟩
theorem neLL {a b : List Str} {s : En} {P : Res → En → Prop} {E : EP'} : neM (.list (a.map .str)) (.list (b.map .str)) s P E = P (.val (.bool (!decide (a = b)))) s := by
  have e : PyData.eqv (.list (a.map .str)) (.list (b.map .str)) = decide (a = b) := eqvAll_strs a b
  rw [neA, e]
  exact propext ⟨fun h => h.2, fun h => ⟨shallow_strsL a b, h⟩⟩
theorem led_eq_iff {ns ms as : List Str} : ledL ns as = ledL ms as ↔ (ns.filter fun z => !as.contains z) = ms.filter fun z => !as.contains z := by
  have e : ∀ l : List Str, (l.filter fun z => !(lastsL as).contains z) = l.filter fun z => !as.contains z := fun l => by
    congr 1
    funext z
    congr 1
    rw [Bool.eq_iff_iff, List.contains_iff_mem, List.contains_iff_mem]
    exact lasts_mem
  rw [led_lasts, led_lasts, e, e]
  exact ⟨fun h => List.append_cancel_left h, fun h => by rw [h]⟩
end FS
namespace FS
open PySem PySem.Spec PyProof.Rows L2 LamX
/-! plain laws: two shelves -/
theorem fold_filter (x y : Str) : ∀ (as : List Str) (s : Str × Nat), as.foldl (stepB x y) s = (as.filter (inP x y)).foldl (stepB x y) s
  | [], _ => rfl
  | b :: as, s => by
    rw [List.foldl_cons]
    cases q : inP x y b with
    | true => rw [List.filter_cons_of_pos q, List.foldl_cons]; exact fold_filter x y as _
    | false =>
      rw [List.filter_cons_of_neg (by rw [q]; decide)]
      have : stepB x y s b = s := by unfold stepB; rw [q]; rfl
      rw [this]
      exact fold_filter x y as _
theorem fold_add (x y : Str) : ∀ (l : List Str) (fr : Str) (n : Nat), (l.foldl (stepB x y) (fr, n)).2 = (l.foldl (stepB x y) (fr, 0)).2 + n
  | [], _, n => (Nat.zero_add n).symm
  | b :: l, fr, n => by
    rw [List.foldl_cons, List.foldl_cons]
    cases q : inP x y b with
    | false =>
      have st : ∀ s, stepB x y s b = s := fun s => by unfold stepB; rw [q]; rfl
      rw [st, st]
      exact fold_add x y l fr n
    | true =>
      have st : ∀ m, stepB x y (fr, m) b = (b, m + if b != fr then 1 else 0) := fun m => by unfold stepB; rw [if_pos q]
      rw [st, st, fold_add x y l b (n + _), fold_add x y l b (0 + if b != fr then 1 else 0)]
      omega
def hdP (ns : List Str) (x y : Str) : Str := if ns.idxOf x < ns.idxOf y then x else y
def gapL (ns ms as : List Str) (p : Str × Str) : List Int := match as.filter (inP p.1 p.2) with
  | [] => []
  | b :: _ => if hdP ns p.1 p.2 = hdP ms p.1 p.2 then [] else [if hdP ns p.1 p.2 = b then -1 else 1]
theorem hd_two (ns : List Str) (x y : Str) : hdP ns x y = x ∨ hdP ns x y = y := by
  unfold hdP
  split
  · exact .inl rfl
  · exact .inr rfl
theorem gap_sum (ns ms as : List Str) (p : Str × Str) : (gapL ns ms as p).sum = ((behL ns as p.1 p.2).2 : Int) - ((behL ms as p.1 p.2).2 : Nat) := by
  obtain ⟨x, y⟩ := p
  show (gapL ns ms as (x, y)).sum = (((as.foldl (stepB x y) (hdP ns x y, 0)).2 : Nat) : Int) - ((as.foldl (stepB x y) (hdP ms x y, 0)).2 : Nat)
  rw [fold_filter x y as, fold_filter x y as]
  unfold gapL
  show (match as.filter (inP x y) with
    | [] => []
    | b :: _ => if hdP ns x y = hdP ms x y then [] else [if hdP ns x y = b then -1 else 1] : List Int).sum = _
  cases q : as.filter (inP x y) with
  | nil => rfl
  | cons b l =>
    have hb : inP x y b = true := (List.mem_filter.mp (q ▸ List.mem_cons_self : b ∈ as.filter (inP x y))).2
    rw [List.foldl_cons, List.foldl_cons]
    have st : ∀ h : Str, stepB x y (h, 0) b = (b, 0 + if b != h then 1 else 0) := fun h => by unfold stepB; rw [if_pos hb]
    rw [st, st, fold_add x y l b (0 + _), fold_add x y l b (0 + if b != hdP ms x y then 1 else 0)]
    show List.sum (if hdP ns x y = hdP ms x y then [] else [if hdP ns x y = b then (-1 : Int) else 1]) = _
    by_cases e : hdP ns x y = hdP ms x y
    · rw [if_pos e, e]
      simp
    · rw [if_neg e]
      have h1 := hd_two ns x y
      have h2 := hd_two ms x y
      by_cases c : hdP ns x y = b
      · have c2 : hdP ms x y ≠ b := fun z => e (c.trans z.symm)
        rw [if_pos c, show (b != hdP ns x y) = false from by rw [c]; simp, show (b != hdP ms x y) = true from bne_iff_ne.mpr (Ne.symm c2)]
        simp
        omega
      · have c2 : hdP ms x y = b := by
          rcases inP_iff.mp hb with rfl | rfl
          · rcases h1 with h1 | h1
            · exact absurd h1 c
            · rcases h2 with h2 | h2
              · exact h2
              · exact absurd (h1.trans h2.symm) e
          · rcases h1 with h1 | h1
            · rcases h2 with h2 | h2
              · exact absurd (h1.trans h2.symm) e
              · exact h2
            · exact absurd h1 c
        rw [if_neg c, show (b != hdP ns x y) = true from bne_iff_ne.mpr (Ne.symm c), show (b != hdP ms x y) = false from by rw [c2]; simp]
        simp
        omega
theorem gap_total {ns ms L as : List Str} (hn : ns.Nodup) (hp : ms.Perm ns) (hL : L.Perm ns) (hs : ∀ b ∈ as, b ∈ ns) : ((pairsL L).flatMap (gapL ns ms as)).sum = ((codeL ns as).sum : Int) - ((codeL ms as).sum : Nat) := by
  have c1 := cost_pairs hn hL as hs
  have c2 := cost_pairs (hp.nodup_iff.mpr hn) (hL.trans hp.symm) as fun b hb => hp.mem_iff.mpr (hs b hb)
  have key : ∀ l : List (Str × Str), (l.flatMap (gapL ns ms as)).sum = (((l.map fun p => (behL ns as p.1 p.2).2).sum : Nat) : Int) - ((l.map fun p => (behL ms as p.1 p.2).2).sum : Nat) := fun l => by
    induction l with
    | nil => rfl
    | cons p l ih =>
      rw [List.flatMap_cons, List.sum_append, ih, gap_sum, List.map_cons, List.map_cons, List.sum_cons, List.sum_cons]
      omega
  rw [key]
  unfold pairSum at c1 c2
  omega
theorem gap_len (ns ms as : List Str) (f : Str × Str → Bool) (hf : ∀ p, hdP ns p.1 p.2 ≠ hdP ms p.1 p.2 → f p = true) : ∀ l : List (Str × Str), (l.flatMap (gapL ns ms as)).length ≤ l.countP f
  | [] => Nat.le_refl _
  | p :: l => by
    rw [List.flatMap_cons, List.length_append]
    have ih := gap_len ns ms as f hf l
    have h1 : (gapL ns ms as p).length ≤ if f p then 1 else 0 := by
      unfold gapL
      split
      · exact Nat.zero_le _
      · by_cases e : hdP ns p.1 p.2 = hdP ms p.1 p.2
        · rw [if_pos e]; exact Nat.zero_le _
        · rw [if_neg e, if_pos (hf p e)]
          exact Nat.le_refl _
    rw [List.countP_cons]
    omega
theorem gap_one (ns ms as : List Str) (p : Str × Str) : (gapL ns ms as p).length ≤ 1 ∧ ∀ k ∈ gapL ns ms as p, k = 1 ∨ k = -1 := by
  unfold gapL
  split
  · exact ⟨Nat.zero_le _, fun k h => by cases h⟩
  · split
    · exact ⟨Nat.zero_le _, fun k h => by cases h⟩
    · refine ⟨Nat.le_refl _, fun k h => ?_⟩
      rw [List.mem_singleton] at h
      subst h
      split
      · exact .inr rfl
      · exact .inl rfl
theorem hd_apart {ns ms : List Str} {x y : Str} (h : hdP ns x y ≠ hdP ms x y) : (decide (ns.idxOf x < ns.idxOf y) != decide (ms.idxOf x < ms.idxOf y)) = true := by
  unfold hdP at h
  by_cases a : ns.idxOf x < ns.idxOf y
  · by_cases b : ms.idxOf x < ms.idxOf y
    · rw [if_pos a, if_pos b] at h
      exact absurd rfl h
    · rw [decide_eq_true a, decide_eq_false b]
      rfl
  · by_cases b : ms.idxOf x < ms.idxOf y
    · rw [decide_eq_false a, decide_eq_true b]
      rfl
    · rw [if_neg a, if_neg b] at h
      exact absurd rfl h
/-- the law's row of a pair -/
theorem gap_law {ns ms as : List Str} {x y : Str} (hx : x ∈ ns) (hy : y ∈ ns) (hxy : x ≠ y) : (as.filter (inP x y) = [] → gapL ns ms as (x, y) = []) ∧ ((decide (ns.idxOf x < ns.idxOf y) != decide (ms.idxOf x < ms.idxOf y)) = false → gapL ns ms as (x, y) = []) ∧ ∀ b t, as.filter (inP x y) = b :: t → (decide (ns.idxOf x < ns.idxOf y) != decide (ms.idxOf x < ms.idxOf y)) = true → gapL ns ms as (x, y) = [if ns.idxOf (if b = x then y else x) < ns.idxOf b then 1 else -1] := by
  have inj : ns.idxOf x ≠ ns.idxOf y := fun e => hxy (idx_inj hx hy e)
  refine ⟨fun h => ?_, fun h => ?_, fun b t h g => ?_⟩
  · unfold gapL
    show (match as.filter (inP x y) with
      | [] => []
      | b :: _ => if hdP ns x y = hdP ms x y then [] else [if hdP ns x y = b then -1 else 1] : List Int) = _
    rw [h]
  · unfold gapL
    have e : hdP ns x y = hdP ms x y := Classical.byContradiction fun z => by
      rw [hd_apart z] at h
      cases h
    show (match as.filter (inP x y) with
      | [] => []
      | b :: _ => if hdP ns x y = hdP ms x y then [] else [if hdP ns x y = b then -1 else 1] : List Int) = _
    split
    · rfl
    · rw [if_pos e]
  · have hb : inP x y b = true := (List.mem_filter.mp (h ▸ List.mem_cons_self : b ∈ as.filter (inP x y))).2
    unfold gapL
    show (match as.filter (inP x y) with
      | [] => []
      | b :: _ => if hdP ns x y = hdP ms x y then [] else [if hdP ns x y = b then -1 else 1] : List Int) = _
    rw [h]
    show (if hdP ns x y = hdP ms x y then [] else [if hdP ns x y = b then -1 else 1] : List Int) = _
    unfold hdP
    by_cases c : ns.idxOf x < ns.idxOf y
    · by_cases d : ms.idxOf x < ms.idxOf y
      · rw [decide_eq_true c, decide_eq_true d] at g
        cases g
      · rw [if_pos c, if_neg d, if_neg hxy]
        rcases inP_iff.mp hb with rfl | rfl
        · rw [if_pos rfl, if_pos rfl, if_neg (by omega)]
        · rw [if_neg hxy, if_neg (Ne.symm hxy), if_pos c]
    · by_cases d : ms.idxOf x < ms.idxOf y
      · rw [if_neg c, if_pos d, if_neg (Ne.symm hxy)]
        rcases inP_iff.mp hb with rfl | rfl
        · rw [if_neg (Ne.symm hxy), if_pos rfl, if_pos (by omega)]
        · rw [if_pos rfl, if_neg (Ne.symm hxy), if_neg (by omega)]
      · rw [decide_eq_false c, decide_eq_false d] at g
        cases g
end FS
namespace FS
open PySem PySem.Spec PyProof.Rows L2 LamX
/-! sorted lists of any data; pairs -/
theorem perm_mapI {α β : Type} {f : α → β} {ys zs : List β} (h : ys.Perm zs) : ∀ l : List α, zs = l.map f → ∃ m : List α, m.Perm l ∧ ys = m.map f := by
  induction h with
  | nil =>
    intro l e
    cases l with
    | nil => exact ⟨[], .nil, rfl⟩
    | cons a l => cases e
  | cons x h ih =>
    intro l e
    cases l with
    | nil => cases e
    | cons a l =>
      obtain ⟨rfl, e2⟩ := List.cons.inj e
      obtain ⟨m, p, rfl⟩ := ih l e2
      exact ⟨a :: m, p.cons a, rfl⟩
  | swap x y l0 =>
    intro l e
    cases l with
    | nil => cases e
    | cons a l =>
      cases l with
      | nil => cases e
      | cons b l =>
        obtain ⟨rfl, e2⟩ := List.cons.inj e
        obtain ⟨rfl, rfl⟩ := List.cons.inj e2
        exact ⟨b :: a :: l, .swap .., rfl⟩
  | trans h1 h2 ih1 ih2 =>
    intro l e
    obtain ⟨m, p, e2⟩ := ih2 l e
    obtain ⟨k, q, e3⟩ := ih1 m e2
    exact ⟨k, q.trans p, e3⟩
theorem perm_eqOn {α : Type} {r : α → α → Prop} : ∀ {l m : List α}, (∀ a ∈ l, ∀ b ∈ l, r a b → r b a → a = b) → l.Perm m → l.Pairwise r → m.Pairwise r → l = m
  | [], m, _, p, _, _ => (List.Perm.nil_eq p)
  | a :: l, [], _, p, _, _ => absurd p.length_eq (by simp)
  | a :: l, b :: m, anti, p, h, g => by
    have hb : b ∈ a :: l := p.mem_iff.mpr (List.mem_cons_self ..)
    have e : a = b := by
      rcases List.mem_cons.mp (p.mem_iff.mp (List.mem_cons_self (a := a) (l := l))) with z | z
      · exact z
      · rcases List.mem_cons.mp hb with z2 | z2
        · exact z2.symm
        · exact anti _ (List.mem_cons_self ..) _ hb ((List.pairwise_cons.mp h).1 _ z2) ((List.pairwise_cons.mp g).1 _ z)
    subst e
    rw [perm_eqOn (fun x hx y hy => anti x (List.mem_cons_of_mem _ hx) y (List.mem_cons_of_mem _ hy)) (List.Perm.cons_inv p) (List.pairwise_cons.mp h).2 (List.pairwise_cons.mp g).2]
theorem sortedP_perm (xs : List PV) : (sortedP xs).Perm xs := List.mergeSort_perm ..
theorem sortedP_pw (xs : List PV) : (sortedP xs).Pairwise fun a b => PySem.W.dataLe false id a b = true := by
  have t := PySem.W.sortLe_total (PyProof.Rows.listOrd PyProof.Rows.itemOrd) false fun b : PV => PySem.W.keyToks b
  exact List.pairwise_mergeSort (fun a b c h g => t.trans a b c h g) (fun a b => by
    rcases t.total a b with h | h
    · exact Bool.or_eq_true_iff.mpr (.inl h)
    · exact Bool.or_eq_true_iff.mpr (.inr h)) xs
theorem dataLe_anti {a b : PV} (h : PySem.W.dataLe false id a b = true) (g : PySem.W.dataLe false id b a = true) : PySem.W.keyToks a = PySem.W.keyToks b := by
  have h1 : (!(PyProof.Rows.listOrd PyProof.Rows.itemOrd).blt (PySem.W.keyToks b) (PySem.W.keyToks a)) = true := h
  have g1 : (!(PyProof.Rows.listOrd PyProof.Rows.itemOrd).blt (PySem.W.keyToks a) (PySem.W.keyToks b)) = true := g
  rw [Bool.not_eq_true'] at h1 g1
  exact (PyProof.Rows.listOrd PyProof.Rows.itemOrd).total _ _ g1 h1
theorem sortedP_eq {xs ys : List PV} (h : xs.Perm ys) (inj : ∀ a ∈ xs, ∀ b ∈ xs, PySem.W.keyToks a = PySem.W.keyToks b → a = b) : sortedP xs = sortedP ys :=
  perm_eqOn (r := fun a b => PySem.W.dataLe false id a b = true) (fun a ha b hb h1 h2 => inj a ((sortedP_perm xs).mem_iff.mp ha) b ((sortedP_perm xs).mem_iff.mp hb) (dataLe_anti h1 h2)) (((sortedP_perm xs).trans h).trans (sortedP_perm ys).symm) (sortedP_pw xs) (sortedP_pw ys)
def pairP (p : Str × Str) : PV := .tuple [.str p.1, .str p.2]
theorem pairs_toks {l : List (Str × Str)} : ∀ a ∈ l.map pairP, ∀ b ∈ l.map pairP, PySem.W.keyToks a = PySem.W.keyToks b → a = b := by
  intro a ha b hb e
  obtain ⟨p, _, rfl⟩ := List.mem_map.mp ha
  obtain ⟨q, _, rfl⟩ := List.mem_map.mp hb
  have st : ∀ {s t : Str}, s.cps.toList = t.cps.toList → s = t := fun {s t} h => by
    cases s
    cases t
    congr 1
    exact Array.toList_inj.mp h
  unfold pairP at e ⊢
  simp only [PySem.W.keyToks, PySem.W.keyToksAll, List.cons_append, List.nil_append, List.cons.injEq, Sum.inr.injEq, true_and, and_true] at e
  rw [st e.1, st e.2]
theorem sortOk_pairs {l : List (Str × Str)} (h : l.length ≤ sizeLine) : SortOk (l.map pairP) := by
  refine ⟨fun d hd d' hd' => ?_, .inl fun d hd => ?_, by rw [List.length_map]; exact h, fun d hd => ?_⟩
  · obtain ⟨x, _, rfl⟩ := List.mem_map.mp hd
    obtain ⟨y, _, rfl⟩ := List.mem_map.mp hd'
    simp [pairP, PySem.W.alike, PySem.W.alikeAll]
  · obtain ⟨x, _, rfl⟩ := List.mem_map.mp hd
    exact ⟨_, _, rfl⟩
  · obtain ⟨x, _, rfl⟩ := List.mem_map.mp hd
    show 0 + 1 ≤ 64
    decide
theorem sortedP_pairs (l : List (Str × Str)) : ∃ m : List (Str × Str), m.Perm l ∧ sortedP (l.map pairP) = m.map pairP := perm_mapI (sortedP_perm _) l rfl
/-! the same data are equal -/
theorem eqSelf {d : PV} (h : d.plain = true) (g : d.depth ≤ 64) {s : En} {P : Res → En → Prop} {E : EP'} (k : P (.val (.bool true)) s) : eqM d d s P E :=
  ⟨Nat.le_trans (Nat.min_le_left ..) g, by rw [PySem.SeqAt.eqv_refl_plain d h]; exact k⟩
theorem neSelf {d : PV} (h : d.plain = true) (g : d.depth ≤ 64) {s : En} {P : Res → En → Prop} {E : EP'} (k : P (.val (.bool false)) s) : neM d d s P E :=
  ⟨Nat.le_trans (Nat.min_le_left ..) g, by rw [PySem.SeqAt.eqv_refl_plain d h]; exact k⟩
theorem plain_all {xs : List PV} (h : ∀ x ∈ xs, x.plain = true) : PyData.plainAll xs = true := by
  induction xs with
  | nil => rfl
  | cons x xs ih => rw [PyData.plainAll, h x (List.mem_cons_self ..), ih fun y hy => h y (List.mem_cons_of_mem _ hy)]; rfl
theorem plain_tup {xs : List PV} (h : ∀ x ∈ xs, x.plain = true) : (PyData.tuple xs).plain = true := plain_all h
theorem plain_lst {xs : List PV} (h : ∀ x ∈ xs, x.plain = true) : (PyData.list xs).plain = true := plain_all h
theorem plain_str {z : Str} : (PyData.str z).plain = true := rfl
theorem plain_int {i : Int} : (PyData.int i).plain = true := rfl
theorem plain_strs (l : List Str) : (PyData.tuple (l.map .str)).plain = true := plain_tup fun x hx => by
  obtain ⟨z, _, rfl⟩ := List.mem_map.mp hx
  rfl
theorem plain_pairs (l : List (Str × Str)) : (PyData.tuple (l.map pairP)).plain = true := plain_tup fun x hx => by
  obtain ⟨z, _, rfl⟩ := List.mem_map.mp hx
  rfl
theorem cut_last1 {α : Type} (xs : List α) : cutP xs (some (-1)) none = xs.getLast?.toList := by
  have e1 : HT.sIx xs.length 0 (some (-1)) = xs.length - 1 := by
    unfold HT.sIx
    show (if (-1 : Int) < 0 then ((-1 : Int) + (xs.length : Nat)).toNat else _) = _
    rw [if_pos (by decide)]
    omega
  have e2 : HT.sIx xs.length xs.length none = xs.length := rfl
  unfold cutP
  rw [e1, e2]
  rcases List.eq_nil_or_concat xs with rfl | ⟨l, a, rfl⟩
  · rfl
  · rw [List.concat_eq_append]
    have e3 : (l ++ [a]).length - 1 = l.length := by simp
    rw [e3, List.drop_left' rfl, List.getLast?_append]
    exact List.take_of_length_le (by simp)
/-! which of two books was asked last -/
def lastO (as : List Str) (x y : Str) : Option Str := (as.filter (inP x y)).getLast?
theorem inP_symm (x y : Str) : inP x y = inP y x := by
  funext z
  rw [Bool.eq_iff_iff, inP_iff, inP_iff]
  exact Or.comm
theorem lastO_symm (as : List Str) (x y : Str) : lastO as x y = lastO as y x := by
  unfold lastO
  rw [inP_symm]
theorem lastO_app (a b : List Str) (x y : Str) : lastO (a ++ b) x y = (lastO b x y).or (lastO a x y) := by
  unfold lastO
  rw [List.filter_append, List.getLast?_append]
theorem lastO_nil (x y : Str) : lastO [] x y = none := rfl
theorem lastO_one (z x y : Str) : lastO [z] x y = if inP x y z then some z else none := by
  unfold lastO
  cases h : inP x y z
  · rw [List.filter_cons_of_neg (by rw [h]; decide)]
    rfl
  · rw [List.filter_cons_of_pos h]
    rfl
theorem lastO_in {as : List Str} {x y z : Str} (h : lastO as x y = some z) : z = x ∨ z = y := by
  have m := List.mem_of_getLast? h
  exact inP_iff.mp (List.mem_filter.mp m).2
theorem beh_last (ns as : List Str) (x y : Str) : (behL ns as x y).1 = (lastO as x y).getD (hdP ns x y) := by
  refine snoc_ind (P := fun as => (behL ns as x y).1 = (lastO as x y).getD (hdP ns x y)) rfl (fun l b ih => ?_) as
  rw [beh_snoc, lastO_app, lastO_one]
  unfold stepB
  cases h : inP x y b
  · simpa using ih
  · simp
theorem ahead_last {ns as : List Str} {x y : Str} (hn : ns.Nodup) (hx : x ∈ ns) (hy : y ∈ ns) (hxy : x ≠ y) (hs : ∀ b ∈ as, b ∈ ns) : (ledL ns as).idxOf x < (ledL ns as).idxOf y ↔ (lastO as x y).getD (hdP ns x y) = x := by
  rw [← beh_last, beh_front hn hx hy hxy as hs]
  by_cases h : (ledL ns as).idxOf x < (ledL ns as).idxOf y
  · rw [if_pos h]
    exact ⟨fun _ => rfl, fun _ => h⟩
  · rw [if_neg h]
    exact ⟨fun z => absurd z h, fun z => absurd z.symm hxy⟩
def sureB (one two : List Str) (x y : Str) : Bool := (lastO one x y).isNone || ((lastO two x y).isNone || decide (lastO one x y = lastO two x y))
theorem sure_symm (one two : List Str) (x y : Str) : sureB one two x y = sureB one two y x := by
  unfold sureB
  rw [lastO_symm one, lastO_symm two]
/-! all merges of two rows -/
def mstep (one two : List Str) (q : List Str × Nat × Nat) : List (List Str × Nat × Nat) :=
  (if q.2.1 < one.length then [(q.1 ++ [one.getD q.2.1 ""], q.2.1 + 1, q.2.2)] else []) ++ (if q.2.2 < two.length then [(q.1 ++ [two.getD q.2.2 ""], q.2.1, q.2.2 + 1)] else [])
def mergesN (one two : List Str) : Nat → List (List Str × Nat × Nat)
  | 0 => [([], 0, 0)]
  | k + 1 => (mergesN one two k).flatMap (mstep one two)
def LastM (o a b : Option Str) : Prop := (o = a ∨ o = b) ∧ (a = none → o = b) ∧ (b = none → o = a)
theorem take_snocD {l : List Str} {i : Nat} (h : i < l.length) : l.take (i + 1) = l.take i ++ [l.getD i ""] := by
  rw [List.take_add_one, List.getElem?_eq_getElem h]
  simp [List.getD, List.getElem?_eq_getElem h]
theorem mstep_mem {one two : List Str} {q q2 : List Str × Nat × Nat} : q2 ∈ mstep one two q ↔ (q.2.1 < one.length ∧ q2 = (q.1 ++ [one.getD q.2.1 ""], q.2.1 + 1, q.2.2)) ∨ (q.2.2 < two.length ∧ q2 = (q.1 ++ [two.getD q.2.2 ""], q.2.1, q.2.2 + 1)) := by
  unfold mstep
  rw [List.mem_append]
  by_cases h1 : q.2.1 < one.length <;> by_cases h2 : q.2.2 < two.length <;> simp [h1, h2]
theorem mstep_len (one two : List Str) (q : List Str × Nat × Nat) : (mstep one two q).length ≤ 2 := by
  unfold mstep
  by_cases h1 : q.2.1 < one.length <;> by_cases h2 : q.2.2 < two.length <;> simp [h1, h2]
theorem flat_len {α β : Type} {f : α → List β} {m : Nat} (h : ∀ a, (f a).length ≤ m) : ∀ l : List α, (l.flatMap f).length ≤ l.length * m
  | [] => by simp
  | a :: l => by
    rw [List.flatMap_cons, List.length_append, List.length_cons, Nat.add_mul]
    have := h a
    have := flat_len h l
    omega
theorem merges_len (one two : List Str) : ∀ k, (mergesN one two k).length ≤ 2 ^ k
  | 0 => Nat.le_refl _
  | k + 1 => by
    have h := flat_len (mstep_len one two) (mergesN one two k)
    have := merges_len one two k
    show ((mergesN one two k).flatMap _).length ≤ _
    rw [Nat.pow_succ]
    omega
structure MInv (one two : List Str) (k : Nat) (r : List Str) (i j : Nat) : Prop where
  sum : i + j = k
  li : i ≤ one.length
  lj : j ≤ two.length
  perm : r.Perm (one.take i ++ two.take j)
  last : ∀ x y, LastM (lastO r x y) (lastO (one.take i) x y) (lastO (two.take j) x y)
theorem merges_inv {one two : List Str} : ∀ {k : Nat} {q : List Str × Nat × Nat}, q ∈ mergesN one two k → MInv one two k q.1 q.2.1 q.2.2
  | 0, q, h => by
    have e : q = ([], 0, 0) := List.mem_singleton.mp h
    subst e
    exact ⟨rfl, Nat.zero_le _, Nat.zero_le _, by simp, fun x y => ⟨.inl rfl, fun _ => rfl, fun _ => rfl⟩⟩
  | k + 1, q, h => by
    obtain ⟨p, hp, hq⟩ := List.mem_flatMap.mp h
    have v := merges_inv hp
    rcases mstep_mem.mp hq with ⟨hl, rfl⟩ | ⟨hl, rfl⟩
    · refine ⟨by have := v.sum; show p.2.1 + 1 + p.2.2 = k + 1; omega, hl, v.lj, ?_, fun x y => ?_⟩
      · show (p.1 ++ _).Perm (one.take (p.2.1 + 1) ++ _)
        rw [take_snocD hl]
        have q := (v.perm.append_right [one.getD p.2.1 ""]).trans (by rw [List.append_assoc] : (one.take p.2.1 ++ two.take p.2.2 ++ [one.getD p.2.1 ""]).Perm (one.take p.2.1 ++ (two.take p.2.2 ++ [one.getD p.2.1 ""])))
        refine q.trans ?_
        rw [List.append_assoc]
        exact List.Perm.append_left _ (List.perm_append_comm)
      · show LastM (lastO (p.1 ++ _) x y) (lastO (one.take (p.2.1 + 1)) x y) _
        have w := v.last x y
        rw [take_snocD hl, lastO_app, lastO_app, lastO_one]
        cases inP x y (one.getD p.2.1 "")
        · simpa using w
        · exact ⟨.inl rfl, fun z => (nomatch z), fun _ => rfl⟩
    · refine ⟨by have := v.sum; show p.2.1 + (p.2.2 + 1) = k + 1; omega, v.li, hl, ?_, fun x y => ?_⟩
      · show (p.1 ++ _).Perm (_ ++ two.take (p.2.2 + 1))
        rw [take_snocD hl, ← List.append_assoc]
        exact v.perm.append_right _
      · show LastM (lastO (p.1 ++ _) x y) _ (lastO (two.take (p.2.2 + 1)) x y)
        have w := v.last x y
        rw [take_snocD hl, lastO_app, lastO_app, lastO_one]
        cases inP x y (two.getD p.2.2 "")
        · simpa using w
        · exact ⟨.inr rfl, fun _ => rfl, fun z => (nomatch z)⟩
theorem merges_fst {one two : List Str} : ∀ k, k ≤ one.length → (one.take k, k, 0) ∈ mergesN one two k
  | 0, _ => List.mem_singleton.mpr rfl
  | k + 1, h => List.mem_flatMap.mpr ⟨_, merges_fst k (by omega), mstep_mem.mpr (.inl ⟨h, by rw [take_snocD h]⟩)⟩
theorem merges_snd {one two : List Str} : ∀ k, k ≤ two.length → (two.take k, 0, k) ∈ mergesN one two k
  | 0, _ => List.mem_singleton.mpr rfl
  | k + 1, h => List.mem_flatMap.mpr ⟨_, merges_snd k (by omega), mstep_mem.mpr (.inr ⟨h, by rw [take_snocD h]⟩)⟩
theorem merges_ab {one two : List Str} : ∀ k, k ≤ two.length → (one ++ two.take k, one.length, k) ∈ mergesN one two (one.length + k)
  | 0, _ => by
    have h := merges_fst (one := one) (two := two) one.length (Nat.le_refl _)
    rw [List.take_length] at h
    simpa using h
  | k + 1, h => List.mem_flatMap.mpr ⟨_, merges_ab k (by omega), mstep_mem.mpr (.inr ⟨h, by rw [take_snocD h, List.append_assoc]⟩)⟩
theorem merges_ba {one two : List Str} : ∀ k, k ≤ one.length → (two ++ one.take k, k, two.length) ∈ mergesN one two (two.length + k)
  | 0, _ => by
    have h := merges_snd (one := one) (two := two) two.length (Nat.le_refl _)
    rw [List.take_length] at h
    simpa using h
  | k + 1, h => List.mem_flatMap.mpr ⟨_, merges_ba k (by omega), mstep_mem.mpr (.inl ⟨h, by rw [take_snocD h, List.append_assoc]⟩)⟩
/-- all merges -/
def mergesL (one two : List Str) : List (List Str) := (mergesN one two (one.length + two.length)).map (·.1)
theorem mergesL_len (one two : List Str) : (mergesL one two).length ≤ 2 ^ (one.length + two.length) := by
  unfold mergesL
  rw [List.length_map]
  exact merges_len ..
theorem mergesL_inv {one two r : List Str} (h : r ∈ mergesL one two) : r.Perm (one ++ two) ∧ ∀ x y, LastM (lastO r x y) (lastO one x y) (lastO two x y) := by
  obtain ⟨q, hq, rfl⟩ := List.mem_map.mp h
  have v := merges_inv hq
  have e1 : q.2.1 = one.length := by have := v.sum; have := v.li; have := v.lj; omega
  have e2 : q.2.2 = two.length := by have := v.sum; have := v.li; have := v.lj; omega
  have p := v.perm
  have l := v.last
  rw [e1, e2, List.take_length, List.take_length] at p l
  exact ⟨p, l⟩
theorem mergesL_ab (one two : List Str) : one ++ two ∈ mergesL one two := by
  have h := merges_ab (one := one) (two := two) two.length (Nat.le_refl _)
  rw [List.take_length] at h
  exact List.mem_map.mpr ⟨_, h, rfl⟩
theorem mergesL_ba (one two : List Str) : two ++ one ∈ mergesL one two := by
  have h := merges_ba (one := one) (two := two) one.length (Nat.le_refl _)
  rw [List.take_length, Nat.add_comm] at h
  exact List.mem_map.mpr ⟨_, h, rfl⟩
theorem sure_iff {ns one two : List Str} {x y : Str} (hn : ns.Nodup) (hx : x ∈ ns) (hy : y ∈ ns) (hxy : x ≠ y) (h1 : ∀ b ∈ one, b ∈ ns) (h2 : ∀ b ∈ two, b ∈ ns) :
    (∀ r ∈ mergesL one two, (ledL ns r).idxOf x < (ledL ns r).idxOf y) ↔ sureB one two x y = true ∧ (ledL ns (one ++ two)).idxOf x < (ledL ns (one ++ two)).idxOf y := by
  have hs : ∀ r ∈ mergesL one two, ∀ b ∈ r, b ∈ ns := fun r hr b hb => by
    rcases List.mem_append.mp ((mergesL_inv hr).1.mem_iff.mp hb) with h | h
    · exact h1 b h
    · exact h2 b h
  have ab := mergesL_ab one two
  have ba := mergesL_ba one two
  constructor
  · intro h
    refine ⟨?_, h _ ab⟩
    have a := (ahead_last hn hx hy hxy (hs _ ab)).mp (h _ ab)
    have b := (ahead_last hn hx hy hxy (hs _ ba)).mp (h _ ba)
    rw [lastO_app] at a b
    unfold sureB
    cases e1 : lastO one x y with
    | none => rfl
    | some u =>
      cases e2 : lastO two x y with
      | none => rfl
      | some v =>
        rw [e1, e2] at a b
        have a : v = x := a
        have b : u = x := b
        rw [a, b]
        simp
  · intro ⟨h, g⟩ r hr
    rw [ahead_last hn hx hy hxy (hs _ ab), lastO_app] at g
    rw [ahead_last hn hx hy hxy (hs _ hr)]
    have w := (mergesL_inv hr).2 x y
    unfold sureB at h
    cases e1 : lastO one x y with
    | none =>
      rw [e1] at g w
      rw [w.2.1 rfl]
      simpa using g
    | some u =>
      cases e2 : lastO two x y with
      | none =>
        rw [e1, e2] at g w
        rw [w.2.2 rfl]
        exact g
      | some v =>
        rw [e1, e2] at g h w
        simp at h
        subst h
        have g : u = x := g
        rcases w.1 with e | e <;> rw [e] <;> exact g
/-! lists of pairs -/
theorem pairs_all {α : Type} : ∀ {l : List α} {x y : α}, x ∈ l → y ∈ l → x ≠ y → (x, y) ∈ pairsL l ∨ (y, x) ∈ pairsL l
  | [], _, _, h, _, _ => nomatch h
  | a :: l, x, y, hx, hy, hxy => by
    rw [pairsL, List.mem_append, List.mem_append]
    rcases List.mem_cons.mp hx with hx2 | hx2
    · rcases List.mem_cons.mp hy with hy2 | hy2
      · exact absurd (hx2.trans hy2.symm) hxy
      · exact .inl (.inl (List.mem_map.mpr ⟨y, hy2, by rw [hx2]⟩))
    · rcases List.mem_cons.mp hy with hy2 | hy2
      · exact .inr (.inl (List.mem_map.mpr ⟨x, hx2, by rw [hy2]⟩))
      · rcases pairs_all hx2 hy2 hxy with h | h
        · exact .inl (.inr h)
        · exact .inr (.inr h)
theorem pairs_nodup {α : Type} : ∀ {l : List α}, l.Nodup → (pairsL l).Nodup
  | [], _ => List.nodup_nil
  | a :: l, h => by
    obtain ⟨h1, h2⟩ := List.nodup_cons.mp h
    rw [pairsL]
    refine List.nodup_append.mpr ⟨?_, pairs_nodup h2, fun p hp q hq e => ?_⟩
    · exact List.Pairwise.map _ (fun x y hne e => hne (Prod.mk.inj e).2) h2
    · obtain ⟨z, hz, rfl⟩ := List.mem_map.mp hp
      subst e
      exact h1 (pairs_mem hq).1
def grid (ns : List Str) (c : Str → Str → Bool) : List (Str × Str) := ns.flatMap fun x => (ns.filter (c x)).map fun y => (x, y)
theorem grid_mem {ns : List Str} {c : Str → Str → Bool} {x y : Str} : (x, y) ∈ grid ns c ↔ x ∈ ns ∧ y ∈ ns ∧ c x y = true := by
  unfold grid
  rw [List.mem_flatMap]
  constructor
  · rintro ⟨u, hu, h⟩
    obtain ⟨v, hv, e⟩ := List.mem_map.mp h
    obtain ⟨rfl, rfl⟩ := Prod.mk.inj e
    exact ⟨hu, (List.mem_filter.mp hv).1, (List.mem_filter.mp hv).2⟩
  · rintro ⟨hx, hy, h⟩
    exact ⟨x, hx, List.mem_map.mpr ⟨y, List.mem_filter.mpr ⟨hy, h⟩, rfl⟩⟩
theorem grid_nodup {ns : List Str} {c : Str → Str → Bool} (hn : ns.Nodup) : (grid ns c).Nodup := by
  unfold grid
  refine List.pairwise_flatMap.mpr ⟨fun x hx => ?_, ?_⟩
  · exact List.Pairwise.map _ (fun a b hne e => hne (Prod.mk.inj e).2) (hn.sublist (List.filter_sublist ..))
  · refine List.Pairwise.imp (fun {a b} hab p hp q hq e => ?_) hn
    obtain ⟨u, _, rfl⟩ := List.mem_map.mp hp
    obtain ⟨v, _, rfl⟩ := List.mem_map.mp hq
    exact hab (Prod.mk.inj e).1
theorem grid_len (ns : List Str) (c : Str → Str → Bool) : (grid ns c).length ≤ ns.length * ns.length :=
  flat_len (fun x => by rw [List.length_map]; exact List.length_filter_le ..) ns
def aheadP (L : List Str) (p : Str × Str) : Str × Str := if L.idxOf p.1 < L.idxOf p.2 then p else (p.2, p.1)
/-- which pairs are ahead of each other, taken from the pairs or from the grid -/
theorem ahead_perm {ns L bs : List Str} {c : Str → Str → Bool} (hn : ns.Nodup) (hb : bs.Perm ns) (hL : L.Perm ns) (hc : ∀ x y, c x y = c y x) :
    (((pairsL bs).filter fun p => c p.1 p.2).map (aheadP L)).Perm (grid ns fun x y => x != y && (c x y && decide (L.idxOf x < L.idxOf y))) := by
  have nb := hb.nodup_iff.mpr hn
  have ne : ∀ p ∈ pairsL bs, p.1 ≠ p.2 := fun p hp e => by
    have := pairs_lt nb hp
    rw [e] at this
    omega
  refine (List.perm_ext_iff_of_nodup ?_ (grid_nodup hn)).mpr fun q => ?_
  · refine List.Pairwise.map (R := fun p q => p ∈ pairsL bs ∧ q ∈ pairsL bs ∧ p ≠ q) _ (fun p q h e => ?_) ?_
    · obtain ⟨hp, hq, hne⟩ := h
      unfold aheadP at e
      have lp := pairs_lt nb hp
      have lq := pairs_lt nb hq
      by_cases c1 : L.idxOf p.1 < L.idxOf p.2 <;> by_cases c2 : L.idxOf q.1 < L.idxOf q.2
      · rw [if_pos c1, if_pos c2] at e
        exact hne e
      · rw [if_pos c1, if_neg c2] at e
        rw [e] at lp
        simp only at lp
        omega
      · rw [if_neg c1, if_pos c2] at e
        rw [← e] at lq
        simp only at lq
        omega
      · rw [if_neg c1, if_neg c2] at e
        obtain ⟨e1, e2⟩ := Prod.mk.inj e
        exact hne (Prod.ext e2 e1)
    · have nf : ((pairsL bs).filter fun p => c p.1 p.2).Nodup := (pairs_nodup nb).sublist (List.filter_sublist ..)
      refine List.Pairwise.imp_of_mem (fun {a b} ha hb h => ⟨(List.mem_filter.mp ha).1, (List.mem_filter.mp hb).1, h⟩) nf
  · obtain ⟨x, y⟩ := q
    rw [grid_mem, List.mem_map]
    constructor
    · rintro ⟨p, hp, e⟩
      obtain ⟨m, hcp⟩ := List.mem_filter.mp hp
      have m2 := pairs_mem m
      have m1 := ne p m
      unfold aheadP at e
      by_cases c1 : L.idxOf p.1 < L.idxOf p.2
      · rw [if_pos c1] at e
        subst e
        exact ⟨hb.mem_iff.mp m2.1, hb.mem_iff.mp m2.2, by simp [m1, hcp, c1]⟩
      · rw [if_neg c1] at e
        obtain ⟨rfl, rfl⟩ := Prod.mk.inj e
        have : L.idxOf p.1 ≠ L.idxOf p.2 := fun z => m1 (idx_inj (hL.mem_iff.mpr (hb.mem_iff.mp m2.1)) (hL.mem_iff.mpr (hb.mem_iff.mp m2.2)) z)
        refine ⟨hb.mem_iff.mp m2.2, hb.mem_iff.mp m2.1, ?_⟩
        rw [hc, hcp, decide_eq_true (show L.idxOf p.2 < L.idxOf p.1 by omega), bne_iff_ne.mpr (Ne.symm m1)]
        rfl
    · rintro ⟨hx, hy, h⟩
      rw [Bool.and_eq_true, Bool.and_eq_true, bne_iff_ne, decide_eq_true_eq] at h
      obtain ⟨hxy, h2, h3⟩ := h
      rcases pairs_all (hb.mem_iff.mpr hx) (hb.mem_iff.mpr hy) hxy with m | m
      · exact ⟨_, List.mem_filter.mpr ⟨m, h2⟩, if_pos h3⟩
      · refine ⟨_, List.mem_filter.mpr ⟨m, by rw [hc] at h2; exact h2⟩, ?_⟩
        unfold aheadP
        rw [if_neg (show ¬ L.idxOf y < L.idxOf x by omega)]
end FS
namespace FS
open PySem PySem.Spec PyProof.Rows L2 LamX
/-! x, y = a, b where a name is a cell -/
section
variable {fx : Fx} {i j k k2 : Nat} {x y : Str} {p p2 p3 p4 pos : Pos} {a b : Expr} {ma mb : M Res}
theorem par2_sim {ta tb : TE} {D : L2.St → Hp → Prop} (sa : SimR fx ta ma) (sb : SimR fx tb mb) {F : Hp} {σ : L2.St} {H : Hp} {env : En} {P : Out → En → Prop} {E : EP'} (so : SOk fx F σ H env)
    (hm : ((ma >>= toN) >>= fun r => (mb >>= toN) >>= fun q => set2M i j r q) env P E) (q1 : ∀ env' F' σ' H', P .nx env' → Same F F' → SOk fx F' σ' H' env' → D σ' H') (hx : ExOk fx F E) {Q : V → V → Hp → Prop}
    (hQ : ∀ v w H3, (∀ (p : Addr), H3 p = none → D ((σ.set i (some v)).set j (some w)) (upd H3 p (.tup [v, w]))) → Q v w H3) :
    ta σ H fun v H1 => tb σ H1 fun w H2 => Q v w H2 := by
  refine SimR.toN sa F σ H env _ E _ so hm (fun r env1 F1 H1 v g1 st1 le1 k1 ro1 => ?_) hx
  refine SimR.toN sb F1 σ H1 env1 _ E _ k1 g1 (fun q env2 F2 H2 w g2 st2 le2 k2 ro2 => ?_) (hx.later st1.sm)
  obtain ⟨sl1, sl2, er, eq, g3⟩ := set2_run g2
  obtain ⟨o1, f1⟩ := res_keep k1 ro1 er
  obtain ⟨o2, f2⟩ := res_keep k2 ro2 eq
  have o1 := o1.later st2 le2
  have ne12 : sl1.mine → sl2.mine → v ≠ w := fun h1 h2 z => by
    obtain ⟨a1, rfl, _, h4⟩ := f1 h1
    obtain ⟨a2, rfl, h5, _⟩ := f2 h2
    cases z
    exact h4 h5
  refine hQ v w H2 fun p np => ?_
  obtain ⟨k4, nF, n0, no⟩ := k2.alloc (o := .tup [v, w]) np
  have st4 : Stp F2 H2 σ env2 F2 (upd H2 p (.tup [v, w])) := ⟨Same.refl _, fun a h => by
    by_cases e : a = p
    · subst e
      rw [upd_same]; simp
    · rw [upd_ne e]; exact h, fun a o h g n w => by
    rw [upd_ne (ne_of_none h np)]
    exact ⟨h, g⟩⟩
  exact q1 _ F2 _ _ g3 (st1.sm.trans st2.sm) (par2_set k4 (o1.later st4 (EnLe.refl _)) (o2.later st4 (EnLe.refl _)) ne12)
theorem sParG (hc : fx.X.calm = true) (hN : fx.X.N.Nodup) (n1 : LocOk fx i x) (n2 : LocOk fx j y) (hw : swappedStores [.Tuple [.Name x p, .Name y p2] k p4] (.Tuple [a, b] k2 p3) fx.X.env = pure none) (hs : swapsWithSole [.Tuple [.Name x p, .Name y p2] k p4] (.Tuple [a, b] k2 p3) pos.line fx.X.env = pure false)
    (s1 : isStar a = false) (s2 : isStar b = false) (ha : ROk fx a ma) (hb : ROk fx b mb) :
    StOk fx (.Assign [.Tuple [.Name x p, .Name y p2] k p4] (.Tuple [a, b] k2 p3) pos) ((ma >>= toN) >>= fun r => (mb >>= toN) >>= fun q => set2M i j r q) := by
  obtain ⟨ta, pa, sa⟩ := ha.ex
  obtain ⟨tb, pb, sb⟩ := hb.ex
  refine ⟨_, ps_asg (pe_tup (pa_cons pa (pa_cons pb pa_nil (starEach_plain s2)) (starEach_plain s1))) (pg_tup (n := 2) hc (pgs_cons (pg_name hN n1.at_ n1.loc n1.fn) (pgs_cons (pg_name hN n2.at_ n2.loc n2.fn) pgs_nil))) hs hw, fun F σ H env P E D so hm q1 q2 q3 q4 hx => ?_⟩
  refine par2_sim (D := D.nx) sa sb so hm q1 hx fun v w H3 h => ⟨show 2 ≤ sizeLine by decide, fun p np => ?_⟩
  exact ⟨p, [v, w], rfl, .inl (.inl upd_same), rfl, v, _, rfl, w, _, rfl, rfl, h p np⟩
end
theorem cParG {Φ : Gr → Nat → Prop} {fx : Fx} {kk : Nat} {N : List Str} {sc : Scope} {a b : Expr} {ma mb : M Res} (i j : Nat) (x y : Str) {p p2 p3 p4 pos : Pos} {kt k2 : Nat} (ct : DCtx Φ fx kk N sc) (h : (lcD N sc i x && lcD N sc j y) = true)
    (hw : swappedStores [.Tuple [.Name x p, .Name y p2] kt p4] (.Tuple [a, b] k2 p3) (env0 sc) = pure none) (s1 : isStar a = false) (s2 : isStar b = false) (ha : ROk fx a ma) (hb : ROk fx b mb) :
    StOk fx (.Assign [.Tuple [.Name x p, .Name y p2] kt p4] (.Tuple [a, b] k2 p3) pos) ((ma >>= toN) >>= fun r => (mb >>= toN) >>= fun q => set2M i j r q) := by
  simp only [Bool.and_eq_true] at h
  obtain ⟨h1, h2⟩ := h
  exact sParG ct.calm ct.nd (ct.ld i x h1) (ct.ld j y h2) (by rw [swapped_scope ct.hs]; exact hw) rfl s1 s2 ha hb
end FS
namespace FS
open PySem PySem.Spec PyProof.Rows L2 LamX
theorem eqvAll_rows : ∀ a b : List (List Str), PyData.eqvAll (a.map fun r => .tuple (r.map .str)) (b.map fun r => .tuple (r.map .str)) = decide (a = b)
  | [], [] => rfl
  | [], _ :: _ => rfl
  | _ :: _, [] => rfl
  | x :: a, y :: b => by
    show (PyData.eqv (.tuple (x.map .str)) (.tuple (y.map .str)) && PyData.eqvAll (a.map fun r => .tuple (r.map .str)) (b.map fun r => .tuple (r.map .str))) = _
    have e : PyData.eqv (.tuple (x.map .str)) (.tuple (y.map .str)) = decide (x = y) := eqvAll_strs x y
    rw [e, eqvAll_rows a b]
    by_cases h : x = y <;> by_cases g : a = b <;> simp [h, g]
theorem depthAll_rows (a : List (List Str)) : PyData.depthAll (a.map fun r => .tuple (r.map .str)) ≤ 1 := by
  induction a with
  | nil => exact Nat.zero_le _
  | cons x a ih =>
    refine Nat.max_le.mpr ⟨?_, ih⟩
    show PyData.depthAll (x.map .str) + 1 ≤ 1
    rw [depthA_strs]
    exact Nat.le_refl _
theorem eqRows {a b : List (List Str)} {s : En} {P : Res → En → Prop} {E : EP'} : eqM (.list (a.map fun r => .tuple (r.map .str))) (.list (b.map fun r => .tuple (r.map .str))) s P E = P (.val (.bool (decide (a = b)))) s := by
  have e : PyData.eqv (.list (a.map fun r => .tuple (r.map .str))) (.list (b.map fun r => .tuple (r.map .str))) = decide (a = b) := eqvAll_rows a b
  rw [eqA, e]
  refine propext ⟨fun h => h.2, fun h => ⟨?_, h⟩⟩
  have := depthAll_rows a
  exact Nat.le_trans (Nat.min_le_left ..) (show PyData.depthAll _ + 1 ≤ 64 by omega)
theorem neRows {a b : List (List Str)} {s : En} {P : Res → En → Prop} {E : EP'} : neM (.list (a.map fun r => .tuple (r.map .str))) (.list (b.map fun r => .tuple (r.map .str))) s P E = P (.val (.bool (!decide (a = b)))) s := by
  have e : PyData.eqv (.list (a.map fun r => .tuple (r.map .str))) (.list (b.map fun r => .tuple (r.map .str))) = decide (a = b) := eqvAll_rows a b
  rw [neA, e]
  refine propext ⟨fun h => h.2, fun h => ⟨?_, h⟩⟩
  have := depthAll_rows a
  exact Nat.le_trans (Nat.min_le_left ..) (show PyData.depthAll _ + 1 ≤ 64 by omega)
theorem depthA_ints (l : List Nat) : PyData.depthAll (l.map fun (n : Nat) => PyData.int n) = 0 := by
  induction l with
  | nil => rfl
  | cons x l ih =>
    show max 0 (PyData.depthAll (l.map fun (n : Nat) => PyData.int n)) = 0
    rw [ih]
    rfl
theorem any_nat (l : List Nat) (k : Nat) : ((l.map fun (n : Nat) => PyData.int n).any fun y => PyData.eqv y (.int (k : Nat))) = l.contains k := by
  induction l with
  | nil => rfl
  | cons x l ih =>
    rw [List.map_cons, List.any_cons, ih, List.contains_cons]
    congr 1
    show ((x : Int) == (k : Int)) = (k == x)
    rw [Bool.eq_iff_iff, beq_iff_eq, beq_iff_eq]
    omega
theorem inTN {f : Bool → Bool} {l : List Nat} {k : Nat} {s : En} {P : Res → En → Prop} {E : EP'} (h : P (.val (.bool (f (l.contains k)))) s) : inM f (.int (k : Nat)) (.tuple (l.map fun (n : Nat) => PyData.int n)) s P E := by
  rw [inTA, any_nat]
  exact ⟨Nat.le_trans (Nat.min_le_left ..) (by rw [depthA_ints]; decide), h⟩
theorem inLN {f : Bool → Bool} {l : List Nat} {k : Nat} {s : En} {P : Res → En → Prop} {E : EP'} (h : P (.val (.bool (f (l.contains k)))) s) : inM f (.int (k : Nat)) (.list (l.map fun (n : Nat) => PyData.int n)) s P E := inTN (E := E) h
theorem ints_fine {l : List Nat} {b n : Nat} (h : ∀ k ∈ l, k < 1000000) (hl : l.length ≤ n) : Fine 1 n (.tuple (l.map fun (k : Nat) => PyData.int k)) :=
  fineT (k := 0) (m := 0) (fun v hv => by
    obtain ⟨k, hk, rfl⟩ := List.mem_map.mp hv
    have := h k hk
    exact fineI (by omega)) (by rw [List.length_map]; omega)
end FS
namespace FS
open PySem PySem.Spec PyProof.Rows L2 LamX
/-! name = [.. for .. for ..] -/
section
variable {fx : Fx} {elt tg iter tg1 iter1 : Expr} {ifs ifs1 : List Expr} {scope : Scope} {own : List (Str × Nat)} {pos : Pos} {mi mi1 : M (List PV)} {g g1 : Tg} {mt mt1 : M Bool} {me : M PV}
theorem stSetComp2 {vs1 : List Nat} {i : Nat} {y : Str} {py spos : Pos} (hsw : swapsWith (.ListComp elt [⟨tg, iter, ifs, 0⟩, ⟨tg1, iter1, ifs1, 0⟩] scope pos) (some (.Name y py)) spos.line fx.X.env = pure true) (hc : fx.X.calm = true) (hN : fx.X.N.Nodup) (hy : fx.X.N[i]? = some y) (hyl : fx.X.env.scope.names.lookup y = some .local)
    (ok : blkC fx.X.N fx.X.env.scope scope own = true) (hn : noSet iter = true) (hn1 : noSet iter1 = true) (hids : g.ids.all ((own.map (·.2)).contains ·) = true) (hids1 : g1.ids.all (vs1.contains ·) = true) (hv : vs1.all ((own.map (·.2)).contains ·) = true)
    (hi : IOk fx tg iter mi) (hg : GBk fx scope tg g) (ht : TsBk fx scope ifs mt) (hi1 : IBk fx scope tg1 iter1 mi1) (hg1 : GBk fx scope tg1 g1) (ht1 : TsBk fx scope ifs1 mt1) (he : EBk fx scope elt me) :
    StOk fx (.Assign [.Name y py] (.ListComp elt [⟨tg, iter, ifs, 0⟩, ⟨tg1, iter1, ifs1, 0⟩] scope pos) spos) ((mi >>= lc2M (own.map (·.2)) vs1 g mt mi1 g1 mt1 me) >>= setM i) := by
  obtain ⟨wi, pi, si⟩ := hi.ex
  obtain ⟨t1, p1, s1⟩ := hg.all
  obtain ⟨t2, p2, s2⟩ := ht.all
  obtain ⟨t3, p3, s3⟩ := he.all
  obtain ⟨wi1, pi1, si1⟩ := hi1.all
  obtain ⟨t4, p4, s4⟩ := hg1.all
  obtain ⟨t5, p5, s5⟩ := ht1.all
  refine ⟨_, ps_setLc2 hc hN hy hyl hsw pi (blkOk_by ok) (fun i z => by simpa using List.all_eq_true.mp hv i z) p1 p2 pi1 p4 p5 p3 (folded_no hn) (fun _ => folded_no hn1), fun F σ H env P E D so hm q1 q2 q3 q4 hx => ?_⟩
  refine lc2_sim hids hids1 si s1 s2 si1 s4 s5 s3 F σ H env _ E _ so hm (fun r env1 F1 H1 v g sm le s1 ro => ?_) hx
  exact set_res s1 ro g fun env2 F2 σ2 H2 g2 sm2 s2 => q1 env2 F2 σ2 H2 g2 (sm.sm.trans sm2) s2
end
section
variable {Φ : Gr → Nat → Prop} {fx : Fx} {k : Nat} {N : List Str} {sc : Scope}
theorem cSetComp2 {elt tg iter tg1 iter1 : Expr} {ifs ifs1 : List Expr} {scope : Scope} (own : List (Str × Nat)) (vs1 : List Nat) {pos : Pos} {mi mi1 : M (List PV)} {g g1 : Tg} {mt mt1 : M Bool} {me : M PV} (i : Nat) (y : Str) {py spos : Pos} (c : DCtx Φ fx k N sc) (hl : (py.line == pos.line) = true) (h : (decide (N[i]? = some y) && scB sc scope y) = true) (ok : blkC N sc scope own = true) (hn : noSet iter = true) (hn1 : noSet iter1 = true) (hids : g.ids.all ((own.map (·.2)).contains ·) = true) (hids1 : g1.ids.all (vs1.contains ·) = true) (hv : vs1.all ((own.map (·.2)).contains ·) = true)
    (hi : IOk fx tg iter mi) (hg : GBk fx scope tg g) (ht : TsBk fx scope ifs mt) (hi1 : IBk fx scope tg1 iter1 mi1) (hg1 : GBk fx scope tg1 g1) (ht1 : TsBk fx scope ifs1 mt1) (he : EBk fx scope elt me) :
    StOk fx (.Assign [.Name y py] (.ListComp elt [⟨tg, iter, ifs, 0⟩, ⟨tg1, iter1, ifs1, 0⟩] scope pos) spos) ((mi >>= lc2M (own.map (·.2)) vs1 g mt mi1 g1 mt1 me) >>= setM i) := by
  simp only [Bool.and_eq_true, decide_eq_true_eq] at h
  obtain ⟨h1, h2⟩ := h
  unfold scB at h2
  simp only [Bool.and_eq_true, Bool.not_eq_true'] at h2
  obtain ⟨h2, h3⟩ := h2
  have hy : sc.names.lookup y = some .local := by
    unfold locB at h2
    split at h2
    · assumption
    · cases h2
  exact stSetComp2 (sw_true (by rw [c.hs]; exact c.hk) (by rw [c.hs]; exact hy) hl h3) c.calm c.nd (by rw [c.hN]; exact h1) (by rw [c.hs]; exact hy) (by rw [c.hN, c.hs]; exact ok) hn hn1 hids hids1 hv hi hg ht hi1 hg1 ht1 he
end
/-! xs[i] = d -/
def putIx (i : Nat) (m : M PV) (d : PV) : M Unit := ownAt i >>= fun _ => m >>= fun j => ownAt i >>= fun ys => match j with
  | .int k => optM (ixN ys.length k) >>= fun n => putOwn i (ys.set n d)
  | _ => M.fail
theorem DpAll.setAt {K : PySem.W.Frag} {F : Hp} {v : V} {d : PV} (hd : Dp K F v d) : ∀ {vs : List V} {ds : List PV} (n : Nat), DpAll K F vs ds → DpAll K F (vs.set n v) (ds.set n d)
  | _, [], n, h => by cases h; exact .nil
  | _, e :: ds, 0, h => by
    cases h with
    | cons h1 h2 => exact .cons hd h2
  | _, e :: ds, n + 1, h => by
    cases h with
    | cons h1 h2 => exact .cons h1 (DpAll.setAt hd n h2)
section
variable {fx : Fx} {i : Nat} {x : Str} {p pos : Pos} {e : Expr} {m : M PV}
theorem tgItem (n : NameOk fx i x) (ha0 : ∀ v, assign (.Subscript (.Name x p) e pos) fx.X.env v = (do
      let ov ← holding [v] (eval (.Name x p) fx.X.env)
      let iv ← holding [v, ov] (eval e fx.X.env)
      standAt pos
      holding [v, ov, iv] (setItem ov iv v)
      release [v, ov, iv] [])) (he : POk fx e m) : TgOk fx (.Subscript (.Name x p) e pos) (putIx i m) := by
  obtain ⟨t, pe, se⟩ := he.ex
  refine ⟨_, pg_sub (pe_var n.at_ n.vis n.d1 n.d2) pe set_list ha0, fun F σ H env P E d v Q s dv hm hq hx => ?_⟩
  obtain ⟨xs, e0, hm⟩ := ownAt_run hm
  obtain ⟨a, vs, ev, ha, da, za⟩ := own_slot s e0
  refine ⟨.ref a, ev, ?_⟩
  refine se F σ H env _ E _ s hm (fun j env1 F1 H1 u g sm1 le1 s1 p1 => ?_) hx
  obtain ⟨ys, e1, g1⟩ := ownAt_run g
  obtain ⟨k, rfl⟩ : ∃ k, j = .int k := by cases j <;> first | exact ⟨_, rfl⟩ | exact g1.elim
  obtain ⟨n2, en, g2⟩ := optM_run g1
  obtain ⟨a', ws, ev', hb, db, zb⟩ := own_slot s1 e1
  rw [ev] at ev'
  cases ev'
  have eu := p1.int
  subst eu
  refine ⟨a, ws, k, n2, rfl, rfl, hb, by rw [db.length]; exact en, ?_⟩
  exact hq _ F1 σ _ g2 sm1.sm (s1.writeOwn e1 ev (DpAll.setAt (dp_same sm1.sm d dv) n2 db) (by rw [List.length_set]; exact zb))
end
theorem putIxA {i : Nat} {m : M PV} {d : PV} {s : En} {P : Unit → En → Prop} {E : EP'} : putIx i m d s P E = ownAt i s (fun _ s1 => m s1 (fun j s2 => ownAt i s2 (fun ys s3 => (match j with
  | .int k => optM (ixN ys.length k) >>= fun n => putOwn i (ys.set n d)
  | _ => (M.fail : M Unit)) s3 P E) E) E) E := rfl
theorem ixN_nat {n k : Nat} (h : k < n) : L2.ixN n (k : Nat) = some k := by
  unfold L2.ixN
  rw [if_pos (by omega), if_pos (by omega)]
  rfl
/-! (a, ..) * k -/
def rRepTF (K : PySem.W.Frag) : R2 := fun x y H Q => ∃ l k xs, x = .ref l ∧ y = .int k ∧ SqT K H l xs ∧ xs ≠ [] ∧ 2 ≤ k ∧ k ≤ 1000 ∧ xs.length ≤ 1000 ∧ ∀ p o, H p = none → TupHO (List.replicate k.toNat xs).flatten o → Q (.ref p) (upd H p o)
theorem op_repTF {X : Cx} : OpR X (binaryOp .Mult) (rRepTF X.K) := by
  intro pins s σ H x y v u Q I rx ry h
  obtain ⟨l, k, xs, rfl, rfl, hT, hne, h1, h2, hz, q⟩ := h
  cases rx
  obtain ⟨t, rfl⟩ := ry
  obtain ⟨its, r, ⟨⟨cls, dd, data, sl⟩, ho, hc, n, hd⟩, hs⟩ := I.tuple hT
  simp only at hc hd
  subst hc hd
  have hle : its.length = xs.length := r.length.symm
  have hn : its ≠ [] := fun e => hne (by
    rw [e] at hle
    exact List.eq_nil_of_length_eq_zero hle.symm)
  have hi : its.toArray.isEmpty = false := by
    cases its with
    | nil => exact absurd rfl hn
    | cons a b => rfl
  have hsz0 : its.toArray.size = xs.length := by rw [List.size_toArray, hle]
  have hm : ((its.toArray.size : Nat) : Int) * k ≤ 1000000 := by
    rw [hsz0]
    have a1 : ((xs.length : Nat) : Int) * k ≤ 1000 * k := Int.mul_le_mul_of_nonneg_right (by omega) (by omega)
    omega
  have flen : (List.replicate k.toNat its).flatten.length ≤ sizeLine := by
    rw [PyProof.Rows.lm_len_rep_flat, hle, sizeLine_eq]
    have a1 : k.toNat * xs.length ≤ 1000 * 1000 := Nat.mul_le_mul (by omega) hz
    omega
  have c0 : (decide (k < -(2 ^ 63)) || decide (k ≥ 2 ^ 63)) = false := by
    rw [decide_eq_false (by omega), decide_eq_false (by omega)] <;> rfl
  have c1 : (its.toArray.isEmpty || k == 1) = false := by
    rw [hi, Bool.false_or]
    exact beq_eq_false_iff_ne.mpr (by omega)
  have c2 : (decide (k ≤ 0) || its.toArray.isEmpty) = false := by
    rw [hi, Bool.or_false]
    exact decide_eq_false (by omega)
  have c4 : Builtin.Tuple.tupleTooMany (((its.toArray.size : Nat) : Int) * k) = false := by
    unfold Builtin.Tuple.tupleTooMany
    rw [sizeLine_eq]
    exact decide_eq_false (by omega)
  refine wpAny_binaryOp_repeat_ref (T := "tuple") (U := "int") (by decide) ⟨_, ho, rfl⟩ (fun s' => typeIs_int s' k t) noFill_tuple_mul F.fills_int_mul F.slot_int_rmul repeat_tuple F.slot_int_index.lookup
    (call_meets F.slot_int_rmul (typeIs_int s k t) F.entry_int_rmul (F.args_int_rmul_2 _ _) (int_rmul_tuple k t l its.toArray n dd sl)
      ⟨ho, rfl, ⟨_, ho, rfl⟩, call_meets F.slot_tuple_mul ⟨_, ho, rfl⟩ F.entry_tuple_mul (F.args_tuple_mul_2 _ _) (tuple_mulW l its.toArray n dd sl k t c0 c1 c2 (by omega) c4 (by rw [size_rep, List.size_toArray]; exact flen)) ⟨ho, ?_⟩⟩)
  rw [size_rep]
  exact tup_push I (r.rep k.toNat) (by rw [PyProof.Rows.lm_len_rep_flat, sizeLine_eq]; have a1 : k.toNat * xs.length ≤ 1000 * 1000 := Nat.mul_le_mul (by omega) hz; omega) q
def mulT (a b : PV) : M Res := fun s P _ => match a, b with
  | .tuple xs, .int k => (xs ≠ [] ∧ 2 ≤ k ∧ k ≤ 1000 ∧ xs.length ≤ 1000) ∧ P (.val (.tuple (List.replicate k.toNat xs).flatten)) s
  | _, _ => False
theorem opS_mulT {fx : Fx} : OpS fx (binaryOp .Mult) mulT := by
  refine ⟨_, op_repTF, fun F σ H env P E Q a b x y s pa pb hm hq hx => ?_⟩
  cases a <;> first | exact hm.elim | skip
  cases b <;> first | exact hm.elim | skip
  rename_i xs k
  obtain ⟨⟨h1, h2, h3, h4⟩, hm⟩ := hm
  obtain ⟨l, vs, rfl, sq, da⟩ := pa.tup s
  refine ⟨l, k, vs, rfl, pb.int, sq, fun z => h1 (by rw [z] at da; cases da; rfl), h2, h3, by rw [da.length]; exact h4, fun p o np ho => ?_⟩
  obtain ⟨F2, sm, s1, r1⟩ := s.newTup np ho (FS.DpAll.rep da k.toNat)
  exact hq _ env F2 _ _ hm sm (EnLe.refl _) s1 r1
theorem mulTA {xs : List PV} {k : Int} {s : En} {P : Res → En → Prop} {E : EP'} : mulT (.tuple xs) (.int k) s P E = ((xs ≠ [] ∧ 2 ≤ k ∧ k ≤ 1000 ∧ xs.length ≤ 1000) ∧ P (.val (.tuple (List.replicate k.toNat xs).flatten)) s) := rfl
/-! max, min of a list of ints -/
def maxLM (d : PV) : M Res := fun s P _ => match d with
  | .list xs => match intsP xs with
    | some ns => 0 < ns.length ∧ ∀ m, m ∈ ns → (∀ y, y ∈ ns → y ≤ m) → P (.val (.int m)) s
    | none => False
  | _ => False
def minLM (d : PV) : M Res := fun s P _ => match d with
  | .list xs => match intsP xs with
    | some ns => 0 < ns.length ∧ ∀ m, m ∈ ns → (∀ y, y ∈ ns → m ≤ y) → P (.val (.int m)) s
    | none => False
  | _ => False
theorem ints_all (ns : List Int) : intsP (ns.map .int) = some ns := by
  induction ns with
  | nil => rfl
  | cons n ns ih =>
    show (intsP (ns.map .int)).map (n :: ·) = _
    rw [ih]
    rfl
theorem maxLA {ns : List Int} {s : En} {P : Res → En → Prop} {E : EP'} : maxLM (.list (ns.map .int)) s P E = (0 < ns.length ∧ ∀ m, m ∈ ns → (∀ y, y ∈ ns → y ≤ m) → P (.val (.int m)) s) := by
  unfold maxLM
  simp only [ints_all]
theorem minLA {ns : List Int} {s : En} {P : Res → En → Prop} {E : EP'} : minLM (.list (ns.map .int)) s P E = (0 < ns.length ∧ ∀ m, m ∈ ns → (∀ y, y ∈ ns → m ≤ y) → P (.val (.int m)) s) := by
  unfold minLM
  simp only [ints_all]
theorem cMaxL {fx : Fx} (hc : fx.X.calm = true) : Cal1 fx (.builtin "max") maxLM := by
  refine ⟨_, cr_max hc, fun F σ H env P E Q d v s pv hm hq => ?_⟩
  cases d <;> first | exact hm.elim | skip
  rename_i xs
  obtain ⟨l, vs, rfl, sq, da⟩ := pv.lst s
  have hm : (match intsP xs with
    | some ns => 0 < ns.length ∧ ∀ m, m ∈ ns → (∀ y, y ∈ ns → y ≤ m) → P (.val (.int m)) env
    | none => False) := hm
  cases e : intsP xs with
  | none => rw [e] at hm; exact hm.elim
  | some ns =>
    rw [e] at hm
    rw [ints_v da e] at sq
    exact ⟨l, ns, rfl, sq, hm.1, fun m h1 h2 => hq _ env F H _ (hm.2 m h1 h2) Stp.refl (EnLe.refl _) s (.int _)⟩
theorem cMinL {fx : Fx} (hc : fx.X.calm = true) : Cal1 fx (.builtin "min") minLM := by
  refine ⟨_, cr_min hc, fun F σ H env P E Q d v s pv hm hq => ?_⟩
  cases d <;> first | exact hm.elim | skip
  rename_i xs
  obtain ⟨l, vs, rfl, sq, da⟩ := pv.lst s
  have hm : (match intsP xs with
    | some ns => 0 < ns.length ∧ ∀ m, m ∈ ns → (∀ y, y ∈ ns → m ≤ y) → P (.val (.int m)) env
    | none => False) := hm
  cases e : intsP xs with
  | none => rw [e] at hm; exact hm.elim
  | some ns =>
    rw [e] at hm
    rw [ints_v da e] at sq
    exact ⟨l, ns, rfl, sq, hm.1, fun m h1 h2 => hq _ env F H _ (hm.2 m h1 h2) Stp.refl (EnLe.refl _) s (.int _)⟩
/-! math.gcd, math.factorial -/
def gcdM (a b : PV) : M Res := fun s P _ => match a, b with
  | .int i, .int j => P (.val (.int ((Nat.gcd i.natAbs j.natAbs : Nat) : Int))) s
  | _, _ => False
theorem cGcd {fx : Fx} : Cal2 fx (.builtin "math.gcd") gcdM := by
  refine ⟨_, cr_gcd, fun F σ H env P E Q d e v u s pv pu hm hq => ?_⟩
  cases d <;> cases e <;> first | exact hm.elim | skip
  rw [pv.int, pu.int]
  exact ⟨_, _, rfl, hq _ env F H _ hm Stp.refl (EnLe.refl _) s (.int _)⟩
theorem gcdA {i j : Int} {s : En} {P : Res → En → Prop} {E : EP'} : gcdM (.int i) (.int j) s P E = P (.val (.int ((Nat.gcd i.natAbs j.natAbs : Nat) : Int))) s := rfl
section
variable {fx : Fx} {a b : Expr} {ma mb : M PV} {x : Str} {p pos : Pos} {id : String} {o1 : PV → M Res} {o2 : PV → PV → M Res}
theorem rFun2 (hc : Cal2 fx (.builtin id) o2) (hg : Gl fx.X x) (hm : fx.X.mg x = some (.builtin id)) (hdb : (x == ("__debug__" : Str)) = false) (hs : isStar a = false) (hs2 : isStar b = false) (ha : POk fx a ma) (hb : POk fx b mb) : ROk fx (.Call (.Name x p) [a, b] [] pos) (ma >>= fun d => mb >>= fun e => o2 d e) := by
  obtain ⟨r, c, h⟩ := hc.ex
  obtain ⟨ta, pa, sa⟩ := ha.ex
  obtain ⟨tb, pb, sb⟩ := hb.ex
  exact ⟨_, pe_callBfun c hg hm (pa_cons pa (pa_cons pb pa_nil (starEach_plain hs2)) (starEach_plain hs)) hdb (starEach_plain hs) (by rw [starEach_plain hs2]; rfl), cal2_sim sa sb h⟩
theorem rFun1 (hc : Cal1 fx (.builtin id) o1) (hg : Gl fx.X x) (hm : fx.X.mg x = some (.builtin id)) (hdb : (x == ("__debug__" : Str)) = false) (hs : isStar a = false) (ha : POk fx a ma) : ROk fx (.Call (.Name x p) [a] [] pos) (ma >>= o1) := by
  obtain ⟨r, c, h⟩ := hc.ex
  obtain ⟨ta, pa, sa⟩ := ha.ex
  exact ⟨_, pe_callBfun c hg hm (pa_cons pa pa_nil (starEach_plain hs)) hdb (starEach_plain hs) rfl, cal1_sim sa h⟩
end
def factM (a : PV) : M Res := fun s P _ => match a with
  | .int i => (0 ≤ i ∧ i ≤ 60) ∧ P (.val (.int ((Builtin.Math.factorialNat i.toNat : Nat) : Int))) s
  | _ => False
theorem fact_small : ∀ n < 61, (((Builtin.Math.factorialNat n : Nat) : Int)).natAbs.log2 < bitsLine := by decide +kernel
theorem cFact {fx : Fx} : Cal1 fx (.builtin "math.factorial") factM := by
  refine ⟨fun xs H Q => ∃ i : Int, xs = [.int i] ∧ 0 ≤ i ∧ i ≤ 60 ∧ Q (.int ((Builtin.Math.factorialNat i.toNat : Nat) : Int)) H, fun pins s σ H xs us Q I r h => ?_, fun F σ H env P E Q d v s pv hm hq => ?_⟩
  · obtain ⟨i, rfl, h0, h1, q⟩ := h
    obtain ⟨u, rfl, rx⟩ := vals1 r
    obtain ⟨t, rfl⟩ := rx
    have m1 : Builtin.Math.maxSsize = 2 ^ 63 - 1 := by decide +kernel
    have m2 : (60 : Int) ≤ Builtin.Math.manyFactors := by decide +kernel
    exact PySem.W.mg_factorial (by rw [m1]; omega) (by omega) (by omega) (fact_small i.toNat (by omega)) ⟨.int _, H, I.tok _, ⟨_, rfl⟩, q⟩
  · cases d <;> first | exact hm.elim | skip
    rw [pv.int]
    exact ⟨_, rfl, hm.1.1, hm.1.2, hq _ env F H _ hm.2 Stp.refl (EnLe.refl _) s (.int _)⟩
theorem factA {i : Int} {s : En} {P : Res → En → Prop} {E : EP'} : factM (.int i) s P E = ((0 ≤ i ∧ i ≤ 60) ∧ P (.val (.int ((Builtin.Math.factorialNat i.toNat : Nat) : Int))) s) := rfl
/-- a name of a built-in, read off the top's facts -/
theorem blt_of {K : PySem.W.Frag} {h : Heap} {mg : Str → Option Value} (X : K.In h) (G : h.Ns mainGlobals mg) {x : Str} {id : String} (c : He.eqO (PySem.W.nsIn K mainGlobals x) (some (some (.builtin id))) = true) : mg x = some (.builtin id) := PySem.W.mg_of X G (He.eqO_ok c)
end FS
namespace FS
open PySem PySem.Spec PyProof.Rows L2 LamX NdefX
/-! a closure that is passed on -/
/-- what is known of a closure at a point of the run -/
def CloSrc (G : Gr) (n j : Nat) (f : Addr) (D : FnP) (st : List Env) (s : Shared) (H F : Hp) : Prop :=
  ∃ (Nl ps fr : List Str) (NFx : NF) (params : Arguments) (body : Expr) (mb : M PV) (ws : List (Option V)) (caps : List (Option PV)),
    D = lamD Nl caps mb ∧ ps.length = n ∧ NScope Nl ps fr NFx.scope ∧
    (∀ (pm ctv : Value) (us : List Value), us.length = ps.length → bindArgs (PySem.W.kla_fn "<lambda>" NFx.qual params body NFx.scope NFx.cl pm (.ref NFx.c) ctv) ⟨us, []⟩ = pure (ps.zip us)) ∧
    LamAt s.heap f NFx.c NFx.qual params body NFx.scope NFx.cl ∧ H f = none ∧ f ∉ frs st ∧ H NFx.c = some (CodeO NFx.c NFx.qual) ∧ CellsAt NFx.cl fr ws s.heap H ∧ CapsOk G.K F ws caps ∧
    (∀ fx' : Fx, gr fx' = G → Fr fx' j → fx'.X.N = Nl → fx'.X.env.scope = NFx.scope → EOk fx' body mb)
theorem CloSrc.call {fx : Fx} {G : Gr} {k n j : Nat} {f : Addr} {D : FnP} {st : List Env} {s : Shared} {H F : Hp} (cs : CloSrc G n j f D st s H F) (c0 : CB G.T F H F H)
    (eG : gr fx = G) (ok : Fr fx k) (hj : j + 1 ≤ k) (f0 : fx.F0 = F) (h0 : fx.H0 = H) (es : fx.X.s_0 = s) (eh : fx.X.H_0 = H) (eo : fx.X.outer = st) (ex : fx.X.ex = []) : CloCall fx n f D := by
  obtain ⟨Nl, ps, fr, NFx, params, body, mb, ws, caps, rfl, rfl, S, hb, ho, hf, hfr, hc, C, hw, hbody⟩ := cs
  exact clo_ready (Xm := { fx.X with stack := st }) eG ok hj f0 h0 es eh eo ex S hb ho hf hfr hc C c0 hw hbody
/-- the closure in its callee's frame -/
structure CloHere (fx : Fx) (n j : Nat) (f : Addr) (D : FnP) : Prop where
  src : CloSrc (gr fx) n j f D fx.X.outer fx.X.s_0 fx.X.H_0 fx.F0
  cb : CB fx.T fx.F0 fx.X.H_0 fx.F0 fx.X.H_0
  h0 : fx.H0 = fx.X.H_0
  ex : fx.X.ex = []
theorem CloHere.later {fx : Fx} {n j : Nat} {f : Addr} {D : FnP} (ch : CloHere fx n j f D) {pins : List (Addr × Obj)} {σ : L2.St} {H F : Hp} {s : Shared} (I : Inv fx.X pins σ H s) (c : COk fx F H) : CloSrc (gr fx) n j f D fx.X.stack s H F := by
  obtain ⟨⟨Nl, ps, fr, NFx, params, body, mb, ws, caps, rfl, rfl, S, hb, ho, hf, hfr, hc, C, hw, hbody⟩, c0, h0, ex⟩ := ch
  have no : ∀ b : Addr, b ∉ fx.X.ex := fun b z => by rw [ex] at z; cases z
  obtain ⟨pm, ctv, o⟩ := ho
  have nst : f ∉ frs fx.X.stack := fun hm => by
    rcases List.mem_cons.mp (I.stkSub f hm) with z | z
    · have h1 := Heap.lt_size o
      have h2 := I.ok.above
      rw [z] at h1
      exact absurd (Nat.lt_of_lt_of_le h1 h2) (Nat.lt_irrefl _)
    · exact hfr z
  have nw : fx.F0 NFx.c ≠ some wellMark := fun z => by
    obtain ⟨x, y, z', w, _⟩ := (c0.sub NFx.c _ z).1 rfl
    rw [hc] at w
    have w := Option.some.inj w
    unfold CodeO at w
    cases w
  exact ⟨Nl, ps, fr, NFx, params, body, mb, ws, caps, rfl, rfl, S, hb, ⟨pm, ctv, I.base.keep f _ o hf hfr (no f)⟩, I.base.free f _ o hf (no f), nst,
    c.h0 _ _ (by rw [h0]; exact hc) nw fun ps z => codeO_ne ps z, cells_later C ex I, hw.same c.f0, hbody⟩
/-- as DOkC, for a def that may pass its closure on -/
structure DOkP (G : Gr) (k : Nat) (f : Addr) (fd : FuncData) (ps : List Str) (n j : Nat) (Dw : DwP) : Prop where
  run : ∀ (A : Around) (outer : List Env) (s : Shared) (H : Hp) (args : Args) (us : List Value) (vs : List V) (Q : VK) (E : XK) (F : Hp) (sl : List Slot) (P' : PV → Prop) (E' : EP') (f0 : Addr) (D : FnP),
    RoomG (k + 1) A → Env0 G.P G.w G.K G.mg G.base A outer s H → BindsTo s fd args (ps.zip us) → Vals vs us → vs.length = ps.length → CB G.T F H F H → SlsA G F sl vs → Dw f0 D sl P' E' →
    CloSrc G n j f0 D outer s H F →
    (∀ d F' H' v, P' d → CB G.T F H F' H' → Dp G.K F' v d → Q v H') → (∀ e F' H' cls dd, E' e → CB G.T F H F' H' → ExRep G.mg G.K F' H' e cls dd → E cls dd H') →
    codeAny (model G.P G.w) A (.call (.ref f) args) (CR (L2.CX G.P G.w) outer G.P G.w H s Q E) s
theorem DOkP.of {G : Gr} (g : GrOk G) {k n j : Nat} {f : Addr} {name qual : Str} {params : Arguments} {body : List Stmt} {scope : Scope} {dV kV doc pm cdv ct oc : Value} {an od : Option Addr} {osl : Array (Option Value)} {N ps : List Str} {m : Addr → FnP → M Out}
    (lk : G.K.lookup f = some ⟨oc, od, .func (PySem.W.fnOf name qual params body scope dV kV doc pm an cdv ct), osl⟩) (hcd : PySem.W.codeIn G.K cdv qual = true) (S : FnScope N ps scope)
    (hb : ∀ (f0 : Addr) (D : FnP) (fx : Fx), gr fx = G → Fr fx k → fx.X.N = N → fx.X.env.scope = scope → PassesOwn (model fx.X.prog fx.X.w) fx.X.A fx.X.env fx.X.xe → (∀ y, fx.X.fn y = true) → CloHere fx n j f0 D → SsOk fx body (m f0 D)) :
    DOkP G k f (PySem.W.fnOf name qual params body scope dV kV doc pm an cdv ct) ps n j (fun f0 D => fnM N (m f0 D)) := by
  refine ⟨fun A outer s H args us vs Q E F sl P' E' f0 D r e0 bt rv hl c sa d cc hQ hE => ?_⟩
  refine run_ofS (N := N) lk hcd S r.r e0 bt rv hl fun hr' => ?_
  let fx : Fx := { X := cxOf (L2.CX G.P G.w) G.P G.w G.K G.mg G.base N qual scope f cdv A outer s H E, W := fun cls d _ H => E cls d H, T := G.T, F0 := F, H0 := H, clo := G.clo, cloMono := g.cloMono }
  have fr : Fr fx k := ⟨⟨rfl, S.nd, r.r.hd, r.gd, by have := hr'.un; show (A.deeper _).units + 200 < cLine; omega, g.kt⟩, g, ⟨hr', r.gd⟩, takes_of rfl rfl rfl rfl⟩
  obtain ⟨t, p, sim⟩ := (hb f0 D fx rfl fr rfl rfl (passes_of rfl) (fun _ => rfl) ⟨cc, c, rfl, rfl⟩).ex
  refine ⟨t, p, ?_⟩
  have so : SOk fx F (L2.start N vs) H (startE N sl) := sOk_start (fx := fx) c sa
  refine sim F _ H _ _ E' _ so d (fun env' F' σ' H' q sm s' => hQ .none F' H' .non q s'.c .non) (fun d env' F' σ' H' v q sm s' dv => hQ d F' H' v q s'.c dv) (fun _ _ _ _ q => q.elim) (fun _ _ _ _ q => q.elim) ?_
  exact fun e F' H' cls dd σ' q sm c' er => hE e F' H' cls dd q c' er
structure DefOkP (G : Gr) (x : Str) (k : Nat) (ps : List Str) (params : Arguments) (body : List Stmt) (scope : Scope) (n j : Nat) (Dw : DwP) : Prop where
  ex : ∃ f fd, G.mg x = some (.ref f) ∧ FunD G.K x x params body scope [] [] f fd ∧ DOkP G k f fd ps n j Dw
theorem DefOkP.of {G : Gr} {x : Str} {k n j : Nat} {ps N : List Str} {params : Arguments} {body : List Stmt} {scope : Scope} {m : Addr → FnP → M Out} (g : GrOk G) (h : ∃ f fd, G.mg x = some (.ref f) ∧ FunD G.K x x params body scope [] [] f fd) (S : FnScope N ps scope)
    (hb : ∀ (f0 : Addr) (D : FnP) (fx : Fx), gr fx = G → Fr fx k → fx.X.N = N → fx.X.env.scope = scope → PassesOwn (model fx.X.prog fx.X.w) fx.X.A fx.X.env fx.X.xe → (∀ y, fx.X.fn y = true) → CloHere fx n j f0 D → SsOk fx body (m f0 D)) : DefOkP G x k ps params body scope n j (fun f0 D => fnM N (m f0 D)) := by
  obtain ⟨f, fd, hm, F⟩ := h
  refine ⟨f, fd, hm, F, ?_⟩
  obtain ⟨oc, od, dV, kV, doc, pm, an, cdv, ct, osl, rfl, lk, hcd, _, _⟩ := F.ex
  exact DOkP.of g lk hcd S hb
def passCall (Dw : DwP) (f0 : Addr) (D : FnP) (d : PV) : M Res := fun s P E => Dw f0 D [.val d, .clo f0 []] (fun r => P (.val r) s) E
section
variable {fx : Fx} {k j n nn : Nat} {x y : Str} {ps : List Str} {params prm : Arguments} {bd : List Stmt} {sc scope : Scope} {Dw : DwP} {e e2 body : Expr} {me me2 mb : M PV} {Nl lps lfr : List Str} {js : List Nat} {p p2 lpos pos : Pos}
/-- x(e, y), y a name that holds a closure -/
theorem rPass {i : Nat} {f0 : Addr} {D : FnP} (fr : Fr fx k) (gc : GrC (gr fx)) (ch : CloHere fx nn j f0 D) (dc : DefOkC (gr fx) x n ps prm bd sc nn Dw) (hps : ps.length = 2) (b : Bd x ps prm bd sc) (hg : Gl fx.X x) (hdb : (x == ("__debug__" : Str)) = false) (hs : isStar e = false) (hn : n + 1 ≤ k) (hj : j + 1 ≤ n)
    (nm : NameOk fx i y) (he : EOk fx e me) : ROk fx (.Call (.Name x p) [e, .Name y p2] [] pos) (rdClo i f0 >>= fun _ => me >>= passCall Dw f0 D) := by
  obtain ⟨te, pe, se⟩ := he.ex
  obtain ⟨f, fd, hm, Fd, Dk⟩ := dc.ex
  refine ⟨fun σ H Q => σ[i]? = some (some (.ref f0)) ∧ te σ H fun v H1 => ∃ (F : Hp) (env : En) (d : PV) (P' : PV → Prop) (E' : EP'), SOk fx F σ H1 env ∧ Dp fx.X.K F v d ∧ Dw f0 D [.val d, .clo f0 []] P' E' ∧
      (∀ d F' H' v, P' d → CB fx.T F H1 F' H' → Dp fx.X.K F' v d → Q v H') ∧ (∀ e F' H' cls dd, E' e → CB fx.T F H1 F' H' → ExRep fx.X.mg fx.X.K F' H' e cls dd → ∀ σ', fx.W cls dd σ' H'), ⟨fun pins s σ H Q I h => ?_⟩, fun F σ H env P E Q so hm hq hx => ?_⟩
  · obtain ⟨h1, h2⟩ := h
    refine wpAny_Call_Name_kw (ld_glob I hg hm ?_ hdb)
    refine PySem.W.callWith_K (h₀ := fx.X.base) I.ok.mod.kin Fd.kp ?_ (starEach_plain hs) (by rfl)
    rw [starEach_plain hs]
    show wpAny _ _ (spliced ((false, eval e fx.X.env) :: (false, eval (.Name y p2) fx.X.env) :: [])) _ _ s
    refine Calls.spliced_cons (thn (pe.run pins s σ H _ I h2) fun u s1 ⟨v, H1, I1, ru, F, env, d, P', E', so, dv, hD, hQ, hE⟩ => ?_)
    refine Calls.spliced_cons (thn ((pe_var (pos := p2) nm.at_ nm.vis nm.d1 nm.d2).run pins s1 σ H1 (fun v H2 => v = .ref f0 ∧ H2 = H1) I1 ⟨.ref f0, h1, rfl, rfl⟩) fun u2 s2 ⟨v2, H2, I2, ru2, ev, eH⟩ => ?_)
    subst ev
    subst eH
    obtain rfl : u2 = Value.ref f0 := ru2
    refine Calls.spliced_nil ⟨I2.kIn, ?_⟩
    have vl : ∀ (us : List Value), us.length = ps.length → BindsTo s2 fd ⟨us, []⟩ (ps.zip us) := fun us hl => by
      obtain ⟨kV, doc, pm, an, cdv, ct, rfl⟩ := fun_none Fd
      exact .of_eq (b kV doc pm an cdv ct us hl)
    have cs := ch.later I2 so.c
    refine wpAny_call (codeAny_mono (Dk.run fx.X.A fx.X.stack s2 H2 ⟨[u, .ref f0], []⟩ [u, .ref f0] [v, .ref f0] Q (fun cls dd H' => ∀ σ', fx.W cls dd σ' H') F [.val d, .clo f0 []] P' E' f0 D
      (fr.mono hn).room I2.env0 (vl _ (by rw [hps]; rfl)) (.cons ru (.cons rfl .nil)) (by rw [hps]; rfl) so.c.here (.cons dv (.cons (gc.is_ _ _) .nil)) hD
      (fun fx' e1 e2 e3 e4 e5 e6 e7 e8 => cs.call so.c.here e1 e2 hj e3 e4 e5 e6 e7 e8)
      (fun d F' H' v q c dv => hQ d F' H' v q c dv) fun e F' H' cls dd q c er => hE e F' H' cls dd q c er) fun r s3 hq => ?_)
    cases r with
    | error e => exact passes_call fr.tk (fun cls d σ H h => h σ) pins σ H2 s2 e s3 I2 hq
    | ok fl =>
      cases fl with
      | ret u => exact I2.after hq
      | next => exact False.elim hq
      | brk => exact False.elim hq
      | cont => exact False.elim hq
  · obtain ⟨hm1, hm2⟩ := hm
    obtain ⟨v, ev, so1⟩ := so.slot i _ hm1
    have ev2 : v = .ref f0 := gc.un F v f0 [] so1
    subst ev2
    refine ⟨ev, se F σ H env _ E _ so hm2 (fun d env1 F1 H1 v g st le s1 dv => ?_) hx⟩
    refine ⟨F1, env1, d, _, E, s1, dv, g, fun r F' H' w g' c dw => ?_, fun e F' H' cls dd g' c er σ' => hx.later st.sm e F' H' cls dd σ' g' c.f0 (s1.c.back c) er⟩
    obtain ⟨st2, s2⟩ := s1.called c
    exact hq (.val r) env1 F' H' w g' (st.tr le st2) le s2 dw

def lamCall3 (N : List Str) (js : List Nat) (mb : M PV) (Dw : DwP) (d d2 : PV) : M Res := fun s P E => ∀ f0, Dw f0 (lamD N (js.map (capOf s)) mb) [.val d, .val d2, .clo f0 []] (fun r => P (.val r) s) E
/-- x(e, e2, lambda ..: body) -/
theorem rLamCall3 (fr : Fr fx k) (gc : GrC (gr fx)) (dc : DefOkP (gr fx) x n ps prm bd sc lps.length j Dw) (hps : ps.length = 3) (b : Bd x ps prm bd sc) (hg : Gl fx.X x) (hdb : (x == ("__debug__" : Str)) = false) (hs : isStar e = false) (hs2 : isStar e2 = false) (hn : n + 1 ≤ k) (hj : j + 1 ≤ n) (lt : LamFx fx)
    (hdef : defaultsOf params fx.X.env = ([], [])) (hS : nscB Nl lps lfr scope = true) (hnd : ndefB fx.X.env.scope scope lfr = true) (hjs : js.map (fun j => fx.X.N[j]?) = lfr.map some)
    (hb : ∀ (q : Str) (cl : List (Str × Addr)) (pm cv ctv : Value) (us : List Value), us.length = lps.length → bindArgs (PySem.W.kla_fn "<lambda>" q params body scope cl pm cv ctv) ⟨us, []⟩ = pure (lps.zip us))
    (he : EOk fx e me) (he2 : EOk fx e2 me2) (hbody : ∀ fx' : Fx, gr fx' = gr fx → Fr fx' j → fx'.X.N = Nl → fx'.X.env.scope = scope → EOk fx' body mb) : ROk fx (.Call (.Name x p) [e, e2, .Lambda params body scope lpos] [] pos) (me >>= fun d => me2 >>= fun d2 => lamCall3 Nl js mb Dw d d2) := by
  obtain ⟨te, pe, se⟩ := he.ex
  obtain ⟨te2, pe2, se2⟩ := he2.ex
  obtain ⟨f, fd, hm, Fd, Dk⟩ := dc.ex
  obtain ⟨c, P, TB, hcode, hmem, hu⟩ := lt.ex
  have S := nscope_by hS
  refine ⟨fun σ H Q => te σ H fun v H0 => te2 σ H0 fun v2 H1 => ∃ (F : Hp) (env : En) (d d2 : PV) (P' : PV → Prop) (E' : EP'), SOk fx F σ H1 env ∧ Dp fx.X.K F v d ∧ Dp fx.X.K F v2 d2 ∧ (∀ f0, Dw f0 (lamD Nl (js.map (capOf env)) mb) [.val d, .val d2, .clo f0 []] P' E') ∧
      (∀ d F' H' v, P' d → CB fx.T F H1 F' H' → Dp fx.X.K F' v d → Q v H') ∧ (∀ e F' H' cls dd, E' e → CB fx.T F H1 F' H' → ExRep fx.X.mg fx.X.K F' H' e cls dd → ∀ σ', fx.W cls dd σ' H'), ⟨fun pins s σ H Q I h => ?_⟩, fun F σ H env P E Q so hm hq hx => ?_⟩
  · refine wpAny_Call_Name_kw (ld_glob I hg hm ?_ hdb)
    refine PySem.W.callWith_K (h₀ := fx.X.base) I.ok.mod.kin Fd.kp ?_ (starEach_plain hs) (noStars_any (by rw [List.any_cons, hs2]; rfl))
    rw [starEach_plain hs, starEach_plain hs2]
    show wpAny _ _ (spliced ((false, eval e fx.X.env) :: (false, eval e2 fx.X.env) :: (false, eval (.Lambda params body scope lpos) fx.X.env) :: [])) _ _ s
    refine Calls.spliced_cons (thn (pe.run pins s σ H _ I h) fun u s0 ⟨v, H0, I0, ru, h0⟩ => ?_)
    refine Calls.spliced_cons (thn (pe2.run pins s0 σ H0 _ I0 h0) fun u2 s1 ⟨v2, H1, I1, ru2, F, env, d, d2, P', E', so, dv, dv2, hD, hQ, hE⟩ => ?_)
    have hfree : ∀ y ∈ scope.names, y.2 = .free → ∃ a, fx.X.env.cells.lookup y.1 = some a := fun y hy e => (ndef_free hnd y hy e).elim (fun z => I1.ok.has _ (.inl z)) fun z => I1.ok.has _ (.inr z)
    refine Calls.spliced_cons (lamMake I1 TB hcode hmem hu so.c.tabs hdef hfree fun fl kk H2 s2 I2 up ho nf nfr hck => ?_)
    refine Calls.spliced_nil ⟨I2.kIn, ?_⟩
    have C := cells_of I2 (Caps.made (scope := scope) I2.ok (ndef_free hnd) (ndef_fr hnd) hjs)
    have c2 : CB fx.T F H2 F H2 := CB.tabUp so.c.here up
    have vl : ∀ (us : List Value), us.length = ps.length → BindsTo s2 fd ⟨us, []⟩ (ps.zip us) := fun us hl => by
      obtain ⟨kV, doc, pm, an, cdv, ct, rfl⟩ := fun_none Fd
      exact .of_eq (b kV doc pm an cdv ct us hl)
    have cs : CloSrc (gr fx) lps.length j fl (lamD Nl (js.map (capOf env)) mb) fx.X.stack s2 H2 F :=
      ⟨Nl, lps, lfr, ⟨"<lambda>", fx.X.env.qual ++ "<lambda>", params, [], scope, cloFrom fx.X.env.cells scope.names [], kk⟩, params, body, mb, _, _, rfl, rfl, S, fun pm ctv us h => hb _ _ pm _ ctv us h, ho, nf, nfr, hck, C, capsOk_of so js, hbody⟩
    refine wpAny_call (codeAny_mono (Dk.run fx.X.A fx.X.stack s2 H2 ⟨[u, u2, .ref fl], []⟩ [u, u2, .ref fl] [v, v2, .ref fl] Q (fun cls dd H' => ∀ σ', fx.W cls dd σ' H') F [.val d, .val d2, .clo fl []] P' E' fl (lamD Nl (js.map (capOf env)) mb)
      (fr.mono hn).room I2.env0 (vl _ (by rw [hps]; rfl)) (.cons ru (.cons ru2 (.cons rfl .nil))) (by rw [hps]; rfl) c2 (.cons dv (.cons dv2 (.cons (gc.is_ _ _) .nil))) (hD fl) cs
      (fun d F' H' v q c dv => hQ d F' H' v q (CB.overUp up c) dv) fun e F' H' cls dd q c er => hE e F' H' cls dd q (CB.overUp up c) er) fun r s3 hq => ?_)
    cases r with
    | error e => exact passes_call fr.tk (fun cls d σ H h => h σ) pins σ H2 s2 e s3 I2 hq
    | ok fl =>
      cases fl with
      | ret u => exact I2.after hq
      | next => exact False.elim hq
      | brk => exact False.elim hq
      | cont => exact False.elim hq
  · refine se F σ H env _ E _ so hm (fun d env1 F1 H1 v g st le s1 dv => ?_) hx
    refine se2 F1 σ H1 env1 _ E _ s1 g (fun d2 env2 F2 H2 v2 g2 st2 le2 s2 dv2 => ?_) (hx.later st.sm)
    refine ⟨F2, env2, d, d2, _, E, s2, dp_same st2.sm d dv, dv2, g2, fun r F' H' w g' c dw => ?_, fun e F' H' cls dd g' c er σ' => (hx.later st.sm).later st2.sm e F' H' cls dd σ' g' c.f0 (s2.c.back c) er⟩
    obtain ⟨st3, s3⟩ := s2.called c
    exact hq (.val r) env2 F' H' w g' (Stp.tr st le (Stp.tr st2 le2 st3)) (le.trans le2) s3 dw
end
end FS
namespace FS
open PySem PySem.Spec PyProof.Rows L2 LamX
/-! a def that calls itself: the depth 0 -/
theorem DefOk.vac {G : Gr} {x : Str} {k : Nat} {ps : List Str} {params : Arguments} {body : List Stmt} {scope : Scope} (h : ∃ f fd, G.mg x = some (.ref f) ∧ FunD G.K x x params body scope [] [] f fd) : DefOk G x k ps params body scope (fun _ _ _ => False) := by
  obtain ⟨f, fd, a, b⟩ := h
  exact ⟨f, fd, a, b, ⟨fun A outer s H args us vs Q E F sl P' E' _ _ _ _ _ _ _ d => d.elim⟩⟩
end FS
/-! a list of wells: wells = [f(e, ..) for x in ..]; g(wells[e]) -/
namespace FS
open PySem PySem.Spec PyProof.Rows L2 LamX
/-- an expression that makes a well -/
structure MkOk (fx : Fx) (e : Expr) (m : M Unit) : Prop where
  ex : ∃ t, PE fx.X e t ∧ ∀ (F : Hp) (σ : L2.St) (H : Hp) (env : En) (Q : V → Hp → Prop), SOk fx F σ H env → m env (fun _ s => s = env) NoE → (∀ F' H' a, Stp F H σ env F' H' → SOk fx F' σ H' env → F' a = some wellMark → Q (.ref a) H') → t σ H Q
def mkWell (n : Nat) (Df : FnW) (sl : List Slot) : M Unit := fun s P _ => (sl.length = n ∧ Df sl fun x y z => WellN 0 x ∧ WellN 1 y ∧ WellN 2 z) ∧ P () s
theorem eMkWell {fx : Fx} {k : Nat} {x : Str} {f : Addr} {fd : FuncData} {ps : List Str} {Df : FnW} {e : Expr} {es : List Expr} {m : M (List Slot)} {p pos : Pos} (fr : Fr fx k)
    (hg : Gl fx.X x) (hm : fx.X.mg x = some (.ref f)) (hk : PySem.W.keepIn fx.X.K (.ref f) = true) (Dk : DOkW (gr fx) k f fd ps Df) (hb : ∀ us : List Value, us.length = ps.length → bindArgs fd ⟨us, []⟩ = pure (ps.zip us)) (hdb : (x == ("__debug__" : Str)) = false)
    (hs : (e :: es).any isStar = false) (ha : LOk fx (e :: es) m) : MkOk fx (.Call (.Name x p) (e :: es) [] pos) (m >>= mkWell ps.length Df) := by
  obtain ⟨t, pa, sa⟩ := ha.ex
  have hs' := hs
  rw [List.any_cons, Bool.or_eq_false_iff] at hs'
  let RW : List V → Hp → VK → Prop := fun vs H Q => ∃ (F : Hp) (sl : List Slot) (P' : Int → Int → Int → Prop), vs.length = ps.length ∧ CB fx.T F H F H ∧ SlsA (gr fx) F sl vs ∧ Df sl P' ∧
    ∀ x y z F' H' a, P' x y z → CB fx.T F H F' H' → H' a = some (.lst [.int x, .int y, .int z]) → F' a = none → H a = none → Q (.ref a) H'
  have pin : PE fx.X (.Call (.Name x p) (e :: es) [] pos) (fun σ H Q => t σ H fun vs H1 => RW vs H1 Q) := by
    refine ⟨fun pins s σ H Q I h => ?_⟩
    refine wpAny_Call_Name_kw (ld_glob I hg hm ?_ hdb)
    refine PySem.W.callWith_K (h₀ := fx.X.base) I.ok.mod.kin hk (thn (pa.run pos pins s σ H _ I h) fun us s1 ⟨vs, H1, I1, r, q⟩ => ⟨I1.kIn, ?_⟩) (starEach_plain hs'.1) (noStars_any hs'.2)
    obtain ⟨F, sl, P', hl, c, sA, d, hQ⟩ := q
    have hl' : us.length = ps.length := by rw [← r.length]; exact hl
    refine wpAny_call (codeAny_mono (Dk.run fx.X.A fx.X.stack s1 H1 ⟨us, []⟩ us vs Q (fun _ _ _ => False) F sl P' fr.room I1.env0 (.of_eq (hb us hl')) r hl c sA d hQ) fun r s' hq => ?_)
    cases r with
    | error e => exact passes_call fr.tk (fun cls d σ H h => h.elim) pins σ H1 s1 e s' I1 hq
    | ok fl =>
      cases fl with
      | ret u => exact I1.after hq
      | next => exact False.elim hq
      | brk => exact False.elim hq
      | cont => exact False.elim hq
  refine ⟨_, pin, fun F σ H env Q s hm hq => ?_⟩
  refine sa F σ H env _ NoE _ s hm (fun sl env1 F1 H1 vs gg st le s1 sl1 => ?_) exOk_no
  obtain ⟨⟨hn, gg⟩, rfl⟩ := gg
  refine ⟨F1, sl, _, by rw [sl1.length]; exact hn, s1.c.here, sl1, gg, fun x y z F2 H2 a ⟨w1, w2, w3⟩ c ea ef eh => ?_⟩
  have smW : Same F2 (upd F2 a wellMark) := same_upd_none ef
  have cW : CB fx.T F1 H1 (upd F2 a wellMark) H2 := by
    refine ⟨fun b o e => ?_, c.f0.trans smW, c.h0, fun b e => ?_, c.mono, c.tabs, fun b o e => ?_⟩
    · by_cases hb : b = a
      · subst hb
        rw [upd_same] at e
        cases e
        exact ⟨fun _ => ⟨x, y, z, ea, w1.1, w2.1, w2.2 rfl, w3.1⟩, fun z => (z rfl).elim⟩
      · rw [upd_ne hb] at e
        exact c.sub b o e
    · by_cases hb : b = a
      · subst hb
        exact .inr eh
      · rw [upd_ne hb] at e
        exact c.fresh b e
    · by_cases hb : b = a
      · subst hb
        rw [upd_same] at e
        cases e
        trivial
      · rw [upd_ne hb] at e
        exact c.tn b o e
  obtain ⟨st3, s3⟩ := s1.called cW
  exact hq _ H2 a (st.tr le st3) s3 upd_same
theorem cMkWell {fx : Fx} {k : Nat} {x : Str} {ps : List Str} {params : Arguments} {body : List Stmt} {scope : Scope} {Df : FnW} {e : Expr} {es : List Expr} {m : M (List Slot)} {p pos : Pos} (fr : Fr fx k) (d : DefOkW (gr fx) x k ps params body scope Df) (b : Bd x ps params body scope) (hg : Gl fx.X x) (hdb : (x == ("__debug__" : Str)) = false)
    (hs : (e :: es).any isStar = false) (ha : LOk fx (e :: es) m) : MkOk fx (.Call (.Name x p) (e :: es) [] pos) (m >>= mkWell ps.length Df) := by
  obtain ⟨f, fd, hm, F, Dk⟩ := d.ex
  refine eMkWell fr hg hm F.kp Dk (fun us hl => ?_) hdb hs ha
  obtain ⟨kV, doc, pm, an, cdv, ct, rfl⟩ := fun_none F
  exact b kV doc pm an cdv ct us hl
structure WBk (fx : Fx) (scope : Scope) (e : Expr) (m : M Unit) : Prop where
  ok : ∀ (s : Shared) (H : Hp) (C : Addr) (cl : List (Str × Addr)) (fp : List Addr), MkOk (fx.blk s H scope (compEnvC scope cl C fx.X.env) fp) e m
theorem Ctx.w {Φ : Gr → Nat → Prop} {fx : Fx} {k : Nat} {N : List Str} {sc : Scope} {scope : Scope} {e : Expr} {m : M Unit} (c : Ctx Φ fx k N sc) (h : ∀ fx' : Fx, Ctx Φ fx' k N (relS scope sc) → MkOk fx' e m) : WBk fx scope e m := ⟨fun s H C cl fp => h _ (c.blk scope s H C cl fp)⟩
theorem WBk.all {fx : Fx} {scope : Scope} {e : Expr} {m : M Unit} (h : WBk fx scope e m) : ∃ t : TE, (∀ (s : Shared) (H : Hp) (C : Addr) (cl : List (Str × Addr)) (fp : List Addr), PE (fx.X.blk s H scope (compEnvC scope cl C fx.X.env) fp) e t) ∧
    ∀ (F : Hp) (σ : L2.St) (H : Hp) (env : En) (Q : V → Hp → Prop), SOk fx F σ H env → m env (fun _ s => s = env) NoE → (∀ F' H' a, Stp F H σ env F' H' → SOk fx F' σ H' env → F' a = some wellMark → Q (.ref a) H') → t σ H Q := by
  refine ⟨fun σ H Q => ∀ (s : Shared) (H0 : Hp) (C : Addr) (cl : List (Str × Addr)) (fp : List Addr), Classical.choose ((h.ok s H0 C cl fp).ex) σ H Q, fun s H C cl fp => ?_, fun F σ H env Q so hm hq s H0 C cl fp => ?_⟩
  · exact PE.weak (Classical.choose_spec ((h.ok s H C cl fp).ex)).1 fun σ H' Q q => q s H C cl fp
  · exact (Classical.choose_spec ((h.ok s H0 C cl fp).ex)).2 F σ H env Q so.blk hm fun F' H' a st s' e => hq F' H' a st s'.unblk e
def lcWAll (g : Tg) (mw : M Unit) (s0 : En) (xs : List PV) : Prop := ∀ x ∈ xs, ∃ s1, g.put x s0 = some s1 ∧ mw s1 (fun _ s => s = s1) NoE
section
variable {fx : Fx} {elt tg iter : Expr} {scope : Scope} {own : List (Str × Nat)} {pos : Pos} {mi : M (List PV)} {g : Tg} {mw : M Unit}
theorem lcW_sim {wi : TI} {tg' : TG} {te : TE} {vs : List Nat} (hi : g.ids.all (vs.contains ·) = true)
    (si : ∀ (F : Hp) (σ : L2.St) (H : Hp) (env : En) (P : List PV → En → Prop) (E : EP') (R : It → Hp → Prop), SOk fx F σ H env → mi env P E →
      (∀ xs env' F' H' J, P xs env' → Stp F H σ env F' H' → EnLe env env' → SOk fx F' σ H' env' → ItOk fx F' J xs → R J H') → ExOk fx F E → wi σ H R)
    (sg : ∀ (F : Hp) (σ : L2.St) (H : Hp) (env env' : En) (d : PV) (v : V) (Q : L2.St → Hp → Prop), SOk fx F σ H env → Dp fx.X.K F v d → g.put d env = some env' → (∀ σ', OutOf g.ids σ σ' → SOk fx F σ' H env' → Q σ' H) → tg' v σ H Q)
    (sw : ∀ (F : Hp) (σ : L2.St) (H : Hp) (env : En) (Q : V → Hp → Prop), SOk fx F σ H env → mw env (fun _ s => s = env) NoE → (∀ F' H' a, Stp F H σ env F' H' → SOk fx F' σ H' env → F' a = some wellMark → Q (.ref a) H') → te σ H Q)
    {F : Hp} {σ : L2.St} {H : Hp} {env : En} {P : Nat → En → Prop} {E : EP'} {Q : V → Hp → Prop} (so : SOk fx F σ H env) (hm : mi env (fun xs s => (xs.length ≤ sizeLine ∧ lcWAll g mw (wipeE s vs) xs) ∧ P xs.length s) E)
    (hq : ∀ n env' F' H' D, P n env' → Stp F H σ env F' H' → EnLe env env' → SOk fx F' σ H' env' → WellsAt F' D (n : Nat) → Q (.ref D) H') (hx : ExOk fx F E) : tLc wi tg' tYes te vs σ H Q := by
  refine si F σ H env _ E _ so hm (fun xs env1 F1 H1 J g1 st1 le1 s1 it => ?_) hx
  obtain ⟨⟨zl, g1⟩, gP⟩ := g1
  intro D hD
  obtain ⟨s2, nF, n0, no⟩ := s1.alloc (o := .lst []) hD
  have nHs : H D = none := by
    cases e : H D with
    | none => rfl
    | some o => exact absurd hD (st1.mono D (by rw [e]; simp))
  refine ⟨fun i m H2 => ∃ F2 vs', m = xs.length - i ∧ i ≤ xs.length ∧ vs'.length = i ∧ Same F1 F2 ∧ (∀ b o, H1 b = some o → F1 b = none → (∀ ps, o ≠ .tbl ps) → ¬ OwnAt σ env1 b → H2 b = some o ∧ F2 b = none) ∧ (∀ a, H1 a ≠ none → H2 a ≠ none) ∧ SOk fx F2 σ H2 env1 ∧
      H2 D = some (.lst vs') ∧ F2 D = none ∧ ∀ v ∈ vs', ∃ a, v = .ref a ∧ F2 a = some wellMark,
    ⟨xs.length, F1, [], by simp, Nat.zero_le _, rfl, Same.refl _, fun b o e f n w => ⟨by rw [upd_ne (ne_of_none e hD)]; exact e, f⟩, fun a h => ?_, s2, upd_same, nF, fun v z => nomatch z⟩, fun i m H2 hW => ?_⟩
  · by_cases e : a = D
    · subst e
      exact absurd hD h
    · rw [upd_ne e]; exact h
  obtain ⟨F2, vs', rfl, hi', hvl, sm2, kp2, mo2, so2, hD2, nF2, da2⟩ := hW
  obtain ⟨go, stop, yl⟩ := it F2 σ H2 env1 sm2 so2
  have noD : ¬ OwnAt σ env1 D := fun ⟨j, ys, e1, e2⟩ => no j ys e1 e2
  by_cases hlt : i < xs.length
  · refine .inr ⟨go i hlt, fun H' => ∃ F3 vs', vs'.length = i + 1 ∧ Same F1 F3 ∧ (∀ b o, H1 b = some o → F1 b = none → (∀ ps, o ≠ .tbl ps) → ¬ OwnAt σ env1 b → H' b = some o ∧ F3 b = none) ∧ (∀ a, H1 a ≠ none → H' a ≠ none) ∧ SOk fx F3 σ H' env1 ∧
      H' D = some (.lst vs') ∧ F3 D = none ∧ ∀ v ∈ vs', ∃ a, v = .ref a ∧ F3 a = some wellMark, fun H' hN => ?_, fun x H3 hy => ?_⟩
    · obtain ⟨F3, vs', a1, a2, a3, a4, a5, a6, a7, a8⟩ := hN
      exact ⟨xs.length - (i + 1), by omega, F3, vs', rfl, hlt, a1, a2, a3, a4, a5, a6, a7, a8⟩
    · obtain ⟨F3, d, e1, st3, s3, d3⟩ := yl i x H3 hlt hy
      obtain ⟨env4, e4, hl⟩ := g1 d (List.mem_of_getElem? e1)
      refine sg F3 (wipe σ vs) H3 (wipeE env1 vs) env4 d x _ s3.wipe d3 e4 fun σ4 o4 s4 => ?_
      have out : ∀ j, j ∉ vs → σ4[j]? = σ[j]? := fun j hj => by
        have hj' : j ∉ g.ids := fun z => hj (by simpa using List.all_eq_true.mp hi j z)
        rw [o4.2 j hj', wipe_at hj]
      have ew : wipe σ4 vs = wipe σ vs := wipe_ext (by rw [o4.1, wipe_length]) fun j hj => by rw [out j hj, wipe_at hj]
      have po := put_out e4
      have outE : ∀ j, j ∉ vs → σ4[j]? = σ[j]? ∧ env4[j]? = env1[j]? := fun j hj => by
        have hj' : j ∉ g.ids := fun z => hj (by simpa using List.all_eq_true.mp hi j z)
        refine ⟨out j hj, ?_⟩
        rw [po.2.1 j hj', wipeE_at hj]
      have innE : ∀ (j : Nat) (xs : List PV), j ∈ vs → env4[j]? ≠ some (some (.own xs)) := fun j xs hj e => by
        have hn := po.2.2 j xs e
        rw [po.2.1 j hn] at e
        exact (wipeE_some e).2 hj
      refine ⟨ew, ?_⟩
      unfold tYes
      simp only [if_true]
      refine sw F3 σ4 H3 env4 _ s4 hl fun F6 H6 a6 st6 s6 ea6 => ?_
      obtain ⟨b1, b2⟩ := blk_back s3 st6 s6 outE innE
      have kp : ∀ b o, H2 b = some o → F2 b = none → (∀ ps, o ≠ .tbl ps) → ¬ OwnAt σ env1 b → H6 b = some o ∧ F6 b = none := fun b o e f n w => by
        obtain ⟨h1, f1⟩ := st3.keep b o e f n w
        exact st6.keep b o h1 f1 n fun z => w (b2 b z)
      obtain ⟨c5, c6⟩ := kp D _ hD2 nF2 (fun ps z => by cases z) noD
      refine ⟨vs', c5, by omega, F6, vs' ++ [.ref a6], by rw [List.length_append, List.length_singleton, hvl], sm2.trans (st3.sm.trans st6.sm), fun b o e f n w => ?_, fun a h => ?_, b1.write c5 (fun ps z => by cases z) (fun φ z => by cases z) c6 n0 noD trivial, upd_same, c6, fun v hv => ?_⟩
      · have : b ≠ D := fun z => by rw [z, hD] at e; cases e
        rw [upd_ne this]
        obtain ⟨h1, f1⟩ := kp2 b o e f n w
        exact kp b o h1 f1 n w
      · by_cases e : a = D
        · subst e
          rw [upd_same]; simp
        · rw [upd_ne e]
          exact st6.mono a (st3.mono a (mo2 a h))
      · rcases List.mem_append.mp hv with hv | hv
        · obtain ⟨a, e1, e2⟩ := da2 v hv
          exact ⟨a, e1, st6.sm _ _ (st3.sm _ _ e2)⟩
        · exact ⟨a6, List.mem_singleton.mp hv, ea6⟩
  · have ei : i = xs.length := by omega
    have sm : Same F2 (upd F2 D (.lst vs')) := same_upd_none nF2
    refine .inl ⟨ei ▸ stop, hq xs.length env1 (upd F2 D (.lst vs')) H2 D gP (Stp.more ⟨st1.sm.trans sm2, fun a h => mo2 a (st1.mono a h), fun b o h f n w => ?_⟩ sm fun b hb f => ?_) le1 (so2.lay hD2 nF2 n0 trivial (by intro z; cases z) trivial fun j ys e => no j ys e) ⟨vs', upd_same, by omega, fun v hv => ?_⟩⟩
    · obtain ⟨h1, f1⟩ := st1.keep b o h f n w
      exact kp2 b o h1 f1 n fun z => w (z.back le1)
    · have : b ≠ D := fun z => hb (z ▸ nHs)
      rw [upd_ne this]
      exact f
    · obtain ⟨a, e1, e2⟩ := da2 v hv
      exact ⟨a, e1, sm _ _ e2⟩
def setWells (i : Nat) (n : Nat) : M Out := fun s P _ => ∀ D, P .nx (s.set i (some (.clo D [.int (n : Nat)])))
def lcWM (vs : List Nat) (g : Tg) (mw : M Unit) (i : Nat) (xs : List PV) : M Out := fun s P E => (xs.length ≤ sizeLine ∧ lcWAll g mw (wipeE s vs) xs) ∧ setWells i xs.length s P E
theorem wells_set {i : Nat} {F H : Hp} {σ : L2.St} {env : En} {D : Addr} {n : Nat} (gc : GrC (gr fx)) (s : SOk fx F σ H env) (w : WellsAt F D (n : Nat)) : SOk fx F (σ.set i (some (.ref D))) H (env.set i (some (.clo D [.int (n : Nat)]))) :=
  s.set (s := .clo D [.int (n : Nat)]) ((gc.wl F (.ref D) D (n : Nat)).mpr ⟨rfl, w⟩) fun z => z.elim
/-- wells = [f(e, ..) for x in ..] -/
theorem stWells {i : Nat} {y : Str} {py spos : Pos} (gc : GrC (gr fx)) (hsw : swapsWith (.ListComp elt [⟨tg, iter, [], 0⟩] scope pos) (some (.Name y py)) spos.line fx.X.env = pure true) (hc : fx.X.calm = true) (hN : fx.X.N.Nodup) (hy : fx.X.N[i]? = some y) (hyl : fx.X.env.scope.names.lookup y = some .local)
    (ok : blkC fx.X.N fx.X.env.scope scope own = true) (hn : noSet iter = true) (hids : g.ids.all ((own.map (·.2)).contains ·) = true) (hi : IOk fx tg iter mi) (hg : GBk fx scope tg g) (he : WBk fx scope elt mw) :
    StOk fx (.Assign [.Name y py] (.ListComp elt [⟨tg, iter, [], 0⟩] scope pos) spos) (mi >>= lcWM (own.map (·.2)) g mw i) := by
  obtain ⟨wi, pi, si⟩ := hi.ex
  obtain ⟨t1, p1, s1⟩ := hg.all
  obtain ⟨t3, p3, s3⟩ := he.all
  refine ⟨_, ps_setLc hc hN hy hyl hsw pi (blkOk_by ok) p1 (fun _ _ _ _ _ => pts_nil) p3 (folded_no hn), fun F σ H env P E D so hm q1 q2 q3 q4 hx => ?_⟩
  refine lcW_sim (P := fun n s => setWells i n s P E) hids si s1 s3 so hm (fun n env1 F1 H1 D1 g1 st le s2 w => ?_) hx
  exact q1 _ F1 _ H1 (g1 D1) st.sm (wells_set gc s2 w)
theorem stWells' {i : Nat} {y : Str} {py spos : Pos} (gc : GrC (gr fx)) (hsw : swapsWith (.ListComp elt [⟨tg, iter, [], 0⟩] scope pos) (some (.Name y py)) spos.line fx.X.env = pure false) (hc : fx.X.calm = true) (hN : fx.X.N.Nodup) (hy : fx.X.N[i]? = some y) (hx : Loc fx.X.env.scope y) (hf : fx.X.fn y = true ∨ fx.X.env.scope.names.lookup y = some .local)
    (ok : blkC fx.X.N fx.X.env.scope scope own = true) (hn : noSet iter = true) (hids : g.ids.all ((own.map (·.2)).contains ·) = true) (hi : IOk fx tg iter mi) (hg : GBk fx scope tg g) (he : WBk fx scope elt mw) :
    StOk fx (.Assign [.Name y py] (.ListComp elt [⟨tg, iter, [], 0⟩] scope pos) spos) (mi >>= lcWM (own.map (·.2)) g mw i) := by
  obtain ⟨wi, pi, si⟩ := hi.ex
  obtain ⟨t1, p1, s1⟩ := hg.all
  obtain ⟨t3, p3, s3⟩ := he.all
  refine ⟨_, ps_set hN hy hx (pe_lc hc hN pi (blkOk_by ok) p1 (fun _ _ _ _ _ => pts_nil) p3 (folded_no hn)) hsw hf, fun F σ H env P E D so hm q1 q2 q3 q4 hx => ?_⟩
  refine lcW_sim (P := fun n s => setWells i n s P E) hids si s1 s3 so hm (fun n env1 F1 H1 D1 g1 st le s2 w => ?_) hx
  exact q1 _ F1 _ H1 (g1 D1) st.sm (wells_set gc s2 w)
/-- wells[e] as an argument -/
def wellIx (i : Nat) (me : M PV) : M Slot := fun s P E => ∃ D n, s[i]? = some (some (.clo D [.int n])) ∧ me s (fun d s' => match d with
  | .int k => (0 ≤ k ∧ k < n) ∧ P .well s'
  | _ => False) E
theorem argWellIx {i : Nat} {y : Str} {p pos : Pos} {e : Expr} {m : M PV} (gc : GrC (gr fx)) (hs : isSlice e = false) (n : NameOk fx i y) (he : POk fx e m) : ArgOk fx (.Subscript (.Name y p) e pos) (wellIx i m) := by
  obtain ⟨tb, pb, sb⟩ := he.ex
  refine ⟨_, pe_ix ix_seq (pe_var n.at_ n.vis n.d1 n.d2) pb (plainIx hs), fun F σ H env P E Q so hm hq hx => ?_⟩
  obtain ⟨D, nn, e1, hm⟩ := hm
  obtain ⟨v, ev, ve⟩ := so.slot i _ e1
  obtain ⟨rfl, w⟩ := (gc.wl F v D nn).mp ve
  refine ⟨.ref D, ev, ?_⟩
  refine sb F σ H env _ E _ so hm (fun d env' F' H' u g st le s' du => ?_) hx
  cases d with
  | int k =>
    obtain ⟨⟨k0, k1⟩, g⟩ := g
    obtain ⟨vs, f1, f2, f3⟩ := w.same st.sm
    have hu : u = .int k := by
      rcases du with du | ⟨j, xs, z, _⟩
      · cases du
        rfl
      · cases z
    subst hu
    have hlt : k.toNat < vs.length := by omega
    obtain ⟨a, e2, e3⟩ := f3 vs[k.toNat] (List.getElem_mem hlt)
    have eh : H' D = some (.lst vs) := (s'.c.sub D _ f1).2 (by intro z; cases z)
    have ea : L2.atI vs ((k.toNat : Nat) : Int) = some (.ref a) := atI_nat (by rw [List.getElem?_eq_getElem hlt, e2])
    rw [show ((k.toNat : Nat) : Int) = k by omega] at ea
    exact .inl ⟨D, _, k, _, rfl, rfl, SqL.of eh, ea, hq .well env' F' H' (.ref a) g st le s' ⟨a, rfl, e3⟩⟩
  | _ => exact g.elim
end
/-- .. in any context, the name a cell -/
theorem cSetWells {Φ : Gr → Nat → Prop} {fx : Fx} {k : Nat} {N : List Str} {sc : Scope} {elt tg iter : Expr} {scope : Scope} (own : List (Str × Nat)) {pos : Pos} {mi : M (List PV)} {g : Tg} {mw : M Unit} (i : Nat) (y : Str) {py spos : Pos} (c : DCtx Φ fx k N sc) (gc : GrC (gr fx)) (h : (lcD N sc i y && scF sc scope y) = true) (ok : blkC N sc scope own = true) (hn : noSet iter = true) (hids : g.ids.all ((own.map (·.2)).contains ·) = true) (hi : IOk fx tg iter mi) (hg : GBk fx scope tg g) (he : WBk fx scope elt mw) :
    StOk fx (.Assign [.Name y py] (.ListComp elt [⟨tg, iter, [], 0⟩] scope pos) spos) (mi >>= lcWM (own.map (·.2)) g mw i) := by
  simp only [Bool.and_eq_true] at h
  obtain ⟨h1, h2⟩ := h
  have n := c.ld i y h1
  have hy : sc.names.lookup y = some .cell := by
    unfold scF at h2
    split at h2
    · assumption
    · cases h2
  exact stWells' gc (sw_false (by rw [c.hs]; exact hy)) c.calm c.nd n.at_ n.loc n.fn (by rw [c.hN, c.hs]; exact ok) hn hids hi hg he
/-! the plain laws -/
theorem wellIxA {i : Nat} {me : M PV} {s : En} {P : Slot → En → Prop} {E : EP'} : wellIx i me s P E = ∃ D n, s[i]? = some (some (.clo D [.int n])) ∧ me s (fun d s' => match d with
  | .int k => (0 ≤ k ∧ k < n) ∧ P .well s'
  | _ => False) E := rfl
end FS
/-! max of a list or a tuple of ints -/
namespace FS
open PySem PySem.Spec PyProof.Rows L2 LamX
def rMaxT (K : PySem.W.Frag) : List V → Hp → VK → Prop := fun vs H Q => ∃ (a : Addr) (ns : List Int), vs = [V.ref a] ∧ (SqL K H a (ns.map V.int) ∨ SqT K H a (ns.map V.int)) ∧ 0 < ns.length ∧ ∀ m, m ∈ ns → (∀ y, y ∈ ns → y ≤ m) → Q (.int m) H
theorem maxFold : ∀ (xs : List Int) (x : Int), (xs.foldl (fun a y => if PySem.W.DatumOrd.lt a y = true then y else a) x) ∈ x :: xs ∧ ∀ y ∈ x :: xs, y ≤ xs.foldl (fun a y => if PySem.W.DatumOrd.lt a y = true then y else a) x
  | [], x => ⟨List.mem_singleton.mpr rfl, fun y hy => by rw [List.mem_singleton.mp hy]; exact Int.le_refl _⟩
  | z :: xs, x => by
    rw [List.foldl_cons]
    have lt : (PySem.W.DatumOrd.lt x z = true) = (x < z) := by
      show (decide (x < z) = true) = _
      rw [decide_eq_true_eq]
    by_cases c : x < z
    · rw [if_pos (lt ▸ c)]
      obtain ⟨h1, h2⟩ := maxFold xs z
      refine ⟨List.mem_cons_of_mem _ h1, fun y hy => ?_⟩
      rcases List.mem_cons.mp hy with rfl | hy
      · exact Int.le_trans (Int.le_of_lt c) (h2 z (List.mem_cons_self ..))
      · exact h2 y hy
    · rw [if_neg (lt ▸ c)]
      obtain ⟨h1, h2⟩ := maxFold xs x
      refine ⟨?_, fun y hy => ?_⟩
      · rcases List.mem_cons.mp h1 with h | h
        · rw [h]; exact List.mem_cons_self ..
        · exact List.mem_cons_of_mem _ (List.mem_cons_of_mem _ h)
      · rcases List.mem_cons.mp hy with rfl | hy
        · exact h2 y (List.mem_cons_self ..)
        · rcases List.mem_cons.mp hy with rfl | hy
          · exact Int.le_trans (Int.not_lt.mp c) (h2 x (List.mem_cons_self ..))
          · exact h2 y (List.mem_cons_of_mem _ hy)
theorem ints_reads {h : Heap} : ∀ {vs : List Value} {ns : List Int}, IntsAre vs ns → ReadsAll h vs (ns.map .int) []
  | _, _, .nil => .nil
  | _, _, .cons i t r => .cons (.int _ _) (ints_reads r)
theorem cr_maxT {X : Cx} (hc : X.calm = true) (hu : X.A.units + 200 < cLine) : CallR X (.builtin "max") (rMaxT X.K) := by
  intro pins s σ H vs us Q I r h
  obtain ⟨a, ns, rfl, hs, hne, q⟩ := h
  rcases hs with hs | hs
  · exact cr_max hc pins s σ H _ us Q I r ⟨a, ns, rfl, hs, hne, q⟩
  · obtain ⟨its, rv, ht, _⟩ := I.tuple hs
    rw [Vals.ref1 r]
    cases ns with
    | nil => exact absurd hne (Nat.lt_irrefl 0)
    | cons x xs =>
      refine PySem.W.max_tuple_datum (α := Int) (x := x) (xs := xs) (I.ok.hd hc) ht ⟨[], ints_reads rv.ints⟩ (by show X.A.units + 1 + 0 < _; omega) fun i v h' tk hi hv hk => ?_
      obtain ⟨as, hv⟩ := hv
      obtain ⟨h1, h2⟩ := maxFold xs x
      have hv : Reads h' v (.int (PySem.W.maxOf x xs)) as := hv
      cases hv
      exact ⟨.int _, H, I.kept hk, ⟨_, rfl⟩, q _ h1 h2⟩
def maxSM (d : PV) : M Res := fun s P E => match d with
  | .tuple xs => maxLM (.list xs) s P E
  | d => maxLM d s P E
theorem cMaxS {fx : Fx} (hc : fx.X.calm = true) (hu : fx.X.A.units + 200 < cLine) : Cal1 fx (.builtin "max") maxSM := by
  refine ⟨_, cr_maxT hc hu, fun F σ H env P E Q d v s pv hm hq => ?_⟩
  cases d <;> first | exact hm.elim | skip
  · rename_i xs
    obtain ⟨l, vs, rfl, sq, da⟩ := pv.lst s
    have hm : (match intsP xs with
      | some ns => 0 < ns.length ∧ ∀ m, m ∈ ns → (∀ y, y ∈ ns → y ≤ m) → P (.val (.int m)) env
      | none => False) := hm
    cases e : intsP xs with
    | none => rw [e] at hm; exact hm.elim
    | some ns =>
      rw [e] at hm
      rw [ints_v da e] at sq
      exact ⟨l, ns, rfl, .inl sq, hm.1, fun m h1 h2 => hq _ env F H _ (hm.2 m h1 h2) Stp.refl (EnLe.refl _) s (.int _)⟩
  · rename_i xs
    obtain ⟨l, vs, rfl, sq, da⟩ := pv.tup s
    have hm : (match intsP xs with
      | some ns => 0 < ns.length ∧ ∀ m, m ∈ ns → (∀ y, y ∈ ns → y ≤ m) → P (.val (.int m)) env
      | none => False) := hm
    cases e : intsP xs with
    | none => rw [e] at hm; exact hm.elim
    | some ns =>
      rw [e] at hm
      rw [ints_v da e] at sq
      exact ⟨l, ns, rfl, .inr sq, hm.1, fun m h1 h2 => hq _ env F H _ (hm.2 m h1 h2) Stp.refl (EnLe.refl _) s (.int _)⟩
theorem maxST {xs : List PV} {s : En} {P : Res → En → Prop} {E : EP'} : maxSM (.tuple xs) s P E = maxLM (.list xs) s P E := rfl
theorem maxSL {xs : List PV} {s : En} {P : Res → En → Prop} {E : EP'} : maxSM (.list xs) s P E = maxLM (.list xs) s P E := rfl
end FS
namespace FS
open PySem PySem.Spec PyProof.Rows L2 LamX
/-! from shelf to shelf: the end that stays -/
def Up (ns l : List Str) : Prop := l.Pairwise fun a b => ns.idxOf a < ns.idxOf b
instance (ns l : List Str) : Decidable (Up ns l) := by unfold Up; infer_instance
def fewL (ns : List Str) : List Str → Nat
  | [] => 0
  | a :: l => if Up ns (a :: l) then 0 else fewL ns l + 1
theorem few_le (ns : List Str) : ∀ l : List Str, fewL ns l ≤ l.length
  | [] => Nat.le_refl _
  | a :: l => by
    unfold fewL
    have := few_le ns l
    split <;> simp only [List.length_cons] <;> omega
theorem few_up (ns : List Str) : ∀ l : List Str, Up ns (l.drop (fewL ns l))
  | [] => .nil
  | a :: l => by
    unfold fewL
    split
    · assumption
    · exact few_up ns l
theorem few_least (ns : List Str) : ∀ (l : List Str) (j : Nat), j < fewL ns l → ¬ Up ns (l.drop j)
  | [], j, h => nomatch h
  | a :: l, 0, h => by
    unfold fewL at h
    split at h
    · exact absurd h (by omega)
    · assumption
  | a :: l, j + 1, h => by
    unfold fewL at h
    split at h
    · exact absurd h (by omega)
    · exact few_least ns l j (by omega)
theorem Up.drop {ns l : List Str} (h : Up ns l) (k : Nat) : Up ns (l.drop k) := List.Pairwise.sublist (List.drop_sublist ..) h
theorem up_mono {ns ms : List Str} {j k : Nat} (h : Up ns (ms.drop j)) (hjk : j ≤ k) : Up ns (ms.drop k) := by
  have e : ms.drop k = (ms.drop j).drop (k - j) := by rw [List.drop_drop]; congr 1; omega
  rw [e]
  exact h.drop _
theorem few_iff {ns ms : List Str} {k : Nat} : Up ns (ms.drop k) ↔ fewL ns ms ≤ k :=
  ⟨fun h => Nat.le_of_not_lt fun z => few_least ns ms k z h, fun h => up_mono (few_up ns ms) h⟩
theorem up_self : ∀ {ns : List Str}, ns.Nodup → Up ns ns := fun {ns} hn => by
  refine List.pairwise_iff_getElem.mpr fun i j hi hj hij => ?_
  rw [idx_get hn (List.getElem?_eq_getElem hi), idx_get hn (List.getElem?_eq_getElem hj)]
  exact hij
theorem up_filter {ns : List Str} (hn : ns.Nodup) (q : Str → Bool) : Up ns (ns.filter q) := List.Pairwise.sublist (List.filter_sublist ..) (up_self hn)
theorem up_eq {ns l : List Str} (hn : ns.Nodup) (hl : l.Nodup) (hs : ∀ z ∈ l, z ∈ ns) : Up ns l ↔ l = ns.filter fun z => l.contains z := by
  constructor
  · intro h
    refine perm_eqOn (r := fun a b => ns.idxOf a < ns.idxOf b) (fun a _ b _ h1 h2 => by omega) ?_ h (up_filter hn _)
    refine (List.perm_ext_iff_of_nodup hl (hn.sublist (List.filter_sublist ..))).mpr fun z => ?_
    rw [List.mem_filter, List.contains_iff_mem]
    exact ⟨fun h => ⟨hs z h, h⟩, fun h => h.2⟩
  · intro h
    rw [h]
    exact up_filter hn _
theorem up_sub {ns l : List Str} (hn : ns.Nodup) (hl : l.Nodup) (hs : ∀ z ∈ l, z ∈ ns) : l.isSublist ns = decide (Up ns l) := by
  rw [Bool.eq_iff_iff, List.isSublist_iff_sublist, decide_eq_true_eq]
  constructor
  · intro h
    exact List.Pairwise.sublist h (up_self hn)
  · intro h
    rw [(up_eq hn hl hs).mp h]
    exact List.filter_sublist ..
theorem lastsR_self : ∀ {l : List Str}, l.Nodup → lastsR l = l
  | [], _ => rfl
  | a :: l, h => by
    obtain ⟨h1, h2⟩ := List.nodup_cons.mp h
    show a :: (lastsR l).filter (fun z => z != a) = a :: l
    rw [lastsR_self h2]
    congr 1
    refine List.filter_eq_self.mpr fun z hz => ?_
    rw [bne_iff_ne]
    rintro rfl
    exact h1 hz
theorem lastsR_sub : ∀ l : List Str, (lastsR l).Sublist l
  | [] => .slnil
  | a :: l => by
    show (a :: (lastsR l).filter (fun z => z != a)).Sublist (a :: l)
    exact ((List.filter_sublist ..).trans (lastsR_sub l)).cons₂ a
theorem lasts_len_le (as : List Str) : (lastsL as).length ≤ as.length := by
  have := (lastsR_sub as.reverse).length_le
  rwa [List.length_reverse] at this
theorem lasts_rev {l : List Str} (h : l.Nodup) : lastsL l.reverse = l := by
  unfold lastsL
  rw [List.reverse_reverse]
  exact lastsR_self h
theorem led_take {ns ms : List Str} (hn : ns.Nodup) (hp : ms.Perm ns) (k : Nat) : ledL ns (ms.take k).reverse = ms ↔ fewL ns ms ≤ k := by
  have hm := hp.nodup_iff.mpr hn
  rw [led_lasts, lasts_rev (hm.sublist (List.take_sublist ..)), ← few_iff, up_eq hn (hm.sublist (List.drop_sublist ..)) (fun z hz => hp.mem_iff.mp (List.mem_of_mem_drop hz))]
  have e : (ns.filter fun z => !(ms.take k).contains z) = ns.filter fun z => (ms.drop k).contains z := List.filter_congr fun z hz => by
    rw [Bool.eq_iff_iff, Bool.not_eq_true', List.contains_iff_mem]
    have hz2 := hp.mem_iff.mpr hz
    have split : z ∈ ms.take k ∨ z ∈ ms.drop k := by
      rw [← List.mem_append, List.take_append_drop]
      exact hz2
    have dis : z ∈ ms.take k → z ∉ ms.drop k := fun h1 h2 => by
      have q : (ms.take k ++ ms.drop k).Nodup := by rw [List.take_append_drop]; exact hm
      exact (List.nodup_append.mp q).2.2 z h1 z h2 rfl
    constructor
    · intro h
      refine split.resolve_left fun q => ?_
      rw [List.contains_iff_mem.mpr q] at h
      cases h
    · intro h
      cases c : (ms.take k).contains z with
      | false => rfl
      | true => exact absurd h (dis (List.contains_iff_mem.mp c))
  rw [e]
  constructor
  · intro h
    have q : ms.take k ++ ns.filter (fun z => (ms.drop k).contains z) = ms.take k ++ ms.drop k := by rw [h, List.take_append_drop]
    exact (List.append_cancel_left q).symm
  · intro h
    conv => rhs; rw [← List.take_append_drop k ms]
    rw [← h]
/-- what leads there -/
theorem led_iff {ns ms r : List Str} (hn : ns.Nodup) (hp : ms.Perm ns) (hs : ∀ b ∈ r, b ∈ ns) : ledL ns r = ms ↔ lastsL r = ms.take (lastsL r).length ∧ fewL ns ms ≤ (lastsL r).length := by
  have hm := hp.nodup_iff.mpr hn
  have nl := lasts_nodup r
  constructor
  · intro h
    have h2 := h
    rw [led_lasts] at h2
    have e : ms.take (lastsL r).length = lastsL r := by rw [← h2, List.take_left' rfl]
    refine ⟨e.symm, (led_take hn hp _).mp ?_⟩
    rw [e, led_lasts, lasts_rev nl]
    exact h2
  · intro ⟨h1, h2⟩
    have q := (led_take hn hp _).mpr h2
    rw [← h1, led_lasts, lasts_rev nl] at q
    rw [led_lasts]
    exact q
theorem led_few {ns ms r : List Str} (hn : ns.Nodup) (hp : ms.Perm ns) (hs : ∀ b ∈ r, b ∈ ns) (h : ledL ns r = ms) : fewL ns ms ≤ r.length :=
  Nat.le_trans ((led_iff hn hp hs).mp h).2 (lasts_len_le r)
theorem led_only {ns ms r : List Str} (hn : ns.Nodup) (hp : ms.Perm ns) (hs : ∀ b ∈ r, b ∈ ns) (hl : r.length = fewL ns ms) : ledL ns r = ms ↔ r = (ms.take (fewL ns ms)).reverse := by
  constructor
  · intro h
    obtain ⟨h1, h2⟩ := (led_iff hn hp hs).mp h
    have h3 := lasts_len_le r
    have e : (lastsL r).length = r.length := by omega
    have e2 : lastsL r = r.reverse := by
      have s := lastsR_sub r.reverse
      exact s.eq_of_length (by rw [List.length_reverse]; exact e)
    rw [e2, List.length_reverse, hl] at h1
    rw [← h1, List.reverse_reverse]
  · intro h
    rw [h]
    exact (led_take hn hp _).mpr (Nat.le_refl _)
theorem few_lt {ns ms : List Str} (h1 : 1 ≤ ms.length) : fewL ns ms + 1 ≤ ms.length := by
  have q : Up ns (ms.drop (ms.length - 1)) := by
    have e : (ms.drop (ms.length - 1)).length = 1 := by rw [List.length_drop]; omega
    match ms.drop (ms.length - 1), e with
    | [a], _ => exact List.pairwise_singleton ..
  have := few_iff.mp q
  omega
/-! all rows of so many -/
def rowStep (ts : List Str) (found : List (List Str)) : List (List Str) := found.flatMap fun r => ts.map fun t => r ++ [t]
def rowsN (ts : List Str) : Nat → List (List Str)
  | 0 => [[]]
  | m + 1 => rowStep ts (rowsN ts m)
theorem rowsN_mem {ts : List Str} : ∀ {m : Nat} {r : List Str}, r ∈ rowsN ts m ↔ r.length = m ∧ ∀ z ∈ r, z ∈ ts
  | 0, r => by
    show r ∈ [[]] ↔ _
    rw [List.mem_singleton]
    constructor
    · rintro rfl
      exact ⟨rfl, fun z hz => nomatch hz⟩
    · intro h
      exact List.eq_nil_of_length_eq_zero h.1
  | m + 1, r => by
    show r ∈ (rowsN ts m).flatMap _ ↔ _
    rw [List.mem_flatMap]
    constructor
    · rintro ⟨p, hp, h⟩
      obtain ⟨t, ht, rfl⟩ := List.mem_map.mp h
      obtain ⟨h1, h2⟩ := rowsN_mem.mp hp
      refine ⟨by rw [List.length_append, h1]; rfl, fun z hz => ?_⟩
      rcases List.mem_append.mp hz with hz | hz
      · exact h2 z hz
      · rw [List.mem_singleton] at hz
        exact hz ▸ ht
    · intro ⟨h1, h2⟩
      rcases List.eq_nil_or_concat r with rfl | ⟨p, t, rfl⟩
      · cases h1
      · rw [List.concat_eq_append] at h1 h2 ⊢
        refine ⟨p, rowsN_mem.mpr ⟨by rw [List.length_append] at h1; simpa using h1, fun z hz => h2 z (List.mem_append_left _ hz)⟩, List.mem_map.mpr ⟨t, h2 t (List.mem_append_right _ (List.mem_singleton.mpr rfl)), rfl⟩⟩
theorem rowsN_nodup {ts : List Str} (ht : ts.Nodup) : ∀ m, (rowsN ts m).Nodup
  | 0 => by
    show ([[]] : List (List Str)).Nodup
    simp
  | m + 1 => by
    refine List.pairwise_flatMap.mpr ⟨fun p _ => ?_, ?_⟩
    · exact List.Pairwise.map _ (fun a b hne e => hne (List.singleton_inj.mp (List.append_cancel_left e))) ht
    · refine List.Pairwise.imp (fun {a b} hab p hp q hq e => ?_) (rowsN_nodup ht m)
      obtain ⟨u, _, rfl⟩ := List.mem_map.mp hp
      obtain ⟨v, _, rfl⟩ := List.mem_map.mp hq
      exact hab (List.append_inj_left' e rfl)
theorem rowStep_len {ts : List Str} {k : Nat} (h : ts.length ≤ k) (l : List (List Str)) : (rowStep ts l).length ≤ l.length * k :=
  flat_len (fun a => by rw [List.length_map]; exact h) l
theorem rowsN_len {ts : List Str} {k : Nat} (h : ts.length ≤ k) : ∀ m, (rowsN ts m).length ≤ k ^ m
  | 0 => Nat.le_refl _
  | m + 1 => by
    have := rowStep_len h (rowsN ts m)
    have := Nat.mul_le_mul_right k (rowsN_len h m)
    rw [Nat.pow_succ]
    show (rowStep ts (rowsN ts m)).length ≤ _
    omega
theorem filter_only {α : Type} {l : List α} {p : α → Bool} {a : α} (hn : l.Nodup) (ha : a ∈ l) (h : ∀ x ∈ l, p x = true ↔ x = a) : l.filter p = [a] := by
  have e : (l.filter p).Perm [a] := (List.perm_ext_iff_of_nodup (hn.sublist (List.filter_sublist ..)) (List.pairwise_singleton ..)).mpr fun x => by
    rw [List.mem_filter, List.mem_singleton]
    exact ⟨fun z => (h x z.1).mp z.2, fun z => by subst z; exact ⟨ha, (h x ha).mpr rfl⟩⟩
  exact List.perm_singleton.mp e
/-- the first k whose end stays -/
theorem first_stay {ns ms : List Str} : ((List.range (ms.length + 1)).filter fun k => decide (Up ns (ms.drop k)))[0]? = some (fewL ns ms) := by
  rw [← List.head?_eq_getElem?, List.head?_filter]
  refine List.find?_range_eq_some.mpr ⟨decide_eq_true (few_up ns ms), List.mem_range.mpr (by have := few_le ns ms; omega), fun j hj => ?_⟩
  rw [decide_eq_false (few_least ns ms j hj)]
  rfl
end FS
namespace FS
open PySem PySem.Spec PyProof.Rows L2 LamX
theorem whileM_inv {c : M Bool} {body : M Out} {P : Out → En → Prop} {E : EP'} (I : Nat → En → Prop) {n : Nat} {s : En} (h : I n s)
    (step : ∀ (n : Nat) (s : En) (R : En → Prop), I n s → (∀ m s2, m < n → I m s2 → R s2) → c s (fun k s1 => if k = true then body s1 (fun o s2 => match o with
      | .nx => R s2
      | .ct => R s2
      | .rt d => P (.rt d) s2
      | .bk => P .nx s2) E else P .nx s1) E) : whileM c body s P E := by
  have go : ∀ (fuel n : Nat) (s : En), n < fuel → I n s → whileN c body fuel s P E := fun fuel => by
    induction fuel with
    | zero => exact fun n s h => nomatch h
    | succ f ih => exact fun n s hn hI => step n s (fun s2 => whileN c body f s2 P E) hI fun m s2 hm h2 => ih m s2 (by omega) h2
  exact ⟨n + 1, go _ n s (Nat.lt_succ_self n) h⟩
theorem atI_neg {α : Type} {xs : List α} {j : Nat} (h1 : 1 ≤ j) (h2 : j ≤ xs.length) : L2.atI xs (-(j : Int)) = xs[xs.length - j]? := by
  unfold L2.atI L2.ixN
  rw [if_neg (by omega), if_pos (by omega)]
  show xs[_]? = _
  congr 1
  omega
theorem up_cons {ns l : List Str} {a b : Str} : Up ns (a :: b :: l) ↔ ns.idxOf a < ns.idxOf b ∧ Up ns (b :: l) := by
  unfold Up
  constructor
  · intro h
    obtain ⟨h1, h2⟩ := List.pairwise_cons.mp h
    exact ⟨h1 b (List.mem_cons_self ..), h2⟩
  · intro ⟨h1, h2⟩
    refine List.pairwise_cons.mpr ⟨fun z hz => ?_, h2⟩
    rcases List.mem_cons.mp hz with rfl | hz
    · exact h1
    · have := (List.pairwise_cons.mp h2).1 z hz
      omega
theorem up_step {ns ms : List Str} {k : Nat} {a b : Str} (ha : ms[k]? = some a) (hb : ms[k + 1]? = some b) : Up ns (ms.drop k) ↔ ns.idxOf a < ns.idxOf b ∧ Up ns (ms.drop (k + 1)) := by
  have lk := (List.getElem?_eq_some_iff.mp ha).1
  have lk2 := (List.getElem?_eq_some_iff.mp hb).1
  have e1 : ms.drop k = a :: ms.drop (k + 1) := by
    rw [List.drop_eq_getElem_cons lk]
    rw [List.getElem?_eq_getElem lk] at ha
    rw [Option.some.inj ha]
  have e2 : ms.drop (k + 1) = b :: ms.drop (k + 2) := by
    rw [List.drop_eq_getElem_cons lk2]
    rw [List.getElem?_eq_getElem lk2] at hb
    rw [Option.some.inj hb]
  rw [e1, e2, up_cons]
end FS
namespace FS
open PySem PySem.Spec PyProof.Rows L2 LamX
/-! ways to part things into lots; how many rows lead to a shelf -/
def stpR (r : List Int) : List Int := (List.range (r.length + 1)).map fun k => (if 0 < k then r.getD (k - 1) 0 else 0) + (k : Int) * r.getD k 0
def pRow : Nat → List Int
  | 0 => [1]
  | n + 1 => stpR (pRow n)
theorem pRow_len : ∀ n, (pRow n).length = n + 1
  | 0 => rfl
  | n + 1 => by
    show (stpR (pRow n)).length = _
    rw [stpR, List.length_map, List.length_range, pRow_len n]
def pvR (r : List Int) : PV := .list (r.map .int)
theorem pvR_get {r : List Int} {j : Nat} (h : j < r.length) : (r.map PyData.int)[j]? = some (.int (r.getD j 0)) := by
  rw [List.getElem?_map, List.getElem?_eq_getElem h]
  simp [List.getD, List.getElem?_eq_getElem h]
theorem pvR_get0 {r : List Int} {j : Nat} (h : j < r.length + 1) : (r.map PyData.int ++ [PyData.int 0])[j]? = some (.int (r.getD j 0)) := by
  by_cases q : j < r.length
  · rw [List.getElem?_append_left (by simpa using q), pvR_get q]
  · have : j = r.length := by omega
    subst this
    rw [List.getElem?_append_right (by simp)]
    simp [List.getD]
def pRows (n : Nat) : List PV := (List.range (n + 1)).map fun i => pvR (pRow i)
theorem pRows_succ (n : Nat) : pRows (n + 1) = pRows n ++ [pvR (pRow (n + 1))] := by
  unfold pRows
  rw [List.range_succ (n := n + 1), List.map_append]
  rfl
theorem pRows_len (n : Nat) : (pRows n).length = n + 1 := by simp [pRows]
theorem pRows_end (n : Nat) : atI (pRows n) (-1) = some (pvR (pRow n)) := by
  unfold pRows
  rw [List.range_succ, List.map_append]
  exact atI_end
theorem itemsPvR (r : List Int) : itemsP (pvR r) = some (r.map .int) := rfl
theorem map_stpR {r : List Int} {n : Nat} (hn : n = r.length + 1) : ((rngP 0 n).mapIdx fun j (_ : PV) => PyData.int ((if 0 < j then r.getD (j - 1) 0 else 0) + (j : Int) * r.getD j 0)) = (stpR r).map .int := by
  subst hn
  refine List.ext_getElem? fun i => ?_
  rw [List.getElem?_mapIdx, stpR, List.map_map, List.getElem?_map]
  unfold rngP
  rw [List.getElem?_map]
  by_cases q : i < r.length + 1
  · rw [List.getElem?_range q]; rfl
  · rw [List.getElem?_eq_none (by simpa using q)]; rfl
theorem pRow_fit : ∀ n ≤ 30, ∀ x ∈ pRow n, 0 ≤ x ∧ x < 2 ^ 200 := by decide +kernel

theorem sum_mapAdd {α : Type} (f g : α → Nat) : ∀ l : List α, (l.map fun x => f x + g x).sum = (l.map f).sum + (l.map g).sum
  | [] => rfl
  | x :: l => by
    rw [List.map_cons, List.map_cons, List.map_cons, List.sum_cons, List.sum_cons, List.sum_cons, sum_mapAdd f g l]
    omega
theorem sum_one {α : Type} [DecidableEq α] {b : α} {k : Nat} : ∀ {l : List α}, l.Nodup → (l.map fun z => if z = b then k else 0).sum = if b ∈ l then k else 0
  | [], _ => rfl
  | a :: l, h => by
    obtain ⟨h1, h2⟩ := List.nodup_cons.mp h
    rw [List.map_cons, List.sum_cons, sum_one h2]
    by_cases c : a = b
    · subst c
      rw [if_pos rfl, if_neg h1, if_pos (List.mem_cons_self ..)]
      omega
    · rw [if_neg c]
      by_cases d : b ∈ l
      · rw [if_pos d, if_pos (List.mem_cons_of_mem _ d)]
        omega
      · rw [if_neg d, if_neg fun z => by
          rcases List.mem_cons.mp z with e | e
          · exact c e.symm
          · exact d e]
theorem sum_zero {α : Type} {f : α → Nat} : ∀ {l : List α}, (∀ x ∈ l, f x = 0) → (l.map f).sum = 0
  | [], _ => rfl
  | a :: l, h => by
    rw [List.map_cons, List.sum_cons, h a (List.mem_cons_self ..), sum_zero fun x hx => h x (List.mem_cons_of_mem _ hx)]
theorem count_split {α β : Type} (p : α → Bool) (q : β → α → Bool) (ks : List β) : ∀ {l : List α}, (∀ r ∈ l, (if p r then 1 else 0) = (ks.map fun k => if q k r then 1 else 0).sum) → l.countP p = (ks.map fun k => l.countP (q k)).sum
  | [], _ => by
    rw [List.countP_nil]
    symm
    exact sum_zero fun _ _ => rfl
  | a :: l, h => by
    rw [List.countP_cons, count_split p q ks fun r hr => h r (List.mem_cons_of_mem _ hr)]
    have ha := h a (List.mem_cons_self ..)
    have e : (ks.map fun k => (a :: l).countP (q k)) = ks.map fun k => l.countP (q k) + if q k a then 1 else 0 := List.map_congr_left fun k _ => List.countP_cons
    rw [e, sum_mapAdd, ha]
theorem sum_indc {α : Type} (f : α → Bool) (c : Nat) : ∀ l : List α, (l.map fun z => if f z then c else 0).sum = (l.filter f).length * c
  | [] => by simp
  | a :: l => by
    rw [List.map_cons, List.sum_cons, sum_indc f c l]
    cases h : f a
    · rw [List.filter_cons_of_neg (by rw [h]; decide), if_neg (by decide)]
      omega
    · rw [List.filter_cons_of_pos h, if_pos rfl, List.length_cons, Nat.succ_mul]
      omega
theorem rows_cons {ts : List Str} (ht : ts.Nodup) (m : Nat) : (rowsN ts (m + 1)).Perm (ts.flatMap fun x => (rowsN ts m).map fun r => x :: r) := by
  refine (List.perm_ext_iff_of_nodup (rowsN_nodup ht _) ?_).mpr fun r => ?_
  · refine List.pairwise_flatMap.mpr ⟨fun x _ => ?_, ?_⟩
    · exact List.Pairwise.map _ (fun a b hne e => hne (List.cons.inj e).2) (rowsN_nodup ht m)
    · refine List.Pairwise.imp (fun {a b} hab p hp q hq e => ?_) ht
      obtain ⟨u, _, rfl⟩ := List.mem_map.mp hp
      obtain ⟨v, _, rfl⟩ := List.mem_map.mp hq
      exact hab (List.cons.inj e).1
  · rw [rowsN_mem, List.mem_flatMap]
    constructor
    · intro ⟨h1, h2⟩
      cases r with
      | nil => cases h1
      | cons x r => exact ⟨x, h2 x (List.mem_cons_self ..), List.mem_map.mpr ⟨r, rowsN_mem.mpr ⟨by simpa using h1, fun z hz => h2 z (List.mem_cons_of_mem _ hz)⟩, rfl⟩⟩
    · rintro ⟨x, hx, h⟩
      obtain ⟨p, hp, rfl⟩ := List.mem_map.mp h
      obtain ⟨h1, h2⟩ := rowsN_mem.mp hp
      exact ⟨by rw [List.length_cons, h1], fun z hz => by
        rcases List.mem_cons.mp hz with rfl | hz
        · exact hx
        · exact h2 z hz⟩
theorem lasts_consF (x : Str) (r : List Str) : lastsL (x :: r) = lastsL r ++ if x ∈ r then [] else [x] := by
  unfold lastsL
  rw [List.reverse_cons, lastsR_app]
  congr 1
  show [x].filter (fun z => !r.reverse.contains z) = _
  by_cases c : x ∈ r
  · rw [if_pos c, List.filter_cons_of_neg (by simp [c])]
    rfl
  · rw [if_neg c, List.filter_cons_of_pos (by simp [c])]
    rfl
/-- how many rows have these lasts -/
def cntL (ts : List Str) (m : Nat) (L : List Str) : Nat := (rowsN ts m).countP fun r => decide (lastsL r = L)
theorem cnt_step {ts L : List Str} (ht : ts.Nodup) (hL : L.Nodup) (hs : ∀ z ∈ L, z ∈ ts) (m : Nat) : cntL ts (m + 1) L = L.length * cntL ts m L + if L = [] then 0 else cntL ts m L.dropLast := by
  have e1 : cntL ts (m + 1) L = (ts.map fun x => (rowsN ts m).countP fun r => decide (lastsL (x :: r) = L)).sum := by
    unfold cntL
    rw [(rows_cons ht m).countP_eq, List.countP_flatMap]
    congr 1
    refine List.map_congr_left fun x _ => ?_
    show ((rowsN ts m).map _).countP _ = _
    rw [List.countP_map]
    rfl
  have e2 : ∀ x ∈ ts, ((rowsN ts m).countP fun r => decide (lastsL (x :: r) = L)) = (if L.contains x then cntL ts m L else 0) + if L.getLast? = some x then cntL ts m L.dropLast else 0 := fun x hx => by
    have key : ∀ r : List Str, lastsL (x :: r) = L ↔ (x ∈ L ∧ lastsL r = L) ∨ (L.getLast? = some x ∧ lastsL r = L.dropLast) := fun r => by
      rw [lasts_consF]
      by_cases c : x ∈ r
      · rw [if_pos c, List.append_nil]
        constructor
        · intro h
          exact .inl ⟨h ▸ lasts_mem.mpr c, h⟩
        · rintro (⟨_, h⟩ | ⟨h1, h2⟩)
          · exact h
          · exfalso
            have q : x ∈ L.dropLast := h2 ▸ lasts_mem.mpr c
            obtain ⟨init, rfl⟩ : ∃ init, L = init ++ [x] := by
              rcases List.eq_nil_or_concat L with rfl | ⟨i, y, rfl⟩
              · cases h1
              · rw [List.concat_eq_append] at h1 ⊢
                rw [List.getLast?_append] at h1
                have : y = x := Option.some.inj h1
                exact ⟨i, by rw [this]⟩
            rw [List.dropLast_append_of_ne_nil (by simp)] at q
            have q : x ∈ init := by simpa using q
            exact (List.nodup_append.mp hL).2.2 x q x (List.mem_singleton.mpr rfl) rfl
      · rw [if_neg c]
        constructor
        · intro h
          rw [← h]
          refine .inr ⟨by rw [List.getLast?_append]; rfl, ?_⟩
          rw [List.dropLast_append_of_ne_nil (by simp)]
          simp
        · rintro (⟨h1, h2⟩ | ⟨h1, h2⟩)
          · exact absurd (lasts_mem.mp (h2 ▸ h1)) c
          · rw [h2]
            rcases List.eq_nil_or_concat L with rfl | ⟨i, y, rfl⟩
            · cases h1
            · rw [List.concat_eq_append] at h1 ⊢
              rw [List.getLast?_append] at h1
              have : y = x := Option.some.inj h1
              rw [this, List.dropLast_append_of_ne_nil (by simp)]
              simp
    have dis : ∀ r : List Str, ¬ ((x ∈ L ∧ lastsL r = L) ∧ (L.getLast? = some x ∧ lastsL r = L.dropLast)) := fun r ⟨⟨h1, h2⟩, ⟨h3, h4⟩⟩ => by
      rw [h2] at h4
      have := congrArg List.length h4
      rw [List.length_dropLast] at this
      have : 0 < L.length := List.length_pos_of_mem h1
      omega
    have sp : ∀ l : List (List Str), l.countP (fun r => decide (lastsL (x :: r) = L)) = (if L.contains x then l.countP (fun r => decide (lastsL r = L)) else 0) + if L.getLast? = some x then l.countP (fun r => decide (lastsL r = L.dropLast)) else 0 := fun l => by
      induction l with
      | nil => simp
      | cons r l ih =>
        rw [List.countP_cons, ih, List.countP_cons, List.countP_cons]
        have k := key r
        have d := dis r
        have ce : (L.contains x = true) = (x ∈ L) := propext List.contains_iff_mem
        simp only [decide_eq_true_eq, k, ce]
        generalize l.countP (fun r => decide (lastsL r = L)) = u
        generalize l.countP (fun r => decide (lastsL r = L.dropLast)) = v
        have t : ∀ p : Prop, p = True ∨ p = False := fun p => (Classical.em p).elim (fun h => .inl (eq_true h)) fun h => .inr (eq_false h)
        rcases t (x ∈ L) with a1 | a1 <;> rcases t (L.getLast? = some x) with a2 | a2 <;> rcases t (lastsL r = L) with a3 | a3 <;> rcases t (lastsL r = L.dropLast) with a4 | a4
        · exact absurd ⟨⟨of_eq_true a1, of_eq_true a3⟩, ⟨of_eq_true a2, of_eq_true a4⟩⟩ d
        all_goals
          simp only [a1, a2, a3, a4, if_true, if_false, and_true, and_false, or_true, or_false, true_and, false_and, or_self, and_self, true_or, false_or]
          try omega
    exact sp _
  rw [e1, List.map_congr_left e2, sum_mapAdd]
  congr 1
  · rw [sum_indc]
    congr 1
    refine List.Perm.length_eq ((List.perm_ext_iff_of_nodup (ht.sublist (List.filter_sublist ..)) hL).mpr fun z => ?_)
    rw [List.mem_filter, List.contains_iff_mem]
    exact ⟨fun h => h.2, fun h => ⟨hs z h, h⟩⟩
  · rcases List.eq_nil_or_concat L with rfl | ⟨i, y, rfl⟩
    · rw [if_pos rfl]
      exact sum_zero fun x _ => if_neg (by simp)
    · rw [List.concat_eq_append] at hs ⊢
      rw [if_neg (by simp)]
      have e3 : (ts.map fun x => if (i ++ [y]).getLast? = some x then cntL ts m (i ++ [y]).dropLast else 0) = ts.map fun x => if x = y then cntL ts m (i ++ [y]).dropLast else 0 := List.map_congr_left fun x _ => by
        rw [List.getLast?_append]
        show (if some y = some x then _ else _) = _
        by_cases c : x = y
        · rw [if_pos (by rw [c]), if_pos c]
        · rw [if_neg (fun z => c (Option.some.inj z).symm), if_neg c]
      rw [e3, sum_one ht, if_pos (hs y (List.mem_append_right _ (List.mem_singleton.mpr rfl)))]
theorem cnt_row {ts : List Str} (ht : ts.Nodup) : ∀ (m : Nat) {L : List Str}, L.Nodup → (∀ z ∈ L, z ∈ ts) → ((cntL ts m L : Nat) : Int) = (pRow m).getD L.length 0
  | 0, L, hL, hs => by
    show (((([[]] : List (List Str)).countP fun r => decide (lastsL r = L) : Nat)) : Int) = ([1] : List Int).getD L.length 0
    cases L with
    | nil => rfl
    | cons a l => rfl
  | m + 1, L, hL, hs => by
    have h1 := cnt_row ht m hL hs
    have h2 := cnt_row ht m (L := L.dropLast) (hL.sublist (List.dropLast_sublist ..)) fun z hz => hs z ((List.dropLast_sublist _).subset hz)
    rw [cnt_step ht hL hs]
    rw [List.length_dropLast] at h2
    show _ = (stpR (pRow m)).getD L.length 0
    have rl := pRow_len m
    have big : ∀ k, m + 1 ≤ k → (pRow m).getD k 0 = 0 := fun k hk => by
      rw [List.getD_eq_getElem?_getD, List.getElem?_eq_none (by omega)]
      rfl
    have st : (stpR (pRow m)).getD L.length 0 = (if 0 < L.length then (pRow m).getD (L.length - 1) 0 else 0) + (L.length : Int) * (pRow m).getD L.length 0 := by
      rw [List.getD_eq_getElem?_getD, stpR, List.getElem?_map]
      by_cases c : L.length < (pRow m).length + 1
      · rw [List.getElem?_range c]
        rfl
      · rw [List.getElem?_eq_none (by rw [List.length_range]; omega), big _ (by omega), big _ (by omega)]
        simp
    rw [st, ← h1]
    cases L with
    | nil => simp
    | cons a l =>
      rw [if_neg (by simp), if_pos (by simp), ← h2]
      push_cast
      omega
/-- how many rows of m askings lead from one shelf to another: by how many unlike books are asked -/
def waysN (m n f : Nat) : Int := ((List.range (n + 1 - f)).map fun i => (pRow m).getD (f + i) 0).sum
theorem cast_sum : ∀ l : List Nat, ((l.sum : Nat) : Int) = (l.map fun (k : Nat) => (k : Int)).sum
  | [] => rfl
  | k :: l => by
    rw [List.sum_cons, List.map_cons, List.sum_cons, ← cast_sum l]
    omega
theorem ways_count {ns ms : List Str} (hn : ns.Nodup) (hp : ms.Perm ns) (m : Nat) : (((rowsN ns m).countP fun r => decide (ledL ns r = ms) : Nat) : Int) = waysN m ns.length (fewL ns ms) := by
  have hm := hp.nodup_iff.mpr hn
  have hl := hp.length_eq
  have ind : ∀ r ∈ rowsN ns m, (if decide (ledL ns r = ms) then 1 else 0) = ((List.range (ns.length + 1 - fewL ns ms)).map fun i => if decide (lastsL r = ms.take (fewL ns ms + i)) then 1 else 0).sum := fun r hr => by
    have hs := (rowsN_mem.mp hr).2
    have li := led_iff hn hp hs
    have ll := lasts_len hn hs
    by_cases c : fewL ns ms ≤ (lastsL r).length ∧ lastsL r = ms.take (lastsL r).length
    · obtain ⟨c1, c2⟩ := c
      rw [if_pos (decide_eq_true (li.mpr ⟨c2, c1⟩))]
      have e : ((List.range (ns.length + 1 - fewL ns ms)).map fun i => if decide (lastsL r = ms.take (fewL ns ms + i)) then 1 else 0) = (List.range (ns.length + 1 - fewL ns ms)).map fun i => if i = (lastsL r).length - fewL ns ms then 1 else 0 := List.map_congr_left fun i hi => by
        have hi := List.mem_range.mp hi
        by_cases ci : i = (lastsL r).length - fewL ns ms
        · rw [if_pos ci, ci, if_pos (decide_eq_true (by rw [show fewL ns ms + ((lastsL r).length - fewL ns ms) = (lastsL r).length by omega]; exact c2))]
        · rw [if_neg ci, if_neg]
          rw [decide_eq_true_eq]
          intro z
          have := congrArg List.length z
          rw [List.length_take] at this
          omega
      rw [e, sum_one List.nodup_range, if_pos (List.mem_range.mpr (by omega))]
    · have nl : ¬ ledL ns r = ms := fun z => c ⟨(li.mp z).2, (li.mp z).1⟩
      rw [if_neg (by rw [decide_eq_true_eq]; exact nl)]
      symm
      refine sum_zero fun i hi => if_neg ?_
      have hi := List.mem_range.mp hi
      rw [decide_eq_true_eq]
      intro z
      have := congrArg List.length z
      rw [List.length_take] at this
      have e : (lastsL r).length = fewL ns ms + i := by omega
      exact c ⟨by omega, by rw [e]; exact z⟩
  rw [count_split _ (fun i r => decide (lastsL r = ms.take (fewL ns ms + i))) _ ind, cast_sum, List.map_map]
  unfold waysN
  congr 1
  refine List.map_congr_left fun i hi => ?_
  have hi := List.mem_range.mp hi
  show ((cntL ns m (ms.take (fewL ns ms + i)) : Nat) : Int) = _
  rw [cnt_row hn m (hm.sublist (List.take_sublist ..)) fun z hz => hp.mem_iff.mp (List.mem_of_mem_take hz), List.length_take, show min (fewL ns ms + i) ms.length = fewL ns ms + i by have := few_le ns ms; omega]
end FS
namespace FS
open PySem PySem.Spec PyProof.Rows L2 LamX
/-! dicts: keys -/
def keyS : PV → Bool
  | .int _ => true
  | .str _ => true
  | _ => false
def keyT : PV → Bool
  | .tuple ds => match keyN (.tuple ds) with
    | some k => decide (k.depth ≤ 8)
    | none => false
  | _ => false
theorem keyS_d {d : PV} (h : keyS d = true) : ∃ k : L2.Key, d = keyD k := by
  cases d <;> first | cases h; done | skip
  · exact ⟨.inl _, rfl⟩
  · exact ⟨.inr _, rfl⟩
theorem keyT_d {d : PV} (h : keyT d = true) : ∃ ds k, d = .tuple ds ∧ keyN d = some k ∧ k.depth ≤ 8 := by
  cases d <;> first | cases h; done | skip
  rename_i ds
  have h : (match keyN (.tuple ds) with
    | some k => decide (k.depth ≤ 8)
    | none => false) = true := h
  cases e : keyN (.tuple ds) with
  | none => rw [e] at h; cases h
  | some k =>
    rw [e] at h
    exact ⟨ds, k, rfl, rfl, of_decide_eq_true h⟩
theorem keyS_D (k : L2.Key) : keyS (keyD k) = true := by cases k <;> rfl
theorem eqv_keyD (a b : L2.Key) : (keyD a).eqv (keyD b) = decide (a = b) := by
  cases a <;> cases b
  · rename_i i j
    show (i == j) = _
    by_cases h : i = j <;> simp [h]
  · exact (decide_eq_false fun z => by cases z).symm
  · exact (decide_eq_false fun z => by cases z).symm
  · rename_i i j
    show (i == j) = _
    by_cases h : i = j <;> simp [h]
mutual
theorem eqv_keyN : ∀ (d e : PV) {k l : NestedKey}, keyN d = some k → keyN e = some l → d.eqv e = decide (k = l)
  | .none, e, k, l, h, g => by
    cases h
    cases e <;> first | (cases g; done) | (cases g; rfl) | skip
    rename_i ds
    unfold keyN at g
    obtain ⟨m, _, rfl⟩ := Option.map_eq_some_iff.mp g
    exact (decide_eq_false fun z => by cases z).symm
  | .bool b, e, k, l, h, g => by
    cases h
    cases e <;> first | (cases g; done) | skip
    · cases g; exact (decide_eq_false fun z => by cases z).symm
    · rename_i c
      cases g
      cases b <;> cases c <;> rfl
    · rename_i i
      cases g
      show ((if b then 1 else 0) == i) = _
      by_cases h : (if b then (1 : Int) else 0) = i
      · rw [h]; simp
      · rw [decide_eq_false fun z => h (NestedKey.num.inj z)]
        simpa using h
    · cases g; exact (decide_eq_false fun z => by cases z).symm
    · rename_i ds
      unfold keyN at g
      obtain ⟨m, _, rfl⟩ := Option.map_eq_some_iff.mp g
      exact (decide_eq_false fun z => by cases z).symm
  | .int i, e, k, l, h, g => by
    cases h
    cases e <;> first | (cases g; done) | skip
    · cases g; exact (decide_eq_false fun z => by cases z).symm
    · rename_i c
      cases g
      show (i == (if c then 1 else 0)) = _
      by_cases h : i = (if c then (1 : Int) else 0)
      · rw [← h]; simp
      · rw [decide_eq_false fun z => h (NestedKey.num.inj z)]
        simpa using h
    · rename_i j
      cases g
      show (i == j) = _
      by_cases h : i = j
      · rw [h]; simp
      · rw [decide_eq_false fun z => h (NestedKey.num.inj z)]
        simpa using h
    · cases g; exact (decide_eq_false fun z => by cases z).symm
    · rename_i ds
      unfold keyN at g
      obtain ⟨m, _, rfl⟩ := Option.map_eq_some_iff.mp g
      exact (decide_eq_false fun z => by cases z).symm
  | .str x, e, k, l, h, g => by
    cases h
    cases e <;> first | (cases g; done) | skip
    · cases g; exact (decide_eq_false fun z => by cases z).symm
    · cases g; exact (decide_eq_false fun z => by cases z).symm
    · cases g; exact (decide_eq_false fun z => by cases z).symm
    · rename_i j
      cases g
      show (x == j) = _
      by_cases h : x = j
      · rw [h]; simp
      · rw [decide_eq_false fun z => h (NestedKey.text.inj z)]
        simpa using h
    · rename_i ds
      unfold keyN at g
      obtain ⟨m, _, rfl⟩ := Option.map_eq_some_iff.mp g
      exact (decide_eq_false fun z => by cases z).symm
  | .tuple ds, e, k, l, h, g => by
    unfold keyN at h
    obtain ⟨m, hm, rfl⟩ := Option.map_eq_some_iff.mp h
    cases e <;> first | (cases g; done) | (cases g; exact (decide_eq_false fun z => by cases z).symm) | skip
    rename_i es
    unfold keyN at g
    obtain ⟨n, hn, rfl⟩ := Option.map_eq_some_iff.mp g
    show PyData.eqvAll ds es = _
    rw [eqv_keysN ds es hm hn]
    by_cases z : m = n
    · rw [z]; simp
    · rw [decide_eq_false z, decide_eq_false fun y => z (NestedKey.tup.inj y)]
  | .list _, _, _, _, h, _ => by cases h
  | .dict _, _, _, _, h, _ => by cases h
theorem eqv_keysN : ∀ (ds es : List PV) {ks ls : List NestedKey}, keysN ds = some ks → keysN es = some ls → PyData.eqvAll ds es = decide (ks = ls)
  | [], [], _, _, h, g => by cases h; cases g; rfl
  | [], e :: es, _, _, h, g => by
    cases h
    unfold keysN at g
    split at g
    · cases g
      rfl
    · cases g
  | d :: ds, [], _, _, h, g => by
    cases g
    unfold keysN at h
    split at h
    · cases h
      rfl
    · cases h
  | d :: ds, e :: es, _, _, h, g => by
    unfold keysN at h g
    split at h
    · rename_i k ks e1 e2
      cases h
      split at g
      · rename_i l ls f1 f2
        cases g
        show (d.eqv e && PyData.eqvAll ds es) = _
        rw [eqv_keyN d e e1 f1, eqv_keysN ds es e2 f2]
        by_cases z : k = l
        · by_cases y : ks = ls
          · rw [z, y]; simp
          · rw [z, decide_eq_false y, decide_eq_false fun q => y (List.cons.inj q).2]; simp
        · rw [decide_eq_false z, decide_eq_false fun q => z (List.cons.inj q).1]; rfl
      · cases g
    · cases h
end
/-! look up, store -/
def lookP (kv : List (PV × PV)) (k : PV) : Option PV := (kv.find? fun p => p.1.eqv k).map (·.2)
def putP (kv : List (PV × PV)) (k v : PV) : List (PV × PV) := if kv.any (fun p => p.1.eqv k) then kv.map (fun p => if p.1.eqv k then (p.1, v) else p) else kv ++ [(k, v)]
theorem lookP_nil {k : PV} : lookP [] k = none := rfl
theorem lookP_cons {p : PV × PV} {kv : List (PV × PV)} {k : PV} : lookP (p :: kv) k = if p.1.eqv k then some p.2 else lookP kv k := by
  unfold lookP
  rw [List.find?_cons]
  cases p.1.eqv k <;> rfl
theorem look_any (k : PV) : ∀ kv : List (PV × PV), (lookP kv k).isSome = kv.any fun p => p.1.eqv k
  | [] => rfl
  | p :: kv => by
    rw [lookP_cons, List.any_cons, ← look_any k kv]
    cases p.1.eqv k <;> rfl
section
variable {K : PySem.W.Frag} {P : Program} {w : World} {F : Hp}
theorem KvR.look {kvs : List (L2.Key × V)} {kv : List (PV × PV)} (r : KvR K F kvs kv) (k : L2.Key) : (lookP kv (keyD k) = none ∧ valV kvs k = none) ∨ ∃ d v, lookP kv (keyD k) = some d ∧ valV kvs k = some v ∧ Dp K F v d := by
  induction r with
  | nil => exact .inl ⟨rfl, rfl⟩
  | @cons a v d p q h _ ih =>
    rw [lookP_cons, eqv_keyD]
    by_cases e : a = k
    · rw [decide_eq_true e, if_pos rfl, valV_pos (p := (a, v)) e]
      exact .inr ⟨d, v, rfl, rfl, h⟩
    · rw [decide_eq_false e, if_neg Bool.false_ne_true, valV_neg (p := (a, v)) e]
      exact ih
theorem KvR.any {kvs : List (L2.Key × V)} {kv : List (PV × PV)} (r : KvR K F kvs kv) (k : L2.Key) : (kvs.any fun p => decide (p.1 = k)) = kv.any fun p => p.1.eqv (keyD k) := by
  induction r with
  | nil => rfl
  | cons h _ ih => rw [List.any_cons, List.any_cons, ih, eqv_keyD]
theorem KvR.put {kvs : List (L2.Key × V)} {kv : List (PV × PV)} (r : KvR K F kvs kv) (k : L2.Key) {v : V} {d : PV} (h : Dp K F v d) : KvR K F (putK kvs k v) (putP kv (keyD k) d) := by
  unfold putK putP
  rw [r.any k]
  split
  · rename_i hh
    clear hh
    induction r with
    | nil => exact .nil
    | @cons a x e p q g _ ih =>
      rw [List.map_cons, List.map_cons]
      show KvR K F ((if a = k then (a, v) else (a, x)) :: _) ((if (keyD a).eqv (keyD k) then (keyD a, d) else (keyD a, e)) :: _)
      rw [eqv_keyD]
      by_cases z : a = k
      · rw [if_pos z, decide_eq_true z, if_pos rfl]
        exact .cons h ih
      · rw [if_neg z, decide_eq_false z, if_neg Bool.false_ne_true]
        exact .cons g ih
  · rename_i hh
    clear hh
    induction r with
    | nil => exact .cons h .nil
    | cons g _ ih => exact .cons g ih
theorem KvR.keys {kvs : List (L2.Key × V)} {kv : List (PV × PV)} (r : KvR K F kvs kv) : ∀ p ∈ kv, keyS p.1 = true := by
  induction r with
  | nil => intro p h; cases h
  | cons _ _ ih =>
    intro p h
    rcases List.mem_cons.mp h with rfl | h
    · exact keyS_D _
    · exact ih p h
theorem KvR.len {kvs : List (L2.Key × V)} {kv : List (PV × PV)} (r : KvR K F kvs kv) : kvs.length = kv.length := by
  induction r with
  | nil => rfl
  | cons _ _ ih => exact congrArg Nat.succ ih
abbrev XK3 := NestedKey × Addr × Value
theorem TkR.look {xs : List XK3} {kv : List (PV × PV)} (r : TkR K F xs kv) {dk : PV} {k : NestedKey} (hk : keyN dk = some k) : (lookP kv dk = none ∧ atKey xs k = none) ∨ ∃ d v p, lookP kv dk = some d ∧ atKey xs k = some p ∧ RelV v p.2 ∧ Dp K F v d := by
  induction r with
  | nil => exact .inl ⟨rfl, rfl⟩
  | @cons a b u v da d p q e1 e2 e3 h1 h2 h3 _ ih =>
    rw [lookP_cons, eqv_keyN da dk e1 hk]
    by_cases e : a = k
    · have z : atKey ((a, b, u) :: p) k = some (b, u) := by simp [atKey, e]
      rw [decide_eq_true e, if_pos rfl, z]
      exact .inr ⟨d, v, (b, u), rfl, rfl, h2, h3⟩
    · have z : atKey ((a, b, u) :: p) k = atKey p k := by simp [atKey, e]
      rw [decide_eq_false e, if_neg Bool.false_ne_true, z]
      exact ih
theorem TkR.put {xs : List XK3} {kv : List (PV × PV)} (r : TkR K F xs kv) {dk : PV} {k : NestedKey} (hk : keyN dk = some k) (hd : k.depth ≤ 8) (ht : ∃ ds, dk = .tuple ds) {b : Addr} (hb : Dp K F (.ref b) dk) {v : V} {u : Value} {d : PV} (ru : RelV v u) (h : Dp K F v d) : TkR K F (storedH xs k b u) (putP kv dk d) := by
  have e : (atKey xs k).isSome = kv.any fun p => p.1.eqv dk := by
    rw [← look_any]
    rcases r.look hk with ⟨h1, h2⟩ | ⟨_, _, _, h1, h2, _⟩ <;> rw [h1, h2] <;> rfl
  unfold storedH putP
  rw [e]
  clear e
  split
  · rename_i hh
    clear hh
    induction r with
    | nil => exact .nil
    | @cons a c w x da y p q e1 e2 e3 h1 h2 h3 _ ih =>
      rw [List.map_cons, List.map_cons]
      show TkR K F (putAt k u (a, c, w) :: _) ((if da.eqv dk then (da, d) else (da, y)) :: _)
      rw [eqv_keyN da dk e1 hk]
      unfold putAt
      by_cases z : a = k
      · rw [if_pos z, decide_eq_true z, if_pos rfl]
        exact .cons e1 e2 e3 h1 ru h ih
      · rw [if_neg z, decide_eq_false z, if_neg Bool.false_ne_true]
        exact .cons e1 e2 e3 h1 h2 h3 ih
  · rename_i hh
    clear hh
    induction r with
    | nil => exact .cons hk hd ht hb ru h .nil
    | cons e1 e2 e3 h1 h2 h3 _ ih => exact .cons e1 e2 e3 h1 h2 h3 ih
theorem TkR.len {xs : List XK3} {kv : List (PV × PV)} (r : TkR K F xs kv) : xs.length = kv.length := by
  induction r with
  | nil => rfl
  | cons _ _ _ _ _ _ _ ih => exact congrArg Nat.succ ih
theorem TkR.keys {xs : List XK3} {kv : List (PV × PV)} (r : TkR K F xs kv) : ∀ p ∈ kv, keyT p.1 = true := by
  induction r with
  | nil => intro p h; cases h
  | @cons a b u v da d p q e1 e2 e3 _ _ _ _ ih =>
    intro y h
    rcases List.mem_cons.mp h with rfl | h
    · obtain ⟨ds, rfl⟩ := e3
      show (match keyN (.tuple ds) with
        | some k => decide (k.depth ≤ 8)
        | none => false) = true
      rw [e1]
      exact decide_eq_true e2
    · exact ih y h
theorem keyST {d : PV} (h : keyS d = true) (g : keyT d = true) : False := by
  cases d <;> first | cases h; done | cases g
end
/-! as it lies -/
mutual
theorem keyN_is {X : Cx} {pins : List (Addr × Obj)} {σ : L2.St} {H : Hp} {s : Shared} (I : Inv X pins σ H s) : ∀ (d : PV) {k : NestedKey} {v : V} {u : Value}, keyN d = some k → Dp X.K H v d → RelV v u → NestedIs s.heap k u
  | .none, k, v, u, h, g, r => by
    cases h; cases g
    obtain rfl : u = .none := r
    exact .none
  | .bool b, k, v, u, h, g, r => by
    cases h; cases g
    obtain rfl : u = .bool b := r
    exact .bool rfl
  | .int i, k, v, u, h, g, r => by
    cases h; cases g
    obtain ⟨t, rfl⟩ := r
    exact .int _ _
  | .str x, k, v, u, h, g, r => by
    cases h; cases g
    obtain ⟨t, rfl⟩ := r
    exact .text _ _
  | .tuple ds, k, v, u, h, g, r => by
    unfold keyN at h
    obtain ⟨m, hm, rfl⟩ := Option.map_eq_some_iff.mp h
    cases g with
    | tup hs ha =>
      obtain ⟨its, rv, ⟨o, h1, h2, n, h3⟩, _⟩ := I.tuple hs
      obtain rfl : u = .ref _ := r
      exact .tup h1 h2 h3 (by simpa using keysN_is I ds hm ha rv)
  | .list _, _, _, _, h, _, _ => by cases h
  | .dict _, _, _, _, h, _, _ => by cases h
theorem keysN_is {X : Cx} {pins : List (Addr × Obj)} {σ : L2.St} {H : Hp} {s : Shared} (I : Inv X pins σ H s) : ∀ (ds : List PV) {ks : List NestedKey} {vs : List V} {us : List Value}, keysN ds = some ks → DpAll X.K H vs ds → Vals vs us → NestedAll s.heap ks us
  | [], _, _, _, h, g, r => by
    cases h; cases g; cases r
    exact .nil
  | d :: ds, _, _, _, h, g, r => by
    unfold keysN at h
    split at h
    · rename_i k ks e1 e2
      cases h
      cases g with
      | cons g1 g2 =>
        cases r with
        | cons r1 r2 => exact .cons (keyN_is I d e1 g1 r1) (keysN_is I ds e2 g2 r2)
    · cases h
end
section
variable {X : Cx} {pins : List (Addr × Obj)} {σ : L2.St} {F H : Hp} {s : Shared} {a : Addr} {o : HO} {kv : List (PV × PV)} {A : Around} {E : Value → Shared → Prop}
theorem DcO.asK (I : Inv X pins σ H s) (hr : Rd H a o) (d : DcO X.K X.prog X.w F a o kv) (f : ∀ p ∈ kv, keyS p.1 = true) :
    ∃ kvs vs, KvR X.K F kvs kv ∧ kvs.length ≤ sizeLine ∧ (a == sysModules) = false ∧ KV kvs vs ∧ s.heap.DictOf (mixKind X.prog X.w) a vs := by
  rcases d with ⟨kvs, rfl, r⟩ | ⟨xs, rfl, r, _, _⟩
  · obtain ⟨z, hd, vs, rel, dd⟩ := dk_rd I.hok hr
    exact ⟨kvs, vs, r, z, hd, rel, dd⟩
  · cases r with
    | cons e1 e2 e3 h1 h2 h3 t =>
      exact (keyST (f _ List.mem_cons_self) ((TkR.cons e1 e2 e3 h1 h2 h3 t).keys _ List.mem_cons_self)).elim
    | nil =>
      obtain ⟨⟨hs, ob, arr, ep, g1, g2, g3, g4⟩, _, _⟩ := (show ObjOk X.prog X.w H s.heap a (dicO a ([].map (entryOfKey (nestedKind X.prog X.w)))) from rd_of I.hok hr)
      have e : arr = #[] := by
        apply Array.toList_inj.mp
        exact g4
      subst e
      exact ⟨[], [], .nil, Nat.zero_le _, hs, .nil, ob, #[], ep, g1, g2, g3, fun _ h => by simp at h, .nil, List.nodup_nil⟩
theorem TkR.is (I : Inv X pins σ H s) (sub : Sub F H) {xs : List XK3} {kv : List (PV × PV)} (r : TkR X.K F xs kv) : ∀ x ∈ xs, (nestedKind X.prog X.w).is s.heap x.1 x.2.1 := by
  induction r with
  | nil => intro x h; cases h
  | @cons a b u v da d p q e1 e2 e3 h1 h2 h3 _ ih =>
    intro x h
    rcases List.mem_cons.mp h with rfl | h
    · exact ⟨keyN_is I da e1 (dp_sub sub _ h1) rfl, e2⟩
    · exact ih x h
theorem DcO.asT (I : Inv X pins σ H s) (sub : Sub F H) (hr : Rd H a o) (d : DcO X.K X.prog X.w F a o kv) (f : ∀ p ∈ kv, keyT p.1 = true) :
    ∃ xs, TkR X.K F xs kv ∧ xs.length ≤ sizeLine ∧ (a == sysModules) = false ∧ s.heap.DictOfH (nestedKind X.prog X.w) a xs := by
  rcases d with ⟨kvs, rfl, r⟩ | ⟨xs, rfl, r, n, l⟩
  · cases r with
    | cons h t => exact (keyST (keyS_D _) (f _ List.mem_cons_self)).elim
    | nil =>
      obtain ⟨z, hd, vs, rel, ob, es, ep, g1, g2, g3, _, g4, _⟩ := dk_rd I.hok hr
      cases rel
      have e : es = #[] := by
        apply Array.toList_inj.mp
        generalize es.toList = l at g4
        cases g4
        rfl
      subst e
      exact ⟨[], .nil, Nat.zero_le _, hd, ob, #[], ep, g1, g2, g3, rfl, fun _ h => (List.not_mem_nil h).elim, List.nodup_nil⟩
  · obtain ⟨⟨hs, ob, arr, ep, g1, g2, g3, g4⟩, _, _⟩ := (show ObjOk X.prog X.w H s.heap a (dicO a (xs.map (entryOfKey (nestedKind X.prog X.w)))) from rd_of I.hok hr)
    exact ⟨xs, r, l, hs, ob, arr, ep, g1, g2, g3, g4, r.is I sub, n⟩
/-- a key that fits the dict -/
def KFit (kv : List (PV × PV)) (dk : PV) : Prop := (keyS dk = true ∧ ∀ p ∈ kv, keyS p.1 = true) ∨ (keyT dk = true ∧ ∀ p ∈ kv, keyT p.1 = true)
theorem dc_typeIs (I : Inv X pins σ H s) (hr : Rd H a o) (d : DcO X.K X.prog X.w F a o kv) : s.TypeIs (.ref a) "dict" ∧ ∀ b, Value.ref a = .ref b → ∃ ob, s.heap.get? b = some ob ∧ ob.dict = none := by
  rcases d with ⟨kvs, rfl, r⟩ | ⟨xs, rfl, r, n, l⟩
  · obtain ⟨z, hd, vs, rel, dd⟩ := dk_rd I.hok hr
    refine ⟨dd.typeIs, fun b q => ?_⟩
    cases q
    obtain ⟨ob, _, _, h1, h2, _⟩ := dd
    exact ⟨ob, h1, h2.2.1⟩
  · obtain ⟨⟨hs, ob, arr, ep, g1, g2, g3, g4⟩, _, _⟩ := (show ObjOk X.prog X.w H s.heap a (dicO a (xs.map (entryOfKey (nestedKind X.prog X.w)))) from rd_of I.hok hr)
    refine ⟨⟨ob, g1, g2.1⟩, fun b q => ?_⟩
    cases q
    exact ⟨ob, g1, g2.2.1⟩
theorem relV_D {k : L2.Key} {y : V} {u : Value} (dy : Dp X.K F y (keyD k)) (ry : RelV y u) : RelV (kV k) u := by
  cases k <;> (cases dy; exact ry)
theorem keyT_at (I : Inv X pins σ H s) (sub : Sub F H) {dk : PV} {y : V} {u : Value} (h : keyT dk = true) (dy : Dp X.K F y dk) (ry : RelV y u) : ∃ k b, keyN dk = some k ∧ k.depth ≤ 8 ∧ (∃ ds, dk = .tuple ds) ∧ y = .ref b ∧ u = .ref b ∧ (nestedKind X.prog X.w).is s.heap k b := by
  obtain ⟨ds, k, rfl, e, l⟩ := keyT_d h
  have z := keyN_is I _ e (dp_sub sub _ dy) ry
  cases dy with
  | tup hs ha =>
    obtain rfl : u = .ref _ := ry
    exact ⟨k, _, e, l, ⟨ds, rfl⟩, rfl, rfl, z, l⟩
theorem dc_getItem {Q : Value → Shared → Prop} {dk y d} {u : Value} (hu : A.units + 9 < cLine) (I : Inv X pins σ H s) (sub : Sub F H) (hr : Rd H a o) (dc : DcO X.K X.prog X.w F a o kv) (f : KFit kv dk) (dy : Dp X.K F y dk) (ry : RelV y u) (l : lookP kv dk = some d)
    (h : ∀ v w' s', Inv X pins σ H s' → RelV v w' → Dp X.K F v d → Q w' s') : wpAny (model X.prog X.w) A (getItem (.ref a) u) Q E s := by
  rcases f with ⟨f1, f2⟩ | ⟨f1, f2⟩
  · obtain ⟨k, rfl⟩ := keyS_d f1
    obtain ⟨kvs, vs, r, z, hd, rel, dd⟩ := dc.asK I hr f2
    rcases r.look k with ⟨h1, _⟩ | ⟨d', v, h1, h2, h3⟩
    · rw [l] at h1; cases h1
    · rw [l] at h1; cases h1
      obtain ⟨w', hw, rw'⟩ := RelO.some_of (v := v) (o := valueAt vs k) (by rw [← h2]; exact rel.val k)
      exact wpAny_getItem_of (kV_is (relV_D dy ry)) dd.mapOf hw (h v w' _ (I.tok _) rw' h3)
  · obtain ⟨k, b, e, hd8, _, rfl, rfl, is⟩ := keyT_at I sub f1 dy ry
    obtain ⟨xs, r, z, hd, dd⟩ := dc.asT I sub hr f2
    rcases r.look e with ⟨h1, _⟩ | ⟨d', v, p, h1, h2, h3, h4⟩
    · rw [l] at h1; cases h1
    · rw [l] at h1; cases h1
      exact wpAny_getItem_heap (knd := nestedKind X.prog X.w) (show A.in1.units + 8 < cLine from by show A.units + 1 + 8 < cLine; omega) is dd h2 (h v p.2 _ (I.tok _) h3 h4)
theorem dc_in {Q : Value → Shared → Prop} {dk y} {u : Value} (hu : A.units + 9 < cLine) (I : Inv X pins σ H s) (sub : Sub F H) (hr : Rd H a o) (dc : DcO X.K X.prog X.w F a o kv) (f : KFit kv dk) (dy : Dp X.K F y dk) (ry : RelV y u)
    (h : ∀ s', Inv X pins σ H s' → Q (.bool (lookP kv dk).isSome) s') : wpAny (model X.prog X.w) A (compareOp .In u (.ref a)) Q E s := by
  rcases f with ⟨f1, f2⟩ | ⟨f1, f2⟩
  · obtain ⟨k, rfl⟩ := keyS_d f1
    obtain ⟨kvs, vs, r, z, hd, rel, dd⟩ := dc.asK I hr f2
    refine wpAny_in_of (kV_is (relV_D dy ry)) hd dd.mapOf ?_
    have q := (rel.val k).isSome_eq
    rcases r.look k with ⟨h1, h2⟩ | ⟨d', v, h1, h2, h3⟩ <;> rw [h2] at q <;> rw [h1] at h <;> rw [← q] <;> exact h _ (I.tok _)
  · obtain ⟨k, b, e, hd8, _, rfl, rfl, is⟩ := keyT_at I sub f1 dy ry
    obtain ⟨xs, r, z, hd, dd⟩ := dc.asT I sub hr f2
    refine wpAny_in_heap (knd := nestedKind X.prog X.w) (show A.in1.units + 8 < cLine from by show A.units + 1 + 8 < cLine; omega) is hd dd ?_
    rcases r.look e with ⟨h1, h2⟩ | ⟨d', v, p, h1, h2, h3⟩ <;> rw [h2] <;> rw [h1] at h <;> exact h _ (I.tok _)
theorem dc_notIn {Q : Value → Shared → Prop} {dk y} {u : Value} (hu : A.units + 9 < cLine) (I : Inv X pins σ H s) (sub : Sub F H) (hr : Rd H a o) (dc : DcO X.K X.prog X.w F a o kv) (f : KFit kv dk) (dy : Dp X.K F y dk) (ry : RelV y u)
    (h : ∀ s', Inv X pins σ H s' → Q (.bool (!(lookP kv dk).isSome)) s') : wpAny (model X.prog X.w) A (compareOp .NotIn u (.ref a)) Q E s := by
  rcases f with ⟨f1, f2⟩ | ⟨f1, f2⟩
  · obtain ⟨k, rfl⟩ := keyS_d f1
    obtain ⟨kvs, vs, r, z, hd, rel, dd⟩ := dc.asK I hr f2
    refine wpAny_notIn_of (kV_is (relV_D dy ry)) hd dd.mapOf ?_
    have q := (rel.val k).isSome_eq
    rcases r.look k with ⟨h1, h2⟩ | ⟨d', v, h1, h2, h3⟩ <;> rw [h2] at q <;> rw [h1] at h <;> rw [← q] <;> exact h _ (I.tok _)
  · obtain ⟨k, b, e, hd8, _, rfl, rfl, is⟩ := keyT_at I sub f1 dy ry
    obtain ⟨xs, r, z, hd, dd⟩ := dc.asT I sub hr f2
    refine wpAny_notIn_heap (knd := nestedKind X.prog X.w) (show A.in1.units + 8 < cLine from by show A.units + 1 + 8 < cLine; omega) is hd dd ?_
    rcases r.look e with ⟨h1, h2⟩ | ⟨d', v, p, h1, h2, h3⟩ <;> rw [h2] <;> rw [h1] at h <;> exact h _ (I.tok _)
theorem dc_get2 {Q : Value → Shared → Prop} {dk y} {u r : Value} {x : V} (hu : A.units + 9 < cLine) (I : Inv X pins σ H s) (sub : Sub F H) (hr : Rd H a o) (dc : DcO X.K X.prog X.w F a o kv) (f : KFit kv dk) (dy : Dp X.K F y dk) (ry : RelV y u) (rx : RelV x r)
    (h1 : lookP kv dk = none → ∀ s', Inv X pins σ H s' → Q r s') (h2 : ∀ d, lookP kv dk = some d → ∀ v w' s', Inv X pins σ H s' → RelV v w' → Dp X.K F v d → Q w' s') :
    wpAny (model X.prog X.w) A (call (.builtin "dict.get") [.ref a, u, r]) Q E s := by
  rcases f with ⟨f1, f2⟩ | ⟨f1, f2⟩
  · obtain ⟨k, rfl⟩ := keyS_d f1
    obtain ⟨kvs, vs, rr, z, hd, rel, dd⟩ := dc.asK I hr f2
    refine call_meetsIn PySem.F.slot_dict_get dd.typeIs PySem.F.entry_dict_get (PySem.F.args_dict_get_3 _ _ _) (meets_dict_get_default (mixKind X.prog X.w) a (kV_is (relV_D dy ry)) hd r) ⟨_, dd.mapOf, ?_⟩
    rcases rr.look k with ⟨e1, e2⟩ | ⟨d', v, e1, e2, e3⟩
    · have q := rel.val k
      rw [e2] at q
      rw [RelO.none_of q]
      exact h1 e1 _ (I.tok _)
    · obtain ⟨w', hw, rw'⟩ := RelO.some_of (v := v) (o := valueAt vs k) (by rw [← e2]; exact rel.val k)
      rw [hw]
      exact h2 _ e1 v w' _ (I.tok _) rw' e3
  · obtain ⟨k, b, e, hd8, _, rfl, rfl, is⟩ := keyT_at I sub f1 dy ry
    obtain ⟨xs, rr, z, hd, dd⟩ := dc.asT I sub hr f2
    refine call_meetsIn PySem.F.slot_dict_get dd.typeIs PySem.F.entry_dict_get (PySem.F.args_dict_get_3 _ _ _) (meetsH_dict_get_default (nestedKind X.prog X.w) a b hd r) ⟨show A.in1.units + 8 < cLine from by show A.units + 1 + 8 < cLine; omega, k, xs, is, dd, ?_⟩
    rcases rr.look e with ⟨e1, e2⟩ | ⟨d', v, p, e1, e2, e3, e4⟩
    · rw [e2]
      exact h1 e1 _ (I.tok _)
    · rw [e2]
      exact h2 _ e1 v p.2 _ (I.tok _) e3 e4
/-- d[y] = v -/
theorem dc_setItem {Q : Unit → Shared → Prop} {dk d : PV} {y v : V} {u r : Value} (hu : A.units + 9 < cLine) (I : Inv X pins σ H s) (sub : Sub F H) (hr : H a = some o) (dc : DcO X.K X.prog X.w F a o kv) (f : KFit kv dk) (dy : Dp X.K F y dk) (ry : RelV y u) (dv : Dp X.K F v d) (rv : RelV v r) (hz : kv.length < sizeLine)
    (h : ∀ o' s', Inv X pins σ (upd H a o') s' → DcO X.K X.prog X.w F a o' (putP kv dk d) → Q () s') : wpAny (model X.prog X.w) A (setItem (.ref a) u r) Q E s := by
  have mu : Mut (H a) := by
    rw [hr]
    rcases dc with ⟨kvs, rfl, _⟩ | ⟨xs, rfl, _⟩ <;> trivial
  rcases f with ⟨f1, f2⟩ | ⟨f1, f2⟩
  · obtain ⟨k, rfl⟩ := keyS_d f1
    obtain ⟨kvs, vs, rr, z, hd, rel, dd⟩ := dc.asK I (.inl hr) f2
    have l1 := rr.len
    have hz2 : vs.length ≤ sizeLine := by rw [← rel.length]; exact z
    have hl : (putK kvs k v).length ≤ sizeLine := by have := length_putK kvs k v; omega
    refine wpAny_setItem_pairs (hsz := hz2) (kV_is (relV_D dy ry)) dd fun h' dd' hs => ?_
    have he : ∃ q, h'.get? a = some q := let ⟨q, _, _, hq, _⟩ := dd'; ⟨q, hq⟩
    exact h _ _ (d_write I mu hs he (dk_new hl hd (rel.put k rv) dd')) (.inl ⟨_, rfl, rr.put k dv⟩)
  · obtain ⟨k, b, e, hd8, ht, rfl, rfl, is⟩ := keyT_at I sub f1 dy ry
    obtain ⟨xs, rr, z, hd, dd⟩ := dc.asT I sub (.inl hr) f2
    have l1 := rr.len
    refine wpAny_setItem_heap (knd := nestedKind X.prog X.w) (hsz := z) (show A.in1.units + 8 < cLine from by show A.units + 1 + 8 < cLine; omega) is dd fun h' dd' hs => ?_
    obtain ⟨q, es, ep, hq, h2, h3, h4, _, h5⟩ := dd'
    have tr := rr.put e hd8 ht dy rv dv
    have lz : (storedH xs k b r).length ≤ sizeLine := by
      rw [tr.len]
      unfold putP
      split
      · rw [List.length_map]; omega
      · rw [List.length_append]
        show kv.length + 1 ≤ _
        omega
    refine h (dicO a ((storedH xs k b r).map (entryOfKey (nestedKind X.prog X.w)))) _ (d_write I mu hs ⟨q, hq⟩ ⟨⟨hd, q, es, ep, hq, h2, h3, h4⟩, ⟨q, hq⟩, fun h1 h2 ⟨p1, p2, p3, p4, p5, p6⟩ st => ⟨p1, p2, p3, p4, st _ p5, p6⟩⟩) (.inr ⟨_, rfl, tr, h5, lz⟩)
end
end FS
namespace FS
open PySem PySem.Spec PyProof.Rows L2 LamX
/-! a dict is written -/
theorem heap_with (a : Addr) (ob : Obj) (h : ob.data ≠ .freed) : ∃ hp : Heap, hp.get? a = some ob := by
  refine ⟨⟨Array.replicate (a + 1) ob, default⟩, ?_⟩
  unfold Heap.get?
  rw [Array.getElem?_replicate, if_pos (by omega)]
  obtain ⟨c, d, dt, sl⟩ := ob
  cases dt <;> first | rfl | exact (h rfl).elim
theorem code_ne {a : Addr} {q : Str} {es : List DictEntry} : CodeO a q ≠ dicO a es := fun e => by
  obtain ⟨hp, hh⟩ := heap_with a { cls := .none, data := .fields #[.none, .str q 0] } (by intro z; cases z)
  have e2 := congrFun (HO.ext.inj e) hp
  have l : (∃ (oc : Obj) (vs : Array Value) (t : Tok), hp.get? a = some oc ∧ oc.data = .fields vs ∧ vs[1]? = some (.str q t)) := ⟨_, _, 0, hh, rfl, rfl⟩
  obtain ⟨_, o, arr, ep, h1, _, h2, _⟩ := e2.mp l
  rw [hh] at h1
  cases h1
  cases h2
section
variable {fx : Fx} {F F' H : Hp} {σ : L2.St} {env : En} {a : Addr} {o o' : HO} {kv kv' : List (PV × PV)} {i : Nat}
theorem DcO.code {K : PySem.W.Frag} {P : Program} {w : World} (h : DcO K P w F a o kv) (q : Str) : CodeO a q ≠ o := fun e => by
  rcases h with ⟨kvs, rfl, _⟩ | ⟨xs, rfl, _⟩
  · cases e
  · exact code_ne e
theorem tabs_updD {T : List (Addr × Str)} {D : Addr} (t : Tabs T H) (e : H D = some o) (n1 : ∀ ps, o ≠ .tbl ps) (n2 : ∀ q, CodeO D q ≠ o) : Tabs T (upd H D o') := fun p hp => by
  obtain ⟨ps, h1, h2, h3⟩ := t p hp
  refine ⟨ps, ?_, h2, fun pos cv hc => ?_⟩
  · have : p.1 ≠ D := fun z => by
      rw [z, e] at h1
      exact n1 ps (Option.some.inj h1)
    rw [upd_ne this]
    exact h1
  · obtain ⟨c, e1, e2⟩ := h3 pos cv hc
    refine ⟨c, e1, ?_⟩
    have : c ≠ D := fun z => by
      subst z
      rw [e] at e2
      exact n2 _ (Option.some.inj e2).symm
    rw [upd_ne this]
    exact e2
theorem SOk.cD (h : SOk fx F σ H env) (e : H a = some o) (d : DcO fx.X.K fx.X.prog fx.X.w F a o kv) (nF : F a = none) (n0 : fx.H0 a = none) : COk fx F (upd H a o') := by
  refine ⟨fun b x q => ?_, h.c.f0, fun b x q1 q2 q3 => ?_, h.c.fresh, fun b q => ?_, tabs_updD h.c.tabs e d.tbl d.code, h.c.tn⟩
  · have : b ≠ a := fun z => by rw [z, nF] at q; cases q
    obtain ⟨k1, k2⟩ := h.c.sub b x q
    refine ⟨fun z => ?_, fun z => by rw [upd_ne this]; exact k2 z⟩
    obtain ⟨x1, y1, z1, w1, w2⟩ := k1 z
    exact ⟨x1, y1, z1, by rw [upd_ne this]; exact w1, w2⟩
  · have : b ≠ a := fun z => by rw [z, n0] at q1; cases q1
    rw [upd_ne this]
    exact h.c.h0 b x q1 q2 q3
  · by_cases z : b = a
    · subst z
      rw [upd_same]
      simp
    · rw [upd_ne z]
      exact h.c.mono b q
theorem SOk.otherD (h : SOk fx F σ H env) (e : env[i]? = some (some (.dic kv))) (ev : σ[i]? = some (some (.ref a))) (ho : H a = some o) (d : DcO fx.X.K fx.X.prog fx.X.w F a o kv) {j : Nat} {s : Slot} (q : env[j]? = some (some s)) (n : i ≠ j) : ∃ v, σ[j]? = some (some v) ∧ SlotOk fx F (upd H a o') s v := by
  obtain ⟨v, e1, e2⟩ := h.slot j s q
  refine ⟨v, e1, ?_⟩
  cases s with
  | val d => exact e2
  | own us =>
    obtain ⟨b, vs', rfl, g1, g2⟩ := e2
    have : b ≠ a := fun z => by
      subst z
      rw [ho] at g1
      cases g1
      exact d.lst
    exact ⟨b, vs', rfl, by rw [upd_ne this]; exact g1, g2⟩
  | well => exact e2
  | clo i cs => exact e2
  | dic p =>
    obtain ⟨b, oo, rfl, g1, g2⟩ := e2
    have : b ≠ a := fun z => n (h.sepS i j _ _ _ e q trivial trivial ev (z ▸ e1))
    exact ⟨b, oo, rfl, by rw [upd_ne this]; exact g1, g2⟩
  | dcf p => exact e2
theorem SOk.writeDic (h : SOk fx F σ H env) (e : env[i]? = some (some (.dic kv))) (ev : σ[i]? = some (some (.ref a))) (ho : H a = some o) (d : DcO fx.X.K fx.X.prog fx.X.w F a o kv) (nF : F a = none) (n0 : fx.H0 a = none) (d' : DcO fx.X.K fx.X.prog fx.X.w F a o' kv') :
    SOk fx F σ (upd H a o') (env.set i (some (.dic kv'))) := by
  refine ⟨h.cD ho d nF n0, by rw [List.length_set]; exact h.len, fun j s q => ?_, fun j k s1 s2 w q1 q2 m1 m2 q3 q4 => ?_⟩
  · rcases set_get q with ⟨rfl, q, _⟩ | ⟨n, q⟩
    · cases q
      exact ⟨.ref a, ev, a, o', rfl, upd_same, nF, n0, d'⟩
    · exact h.otherD e ev ho d q n
  · have back : ∀ {j : Nat} {t : Slot}, (env.set i (some (.dic kv')))[j]? = some (some t) → t.mine → ∃ t' : Slot, env[j]? = some (some t') ∧ t'.mine := fun {j t} q m => by
      rcases set_get q with ⟨rfl, _, _⟩ | ⟨_, q⟩
      · exact ⟨.dic kv, e, trivial⟩
      · exact ⟨t, q, m⟩
    obtain ⟨us', q1, n1⟩ := back q1 m1
    obtain ⟨ws'', q2, n2⟩ := back q2 m2
    exact h.sepS j k us' ws'' w q1 q2 n1 n2 q3 q4
theorem SOk.freezeD (h : SOk fx F σ H env) (e : env[i]? = some (some (.dic kv))) (ev : σ[i]? = some (some (.ref a))) (ho : H a = some o) (d : DcO fx.X.K fx.X.prog fx.X.w F a o kv) (nF : F a = none) (n0 : fx.H0 a = none) (q : Obj) :
    Same F (upd F a (.frz q o)) ∧ SOk fx (upd F a (.frz q o)) σ (upd H a (.frz q o)) (env.set i (some (.dcf kv))) := by
  have sm : Same F (upd F a (.frz q o)) := same_upd_none nF
  have hi : i < env.length := (List.getElem?_eq_some_iff.mp e).1
  have s1 : SOk fx F σ (upd H a (.frz q o)) (env.set i none) := by
    refine ⟨h.cD ho d nF n0, by rw [List.length_set]; exact h.len, fun j s q => ?_, fun j k s1 s2 w q1 q2 m1 m2 q3 q4 => ?_⟩
    · rcases set_get q with ⟨rfl, q, _⟩ | ⟨n, q⟩
      · cases q
      · exact h.otherD e ev ho d q n
    · rcases set_get q1 with ⟨rfl, q1, _⟩ | ⟨_, q1⟩
      · cases q1
      rcases set_get q2 with ⟨rfl, q2, _⟩ | ⟨_, q2⟩
      · cases q2
      exact h.sepS j k s1 s2 w q1 q2 m1 m2 q3 q4
  have nd : NoD (.frz q o) := by
    rcases d with ⟨_, rfl, _⟩ | ⟨_, rfl, _⟩ <;> trivial
  have s2 := s1.lay (o := .frz q o) upd_same nF n0 nd (by intro z; cases z) trivial fun j ys g1 g2 => by
    rcases set_get g1 with ⟨_, z, _⟩ | ⟨n, g1⟩
    · cases z
    · exact n (h.sepS i j _ _ _ e g1 trivial trivial ev g2)
  have s3 := s2.set (i := i) (s := .dcf kv) (v := .ref a) ⟨a, q, o, rfl, upd_same, d.same sm⟩ fun z => z.elim
  refine ⟨sm, ?_⟩
  rw [List.set_set] at s3
  have es : σ.set i (some (.ref a)) = σ := by
    apply List.ext_getElem?
    intro j
    by_cases z : i = j
    · subst z
      rw [List.getElem?_set_self (by rw [← h.len]; exact hi), ev]
    · rw [List.getElem?_set_ne z]
  rw [es] at s3
  exact s3
end
/-! ### rules -/
def dcAt (i : Nat) : M (List (PV × PV)) := fun s P _ => match s[i]? with
  | some (some (.dic kv)) => P kv s
  | some (some (.dcf kv)) => P kv s
  | _ => False
def dicAt (i : Nat) : M (List (PV × PV)) := fun s P _ => match s[i]? with
  | some (some (.dic kv)) => P kv s
  | _ => False
/-- a dict that an expression gives -/
def DcR (fx : Fx) (F : Hp) (H : Hp) (v : V) (kv : List (PV × PV)) : Prop := ∃ a o, v = .ref a ∧ Rd H a o ∧ DcO fx.X.K fx.X.prog fx.X.w F a o kv
section
variable {fx : Fx} {i : Nat} {x : Str} {p pos p2 apos : Pos} {e e2 : Expr} {me me2 : M PV}
theorem dcAt_run {α : Type} {f : List (PV × PV) → M α} {s : En} {P : α → En → Prop} {E : EP'} (h : (dcAt i >>= f) s P E) : ∃ kv sl, s[i]? = some (some sl) ∧ (sl = .dic kv ∨ sl = .dcf kv) ∧ f kv s P E := by
  have h : dcAt i s (fun a s' => f a s' P E) E := h
  unfold dcAt at h
  split at h
  · exact ⟨_, _, by assumption, .inl rfl, h⟩
  · exact ⟨_, _, by assumption, .inr rfl, h⟩
  · exact h.elim
theorem dicAt_run {α : Type} {f : List (PV × PV) → M α} {s : En} {P : α → En → Prop} {E : EP'} (h : (dicAt i >>= f) s P E) : ∃ kv, s[i]? = some (some (.dic kv)) ∧ f kv s P E := by
  have h : dicAt i s (fun a s' => f a s' P E) E := h
  unfold dicAt at h
  split at h
  · exact ⟨_, by assumption, h⟩
  · exact h.elim
theorem dc_slot {F H : Hp} {σ : L2.St} {env : En} {sl : Slot} {kv : List (PV × PV)} (s : SOk fx F σ H env) (e : env[i]? = some (some sl)) (h : sl = .dic kv ∨ sl = .dcf kv) : ∃ a o, σ[i]? = some (some (.ref a)) ∧ Rd H a o ∧ DcO fx.X.K fx.X.prog fx.X.w F a o kv := by
  obtain ⟨v, ev, so⟩ := s.slot i sl e
  rcases h with rfl | rfl
  · obtain ⟨a, o, rfl, h1, _, _, h2⟩ := so
    exact ⟨a, o, ev, .inl h1, h2⟩
  · obtain ⟨a, q, o, rfl, h1, h2⟩ := so
    exact ⟨a, o, ev, .inr ⟨q, s.c.sub.at h1 (by intro z; cases z)⟩, h2⟩
/-- d[e] -/
def tDcGet (X : Cx) (td ty : TE) : TE := fun σ H Q => td σ H fun x H1 => ty σ H1 fun y H2 => ∃ F a o kv dk d, x = .ref a ∧ Rd H2 a o ∧ Sub F H2 ∧ DcO X.K X.prog X.w F a o kv ∧ KFit kv dk ∧ Dp X.K F y dk ∧ lookP kv dk = some d ∧ ∀ v, Dp X.K F v d → Q v H2
theorem pe_dcget {X : Cx} {td ty : TE} {o i : Expr} (hu : X.A.units + 9 < cLine) (ho : PE X o td) (hi : PE X i ty) (hs : NoSl i) : PE X (.Subscript o i pos) (tDcGet X td ty) := by
  refine ⟨fun pins s σ H Q I h => ?_⟩
  refine subD_of PySem.F.slot_dict_getitem.lookup hs (thn (ho.run pins s σ H _ I h) fun u s1 ⟨x, H1, I1, rx, q1⟩ => thn (hi.run pins s1 σ H1 _ I1 q1) fun iv s2 ⟨y, H2, I2, ry, F, a, o, kv, dk, d, ex, hr, sub, dc, f, dy, l, q2⟩ => ?_)
  subst ex
  obtain rfl : u = Value.ref a := rx
  exact ⟨(dc_typeIs I2 hr dc).1, dc_getItem hu I2 sub hr dc f dy ry l fun v w' s3 I3 rw' dv => ⟨v, H2, I3, rw', q2 v dv⟩⟩
theorem rDGet (hu : fx.X.A.units + 9 < cLine) (n : NameOk fx i x) (hs : NoSl e) (he : EOk fx e me) : ROk fx (.Subscript (.Name x p) e pos) (dcAt i >>= fun _ => me >>= fun k => dcAt i >>= fun kv => M.need (KFit kv k) >>= fun _ => optM (lookP kv k) >>= fun d => pure (.val d)) := by
  obtain ⟨t, pe, se⟩ := he.ex
  refine ⟨_, pe_dcget hu (pe_var n.at_ n.vis n.d1 n.d2) pe hs, fun F σ H env P E Q s hm hq hx => ?_⟩
  obtain ⟨kv, sl, e0, h0, hm⟩ := dcAt_run hm
  obtain ⟨a, o, ev, _, _⟩ := dc_slot s e0 h0
  refine ⟨.ref a, ev, se F σ H env _ E _ s hm (fun k env1 F1 H1 y g st le s1 dy => ?_) hx⟩
  obtain ⟨kv1, sl1, e1, h1, g⟩ := dcAt_run g
  obtain ⟨a1, o1, ev1, r1, d1⟩ := dc_slot s1 e1 h1
  rw [ev] at ev1
  cases ev1
  obtain ⟨f, g⟩ := g
  obtain ⟨d, l, g⟩ := optM_run g
  exact ⟨F1, a, o1, kv1, k, d, rfl, r1, s1.c.sub, d1, f, dy, l, fun v dv => hq (.val d) env1 F1 H1 v g st le s1 dv⟩
/-- e in d -/
def rDcIn (X : Cx) (neg : Bool) : R2 := fun x y H Q => ∃ F a o kv dk, y = .ref a ∧ Rd H a o ∧ Sub F H ∧ DcO X.K X.prog X.w F a o kv ∧ KFit kv dk ∧ Dp X.K F x dk ∧ Q (.bl (if neg then !(lookP kv dk).isSome else (lookP kv dk).isSome)) H
theorem op_dcin {X : Cx} (hu : X.A.units + 9 < cLine) : OpR X (compareOp .In) (rDcIn X false) := fun pins s σ H x y u w Q I rx ry ⟨F, a, o, kv, dk, ey, hr, sub, dc, f, dx, q⟩ => by
  subst ey
  obtain rfl : w = Value.ref a := ry
  exact dc_in hu I sub hr dc f dx rx fun s' I' => ⟨.bl _, H, I', rfl, q⟩
theorem op_dcnotin {X : Cx} (hu : X.A.units + 9 < cLine) : OpR X (compareOp .NotIn) (rDcIn X true) := fun pins s σ H x y u w Q I rx ry ⟨F, a, o, kv, dk, ey, hr, sub, dc, f, dx, q⟩ => by
  subst ey
  obtain rfl : w = Value.ref a := ry
  exact dc_notIn hu I sub hr dc f dx rx fun s' I' => ⟨.bl _, H, I', rfl, q⟩
def inD (i : Nat) (neg : Bool) (k : PV) : M Bool := dcAt i >>= fun kv => M.need (KFit kv k) >>= fun _ => pure (if neg then !(lookP kv k).isSome else (lookP kv k).isSome)
theorem tDIn' (hu : fx.X.A.units + 9 < cLine) (n : NameOk fx i x) (he : EOk fx e me) (neg : Bool) {op : CmpOp} (ho : OpR fx.X (compareOp op) (rDcIn fx.X neg)) (hm : behindInMarks op (.Name x p) = false) : TOk fx (.Compare e [op] [.Name x p] pos) (me >>= inD i neg) := by
  obtain ⟨t, pe, se⟩ := he.ex
  refine ⟨_, pt_cmpR ho pe (pe_var n.at_ n.vis n.d1 n.d2) hm, fun F σ H env P E Q s hm hq hx => ?_⟩
  refine se F σ H env _ E _ s hm (fun k env1 F1 H1 y g st le s1 dy => ?_) hx
  obtain ⟨kv1, sl1, e1, h1, g⟩ := dcAt_run g
  obtain ⟨a1, o1, ev1, r1, d1⟩ := dc_slot s1 e1 h1
  obtain ⟨f, g⟩ := g
  exact ⟨.ref a1, ev1, F1, a1, o1, kv1, k, rfl, r1, s1.c.sub, d1, f, dy, _, rfl, hq _ env1 F1 H1 _ g st le s1 rfl⟩
theorem tDIn (hu : fx.X.A.units + 9 < cLine) (n : NameOk fx i x) (he : EOk fx e me) : TOk fx (.Compare e [.In] [.Name x p] pos) (me >>= inD i false) := tDIn' hu n he false (op_dcin hu) rfl
theorem tDNotIn (hu : fx.X.A.units + 9 < cLine) (n : NameOk fx i x) (he : EOk fx e me) : TOk fx (.Compare e [.NotIn] [.Name x p] pos) (me >>= inD i true) := tDIn' hu n he true (op_dcnotin hu) rfl
theorem rDIn' (hu : fx.X.A.units + 9 < cLine) (n : NameOk fx i x) (he : EOk fx e me) (neg : Bool) {op : CmpOp} (ho : OpR fx.X (compareOp op) (rDcIn fx.X neg)) (hm : behindInMarks op (.Name x p) = false) : ROk fx (.Compare e [op] [.Name x p] pos) (me >>= inD i neg >>= fun b => pure (.val (.bool b))) := by
  obtain ⟨t, pe, se⟩ := he.ex
  refine ⟨_, pe_cmpR ho pe (pe_var n.at_ n.vis n.d1 n.d2) hm, fun F σ H env P E Q s hm hq hx => ?_⟩
  refine se F σ H env _ E _ s hm (fun k env1 F1 H1 y g st le s1 dy => ?_) hx
  obtain ⟨kv1, sl1, e1, h1, g⟩ := dcAt_run g
  obtain ⟨a1, o1, ev1, r1, d1⟩ := dc_slot s1 e1 h1
  obtain ⟨f, g⟩ := g
  exact ⟨.ref a1, ev1, F1, a1, o1, kv1, k, rfl, r1, s1.c.sub, d1, f, dy, hq _ env1 F1 H1 _ g st le s1 (.bl _)⟩
theorem rDIn (hu : fx.X.A.units + 9 < cLine) (n : NameOk fx i x) (he : EOk fx e me) : ROk fx (.Compare e [.In] [.Name x p] pos) (me >>= inD i false >>= fun b => pure (.val (.bool b))) := rDIn' hu n he false (op_dcin hu) rfl
/-- d.get(e, e2) -/
def tDcGet2 (X : Cx) (td ty tx : TE) : TE := fun σ H Q => td σ H fun x H1 => ∃ F1 a o1 kv1, x = .ref a ∧ Rd H1 a o1 ∧ DcO X.K X.prog X.w F1 a o1 kv1 ∧ ty σ H1 fun y H2 => tx σ H2 fun z H3 => ∃ F o kv dk, Rd H3 a o ∧ Sub F H3 ∧ DcO X.K X.prog X.w F a o kv ∧ KFit kv dk ∧ Dp X.K F y dk ∧ (lookP kv dk = none → Q z H3) ∧ ∀ d, lookP kv dk = some d → ∀ v, Dp X.K F v d → Q v H3
theorem pe_dcget2 {X : Cx} {td ty tx : TE} {o e f : Expr} {cpos : Pos} (hu : X.A.units + 9 < cLine) (ho : PE X o td) (he : PE X e ty) (hf : PE X f tx) (m : M2 X o "get" apos e f cpos) : PE X (.Call (.Attribute o "get" apos) [e, f] [] cpos) (tDcGet2 X td ty tx) := by
  refine ⟨fun pins s σ H Q I h => ?_⟩
  refine wpAny_Call_method m.base m.few m.line PySem.F.plainAttrs_dict PySem.F.slot_dict_get PySem.F.type_dict_get (thn (ho.run pins s σ H _ I h) fun u s1 ⟨x, H1, I1, rx, F1, a, o1, kv1, ex, r1, d1, q1⟩ => ?_)
  subst ex
  obtain rfl : u = Value.ref a := rx
  obtain ⟨t1, t2⟩ := dc_typeIs I1 r1 d1
  refine ⟨t1, t2, ?_⟩
  rw [m.trees]
  refine Calls.callWith_builtin rfl (Calls.evalArgs_plain (Calls.spliced_cons (thn (he.run pins s1 σ H1 _ I1 q1) fun iv s2 ⟨y, H2, I2, ry, q2⟩ =>
    Calls.spliced_cons (thn (hf.run pins s2 σ H2 _ I2 q2) fun fv s3 ⟨z, H3, I3, rz, F, o3, kv, dk, hr, sub, dc, f, dy, q3, q4⟩ => Calls.spliced_nil ?_))))
  exact dc_get2 hu I3 sub hr dc f dy ry rz (fun l s4 I4 => ⟨z, H3, I4, rz, q3 l⟩) fun d l v w' s4 I4 rw' dv => ⟨v, H3, I4, rw', q4 d l v dv⟩
def getD2 (i : Nat) (k d : PV) : M Res := dcAt i >>= fun kv => M.need (KFit kv k) >>= fun _ => pure (.val ((lookP kv k).getD d))
theorem rDGet2 (hu : fx.X.A.units + 9 < cLine) (n : NameOk fx i x) (m : M2 fx.X (.Name x p) "get" apos e e2 pos) (he : EOk fx e me) (he2 : EOk fx e2 me2) : ROk fx (.Call (.Attribute (.Name x p) "get" apos) [e, e2] [] pos) (dcAt i >>= fun _ => me >>= fun k => me2 >>= fun d => getD2 i k d) := by
  obtain ⟨t, pe, se⟩ := he.ex
  obtain ⟨t2, pe2, se2⟩ := he2.ex
  refine ⟨_, pe_dcget2 hu (pe_var n.at_ n.vis n.d1 n.d2) pe pe2 m, fun F σ H env P E Q s hm hq hx => ?_⟩
  obtain ⟨kv, sl, e0, h0, hm⟩ := dcAt_run hm
  obtain ⟨a, o, ev, r0, d0⟩ := dc_slot s e0 h0
  refine ⟨.ref a, ev, F, a, o, kv, rfl, r0, d0, se F σ H env _ E _ s hm (fun k env1 F1 H1 y g st le s1 dy => ?_) hx⟩
  refine se2 F1 σ H1 env1 _ E _ s1 g (fun d env2 F2 H2 z g st2 le2 s2 dz => ?_) (hx.later st.sm)
  obtain ⟨kv1, sl1, e1, h1, g⟩ := dcAt_run g
  obtain ⟨a1, o1, ev1, r1, d1⟩ := dc_slot s2 e1 h1
  rw [ev] at ev1
  cases ev1
  obtain ⟨f, g⟩ := g
  have g : P (.val ((lookP kv1 k).getD d)) env2 := g
  refine ⟨F2, o1, kv1, k, r1, s2.c.sub, d1, f, dp_same st2.sm _ dy, fun l => ?_, fun d' l v dv => ?_⟩
  · rw [l] at g
    exact hq (.val d) env2 F2 H2 z g (st.tr le st2) (le.trans le2) s2 dz
  · rw [l] at g
    exact hq (.val d') env2 F2 H2 v g (st.tr le st2) (le.trans le2) s2 dv
/-- x[k] = e -/
def sDcPut (X : Cx) (td ty tv : TE) : TS := fun D σ H => tv σ H fun v H1 => td σ H1 fun x H2 => ty σ H2 fun y H3 => ∃ F a o kv dk d, x = .ref a ∧ H3 a = some o ∧ Sub F H3 ∧ DcO X.K X.prog X.w F a o kv ∧ KFit kv dk ∧ Dp X.K F y dk ∧ Dp X.K F v d ∧ kv.length < sizeLine ∧ ∀ o', DcO X.K X.prog X.w F a o' (putP kv dk d) → D.nx σ (upd H3 a o')
theorem ps_dcput {X : Cx} {td ty tv : TE} {o i value : Expr} {pos' : Pos} (hu : X.A.units + 9 < cLine) (ho : PE X o td) (hi : PE X i ty) (hv : PE X value tv) (hs : swapsWith value (some (.Subscript o i pos')) pos.line X.env = pure false) :
    PS X (.Assign [.Subscript o i pos'] value pos) (sDcPut X td ty tv) := by
  refine ⟨fun pins s σ H D I h => ?_⟩
  refine wpAny_Assign_Subscript (thn (hv.run pins s σ H _ I h) fun r s1 ⟨v, H1, I1, rv, q1⟩ => thn (ho.run pins s1 σ H1 _ I1 q1) fun u s2 ⟨x, H2, I2, rx, q2⟩ => thn (hi.run pins s2 σ H2 _ I2 q2) fun iv s3 ⟨y, H3, I3, ry, F, a, o, kv, dk, d, ex, hr, sub, dc, f, dy, dv, hz, q3⟩ => ?_) hs
  subst ex
  obtain rfl : u = Value.ref a := rx
  exact dc_setItem hu I3 sub hr dc f dy ry dv rv hz fun o' s4 I4 d' => ⟨σ, _, I4, q3 o' d'⟩
def setD (i : Nat) (k d : PV) : M Out := dicAt i >>= fun kv => M.need (KFit kv k ∧ kv.length < sizeLine) >>= fun _ => fun s P _ => P .nx (s.set i (some (.dic (putP kv k d))))
theorem stDPut {mk : M PV} {k : Expr} (hu : fx.X.A.units + 9 < cLine) (hn : noComp e = true) (n : NameOk fx i x) (hk : EOk fx k mk) (he : EOk fx e me) : StOk fx (.Assign [.Subscript (.Name x p) k p2] e pos) (me >>= fun d => dicAt i >>= fun _ => mk >>= fun z => setD i z d) := by
  obtain ⟨t, pe, se⟩ := he.ex
  obtain ⟨t2, pe2, se2⟩ := hk.ex
  refine ⟨_, ps_dcput hu (pe_var n.at_ n.vis n.d1 n.d2) pe2 pe (swaps_no hn), fun F σ H env P E D s hm q1 q2 q3 q4 hx => ?_⟩
  refine se F σ H env _ E _ s hm (fun d env1 F1 H1 v g st le s1 dv => ?_) hx
  obtain ⟨kv, e0, g⟩ := dicAt_run g
  obtain ⟨v0, ev0, a, o, rfl, _⟩ := s1.slot i _ e0
  refine ⟨.ref a, ev0, se2 F1 σ H1 env1 _ E _ s1 g (fun k env2 F2 H2 y g st2 le2 s2 dy => ?_) (hx.later st.sm)⟩
  obtain ⟨kv2, e2, g⟩ := dicAt_run g
  obtain ⟨⟨f, hz⟩, g⟩ := g
  obtain ⟨v2, ev2, a2, o2, rfl, h1, h2, h3, h4⟩ := s2.slot i _ e2
  rw [ev0] at ev2
  cases ev2
  refine ⟨F2, a, o2, kv2, k, d, rfl, h1, s2.c.sub, h4, f, dy, dp_same st2.sm _ dv, hz, fun o' d' => ?_⟩
  exact q1 _ F2 σ _ g (st.sm.trans st2.sm) (s2.writeDic e2 ev0 h1 h4 h2 h3 d')
/-- a name's dict is known from here on -/
def frzD1 (i : Nat) : M Unit := fun s P _ => match s[i]? with
  | some (some (.dic kv)) => P () (s.set i (some (.dcf kv)))
  | some (some (.dcf kv)) => P () s
  | _ => False
theorem stFrzD {st : Stmt} {m : M Out} (h : StOk fx st m) : StOk fx st (frzD1 i >>= fun _ => m) := by
  obtain ⟨t, ps, ss⟩ := h.ex
  refine ⟨fun D σ H => (∃ a o, H a = some o ∧ Mut (some o) ∧ ∀ q, t D σ (upd H a (.frz q o))) ∨ t D σ H, ⟨fun pins s σ H D I hw => ?_⟩, fun F σ H env P E D s hm q1 q2 q3 q4 hx => ?_⟩
  · rcases hw with ⟨a, o, ho, mu, hw⟩ | hw
    · obtain ⟨q, I1⟩ := I.lock ho mu
      exact ps.run pins s σ _ D I1 (hw q)
    · exact ps.run pins s σ H D I hw
  · have hm : frzD1 i env (fun _ s' => m s' P E) E := hm
    unfold frzD1 at hm
    split at hm
    · rename_i kv e
      obtain ⟨v, ev, a, o, rfl, h1, h2, h3, h4⟩ := s.slot i _ e
      refine .inl ⟨a, o, h1, ?_, fun q => ?_⟩
      · rcases h4 with ⟨_, rfl, _⟩ | ⟨_, rfl, _⟩ <;> trivial
      · obtain ⟨sm, s2⟩ := s.freezeD e ev h1 h4 h2 h3 q
        exact ss _ σ _ _ P E D s2 hm (fun env' F' σ' H' g sm' s' => q1 env' F' σ' H' g (sm.trans sm') s') (fun d env' F' σ' H' v g sm' s' dv => q2 d env' F' σ' H' v g (sm.trans sm') s' dv) (fun env' F' σ' H' g sm' s' => q3 env' F' σ' H' g (sm.trans sm') s') (fun env' F' σ' H' g sm' s' => q4 env' F' σ' H' g (sm.trans sm') s') (hx.later sm)
    · exact .inr (ss F σ H env P E D s hm q1 q2 q3 q4 hx)
    · exact hm.elim
/-- {} -/
theorem SOk.newDic {F H : Hp} {σ : L2.St} {env : En} {a : Addr} {o : HO} (s : SOk fx F σ H env) (n : H a = none) (j : Nat) (q : List (PV × PV)) (e : env[j]? = some (some (.dic q))) : σ[j]? ≠ some (some (.ref a)) := fun z => by
  obtain ⟨v, ev, b, o, rfl, h1, _⟩ := s.slot j _ e
  rw [z] at ev
  cases ev
  rw [n] at h1
  cases h1
theorem rDNew : ROk fx (.Dict [] [] pos) (pure (.dnew [])) := by
  refine ⟨_, pe_dnewK, fun F σ H env P E Q s hm hq hx a n => ?_⟩
  obtain ⟨s1, nF, n0, no⟩ := s.alloc (o := .dK []) n
  exact hq (.dnew []) env F _ _ hm (Stp.up n (Same.refl _) (fun _ _ f => f)) (EnLe.refl _) s1 ⟨a, .dK [], rfl, upd_same, nF, n0, .inl ⟨[], rfl, .nil⟩, n, fun j q e z => s.newDic (o := .dK []) n j q e z⟩

end
end FS
namespace FS
open PySem PySem.Spec PyProof.Rows L2 LamX
/-! len(d); displays of one pair; the plain laws -/
theorem dc_raw {X : Cx} {pins : List (Addr × Obj)} {σ : L2.St} {F H : Hp} {s : Shared} {a : Addr} {o : HO} {kv : List (PV × PV)} (I : Inv X pins σ H s) (hr : Rd H a o) (d : DcO X.K X.prog X.w F a o kv) :
    (a == sysModules) = false ∧ kv.length ≤ sizeLine ∧ ∃ es ep, s.heap.DictRaw a es ep ∧ es.size = kv.length := by
  rcases d with ⟨kvs, rfl, r⟩ | ⟨xs, rfl, r, n, l⟩
  · obtain ⟨z, hd, vs, rel, dd⟩ := dk_rd I.hok hr
    obtain ⟨es, ep, h1, h2, _⟩ := dd.raw
    have l1 := r.len
    have l2 := rel.length
    exact ⟨hd, by omega, es, ep, h1, by omega⟩
  · obtain ⟨⟨hs, ob, arr, ep, g1, g2, g3, g4⟩, _, _⟩ := (show ObjOk X.prog X.w H s.heap a (dicO a (xs.map (entryOfKey (nestedKind X.prog X.w)))) from rd_of I.hok hr)
    have l1 := r.len
    refine ⟨hs, by omega, arr, ep, ⟨ob, g1, g2, g3⟩, ?_⟩
    rw [← Array.length_toList, g4, List.length_map]
    exact l1
def rDcLen (X : Cx) : List V → Hp → VK → Prop := fun xs H Q => ∃ F a o kv, xs = [V.ref a] ∧ Rd H a o ∧ DcO X.K X.prog X.w F a o kv ∧ Q (.int kv.length) H
theorem call_lenDc {X : Cx} : CallR X (.builtin "len") (rDcLen X) := by
  intro pins s σ H xs us Q I r h
  obtain ⟨F, a, o, kv, rfl, hr, d, q⟩ := h
  obtain ⟨u, rfl, ru⟩ := vals1 r
  cases ru
  obtain ⟨hd, hz, es, ep, hm, hs⟩ := dc_raw I hr d
  have sz : sizeLine = 16777216 := rfl
  refine PyProof.Rows.call_len_slot (n := (kv.length : Int)) hm.typeIs PySem.F.slot_dict_len (fun Q' hq => call_len_raw hd hm (by rw [hs]; exact hq)) (by omega) (by omega) ?_
  exact ⟨.int kv.length, H, (I.tok _).tok _, ⟨_, rfl⟩, q⟩
section
variable {fx : Fx} {i : Nat} {x y : Str} {p pos p2 : Pos} {e e2 : Expr} {me me2 : M PV}
theorem rDLen (n : NameOk fx i x) (hg : Gl fx.X y) (hm : fx.X.mg y = none) (hv : bootBuiltins y = some (.builtin "len")) (hn : y ≠ "__name__") (hdb : (y == ("__debug__" : Str)) = false) : ROk fx (.Call (.Name y p) [.Name x p2] [] pos) (dcAt i >>= fun kv => pure (.val (.int (kv.length : Nat)))) := by
  refine ⟨_, pe_callB call_lenDc hg hm hv (pa_cons (pe_var n.at_ n.vis n.d1 n.d2) pa_nil (starEach_plain rfl)) hn hdb (starEach_plain rfl) rfl, fun F σ H env P E Q s hm hq hx => ?_⟩
  obtain ⟨kv, sl, e0, h0, hm⟩ := dcAt_run hm
  obtain ⟨a, o, ev, r0, d0⟩ := dc_slot s e0 h0
  exact ⟨.ref a, ev, F, a, o, kv, rfl, r0, d0, hq _ env F H _ hm Stp.refl (EnLe.refl _) s (.int _)⟩
/-- written at a dict that no name holds -/
theorem SOk.writeD0 {F H : Hp} {σ : L2.St} {env : En} {a : Addr} {o o' : HO} {kv : List (PV × PV)} (h : SOk fx F σ H env) (e : H a = some o) (d : DcO fx.X.K fx.X.prog fx.X.w F a o kv) (nF : F a = none) (n0 : fx.H0 a = none) (no : ∀ (j : Nat) (t : Slot), env[j]? = some (some t) → t.mine → σ[j]? ≠ some (some (.ref a))) : SOk fx F σ (upd H a o') env := by
  refine ⟨h.cD e d nF n0, h.len, fun j s q => ?_, h.sepS⟩
  obtain ⟨v, e1, e2⟩ := h.slot j s q
  refine ⟨v, e1, ?_⟩
  cases s with
  | val d => exact e2
  | own us =>
    obtain ⟨b, vs', rfl, g1, g2⟩ := e2
    have : b ≠ a := fun z => no j _ q trivial (z ▸ e1)
    exact ⟨b, vs', rfl, by rw [upd_ne this]; exact g1, g2⟩
  | well => exact e2
  | clo i cs => exact e2
  | dic p =>
    obtain ⟨b, oo, rfl, g1, g2⟩ := e2
    have : b ≠ a := fun z => no j _ q trivial (z ▸ e1)
    exact ⟨b, oo, rfl, by rw [upd_ne this]; exact g1, g2⟩
  | dcf p => exact e2
/-- {e: e2}, the key an int or a text -/
def dispK (k d : PV) : M Res := M.need (keyS k = true) >>= fun _ => pure (.dnew [(k, d)])
def dispT (k d : PV) : M Res := M.need (keyT k = true) >>= fun _ => pure (.dnew [(k, d)])
theorem Stp.newAt {F F2 H H2 : Hp} {σ : L2.St} {env : En} {a : Addr} {o : HO} (n : H a = none) (nF : F a = none) (st : Stp F (upd H a o) σ env F2 H2) (sF : F2 a = none) {o' : HO} (hn : ¬ OwnAt σ env a) : Stp F H σ env F2 (upd H2 a o') :=
  ⟨st.sm, fun b h z => by
    by_cases e : b = a
    · subst e; exact h n
    · rw [upd_ne e] at z
      exact st.mono b (by rw [upd_ne e]; exact h) z, fun b u h f t w => by
    have e : b ≠ a := fun z => by rw [z, n] at h; cases h
    rw [upd_ne e]
    exact st.keep b u (by rw [upd_ne e]; exact h) f t w⟩
/-- the two expressions of a pair, while the new dict stands empty -/
theorem pair_sim {t t2 : TE} (se : SimE fx t me) (se2 : SimE fx t2 me2) {F : Hp} {σ : L2.St} {H : Hp} {env : En} {P : PV → PV → En → Prop} {E : EP'} {a : Addr} {o : HO} {R : V → V → Hp → Prop} (s : SOk fx F σ H env) (n : H a = none) (hd : DcO fx.X.K fx.X.prog fx.X.w F a o []) (hm : (me >>= fun k => me2 >>= fun d => fun s' (Q : Unit → En → Prop) _ => P k d s') env (fun _ _ => True) E)
    (hq : ∀ k d env2 F2 H2 v w, P k d env2 → Stp F (upd H a o) σ env F2 H2 → EnLe env env2 → SOk fx F2 σ H2 env2 → Dp fx.X.K F2 v k → Dp fx.X.K F2 w d → H2 a = some o → F2 a = none → fx.H0 a = none → (∀ (j : Nat) (t : Slot), env2[j]? = some (some t) → t.mine → σ[j]? ≠ some (some (.ref a))) → R v w H2) (hx : ExOk fx F E) :
    t σ (upd H a o) fun v H1 => t2 σ H1 fun w H2 => R v w H2 := by
  obtain ⟨s1, nF, n0, no⟩ := s.alloc (o := o) n
  have noM : ∀ (j : Nat) (t : Slot), env[j]? = some (some t) → t.mine → σ[j]? ≠ some (some (.ref a)) := fun j t e m z => by
    cases t with
    | own ys => exact no j ys e z
    | dic q => exact s.newDic (o := o) n j q e z
    | val _ => exact m
    | well => exact m
    | clo _ _ => exact m
    | dcf _ => exact m
  have nO : ¬ OwnAt σ env a := fun ⟨l, zs, h1, h2⟩ => no l zs h1 h2
  refine se F σ _ env _ E _ s1 hm (fun k env1 F1 H1 v g st le k1 dk => ?_) hx
  refine se2 F1 σ H1 env1 _ E _ k1 g (fun d env2 F2 H2 w g st2 le2 k2 dd => ?_) (hx.later st.sm)
  have stt := st.tr le st2
  obtain ⟨h1, f1⟩ := stt.keep a o upd_same nF hd.tbl nO
  exact hq k d env2 F2 H2 v w g stt (le.trans le2) k2 (dp_same st2.sm _ dk) dd h1 f1 n0 (keep_back (le.trans le2) noM)
theorem rDDispK (he : EOk fx e me) (he2 : EOk fx e2 me2) : ROk fx (.Dict [some e] [e2] pos) (me >>= fun k => me2 >>= fun d => dispK k d) := by
  obtain ⟨t, pe, se⟩ := he.ex
  obtain ⟨t2, pe2, se2⟩ := he2.ex
  refine ⟨_, pe_disp (pps_cons pe pe2 pps_nil) rfl rfl (by simp) (by simp), fun F σ H env P E Q s hm hq hx a n => ?_⟩
  have hd : DcO fx.X.K fx.X.prog fx.X.w F a (.dK []) [] := .inl ⟨[], rfl, .nil⟩
  refine pair_sim se se2 s n hd (P := fun k d s' => keyS k = true ∧ P (.dnew [(k, d)]) s') hm (fun k d env2 F2 H2 v w g st le s2 dk dd h1 f1 n0 no => ?_) hx
  obtain ⟨hk, g⟩ := g
  obtain ⟨k, rfl⟩ := keyS_d hk
  have ev : v = kV k := by cases k <;> (cases dk; rfl)
  subst ev
  refine ⟨h1, [(k, w)], rfl, by simp, ?_⟩
  have d0 : DcO fx.X.K fx.X.prog fx.X.w F2 a (.dK []) [] := .inl ⟨[], rfl, .nil⟩
  have nO : ¬ OwnAt σ env a := fun ⟨l, zs, z1, z2⟩ => by
    obtain ⟨_, _, _, no0⟩ := s.alloc (o := .dK []) n
    exact no0 l zs z1 z2
  have nF : F a = none := (s.alloc (o := .dK []) n).2.1
  exact hq (.dnew [(keyD k, d)]) env2 F2 _ _ g (Stp.newAt n nF st f1 nO) le (s2.writeD0 h1 d0 f1 n0 no) ⟨a, .dK [(k, w)], rfl, upd_same, f1, n0, .inl ⟨[(k, w)], rfl, .cons dd .nil⟩, n, fun j q e z => no j _ e trivial z⟩
/-- .. a tuple -/
def tDispT (X : Cx) (tk tv : TE) : TE := fun σ H Q => ∀ p, H p = none → tk σ (upd H p (.dK [])) fun y H1 => tv σ H1 fun v H2 => H2 p = some (.dK []) ∧ ∃ F dk d, Sub F H2 ∧ keyT dk = true ∧ Dp X.K F y dk ∧ Dp X.K F v d ∧ ∀ o', DcO X.K X.prog X.w F p o' [(dk, d)] → Q (.ref p) (upd H2 p o')
theorem pe_dispT {X : Cx} {tk tv : TE} (hu : X.A.units + 9 < cLine) (he : PE X e tk) (he2 : PE X e2 tv) : PE X (.Dict [some e] [e2] pos) (tDispT X tk tv) := by
  refine ⟨fun pins s σ H Q I q => ?_⟩
  have hn := I.hok.fresh (Nat.le_refl s.heap.objs.size)
  have I1 := I.laid (a := s.heap.objs.size) (o := .dK []) (h' := s.heap.push { cls := .type "dict", data := .dict #[] }) (t' := s.toks) (fun _ _ q => Heap.get?_push_of_some _ q) (Nat.le_refl _) (dk_empty s.heap I.big)
  have hsh := zip_pairTrees [some e] [e2] X.env pos rfl rfl
  rw [arm_eval_Dict, hsh, dictDisplay_pairs _ (by intro z; cases z) (by show 1 < 17; decide)]
  refine wpAny_bind (wpAny_standAt (wpAny_bind (wpAny_subDictH (knd := nestedKind X.prog X.w) (Q := fun d s' => wpAny (model X.prog X.w) X.A (pure (Value.ref d)) _ X.xe s') (show X.A.units + 8 < cLine by omega) (by show 1 ≤ 15; decide) ?_)))
  refine pairTrees_cons_walk (thn (he.run pins _ σ _ _ I1 (q _ hn)) fun u s1 ⟨x, H1, I1, rx, q1⟩ => thn (he2.run pins s1 σ H1 _ I1 q1) fun w2 s2 ⟨y, H2, I2, ry, h1, F, dk, d, sub, hk, dk1, dv, q2⟩ => ?_)
  refine pairTrees_nil_walk ?_
  obtain ⟨k, b, e1, e2, e3, rfl, rfl, is⟩ := keyT_at I2 sub hk dk1 rx
  obtain ⟨xs, r, z, hd, dd⟩ := DcO.asT (F := F) (kv := []) I2 sub (.inl h1) (.inl ⟨[], rfl, .nil⟩) (fun _ h => by cases h)
  cases r
  refine ⟨[(k, b, w2)], ⟨rfl, rfl, is, trivial⟩, dd, fun h' tk dd' hs => ?_⟩
  obtain ⟨ob, es, ep, g1, g2, g3, g4, _, g5⟩ := dd'
  refine wpAny_pure ⟨.ref s.heap.objs.size, _, ?_, rfl, q2 (dicO s.heap.objs.size ([(k, b, w2)].map (entryOfKey (nestedKind X.prog X.w)))) (.inr ⟨[(k, b, w2)], rfl, .cons e1 e2 e3 dk1 ry dv .nil, g5, by show 1 ≤ sizeLine; decide⟩)⟩
  exact d_write I2 (by rw [h1]; trivial) hs ⟨ob, g1⟩ ⟨⟨hd, ob, es, ep, g1, g2, g3, g4⟩, ⟨ob, g1⟩, fun h1 h2 ⟨p1, p2, p3, p4, p5, p6⟩ st => ⟨p1, p2, p3, p4, st _ p5, p6⟩⟩
theorem rDDispT (hu : fx.X.A.units + 9 < cLine) (he : EOk fx e me) (he2 : EOk fx e2 me2) : ROk fx (.Dict [some e] [e2] pos) (me >>= fun k => me2 >>= fun d => dispT k d) := by
  obtain ⟨t, pe, se⟩ := he.ex
  obtain ⟨t2, pe2, se2⟩ := he2.ex
  refine ⟨_, pe_dispT hu pe pe2, fun F σ H env P E Q s hm hq hx a n => ?_⟩
  have hd : DcO fx.X.K fx.X.prog fx.X.w F a (.dK []) [] := .inl ⟨[], rfl, .nil⟩
  refine pair_sim se se2 s n hd (P := fun k d s' => keyT k = true ∧ P (.dnew [(k, d)]) s') hm (fun k d env2 F2 H2 v w g st le s2 dk dd h1 f1 n0 no => ?_) hx
  obtain ⟨hk, g⟩ := g
  have d0 : DcO fx.X.K fx.X.prog fx.X.w F2 a (.dK []) [] := .inl ⟨[], rfl, .nil⟩
  have nO : ¬ OwnAt σ env a := fun ⟨l, zs, z1, z2⟩ => by
    obtain ⟨_, _, _, no0⟩ := s.alloc (o := .dK []) n
    exact no0 l zs z1 z2
  have nF : F a = none := (s.alloc (o := .dK []) n).2.1
  refine ⟨h1, F2, k, d, s2.c.sub, hk, dk, dd, fun o' d' => ?_⟩
  exact hq (.dnew [(k, d)]) env2 F2 _ _ g (Stp.newAt n nF st f1 nO) le (s2.writeD0 h1 d0 f1 n0 no) ⟨a, o', rfl, upd_same, f1, n0, d', n, fun j q e z => no j _ e trivial z⟩
end
/-! ### plain laws -/
def dcK (o : Option (Option Slot)) (P : List (PV × PV) → En → Prop) (s : En) : Prop := match o with
  | some (some (.dic kv)) => P kv s
  | some (some (.dcf kv)) => P kv s
  | _ => False
def dicK (o : Option (Option Slot)) (P : List (PV × PV) → En → Prop) (s : En) : Prop := match o with
  | some (some (.dic kv)) => P kv s
  | _ => False
section
variable {s : En} {E : EP'} {i j l : Nat} {kv kv2 : List (PV × PV)} {d k : PV} {xs : List PV}
theorem dcMA {P : List (PV × PV) → En → Prop} : dcAt i s P E = dcK s[i]? P s := rfl
theorem dcK_dic {P : List (PV × PV) → En → Prop} : dcK (some (some (.dic kv))) P s = P kv s := rfl
theorem dcK_dcf {P : List (PV × PV) → En → Prop} : dcK (some (some (.dcf kv))) P s = P kv s := rfl
theorem dicMA {P : List (PV × PV) → En → Prop} : dicAt i s P E = dicK s[i]? P s := rfl
theorem dicK_dic {P : List (PV × PV) → En → Prop} : dicK (some (some (.dic kv))) P s = P kv s := rfl
theorem inDA {n : Bool} {P : Bool → En → Prop} : inD i n k s P E = dcK s[i]? (fun kv s => KFit kv k ∧ P (if n then !(lookP kv k).isSome else (lookP kv k).isSome) s) s := rfl
theorem getD2A {P : Res → En → Prop} : getD2 i k d s P E = dcK s[i]? (fun kv s => KFit kv k ∧ P (.val ((lookP kv k).getD d)) s) s := rfl
theorem setDA {P : Out → En → Prop} : setD i k d s P E = dicK s[i]? (fun kv s => (KFit kv k ∧ kv.length < sizeLine) ∧ P .nx (s.set i (some (.dic (putP kv k d))))) s := rfl
def fzK (i : Nat) (o : Option (Option Slot)) (P : Unit → En → Prop) (s : En) : Prop := match o with
  | some (some (.dic kv)) => P () (s.set i (some (.dcf kv)))
  | some (some (.dcf kv)) => P () s
  | _ => False
theorem frzDA {P : Unit → En → Prop} : frzD1 i s P E = fzK i s[i]? P s := rfl
theorem fzK_dic {P : Unit → En → Prop} : fzK i (some (some (.dic kv))) P s = P () (s.set i (some (.dcf kv))) := rfl
theorem fzK_dcf {P : Unit → En → Prop} : fzK i (some (some (.dcf kv))) P s = P () s := rfl
theorem dispKA {P : Res → En → Prop} : dispK k d s P E = (keyS k = true ∧ P (.dnew [(k, d)]) s) := rfl
theorem dispTA {P : Res → En → Prop} : dispT k d s P E = (keyT k = true ∧ P (.dnew [(k, d)]) s) := rfl
theorem setDnA {P : Out → En → Prop} : setM i (.dnew kv) s P E = P .nx (s.set i (some (.dic kv))) := rfl
theorem setDfA {P : Out → En → Prop} : setM i (.dcf kv) s P E = P .nx (s.set i (some (.dcf kv))) := rfl
theorem toNdn {P : Res → En → Prop} : toN (.dnew kv) s P E = P (.dnew kv) s := rfl
theorem toNdf {P : Res → En → Prop} : toN (.dcf kv) s P E = P (.dcf kv) s := rfl
theorem rdK_dcf {P : Res → En → Prop} : rdK i (some (some (.dcf kv))) P s = P (.dcf kv) s := rfl
theorem raK_dcf {P : Slot → En → Prop} : raK i (some (some (.dcf kv))) P s = P (.dcf kv) s := rfl
theorem set2vd {P : Out → En → Prop} : set2M i j (.val d) (.dnew kv) s P E = P .nx ((s.set i (some (.val d))).set j (some (.dic kv))) := rfl
theorem set2dv {P : Out → En → Prop} : set2M i j (.dnew kv) (.val d) s P E = P .nx ((s.set i (some (.dic kv))).set j (some (.val d))) := rfl
theorem set2nd {P : Out → En → Prop} : set2M i j (.new xs) (.dnew kv) s P E = P .nx ((s.set i (some (.own xs))).set j (some (.dic kv))) := rfl
theorem set2dn {P : Out → En → Prop} : set2M i j (.dnew kv) (.new xs) s P E = P .nx ((s.set i (some (.dic kv))).set j (some (.own xs))) := rfl
theorem set3dnd {P : Out → En → Prop} : set3M i j l (.dnew kv) (.new xs) (.dnew kv2) s P E = P .nx (((s.set i (some (.dic kv))).set j (some (.own xs))).set l (some (.dic kv2))) := rfl
theorem set3dnv {P : Out → En → Prop} : set3M i j l (.dnew kv) (.new xs) (.val d) s P E = P .nx (((s.set i (some (.dic kv))).set j (some (.own xs))).set l (some (.val d))) := rfl
end
/-! ### look-ups in tables of one's own -/
theorem look_map {α β : Type} [DecidableEq α] (f : α → PV) (g : β → PV) (hf : ∀ a b, (f a).eqv (f b) = decide (a = b)) (k : α) : ∀ m : List (α × β), lookP (m.map fun z => (f z.1, g z.2)) (f k) = ((m.find? fun z => decide (z.1 = k)).map Prod.snd).map g
  | [] => rfl
  | z :: m => by
    rw [List.map_cons, lookP_cons, hf, List.find?_cons, look_map f g hf k m]
    cases decide (z.1 = k) <;> rfl
def putL2 {α β : Type} [DecidableEq α] (m : List (α × β)) (k : α) (v : β) : List (α × β) := if m.any (fun z => decide (z.1 = k)) then m.map (fun z => if z.1 = k then (z.1, v) else z) else m ++ [(k, v)]
def atL2 {α β : Type} [DecidableEq α] (m : List (α × β)) (k : α) : Option β := (m.find? fun z => decide (z.1 = k)).map Prod.snd
theorem put_map {α β : Type} [DecidableEq α] (f : α → PV) (g : β → PV) (hf : ∀ a b, (f a).eqv (f b) = decide (a = b)) (m : List (α × β)) (k : α) (v : β) : putP (m.map fun z => (f z.1, g z.2)) (f k) (g v) = (putL2 m k v).map fun z => (f z.1, g z.2) := by
  unfold putP putL2
  have e : ((m.map fun z => (f z.1, g z.2)).any fun p => p.1.eqv (f k)) = m.any fun z => decide (z.1 = k) := by
    rw [List.any_map]
    congr 1
    funext z
    exact hf z.1 k
  rw [e]
  split
  · rw [List.map_map, List.map_map]
    refine List.map_congr_left fun z _ => ?_
    show (if (f z.1).eqv (f k) then _ else _) = _
    rw [hf]
    by_cases h : z.1 = k
    · rw [decide_eq_true h, if_pos rfl]
      show _ = (f (if z.1 = k then (z.1, v) else z).1, g (if z.1 = k then (z.1, v) else z).2)
      rw [if_pos h]
    · rw [decide_eq_false h, if_neg Bool.false_ne_true]
      show _ = (f (if z.1 = k then (z.1, v) else z).1, g (if z.1 = k then (z.1, v) else z).2)
      rw [if_neg h]
  · rw [List.map_append]
    rfl
theorem at_put {α β : Type} [DecidableEq α] (m : List (α × β)) (k j : α) (v : β) : atL2 (putL2 m k v) j = if j = k then some v else atL2 m j := by
  unfold putL2
  by_cases h : (m.any fun z => decide (z.1 = k)) = true
  · rw [if_pos h]
    induction m with
    | nil => cases h
    | cons z m ih =>
      unfold atL2 at ih ⊢
      rw [List.map_cons, List.find?_cons, List.find?_cons]
      by_cases a : z.1 = k
      · rw [if_pos a]
        by_cases b : z.1 = j
        · rw [decide_eq_true b, if_pos (b.symm.trans a)]
          rfl
        · rw [decide_eq_false b]
          have n : ¬ j = k := fun c => b (a.trans c.symm)
          rw [if_neg n]
          by_cases c : (m.any fun z => decide (z.1 = k)) = true
          · have := ih c
            rw [if_neg n] at this
            exact this
          · have e : (m.map fun z => if z.1 = k then (z.1, v) else z) = m := by
              refine (List.map_congr_left fun y hy => ?_).trans (List.map_id m)
              rw [if_neg fun q => c (List.any_eq_true.mpr ⟨y, hy, decide_eq_true q⟩)]
              rfl
            rw [e]
      · rw [if_neg a]
        have c : (m.any fun z => decide (z.1 = k)) = true := by
          rw [List.any_cons, decide_eq_false a] at h
          simpa using h
        by_cases b : z.1 = j
        · rw [decide_eq_true b, if_neg fun q => a (b.trans q)]
        · rw [decide_eq_false b]
          exact ih c
  · rw [if_neg h]
    unfold atL2
    rw [List.find?_append]
    by_cases b : j = k
    · subst b
      have : (m.find? fun z => decide (z.1 = j)) = none := by
        rw [List.find?_eq_none]
        intro y hy q
        exact h (List.any_eq_true.mpr ⟨y, hy, q⟩)
      rw [this, if_pos rfl]
      simp
    · rw [if_neg b]
      have : ([(k, v)].find? fun z => decide (z.1 = j)) = none := by
        rw [List.find?_eq_none]
        intro y hy q
        rw [List.mem_singleton] at hy
        subst hy
        exact b (of_decide_eq_true q).symm
      rw [this]
      simp
theorem put_len {α β : Type} [DecidableEq α] (m : List (α × β)) (k : α) (v : β) : (putL2 m k v).length ≤ m.length + 1 := by
  unfold putL2
  split
  · rw [List.length_map]; omega
  · rw [List.length_append]; exact Nat.le_refl _
end FS
namespace FS
open PySem PySem.Spec PyProof.Rows L2 LamX
/-! module constants that are tuples of numbers and texts -/
def flatB : List Value → List PV → Bool
  | [], [] => true
  | .str x _ :: vs, .str z :: ds => decide (x = z) && flatB vs ds
  | .int i _ :: vs, .int j :: ds => decide (i = j) && flatB vs ds
  | _, _ => false
def tupC (K : PySem.W.Frag) (a : Addr) (d : PV) : Bool := match K.lookup a, d with
  | some o, .tuple ds => (match o.cls, o.data with
    | .type t, .seq its _ => decide (t = "tuple") && (decide (ds.length ≤ 1000) && flatB its.toList ds)
    | _, _ => false)
  | _, _ => false
theorem flatB_ok {K : PySem.W.Frag} {F : Hp} : ∀ {vs : List Value} {ds : List PV}, flatB vs ds = true → vs.length = ds.length ∧ ∃ xs : List V, Vals xs vs ∧ DpAll K F xs ds
  | [], [], _ => ⟨rfl, [], .nil, .nil⟩
  | [], _ :: _, h => by cases h
  | v :: vs, [], h => by cases v <;> cases h
  | v :: vs, d :: ds, h => by
    cases v <;> first | (cases h; done) | skip
    · rename_i i t
      cases d <;> first | (cases h; done) | skip
      rename_i j
      have h3 : (decide (i = j) && flatB vs ds) = true := h
      rw [Bool.and_eq_true, decide_eq_true_eq] at h3
      obtain ⟨rfl, h4⟩ := h3
      obtain ⟨e, xs, a, b⟩ := flatB_ok (K := K) (F := F) h4
      exact ⟨congrArg (· + 1) e, .int i :: xs, .cons ⟨t, rfl⟩ a, .cons (.int i) b⟩
    · rename_i x t
      cases d <;> first | (cases h; done) | skip
      rename_i z
      have h3 : (decide (x = z) && flatB vs ds) = true := h
      rw [Bool.and_eq_true, decide_eq_true_eq] at h3
      obtain ⟨rfl, h4⟩ := h3
      obtain ⟨e, xs, a, b⟩ := flatB_ok (K := K) (F := F) h4
      exact ⟨congrArg (· + 1) e, .str x :: xs, .cons ⟨t, rfl⟩ a, .cons (.str x) b⟩
theorem tupC_ok {K : PySem.W.Frag} {a : Addr} {d : PV} (h : tupC K a d = true) : ∀ F, Dp K F (.ref a) d := by
  intro F
  unfold tupC at h
  cases e : K.lookup a with
  | none => rw [e] at h; cases h
  | some o =>
    rw [e] at h
    cases d <;> first | (cases h; done) | skip
    rename_i ds
    obtain ⟨oc, od, dt, sl⟩ := o
    cases oc <;> first | (cases h; done) | skip
    rename_i t
    cases dt <;> first | (cases h; done) | skip
    rename_i its n
    have h : (decide (t = "tuple") && (decide (ds.length ≤ 1000) && flatB its.toList ds)) = true := h
    rw [Bool.and_eq_true, Bool.and_eq_true, decide_eq_true_eq, decide_eq_true_eq] at h
    obtain ⟨rfl, h1, h2⟩ := h
    obtain ⟨e1, xs, v1, d1⟩ := flatB_ok (K := K) (F := F) h2
    refine .tup (.inr ⟨_, its, n, e, rfl, rfl, ?_, v1⟩) d1
    have : its.toList.length = its.size := Array.length_toList
    have sz : sizeLine = 16777216 := rfl
    omega
end FS
namespace K77
open PySem PySem.Spec PyProof.Rows L2 LamX FS
def top (i : Nat) : Stmt := PySem.Challenge.pw_frontshelf_k77_whole_places_along.main.body.getD i (.Pass ⟨0, 0, 0, 0⟩)
def frees : List Str := (["ValueError", "abs", "all", "bool", "divmod", "enumerate", "int", "isinstance", "len", "list", "max", "range"] : List Str) ++ (["str", "super", "tuple", "zip"] : List Str)
def kd_WORDS : PV := (.tuple ([(.str "ahead"), (.str "all"), (.str "as"), (.str "ask"), (.str "at"), (.str "behind"), (.str "book"), (.str "by"), (.str "code"), (.str "cost"), (.str "end"), (.str "first")] ++ [(.str "fixed"), (.str "front"), (.str "in"), (.str "is"), (.str "last"), (.str "leave"), (.str "never"), (.str "next"), (.str "none"), (.str "of"), (.str "order"), (.str "place")] ++ [(.str "put"), (.str "shelf"), (.str "step"), (.str "take"), (.str "times"), (.str "to"), (.str "undo"), (.str "with")]))
structure Base (G : Gr) : Prop where
  g : GrOk G
  c : GrC G
  free : ∀ x : Str, frees.contains x = true → G.mg x = none
  k_SMALL : ∃ t, G.mg "SMALL" = some (.str "abcdefghijklmnopqrstuvwxyz" t)
  k_MOST_SIGNS : ∃ t, G.mg "MOST_SIGNS" = some (.int 8 t)
  k_WORDS : ∃ a, G.mg "WORDS" = some (.ref a) ∧ ∀ F, Dp G.K F (.ref a) kd_WORDS
  k_MOST_BOOKS : ∃ t, G.mg "MOST_BOOKS" = some (.int 7 t)
  k_MOST_ASKINGS : ∃ t, G.mg "MOST_ASKINGS" = some (.int 30 t)
  l_wrong_askings : LamT G "wrong_askings"
/-! is_one_of -/
abbrev b_is_one_of : List Stmt := defBody (top 10)
abbrev s_is_one_of : Scope := defScope (top 10)
abbrev a_is_one_of : Arguments := defArgs (top 10)
def N_is_one_of : List Str := (["value", "words"] : List Str)
def ps_is_one_of : List Str := ["value", "words"]
theorem bd_is_one_of : Bd "is_one_of" ps_is_one_of a_is_one_of b_is_one_of s_is_one_of := fun _ _ _ _ _ _ us h => match us, h with
  | [u0, u1], _ => by kernel_rfl
theorem sc_is_one_of : FnScope N_is_one_of ps_is_one_of s_is_one_of := ⟨rfl, rfl, rfl, by decide +kernel, rfl, by decide +kernel, by decide +kernel⟩
def m_is_one_of : M Out := (((((((rdM 0) >>= toP) >>= isiM "str") >>= toE) >>= fun d => truthM d >>= fun k => if k then (((rdM 0) >>= toP) >>= fun x => ((rdM 1) >>= toP) >>= fun y => (inM id) x y) else pure (.val d)) >>= toE) >>= fun d => pure (.rt d))
def D_is_one_of : FnP := fnM N_is_one_of m_is_one_of
structure Ph_is_one_of (G : Gr) (k : Nat) : Prop where
  b : Base G
theorem w_is_one_of {fx : Fx} {k : Nat} (d : DCtx Ph_is_one_of fx k N_is_one_of s_is_one_of) : SsOk fx b_is_one_of m_is_one_of :=
  have c := d.toCtx
  (ssOne (stRet (ROk.toE (rAnd (rIsi' (c.gl "isinstance" (by kernel_rfl)) (c.φ.b.free "isinstance" (by kernel_rfl)) (c.gl "str" (by kernel_rfl)) (c.φ.b.free "str" (by kernel_rfl)) (T := "str") (by decide +kernel) (by decide +kernel) rfl rfl (ROk.toP (rNm (c.nm 0 "value" (by kernel_rfl))))) (rOne (rCmp (opS_in (by have := c.un; omega)) (ROk.toP (rNm (c.nm 0 "value" (by kernel_rfl)))) (ROk.toP (rNm (c.nm 1 "words" (by kernel_rfl)))) rfl))))))
theorem d_is_one_of {G : Gr} (b : Base G) (h : ∃ f fd, G.mg "is_one_of" = some (.ref f) ∧ FunD G.K "is_one_of" "is_one_of" a_is_one_of b_is_one_of s_is_one_of [] [] f fd)  : DefOk G "is_one_of" 1 ps_is_one_of a_is_one_of b_is_one_of s_is_one_of D_is_one_of :=
  DefOk.of (k := 0) b.g h sc_is_one_of fun fx eG fr hN hs po fn => w_is_one_of ⟨⟨fr, hN, hs, by rw [eG]; exact ⟨b⟩⟩, po, by kernel_rfl, fn⟩
/-! is_word -/
abbrev b_is_word : List Stmt := defBody (top 11)
abbrev s_is_word : Scope := defScope (top 11)
abbrev a_is_word : Arguments := defArgs (top 11)
def N_is_word : List Str := (["value", "sign"] : List Str)
def ps_is_word : List Str := ["value"]
theorem bd_is_word : Bd "is_word" ps_is_word a_is_word b_is_word s_is_word := fun _ _ _ _ _ _ us h => match us, h with
  | [u0], _ => by kernel_rfl
theorem sc_is_word : FnScope N_is_word ps_is_word s_is_word := ⟨rfl, rfl, rfl, by decide +kernel, rfl, by decide +kernel, by decide +kernel⟩
def m_is_word : M Out := (((((((rdM 0) >>= toP) >>= isiM "str") >>= toE) >>= fun d => truthM d >>= fun k => if k then (((((rdM 0) >>= toP) >>= fun x => ((pure (Res.val (.str "")) : M Res) >>= toP) >>= fun y => neM x y) >>= toE) >>= fun d => truthM d >>= fun k => if k then ((((((rdM 0) >>= toE) >>= seqM) >>= lcM [1] (.name 1) (pure true) ((((rdM 1) >>= toP) >>= fun x => ((pure (Res.val (.str "abcdefghijklmnopqrstuvwxyz")) : M Res) >>= toP) >>= fun y => (inM id) x y) >>= toE)) >>= toP) >>= allM fun bs => bs.all id) else pure (.val d)) else pure (.val d)) >>= toE) >>= fun d => pure (.rt d))
def D_is_word : FnP := fnM N_is_word m_is_word
structure Ph_is_word (G : Gr) (k : Nat) : Prop where
  b : Base G
theorem w_is_word {fx : Fx} {k : Nat} (d : DCtx Ph_is_word fx k N_is_word s_is_word) : SsOk fx b_is_word m_is_word :=
  have c := d.toCtx
  (ssOne (stRet (ROk.toE (rAnd (rIsi' (c.gl "isinstance" (by kernel_rfl)) (c.φ.b.free "isinstance" (by kernel_rfl)) (c.gl "str" (by kernel_rfl)) (c.φ.b.free "str" (by kernel_rfl)) (T := "str") (by decide +kernel) (by decide +kernel) rfl rfl (ROk.toP (rNm (c.nm 0 "value" (by kernel_rfl))))) (rAnd (rCmp (opS_ne (by have := c.un; omega)) (ROk.toP (rNm (c.nm 0 "value" (by kernel_rfl)))) (ROk.toP rConst) rfl) (rOne (rBlt1 (cAll c.calm) (c.gl "all" (by kernel_rfl)) (c.φ.b.free "all" (by kernel_rfl)) boot_all (by decide) rfl rfl (ROk.toP (cComp [("sign", 1)] c (by kernel_rfl) rfl rfl (iSeq' (ROk.toE (rNm (c.nm 0 "value" (by kernel_rfl))))) (c.g fun _ c => (gNm c.nd (c.lc 1 "sign" (by kernel_rfl)))) .nil (c.e fun _ c => (ROk.toE (rCmp (opS_in (by have := c.un; omega)) (ROk.toP (rNm (c.nm 1 "sign" (by kernel_rfl)))) (ROk.toP (rGlobS (c.gl "SMALL" (by kernel_rfl)) c.φ.b.k_SMALL rfl)) rfl))))))))))))
theorem d_is_word {G : Gr} (b : Base G) (h : ∃ f fd, G.mg "is_word" = some (.ref f) ∧ FunD G.K "is_word" "is_word" a_is_word b_is_word s_is_word [] [] f fd)  : DefOk G "is_word" 1 ps_is_word a_is_word b_is_word s_is_word D_is_word :=
  DefOk.of (k := 0) b.g h sc_is_word fun fx eG fr hN hs po fn => w_is_word ⟨⟨fr, hN, hs, by rw [eG]; exact ⟨b⟩⟩, po, by kernel_rfl, fn⟩
/-! place_in -/
abbrev b_place_in : List Stmt := defBody (top 18)
abbrev s_place_in : Scope := defScope (top 18)
abbrev a_place_in : Arguments := defArgs (top 18)
def N_place_in : List Str := (["shelf", "book"] : List Str)
def ps_place_in : List Str := ["shelf", "book"]
theorem bd_place_in : Bd "place_in" ps_place_in a_place_in b_place_in s_place_in := fun _ _ _ _ _ _ us h => match us, h with
  | [u0, u1], _ => by kernel_rfl
theorem sc_place_in : FnScope N_place_in ps_place_in s_place_in := ⟨rfl, rfl, rfl, by decide +kernel, rfl, by decide +kernel, by decide +kernel⟩
def m_place_in : M Out := (((((((rdM 0) >>= toP) >>= fun x => seqOnly x >>= fun _ => ((rdM 1) >>= toP) >>= fun d => idxM x d) >>= toP) >>= fun x => ((pure (Res.val (.int 1)) : M Res) >>= toP) >>= fun y => addM x y) >>= toE) >>= fun d => pure (.rt d))
def D_place_in : FnP := fnM N_place_in m_place_in
structure Ph_place_in (G : Gr) (k : Nat) : Prop where
  b : Base G
theorem w_place_in {fx : Fx} {k : Nat} (d : DCtx Ph_place_in fx k N_place_in s_place_in) : SsOk fx b_place_in m_place_in :=
  have c := d.toCtx
  (ssOne (stRet (ROk.toE (rBin opS_add (ROk.toP (rIndex' c.fr.ok ⟨rfl, rfl, rfl⟩ rfl (ROk.toP (rNm (c.nm 0 "shelf" (by kernel_rfl)))) (ROk.toP (rNm (c.nm 1 "book" (by kernel_rfl)))))) (ROk.toP rConst)))))
theorem d_place_in {G : Gr} (b : Base G) (h : ∃ f fd, G.mg "place_in" = some (.ref f) ∧ FunD G.K "place_in" "place_in" a_place_in b_place_in s_place_in [] [] f fd)  : DefOk G "place_in" 1 ps_place_in a_place_in b_place_in s_place_in D_place_in :=
  DefOk.of (k := 0) b.g h sc_place_in fun fx eG fr hN hs po fn => w_place_in ⟨⟨fr, hN, hs, by rw [eG]; exact ⟨b⟩⟩, po, by kernel_rfl, fn⟩
/-! fronted -/
abbrev b_fronted : List Stmt := defBody (top 19)
abbrev s_fronted : Scope := defScope (top 19)
abbrev a_fronted : Arguments := defArgs (top 19)
def N_fronted : List Str := (["shelf", "book", "own"] : List Str)
def ps_fronted : List Str := ["shelf", "book"]
theorem bd_fronted : Bd "fronted" ps_fronted a_fronted b_fronted s_fronted := fun _ _ _ _ _ _ us h => match us, h with
  | [u0, u1], _ => by kernel_rfl
theorem sc_fronted : FnScope N_fronted ps_fronted s_fronted := ⟨rfl, rfl, rfl, by decide +kernel, rfl, by decide +kernel, by decide +kernel⟩
def m_fronted : M Out := ((((((rdM 1) >>= toE) >>= fun d => ((((((rdM 0) >>= toE) >>= seqM) >>= lcM [2] (.name 2) ((((rdM 2) >>= toP) >>= fun x => ((rdM 1) >>= toP) >>= fun y => neM x y) >>= asBool) ((rdM 2) >>= toE)) >>= toP) >>= fun d => optM (itemsP d) >>= fun xs => (pure []) >>= fun ds => pure (xs ++ ds)) >>= fun ds => pure (d :: ds)) >>= tupM) >>= toE) >>= fun d => pure (.rt d))
def D_fronted : FnP := fnM N_fronted m_fronted
structure Ph_fronted (G : Gr) (k : Nat) : Prop where
  b : Base G
theorem w_fronted {fx : Fx} {k : Nat} (d : DCtx Ph_fronted fx k N_fronted s_fronted) : SsOk fx b_fronted m_fronted :=
  have c := d.toCtx
  (ssOne (stRet (ROk.toE (rTup (aCons rfl (ROk.toE (rNm (c.nm 1 "book" (by kernel_rfl)))) (aStar (ROk.toP (cComp [("own", 2)] c (by kernel_rfl) rfl rfl (iSeq' (ROk.toE (rNm (c.nm 0 "shelf" (by kernel_rfl))))) (c.g fun _ c => (gNm c.nd (c.lc 2 "own" (by kernel_rfl)))) (c.t fun _ c => (tCmp' (opS_ne (by have := c.un; omega)) (ROk.toP (rNm (c.nm 2 "own" (by kernel_rfl)))) (ROk.toP (rNm (c.nm 1 "book" (by kernel_rfl)))) rfl)) (c.e fun _ c => (ROk.toE (rNm (c.nm 2 "own" (by kernel_rfl))))))) aNil))))))
theorem d_fronted {G : Gr} (b : Base G) (h : ∃ f fd, G.mg "fronted" = some (.ref f) ∧ FunD G.K "fronted" "fronted" a_fronted b_fronted s_fronted [] [] f fd)  : DefOk G "fronted" 1 ps_fronted a_fronted b_fronted s_fronted D_fronted :=
  DefOk.of (k := 0) b.g h sc_fronted fun fx eG fr hN hs po fn => w_fronted ⟨⟨fr, hN, hs, by rw [eG]; exact ⟨b⟩⟩, po, by kernel_rfl, fn⟩
/-! _law_well -/
abbrev b__law_well : List Stmt := defBody (top 37)
abbrev s__law_well : Scope := defScope (top 37)
abbrev a__law_well : Arguments := defArgs (top 37)
def N__law_well : List Str := (["script", "lap", "stirred", "cell", "own"] : List Str)
def ps__law_well : List Str := ["script", "lap"]
theorem bd__law_well : Bd "_law_well" ps__law_well a__law_well b__law_well s__law_well := fun _ _ _ _ _ _ us h => match us, h with
  | [u0, u1], _ => by kernel_rfl
theorem sc__law_well : FnScope N__law_well ps__law_well s__law_well := ⟨rfl, rfl, rfl, by decide +kernel, rfl, by decide +kernel, by decide +kernel⟩
def m__law_well : M Res := (onlyNx ((((pure (Res.val (.int 130577)) : M Res) >>= toP) >>= fun x => ((((pure (Res.val (.int 7013)) : M Res) >>= toP) >>= fun x => ((rdM 1) >>= toP) >>= fun y => mulL x y) >>= toP) >>= fun y => addM x y) >>= setM 2)
  (onlyNx ((((((rdM 0) >>= toP) >>= fun x => (pure none) >>= fun l => (((pure (Res.val (.int 12)) : M Res) >>= toP) >>= intM) >>= fun h => cutM x l h) >>= toE) >>= seqM) >>= forM (.name 3) ((((((((((((rdM 2) >>= toP) >>= fun x => ((pure (Res.val (.int 45281)) : M Res) >>= toP) >>= fun y => mulL x y) >>= toP) >>= fun x => ((((((rdM 3) >>= toP) >>= intM') >>= toP) >>= fun x => ((pure (Res.val (.int 2147483549)) : M Res) >>= toP) >>= fun y => modM x y) >>= toP) >>= fun y => addM x y) >>= toP) >>= fun x => ((pure (Res.val (.int 19)) : M Res) >>= toP) >>= fun y => addM x y) >>= toP) >>= intM') >>= toP) >>= fun x => ((pure (Res.val (.int 2147483563)) : M Res) >>= toP) >>= fun y => modM x y) >>= setM 2))
  (onlyNx ((((((rdM 1) >>= toP) >>= fun x => ((((rdM 0) >>= toP) >>= lenM) >>= toP) >>= fun y => ltM x y) >>= asBool) >>= fun k => if k then (((((rdM 0) >>= toP) >>= fun x => ((rdM 1) >>= toP) >>= fun i => itemM x i) >>= toP) >>= intM') else (pure (Res.val (.int 0)) : M Res)) >>= setM 4)
  (onlyNx ((((((((((((rdM 2) >>= toP) >>= fun x => ((pure (Res.val (.int 41)) : M Res) >>= toP) >>= fun y => mulL x y) >>= toP) >>= fun x => ((((((((rdM 4) >>= toP) >>= intM') >>= toP) >>= fun x => ((pure (Res.val (.int 2147483549)) : M Res) >>= toP) >>= fun y => modM x y) >>= toP) >>= fun x => ((pure (Res.val (.int 15031)) : M Res) >>= toP) >>= fun y => mulL x y) >>= toP) >>= fun y => addM x y) >>= toP) >>= fun x => ((pure (Res.val (.int 5)) : M Res) >>= toP) >>= fun y => addM x y) >>= toP) >>= intM') >>= toP) >>= fun x => ((pure (Res.val (.int 2147483563)) : M Res) >>= toP) >>= fun y => modM x y) >>= setM 2)
  (((((orB ((((rdM 4) >>= toP) >>= fun x => ((pure (Res.val (.int 0)) : M Res) >>= toP) >>= fun y => ltM x y) >>= asBool) ((((rdM 4) >>= toP) >>= fun x => ((((pure (Res.val (.int 10)) : M Res) >>= toP) >>= fun x => ((pure (Res.val (.int 15)) : M Res) >>= toP) >>= fun y => powM x y) >>= toP) >>= fun y => geM x y) >>= asBool)) >>= fun k => if k then (((rdM 4) >>= toP) >>= absM) else (pure (Res.val (.int 0)) : M Res)) >>= toE) >>= fun d => (((rdM 2) >>= toE) >>= fun d => (((pure (Res.val (.int 0)) : M Res) >>= toE) >>= fun d => (pure []) >>= fun ds => pure (d :: ds)) >>= fun ds => pure (d :: ds)) >>= fun ds => pure (d :: ds)) >>= lstM)))))
def D__law_well : FnW := fnW N__law_well m__law_well
structure Ph__law_well (G : Gr) (k : Nat) : Prop where
  b : Base G
theorem w__law_well {fx : Fx} {k : Nat} (d : DCtx Ph__law_well fx k N__law_well s__law_well) : WlOk fx b__law_well m__law_well :=
  have c := d.toCtx
  (wlCons (sSet c.nd (d.ld 2 "stirred" (by kernel_rfl)) rfl (rBin opS_add (ROk.toP rConst) (ROk.toP (rBin opS_mulL (ROk.toP rConst) (ROk.toP (rNm (c.nm 1 "lap" (by kernel_rfl))))))))
  (wlCons (stFor d.po c.calm rfl (iSeq' (ROk.toE (rCut (ROk.toP (rNm (c.nm 0 "script" (by kernel_rfl)))) oNone (oSome (ROk.toP rConst))))) (gNm c.nd (d.ld 3 "cell" (by kernel_rfl))) (ssOne (sSet c.nd (d.ld 2 "stirred" (by kernel_rfl)) rfl (rBin opS_mod (ROk.toP (rTy1 cInt (c.gl "int" (by kernel_rfl)) (c.φ.b.free "int" (by kernel_rfl)) boot_int (by decide) rfl rfl (ROk.toP (rBin opS_add (ROk.toP (rBin opS_add (ROk.toP (rBin opS_mulL (ROk.toP (rNm (c.nm 2 "stirred" (by kernel_rfl)))) (ROk.toP rConst))) (ROk.toP (rBin opS_mod (ROk.toP (rTy1 cInt (c.gl "int" (by kernel_rfl)) (c.φ.b.free "int" (by kernel_rfl)) boot_int (by decide) rfl rfl (ROk.toP (rNm (c.nm 3 "cell" (by kernel_rfl)))))) (ROk.toP rConst))))) (ROk.toP rConst))))) (ROk.toP rConst)))))
  (wlCons (sSet c.nd (d.ld 4 "own" (by kernel_rfl)) rfl (rIf (tCmp' opS_lt (ROk.toP (rNm (c.nm 1 "lap" (by kernel_rfl)))) (ROk.toP (rBlt1 cLen (c.gl "len" (by kernel_rfl)) (c.φ.b.free "len" (by kernel_rfl)) boot_len (by decide) rfl rfl (ROk.toP (rNm (c.nm 0 "script" (by kernel_rfl)))))) rfl) (rTy1 cInt (c.gl "int" (by kernel_rfl)) (c.φ.b.free "int" (by kernel_rfl)) boot_int (by decide) rfl rfl (ROk.toP (rItem rfl (ROk.toP (rNm (c.nm 0 "script" (by kernel_rfl)))) (ROk.toP (rNm (c.nm 1 "lap" (by kernel_rfl))))))) rConst))
  (wlCons (sSet c.nd (d.ld 2 "stirred" (by kernel_rfl)) rfl (rBin opS_mod (ROk.toP (rTy1 cInt (c.gl "int" (by kernel_rfl)) (c.φ.b.free "int" (by kernel_rfl)) boot_int (by decide) rfl rfl (ROk.toP (rBin opS_add (ROk.toP (rBin opS_add (ROk.toP (rBin opS_mulL (ROk.toP (rNm (c.nm 2 "stirred" (by kernel_rfl)))) (ROk.toP rConst))) (ROk.toP (rBin opS_mulL (ROk.toP (rBin opS_mod (ROk.toP (rTy1 cInt (c.gl "int" (by kernel_rfl)) (c.φ.b.free "int" (by kernel_rfl)) boot_int (by decide) rfl rfl (ROk.toP (rNm (c.nm 4 "own" (by kernel_rfl)))))) (ROk.toP rConst))) (ROk.toP rConst))))) (ROk.toP rConst))))) (ROk.toP rConst)))
  (wlRet (rLst (aCons rfl (ROk.toE (rIf (WOk.t (wOr (tCmp' opS_lt (ROk.toP (rNm (c.nm 4 "own" (by kernel_rfl)))) (ROk.toP rConst) rfl) (wOr1 (tCmp' opS_ge (ROk.toP (rNm (c.nm 4 "own" (by kernel_rfl)))) (ROk.toP (rBin opS_pow (ROk.toP rConst) (ROk.toP rConst))) rfl)))) (rBlt1 cAbs (c.gl "abs" (by kernel_rfl)) (c.φ.b.free "abs" (by kernel_rfl)) boot_abs (by decide) rfl rfl (ROk.toP (rNm (c.nm 4 "own" (by kernel_rfl))))) rConst)) (aCons rfl (ROk.toE (rNm (c.nm 2 "stirred" (by kernel_rfl)))) (aCons rfl (ROk.toE rConst) aNil)))))))))
theorem d__law_well {G : Gr} (b : Base G) (h : ∃ f fd, G.mg "_law_well" = some (.ref f) ∧ FunD G.K "_law_well" "_law_well" a__law_well b__law_well s__law_well [] [] f fd)  : DefOkW G "_law_well" 1 ps__law_well a__law_well b__law_well s__law_well D__law_well :=
  DefOkW.of (k := 0) b.g h sc__law_well fun fx eG fr hN hs po fn => w__law_well ⟨⟨fr, hN, hs, by rw [eG]; exact ⟨b⟩⟩, po, by kernel_rfl, fn⟩
/-! _law_draw -/
abbrev b__law_draw : List Stmt := defBody (top 38)
abbrev s__law_draw : Scope := defScope (top 38)
abbrev a__law_draw : Arguments := defArgs (top 38)
def N__law_draw : List Str := (["well", "limit", "digit", "stir"] : List Str)
def ps__law_draw : List Str := ["well", "limit"]
theorem bd__law_draw : Bd "_law_draw" ps__law_draw a__law_draw b__law_draw s__law_draw := fun _ _ _ _ _ _ us h => match us, h with
  | [u0, u1], _ => by kernel_rfl
theorem sc__law_draw : FnScope N__law_draw ps__law_draw s__law_draw := ⟨rfl, rfl, rfl, by decide +kernel, rfl, by decide +kernel, by decide +kernel⟩
def m__law_draw : M Out := (andThen (((((rdWell 0 0) >>= toP) >>= fun x => ((pure (Res.val (.int 0)) : M Res) >>= toP) >>= fun y => gtM x y) >>= asBool) >>= fun k => if k then (andThen (((((rdWell 0 0) >>= toP) >>= fun d => ((rdM 1) >>= toP) >>= fun e => divmodM d e) >>= toE) >>= fun d => (putTup 2 (putsCons (putWell 0 0) (putsCons (putN 2) putsNil))) d >>= fun _ => pure .nx)
  (((rdM 2) >>= toE) >>= fun d => pure (.rt d))) else (pure .nx))
  (andThen (((((rdWell 0 2) >>= toP) >>= fun x => ((pure (Res.val (.int 1)) : M Res) >>= toP) >>= fun y => addM x y) >>= toE) >>= fun d => (putWell 0 2) d >>= fun _ => pure .nx)
  (andThen ((((((((((((rdWell 0 1) >>= toP) >>= fun x => ((pure (Res.val (.int 40037)) : M Res) >>= toP) >>= fun y => mulL x y) >>= toP) >>= fun x => ((((pure (Res.val (.int 13001)) : M Res) >>= toP) >>= fun x => ((rdWell 0 2) >>= toP) >>= fun y => mulL x y) >>= toP) >>= fun y => addM x y) >>= toP) >>= fun x => ((pure (Res.val (.int 7)) : M Res) >>= toP) >>= fun y => addM x y) >>= toP) >>= intM') >>= toP) >>= fun x => ((pure (Res.val (.int 2147483563)) : M Res) >>= toP) >>= fun y => modM x y) >>= setM 3)
  (andThen (((((((((((rdM 3) >>= toP) >>= fun x => ((((((((rdM 3) >>= toP) >>= intM') >>= toP) >>= fun x => ((pure (Res.val (.int 5009)) : M Res) >>= toP) >>= fun y => modM x y) >>= toP) >>= fun x => ((pure (Res.val (.int 20023)) : M Res) >>= toP) >>= fun y => addM x y) >>= toP) >>= fun y => mulL x y) >>= toP) >>= fun x => ((rdWell 0 2) >>= toP) >>= fun y => addM x y) >>= toP) >>= intM') >>= toP) >>= fun x => ((pure (Res.val (.int 2147483563)) : M Res) >>= toP) >>= fun y => modM x y) >>= toE) >>= fun d => (putWell 0 1) d >>= fun _ => pure .nx)
  (((((((((rdWell 0 1) >>= toP) >>= fun x => ((pure (Res.val (.int 1013)) : M Res) >>= toP) >>= fun y => fdivM' x y) >>= toP) >>= intM') >>= toP) >>= fun x => ((rdM 1) >>= toP) >>= fun y => modM x y) >>= toE) >>= fun d => pure (.rt d))))))
def D__law_draw : FnP := fnM N__law_draw m__law_draw
structure Ph__law_draw (G : Gr) (k : Nat) : Prop where
  b : Base G
theorem w__law_draw {fx : Fx} {k : Nat} (d : DCtx Ph__law_draw fx k N__law_draw s__law_draw) : SsOk fx b__law_draw m__law_draw :=
  have c := d.toCtx
  (ssCons (stIf (tCmp' opS_gt (ROk.toP (rWellIx (j := 0) (c.nm 0 "well" (by kernel_rfl)))) (ROk.toP rConst) rfl) (ssCons (stTg rfl rfl (by first | rfl | (rw [swapped_scope c.hs]; kernel_rfl)) (tgTup c.calm rfl (tgsCons rfl (tgWell (j := 0) (c.nm 0 "well" (by kernel_rfl))) (tgsCons rfl (tNm c.nd (d.ld 2 "digit" (by kernel_rfl))) tgsNil))) (ROk.toE (rBlt2 cDivmod (c.gl "divmod" (by kernel_rfl)) (c.φ.b.free "divmod" (by kernel_rfl)) boot_divmod (by decide) rfl rfl rfl (ROk.toP (rWellIx (j := 0) (c.nm 0 "well" (by kernel_rfl)))) (ROk.toP (rNm (c.nm 1 "limit" (by kernel_rfl)))))))
  (ssOne (stRet (ROk.toE (rNm (c.nm 2 "digit" (by kernel_rfl))))))) ssNil)
  (ssCons (stTg rfl rfl (by first | rfl | (rw [swapped_scope c.hs]; kernel_rfl)) (tgWell (j := 2) (c.nm 0 "well" (by kernel_rfl))) (ROk.toE (rBin opS_add (ROk.toP (rWellIx (j := 2) (c.nm 0 "well" (by kernel_rfl)))) (ROk.toP rConst))))
  (ssCons (sSet c.nd (d.ld 3 "stir" (by kernel_rfl)) rfl (rBin opS_mod (ROk.toP (rTy1 cInt (c.gl "int" (by kernel_rfl)) (c.φ.b.free "int" (by kernel_rfl)) boot_int (by decide) rfl rfl (ROk.toP (rBin opS_add (ROk.toP (rBin opS_add (ROk.toP (rBin opS_mulL (ROk.toP (rWellIx (j := 1) (c.nm 0 "well" (by kernel_rfl)))) (ROk.toP rConst))) (ROk.toP (rBin opS_mulL (ROk.toP rConst) (ROk.toP (rWellIx (j := 2) (c.nm 0 "well" (by kernel_rfl)))))))) (ROk.toP rConst))))) (ROk.toP rConst)))
  (ssCons (stTg rfl rfl (by first | rfl | (rw [swapped_scope c.hs]; kernel_rfl)) (tgWell (j := 1) (c.nm 0 "well" (by kernel_rfl))) (ROk.toE (rBin opS_mod (ROk.toP (rTy1 cInt (c.gl "int" (by kernel_rfl)) (c.φ.b.free "int" (by kernel_rfl)) boot_int (by decide) rfl rfl (ROk.toP (rBin opS_add (ROk.toP (rBin opS_mulL (ROk.toP (rNm (c.nm 3 "stir" (by kernel_rfl)))) (ROk.toP (rBin opS_add (ROk.toP (rBin opS_mod (ROk.toP (rTy1 cInt (c.gl "int" (by kernel_rfl)) (c.φ.b.free "int" (by kernel_rfl)) boot_int (by decide) rfl rfl (ROk.toP (rNm (c.nm 3 "stir" (by kernel_rfl)))))) (ROk.toP rConst))) (ROk.toP rConst))))) (ROk.toP (rWellIx (j := 2) (c.nm 0 "well" (by kernel_rfl)))))))) (ROk.toP rConst))))
  (ssOne (stRet (ROk.toE (rBin opS_mod (ROk.toP (rTy1 cInt (c.gl "int" (by kernel_rfl)) (c.φ.b.free "int" (by kernel_rfl)) boot_int (by decide) rfl rfl (ROk.toP (rBin opS_fdiv (ROk.toP (rWellIx (j := 1) (c.nm 0 "well" (by kernel_rfl)))) (ROk.toP rConst))))) (ROk.toP (rNm (c.nm 1 "limit" (by kernel_rfl))))))))))))
theorem d__law_draw {G : Gr} (b : Base G) (h : ∃ f fd, G.mg "_law_draw" = some (.ref f) ∧ FunD G.K "_law_draw" "_law_draw" a__law_draw b__law_draw s__law_draw [] [] f fd)  : DefOk G "_law_draw" 1 ps__law_draw a__law_draw b__law_draw s__law_draw D__law_draw :=
  DefOk.of (k := 0) b.g h sc__law_draw fun fx eG fr hN hs po fn => w__law_draw ⟨⟨fr, hN, hs, by rw [eG]; exact ⟨b⟩⟩, po, by kernel_rfl, fn⟩
/-! _law_asked -/
abbrev b__law_asked : List Stmt := defBody (top 45)
abbrev s__law_asked : Scope := defScope (top 45)
abbrev a__law_asked : Arguments := defArgs (top 45)
def N__law_asked : List Str := (["shelf", "book", "each"] : List Str)
def ps__law_asked : List Str := ["shelf", "book"]
theorem bd__law_asked : Bd "_law_asked" ps__law_asked a__law_asked b__law_asked s__law_asked := fun _ _ _ _ _ _ us h => match us, h with
  | [u0, u1], _ => by kernel_rfl
theorem sc__law_asked : FnScope N__law_asked ps__law_asked s__law_asked := ⟨rfl, rfl, rfl, by decide +kernel, rfl, by decide +kernel, by decide +kernel⟩
def m__law_asked : M Out := ((((((((rdM 1) >>= toE) >>= fun d => (pure []) >>= fun ds => pure (d :: ds)) >>= tupM) >>= toP) >>= fun x => (((((((rdM 0) >>= toE) >>= seqM) >>= lcM [2] (.name 2) ((((rdM 2) >>= toP) >>= fun x => ((rdM 1) >>= toP) >>= fun y => neM x y) >>= asBool) ((rdM 2) >>= toE)) >>= toP) >>= tupleM) >>= toP) >>= fun y => addM x y) >>= toE) >>= fun d => pure (.rt d))
def D__law_asked : FnP := fnM N__law_asked m__law_asked
structure Ph__law_asked (G : Gr) (k : Nat) : Prop where
  b : Base G
theorem w__law_asked {fx : Fx} {k : Nat} (d : DCtx Ph__law_asked fx k N__law_asked s__law_asked) : SsOk fx b__law_asked m__law_asked :=
  have c := d.toCtx
  (ssOne (stRet (ROk.toE (rBin opS_add (ROk.toP (rTup (aCons rfl (ROk.toE (rNm (c.nm 1 "book" (by kernel_rfl)))) aNil))) (ROk.toP (rTy1 cTuple (c.gl "tuple" (by kernel_rfl)) (c.φ.b.free "tuple" (by kernel_rfl)) boot_tuple (by decide) rfl rfl (ROk.toP (cComp [("each", 2)] c (by kernel_rfl) rfl rfl (iSeq' (ROk.toE (rNm (c.nm 0 "shelf" (by kernel_rfl))))) (c.g fun _ c => (gNm c.nd (c.lc 2 "each" (by kernel_rfl)))) (c.t fun _ c => (tCmp' (opS_ne (by have := c.un; omega)) (ROk.toP (rNm (c.nm 2 "each" (by kernel_rfl)))) (ROk.toP (rNm (c.nm 1 "book" (by kernel_rfl)))) rfl)) (c.e fun _ c => (ROk.toE (rNm (c.nm 2 "each" (by kernel_rfl)))))))))))))
theorem d__law_asked {G : Gr} (b : Base G) (h : ∃ f fd, G.mg "_law_asked" = some (.ref f) ∧ FunD G.K "_law_asked" "_law_asked" a__law_asked b__law_asked s__law_asked [] [] f fd)  : DefOk G "_law_asked" 1 ps__law_asked a__law_asked b__law_asked s__law_asked D__law_asked :=
  DefOk.of (k := 0) b.g h sc__law_asked fun fx eG fr hN hs po fn => w__law_asked ⟨⟨fr, hN, hs, by rw [eG]; exact ⟨b⟩⟩, po, by kernel_rfl, fn⟩
/-! is_name -/
abbrev b_is_name : List Stmt := defBody (top 12)
abbrev s_is_name : Scope := defScope (top 12)
abbrev a_is_name : Arguments := defArgs (top 12)
def N_is_name : List Str := (["value"] : List Str)
def ps_is_name : List Str := ["value"]
theorem bd_is_name : Bd "is_name" ps_is_name a_is_name b_is_name s_is_name := fun _ _ _ _ _ _ us h => match us, h with
  | [u0], _ => by kernel_rfl
theorem sc_is_name : FnScope N_is_name ps_is_name s_is_name := ⟨rfl, rfl, rfl, by decide +kernel, rfl, by decide +kernel, by decide +kernel⟩
def m_is_name : M Out := ((((((consM (rdA 0) (pure [])) >>= callM 1 D_is_word) >>= toE) >>= fun d => truthM d >>= fun k => if k then (((((((rdM 0) >>= toP) >>= lenM) >>= toP) >>= fun x => ((pure (Res.val (.int 8)) : M Res) >>= toP) >>= fun y => leM x y) >>= toE) >>= fun d => truthM d >>= fun k => if k then (((rdM 0) >>= toP) >>= fun x => ((pure (Res.val kd_WORDS) : M Res) >>= toP) >>= fun y => (inM not) x y) else pure (.val d)) else pure (.val d)) >>= toE) >>= fun d => pure (.rt d))
def D_is_name : FnP := fnM N_is_name m_is_name
structure Ph_is_name (G : Gr) (k : Nat) : Prop where
  b : Base G
  is_word : DefOk G "is_word" k ps_is_word a_is_word b_is_word s_is_word D_is_word
theorem w_is_name {fx : Fx} {k : Nat} (d : DCtx Ph_is_name fx k N_is_name s_is_name) : SsOk fx b_is_name m_is_name :=
  have c := d.toCtx
  (ssOne (stRet (ROk.toE (rAnd (cCall c.fr c.φ.is_word bd_is_word (c.gl "is_word" (by kernel_rfl)) rfl rfl (lCons c.fr.g rfl (argName (c.nm 0 "value" (by kernel_rfl))) lNil)) (rAnd (rCmp opS_le (ROk.toP (rBlt1 cLen (c.gl "len" (by kernel_rfl)) (c.φ.b.free "len" (by kernel_rfl)) boot_len (by decide) rfl rfl (ROk.toP (rNm (c.nm 0 "value" (by kernel_rfl)))))) (ROk.toP (rGlobI (c.gl "MOST_SIGNS" (by kernel_rfl)) c.φ.b.k_MOST_SIGNS rfl)) rfl) (rOne (rCmp (opS_notIn (by have := c.un; omega)) (ROk.toP (rNm (c.nm 0 "value" (by kernel_rfl)))) (ROk.toP (rGlobD (c.gl "WORDS" (by kernel_rfl)) c.φ.b.k_WORDS rfl)) rfl)))))))
theorem d_is_name {G : Gr} (b : Base G) (h : ∃ f fd, G.mg "is_name" = some (.ref f) ∧ FunD G.K "is_name" "is_name" a_is_name b_is_name s_is_name [] [] f fd) (h0 : DefOk G "is_word" 1 ps_is_word a_is_word b_is_word s_is_word D_is_word) : DefOk G "is_name" 2 ps_is_name a_is_name b_is_name s_is_name D_is_name :=
  DefOk.of (k := 1) b.g h sc_is_name fun fx eG fr hN hs po fn => w_is_name ⟨⟨fr, hN, hs, by rw [eG]; exact ⟨b, h0.mono (by decide)⟩⟩, po, by kernel_rfl, fn⟩
/-! shelves_by -/
abbrev b_shelves_by : List Stmt := defBody (top 20)
abbrev s_shelves_by : Scope := defScope (top 20)
abbrev a_shelves_by : Arguments := defArgs (top 20)
def N_shelves_by : List Str := (["shelf", "askings", "found", "book"] : List Str)
def ps_shelves_by : List Str := ["shelf", "askings"]
theorem bd_shelves_by : Bd "shelves_by" ps_shelves_by a_shelves_by b_shelves_by s_shelves_by := fun _ _ _ _ _ _ us h => match us, h with
  | [u0, u1], _ => by kernel_rfl
theorem sc_shelves_by : FnScope N_shelves_by ps_shelves_by s_shelves_by := ⟨rfl, rfl, rfl, by decide +kernel, rfl, by decide +kernel, by decide +kernel⟩
def m_shelves_by : M Out := (andThen (((((rdM 0) >>= toE) >>= fun d => (pure []) >>= fun ds => pure (d :: ds)) >>= lstM) >>= setM 2)
  (andThen ((((rdM 1) >>= toE) >>= seqM) >>= forM (.name 3) ((ownAt 2 >>= fun _ => (((consM (((((rdM 2) >>= toP) >>= fun x => ((((pure (Res.val (.int 1)) : M Res) >>= toP) >>= negM) >>= toP) >>= fun i => itemM x i) >>= toE) >>= fun d => pure (.val d)) (consM (rdA 3) (pure []))) >>= callM 2 D_fronted) >>= toE) >>= appM 2) >>= fun _ => pure .nx))
  (((rdM 2) >>= toE) >>= fun d => pure (.rt d))))
def D_shelves_by : FnP := fnM N_shelves_by m_shelves_by
structure Ph_shelves_by (G : Gr) (k : Nat) : Prop where
  b : Base G
  fronted : DefOk G "fronted" k ps_fronted a_fronted b_fronted s_fronted D_fronted
theorem w_shelves_by {fx : Fx} {k : Nat} (d : DCtx Ph_shelves_by fx k N_shelves_by s_shelves_by) : SsOk fx b_shelves_by m_shelves_by :=
  have c := d.toCtx
  (ssCons (sSet c.nd (d.ld 2 "found" (by kernel_rfl)) rfl (rLst (aCons rfl (ROk.toE (rNm (c.nm 0 "shelf" (by kernel_rfl)))) aNil)))
  (ssCons (stFor d.po c.calm rfl (iSeq' (ROk.toE (rNm (c.nm 1 "askings" (by kernel_rfl))))) (gNm c.nd (d.ld 3 "book" (by kernel_rfl))) (ssOne (stExprX rfl (xAppend (c.nm 2 "found" (by kernel_rfl)) ⟨rfl, rfl, rfl⟩ rfl (EOk.x (ROk.toE (cCall c.fr c.φ.fronted bd_fronted (c.gl "fronted" (by kernel_rfl)) rfl rfl (lCons c.fr.g rfl (argVal (ROk.toE (rItem rfl (ROk.toP (rNm (c.nm 2 "found" (by kernel_rfl)))) (ROk.toP (rNeg (ROk.toP rConst)))))) (lCons c.fr.g rfl (argName (c.nm 3 "book" (by kernel_rfl))) lNil)))))))))
  (ssOne (stRet (ROk.toE (rNm (c.nm 2 "found" (by kernel_rfl))))))))
theorem d_shelves_by {G : Gr} (b : Base G) (h : ∃ f fd, G.mg "shelves_by" = some (.ref f) ∧ FunD G.K "shelves_by" "shelves_by" a_shelves_by b_shelves_by s_shelves_by [] [] f fd) (h0 : DefOk G "fronted" 1 ps_fronted a_fronted b_fronted s_fronted D_fronted) : DefOk G "shelves_by" 2 ps_shelves_by a_shelves_by b_shelves_by s_shelves_by D_shelves_by :=
  DefOk.of (k := 1) b.g h sc_shelves_by fun fx eG fr hN hs po fn => w_shelves_by ⟨⟨fr, hN, hs, by rw [eG]; exact ⟨b, h0.mono (by decide)⟩⟩, po, by kernel_rfl, fn⟩
/-! check_book_of -/
abbrev b_check_book_of : List Stmt := defBody (top 24)
abbrev s_check_book_of : Scope := defScope (top 24)
abbrev a_check_book_of : Arguments := defArgs (top 24)
def N_check_book_of : List Str := (["shelf", "value"] : List Str)
def ps_check_book_of : List Str := ["shelf", "value"]
theorem bd_check_book_of : Bd "check_book_of" ps_check_book_of a_check_book_of b_check_book_of s_check_book_of := fun _ _ _ _ _ _ us h => match us, h with
  | [u0, u1], _ => by kernel_rfl
theorem sc_check_book_of : FnScope N_check_book_of ps_check_book_of s_check_book_of := ⟨rfl, rfl, rfl, by decide +kernel, rfl, by decide +kernel, by decide +kernel⟩
def m_check_book_of : M Out := ((((((consM (rdA 1) (consM (rdA 0) (pure []))) >>= callM 2 D_is_one_of) >>= toP) >>= truthM) >>= fun b => pure (!b)) >>= fun k => if k then M.fail else (pure .nx))
def D_check_book_of : FnP := fnM N_check_book_of m_check_book_of
structure Ph_check_book_of (G : Gr) (k : Nat) : Prop where
  b : Base G
  is_one_of : DefOk G "is_one_of" k ps_is_one_of a_is_one_of b_is_one_of s_is_one_of D_is_one_of
theorem w_check_book_of {fx : Fx} {k : Nat} (d : DCtx Ph_check_book_of fx k N_check_book_of s_check_book_of) : SsOk fx b_check_book_of m_check_book_of :=
  have c := d.toCtx
  (ssOne (stIf (tNot' (tVal rfl (ROk.toP (cCall c.fr c.φ.is_one_of bd_is_one_of (c.gl "is_one_of" (by kernel_rfl)) rfl rfl (lCons c.fr.g rfl (argName (c.nm 1 "value" (by kernel_rfl))) (lCons c.fr.g rfl (argName (c.nm 0 "shelf" (by kernel_rfl))) lNil)))))) (ssOne stFail) ssNil))
theorem d_check_book_of {G : Gr} (b : Base G) (h : ∃ f fd, G.mg "check_book_of" = some (.ref f) ∧ FunD G.K "check_book_of" "check_book_of" a_check_book_of b_check_book_of s_check_book_of [] [] f fd) (h0 : DefOk G "is_one_of" 1 ps_is_one_of a_is_one_of b_is_one_of s_is_one_of D_is_one_of) : DefOk G "check_book_of" 2 ps_check_book_of a_check_book_of b_check_book_of s_check_book_of D_check_book_of :=
  DefOk.of (k := 1) b.g h sc_check_book_of fun fx eG fr hN hs po fn => w_check_book_of ⟨⟨fr, hN, hs, by rw [eG]; exact ⟨b, h0.mono (by decide)⟩⟩, po, by kernel_rfl, fn⟩
/-! _law_of -/
abbrev b__law_of : List Stmt := defBody (top 39)
abbrev s__law_of : Scope := defScope (top 39)
abbrev a__law_of : Arguments := defArgs (top 39)
def N__law_of : List Str := (["well", "some"] : List Str)
def ps__law_of : List Str := ["well", "some"]
theorem bd__law_of : Bd "_law_of" ps__law_of a__law_of b__law_of s__law_of := fun _ _ _ _ _ _ us h => match us, h with
  | [u0, u1], _ => by kernel_rfl
theorem sc__law_of : FnScope N__law_of ps__law_of s__law_of := ⟨rfl, rfl, rfl, by decide +kernel, rfl, by decide +kernel, by decide +kernel⟩
def m__law_of : M Out := (((((rdM 1) >>= toP) >>= fun x => (((consM (rdA 0) (consM (((((rdM 1) >>= toP) >>= lenM) >>= toE) >>= fun d => pure (.val d)) (pure []))) >>= callM 2 D__law_draw) >>= toP) >>= fun i => itemM x i) >>= toE) >>= fun d => pure (.rt d))
def D__law_of : FnP := fnM N__law_of m__law_of
structure Ph__law_of (G : Gr) (k : Nat) : Prop where
  b : Base G
  _law_draw : DefOk G "_law_draw" k ps__law_draw a__law_draw b__law_draw s__law_draw D__law_draw
theorem w__law_of {fx : Fx} {k : Nat} (d : DCtx Ph__law_of fx k N__law_of s__law_of) : SsOk fx b__law_of m__law_of :=
  have c := d.toCtx
  (ssOne (stRet (ROk.toE (rItem rfl (ROk.toP (rNm (c.nm 1 "some" (by kernel_rfl)))) (ROk.toP (cCall c.fr c.φ._law_draw bd__law_draw (c.gl "_law_draw" (by kernel_rfl)) rfl rfl (lCons c.fr.g rfl (argName (c.nm 0 "well" (by kernel_rfl))) (lCons c.fr.g rfl (argVal (ROk.toE (rBlt1 cLen (c.gl "len" (by kernel_rfl)) (c.φ.b.free "len" (by kernel_rfl)) boot_len (by decide) rfl rfl (ROk.toP (rNm (c.nm 1 "some" (by kernel_rfl))))))) lNil))))))))
theorem d__law_of {G : Gr} (b : Base G) (h : ∃ f fd, G.mg "_law_of" = some (.ref f) ∧ FunD G.K "_law_of" "_law_of" a__law_of b__law_of s__law_of [] [] f fd) (h0 : DefOk G "_law_draw" 1 ps__law_draw a__law_draw b__law_draw s__law_draw D__law_draw) : DefOk G "_law_of" 2 ps__law_of a__law_of b__law_of s__law_of D__law_of :=
  DefOk.of (k := 1) b.g h sc__law_of fun fx eG fr hN hs po fn => w__law_of ⟨⟨fr, hN, hs, by rw [eG]; exact ⟨b, h0.mono (by decide)⟩⟩, po, by kernel_rfl, fn⟩
/-! _law_code -/
abbrev b__law_code : List Stmt := defBody (top 46)
abbrev s__law_code : Scope := defScope (top 46)
abbrev a__law_code : Arguments := defArgs (top 46)
def N__law_code : List Str := (["shelf", "askings", "found", "book"] : List Str)
def ps__law_code : List Str := ["shelf", "askings"]
theorem bd__law_code : Bd "_law_code" ps__law_code a__law_code b__law_code s__law_code := fun _ _ _ _ _ _ us h => match us, h with
  | [u0, u1], _ => by kernel_rfl
theorem sc__law_code : FnScope N__law_code ps__law_code s__law_code := ⟨rfl, rfl, rfl, by decide +kernel, rfl, by decide +kernel, by decide +kernel⟩
def m__law_code : M Out := (andThen (((pure []) >>= tupM) >>= setM 2)
  (andThen ((((rdM 1) >>= toE) >>= seqM) >>= forM (.name 3) (((((rdM 2) >>= toP) >>= fun x => (((((((((rdM 0) >>= toP) >>= fun x => seqOnly x >>= fun _ => ((rdM 3) >>= toP) >>= fun d => idxM x d) >>= toP) >>= fun x => ((pure (Res.val (.int 1)) : M Res) >>= toP) >>= fun y => addM x y) >>= toE) >>= fun d => (pure []) >>= fun ds => pure (d :: ds)) >>= tupM) >>= toP) >>= fun y => addM x y) >>= toN) >>= fun r => (((consM (rdA 0) (consM (rdA 3) (pure []))) >>= callM 2 D__law_asked) >>= toN) >>= fun q => set2M 2 0 r q))
  (((rdM 2) >>= toE) >>= fun d => pure (.rt d))))
def D__law_code : FnP := fnM N__law_code m__law_code
structure Ph__law_code (G : Gr) (k : Nat) : Prop where
  b : Base G
  _law_asked : DefOk G "_law_asked" k ps__law_asked a__law_asked b__law_asked s__law_asked D__law_asked
theorem w__law_code {fx : Fx} {k : Nat} (d : DCtx Ph__law_code fx k N__law_code s__law_code) : SsOk fx b__law_code m__law_code :=
  have c := d.toCtx
  (ssCons (sSet c.nd (d.ld 2 "found" (by kernel_rfl)) rfl (rTup aNil))
  (ssCons (stFor d.po c.calm rfl (iSeq' (ROk.toE (rNm (c.nm 1 "askings" (by kernel_rfl))))) (gNm c.nd (d.ld 3 "book" (by kernel_rfl))) (ssOne (cPar 2 0 "found" "shelf" d (by kernel_rfl) (by kernel_rfl) rfl rfl (rBin opS_add (ROk.toP (rNm (c.nm 2 "found" (by kernel_rfl)))) (ROk.toP (rTup (aCons rfl (ROk.toE (rBin opS_add (ROk.toP (rIndex' c.fr.ok ⟨rfl, rfl, rfl⟩ rfl (ROk.toP (rNm (c.nm 0 "shelf" (by kernel_rfl)))) (ROk.toP (rNm (c.nm 3 "book" (by kernel_rfl)))))) (ROk.toP rConst))) aNil)))) (cCall c.fr c.φ._law_asked bd__law_asked (c.gl "_law_asked" (by kernel_rfl)) rfl rfl (lCons c.fr.g rfl (argName (c.nm 0 "shelf" (by kernel_rfl))) (lCons c.fr.g rfl (argName (c.nm 3 "book" (by kernel_rfl))) lNil))))))
  (ssOne (stRet (ROk.toE (rNm (c.nm 2 "found" (by kernel_rfl))))))))
theorem d__law_code {G : Gr} (b : Base G) (h : ∃ f fd, G.mg "_law_code" = some (.ref f) ∧ FunD G.K "_law_code" "_law_code" a__law_code b__law_code s__law_code [] [] f fd) (h0 : DefOk G "_law_asked" 1 ps__law_asked a__law_asked b__law_asked s__law_asked D__law_asked) : DefOk G "_law_code" 2 ps__law_code a__law_code b__law_code s__law_code D__law_code :=
  DefOk.of (k := 1) b.g h sc__law_code fun fx eG fr hN hs po fn => w__law_code ⟨⟨fr, hN, hs, by rw [eG]; exact ⟨b, h0.mono (by decide)⟩⟩, po, by kernel_rfl, fn⟩
/-! wrong_at -/
abbrev b_wrong_at : List Stmt := defBody (top 9)
abbrev s_wrong_at : Scope := defScope (top 9)
abbrev a_wrong_at : Arguments := defArgs (top 9)
def N_wrong_at : List Str := (["value", "is_right", "at", "each"] : List Str)
def ps_wrong_at : List Str := ["value", "is_right"]
theorem bd_wrong_at : Bd "wrong_at" ps_wrong_at a_wrong_at b_wrong_at s_wrong_at := fun _ _ _ _ _ _ us h => match us, h with
  | [u0, u1], _ => by kernel_rfl
theorem sc_wrong_at : FnScope N_wrong_at ps_wrong_at s_wrong_at := ⟨rfl, rfl, rfl, by decide +kernel, rfl, by decide +kernel, by decide +kernel⟩
def m_wrong_at (f0 : Addr) (D0 : FnP) : M Out := (andThen (((((((rdM 0) >>= toP) >>= isiM "tuple") >>= toP) >>= truthM) >>= fun b => pure (!b)) >>= fun k => if k then ((((((pure (Res.val .none) : M Res) >>= toE) >>= fun d => (pure []) >>= fun ds => pure (d :: ds)) >>= lstM) >>= toE) >>= fun d => pure (.rt d)) else (pure .nx))
  (andThen (((((rdM 0) >>= toE) >>= fun d => (pure []) >>= fun ds => pure (d :: ds)) >>= enumM) >>= forM (.tup [(.name 2), (.name 3)]) (((((rdClo 1 f0 >>= fun _ => (consM (rdA 3) (consM (((((rdM 0) >>= toP) >>= fun x => (pure none) >>= fun l => (((rdM 2) >>= toP) >>= intM) >>= fun h => cutM x l h) >>= toE) >>= fun d => pure (.val d)) (pure []))) >>= callM 2 D0) >>= toP) >>= truthM) >>= fun b => pure (!b)) >>= fun k => if k then ((((((rdM 2) >>= toE) >>= fun d => (pure []) >>= fun ds => pure (d :: ds)) >>= lstM) >>= toE) >>= fun d => pure (.rt d)) else (pure .nx)))
  ((((pure []) >>= lstM) >>= toE) >>= fun d => pure (.rt d))))
def D_wrong_at : DwP := fun f0 D0 => fnM N_wrong_at (m_wrong_at f0 D0)
structure Ph_wrong_at (G : Gr) (k : Nat) : Prop where
  b : Base G
theorem w_wrong_at (f0 : Addr) (D0 : FnP) {fx : Fx} {k : Nat} (d : DCtx Ph_wrong_at fx k N_wrong_at s_wrong_at) (cc : CloCall fx 2 f0 D0) : SsOk fx b_wrong_at (m_wrong_at f0 D0) :=
  have c := d.toCtx
  (ssCons (stIf (tNot' (tVal rfl (ROk.toP (rIsi' (c.gl "isinstance" (by kernel_rfl)) (c.φ.b.free "isinstance" (by kernel_rfl)) (c.gl "tuple" (by kernel_rfl)) (c.φ.b.free "tuple" (by kernel_rfl)) (T := "tuple") (by decide +kernel) (by decide +kernel) rfl rfl (ROk.toP (rNm (c.nm 0 "value" (by kernel_rfl)))))))) (ssOne (stRet (ROk.toE (rLst (aCons rfl (ROk.toE rConst) aNil))))) ssNil)
  (ssCons (stFor d.po c.calm rfl (iEnum' (c.gl "enumerate" (by kernel_rfl)) (c.φ.b.free "enumerate" (by kernel_rfl)) c.calm rfl (aCons rfl (ROk.toE (rNm (c.nm 0 "value" (by kernel_rfl)))) aNil)) (gTup' c.calm rfl rfl (gsCons rfl (gNm c.nd (d.ld 2 "at" (by kernel_rfl))) (gsCons rfl (gNm c.nd (d.ld 3 "each" (by kernel_rfl))) gsNil))) (ssOne (stIf (tNot' (tVal rfl (ROk.toP (rCallV cc (fun F v cs z => c.φ.b.c.un F v f0 cs z) (c.nm 1 "is_right" (by kernel_rfl)) rfl (lCons c.fr.g rfl (argName (c.nm 3 "each" (by kernel_rfl))) (lCons c.fr.g rfl (argVal (ROk.toE (rCut (ROk.toP (rNm (c.nm 0 "value" (by kernel_rfl)))) oNone (oSome (ROk.toP (rNm (c.nm 2 "at" (by kernel_rfl)))))))) lNil)))))) (ssOne (stRet (ROk.toE (rLst (aCons rfl (ROk.toE (rNm (c.nm 2 "at" (by kernel_rfl)))) aNil))))) ssNil)))
  (ssOne (stRet (ROk.toE (rLst aNil))))))
theorem d_wrong_at {G : Gr} (b : Base G) (h : ∃ f fd, G.mg "wrong_at" = some (.ref f) ∧ FunD G.K "wrong_at" "wrong_at" a_wrong_at b_wrong_at s_wrong_at [] [] f fd)  : DefOkC G "wrong_at" 2 ps_wrong_at a_wrong_at b_wrong_at s_wrong_at 2 D_wrong_at :=
  DefOkC.of (k := 2) b.g h sc_wrong_at fun f0 D0 fx eG fr hN hs po fn cc => w_wrong_at f0 D0 ⟨⟨fr, hN, hs, by rw [eG]; exact ⟨b⟩⟩, po, by kernel_rfl, fn⟩ cc
/-! is_shelf_form -/
abbrev b_is_shelf_form : List Stmt := defBody (top 16)
abbrev s_is_shelf_form : Scope := defScope (top 16)
abbrev a_is_shelf_form : Arguments := defArgs (top 16)
def N_is_shelf_form : List Str := (["value", "book"] : List Str)
def ps_is_shelf_form : List Str := ["value"]
theorem bd_is_shelf_form : Bd "is_shelf_form" ps_is_shelf_form a_is_shelf_form b_is_shelf_form s_is_shelf_form := fun _ _ _ _ _ _ us h => match us, h with
  | [u0], _ => by kernel_rfl
theorem sc_is_shelf_form : FnScope N_is_shelf_form ps_is_shelf_form s_is_shelf_form := ⟨rfl, rfl, rfl, by decide +kernel, rfl, by decide +kernel, by decide +kernel⟩
def m_is_shelf_form : M Out := (andThen ((orB ((((((rdM 0) >>= toP) >>= isiM "tuple") >>= toP) >>= truthM) >>= fun b => pure (!b)) (orB ((((pure (Res.val (.int 1)) : M Res) >>= toP) >>= fun x => ((((rdM 0) >>= toP) >>= lenM) >>= toP) >>= fun y => (leM x y >>= asBool) >>= fun k => if k then (((pure (Res.val (.int 7)) : M Res) >>= toP) >>= fun z => leM y z) >>= asBool else pure false) >>= fun b => pure (!b)) (((((((((rdM 0) >>= toE) >>= seqM) >>= lcM [1] (.name 1) (pure true) (((consM (rdA 1) (pure [])) >>= callM 1 D_is_name) >>= toE)) >>= toP) >>= allM fun bs => bs.all id) >>= toP) >>= truthM) >>= fun b => pure (!b)))) >>= fun k => if k then (((pure (Res.val (.bool false)) : M Res) >>= toE) >>= fun d => pure (.rt d)) else (pure .nx))
  ((((((((rdM 0) >>= toE) >>= seqM) >>= lcM [1] (.name 1) (pure true) ((((((rdM 0) >>= toP) >>= fun x => seqOnly x >>= fun _ => ((rdM 1) >>= toP) >>= fun d => cntM x d) >>= toP) >>= fun x => ((pure (Res.val (.int 1)) : M Res) >>= toP) >>= fun y => eqM x y) >>= toE)) >>= toP) >>= allM fun bs => bs.all id) >>= toE) >>= fun d => pure (.rt d)))
def D_is_shelf_form : FnP := fnM N_is_shelf_form m_is_shelf_form
structure Ph_is_shelf_form (G : Gr) (k : Nat) : Prop where
  b : Base G
  is_name : DefOk G "is_name" k ps_is_name a_is_name b_is_name s_is_name D_is_name
theorem w_is_shelf_form {fx : Fx} {k : Nat} (d : DCtx Ph_is_shelf_form fx k N_is_shelf_form s_is_shelf_form) : SsOk fx b_is_shelf_form m_is_shelf_form :=
  have c := d.toCtx
  (ssCons (stIf (WOk.t (wOr (tNot' (tVal rfl (ROk.toP (rIsi' (c.gl "isinstance" (by kernel_rfl)) (c.φ.b.free "isinstance" (by kernel_rfl)) (c.gl "tuple" (by kernel_rfl)) (c.φ.b.free "tuple" (by kernel_rfl)) (T := "tuple") (by decide +kernel) (by decide +kernel) rfl rfl (ROk.toP (rNm (c.nm 0 "value" (by kernel_rfl)))))))) (wOr (tNot' (tChain2 opS_le opS_le rfl (ROk.toP rConst) (ROk.toP (rBlt1 cLen (c.gl "len" (by kernel_rfl)) (c.φ.b.free "len" (by kernel_rfl)) boot_len (by decide) rfl rfl (ROk.toP (rNm (c.nm 0 "value" (by kernel_rfl)))))) (ROk.toP (rGlobI (c.gl "MOST_BOOKS" (by kernel_rfl)) c.φ.b.k_MOST_BOOKS rfl)))) (wOr1 (tNot' (tVal rfl (ROk.toP (rBlt1 (cAll c.calm) (c.gl "all" (by kernel_rfl)) (c.φ.b.free "all" (by kernel_rfl)) boot_all (by decide) rfl rfl (ROk.toP (cComp [("book", 1)] c (by kernel_rfl) rfl rfl (iSeq' (ROk.toE (rNm (c.nm 0 "value" (by kernel_rfl))))) (c.g fun _ c => (gNm c.nd (c.lc 1 "book" (by kernel_rfl)))) .nil (c.e fun _ c => (ROk.toE (cCall c.fr c.φ.is_name bd_is_name (c.gl "is_name" (by kernel_rfl)) rfl rfl (lCons c.fr.g rfl (argName (c.nm 1 "book" (by kernel_rfl))) lNil)))))))))))))) (ssOne (stRet (ROk.toE rConst))) ssNil)
  (ssOne (stRet (ROk.toE (rBlt1 (cAll c.calm) (c.gl "all" (by kernel_rfl)) (c.φ.b.free "all" (by kernel_rfl)) boot_all (by decide) rfl rfl (ROk.toP (cComp [("book", 1)] c (by kernel_rfl) rfl rfl (iSeq' (ROk.toE (rNm (c.nm 0 "value" (by kernel_rfl))))) (c.g fun _ c => (gNm c.nd (c.lc 1 "book" (by kernel_rfl)))) .nil (c.e fun _ c => (ROk.toE (rCmp (opS_eq (by have := c.un; omega)) (ROk.toP (rCount c.fr.ok ⟨rfl, rfl, rfl⟩ rfl (ROk.toP (rNm (c.nm 0 "value" (by kernel_rfl)))) (ROk.toP (rNm (c.nm 1 "book" (by kernel_rfl)))))) (ROk.toP rConst) rfl))))))))))
theorem d_is_shelf_form {G : Gr} (b : Base G) (h : ∃ f fd, G.mg "is_shelf_form" = some (.ref f) ∧ FunD G.K "is_shelf_form" "is_shelf_form" a_is_shelf_form b_is_shelf_form s_is_shelf_form [] [] f fd) (h0 : DefOk G "is_name" 2 ps_is_name a_is_name b_is_name s_is_name D_is_name) : DefOk G "is_shelf_form" 3 ps_is_shelf_form a_is_shelf_form b_is_shelf_form s_is_shelf_form D_is_shelf_form :=
  DefOk.of (k := 2) b.g h sc_is_shelf_form fun fx eG fr hN hs po fn => w_is_shelf_form ⟨⟨fr, hN, hs, by rw [eG]; exact ⟨b, h0.mono (by decide)⟩⟩, po, by kernel_rfl, fn⟩
/-! code_by -/
abbrev b_code_by : List Stmt := defBody (top 21)
abbrev s_code_by : Scope := defScope (top 21)
abbrev a_code_by : Arguments := defArgs (top 21)
def N_code_by : List Str := (["shelf", "askings", "own", "book"] : List Str)
def ps_code_by : List Str := ["shelf", "askings"]
theorem bd_code_by : Bd "code_by" ps_code_by a_code_by b_code_by s_code_by := fun _ _ _ _ _ _ us h => match us, h with
  | [u0, u1], _ => by kernel_rfl
theorem sc_code_by : FnScope N_code_by ps_code_by s_code_by := ⟨rfl, rfl, rfl, by decide +kernel, rfl, by decide +kernel, by decide +kernel⟩
def m_code_by : M Out := ((((((((consM (rdA 0) (consM (rdA 1) (pure []))) >>= callM 2 D_shelves_by) >>= toE) >>= fun d => (((rdM 1) >>= toE) >>= fun d => (pure []) >>= fun ds => pure (d :: ds)) >>= fun ds => pure (d :: ds)) >>= zipM) >>= lcM [2, 3] (.tup [(.name 2), (.name 3)]) (pure true) (((consM (rdA 2) (consM (rdA 3) (pure []))) >>= callM 2 D_place_in) >>= toE)) >>= toE) >>= fun d => pure (.rt d))
def D_code_by : FnP := fnM N_code_by m_code_by
structure Ph_code_by (G : Gr) (k : Nat) : Prop where
  b : Base G
  shelves_by : DefOk G "shelves_by" k ps_shelves_by a_shelves_by b_shelves_by s_shelves_by D_shelves_by
  place_in : DefOk G "place_in" k ps_place_in a_place_in b_place_in s_place_in D_place_in
theorem w_code_by {fx : Fx} {k : Nat} (d : DCtx Ph_code_by fx k N_code_by s_code_by) : SsOk fx b_code_by m_code_by :=
  have c := d.toCtx
  (ssOne (stRet (ROk.toE (cComp [("own", 2), ("book", 3)] c (by kernel_rfl) rfl rfl (iZip' (c.gl "zip" (by kernel_rfl)) (c.φ.b.free "zip" (by kernel_rfl)) c.calm rfl rfl (aCons rfl (ROk.toE (cCall c.fr c.φ.shelves_by bd_shelves_by (c.gl "shelves_by" (by kernel_rfl)) rfl rfl (lCons c.fr.g rfl (argName (c.nm 0 "shelf" (by kernel_rfl))) (lCons c.fr.g rfl (argName (c.nm 1 "askings" (by kernel_rfl))) lNil)))) (aCons rfl (ROk.toE (rNm (c.nm 1 "askings" (by kernel_rfl)))) aNil))) (c.g fun _ c => (gTup' c.calm rfl rfl (gsCons rfl (gNm c.nd (c.lc 2 "own" (by kernel_rfl))) (gsCons rfl (gNm c.nd (c.lc 3 "book" (by kernel_rfl))) gsNil)))) .nil (c.e fun _ c => (ROk.toE (cCall c.fr c.φ.place_in bd_place_in (c.gl "place_in" (by kernel_rfl)) rfl rfl (lCons c.fr.g rfl (argName (c.nm 2 "own" (by kernel_rfl))) (lCons c.fr.g rfl (argName (c.nm 3 "book" (by kernel_rfl))) lNil)))))))))
theorem d_code_by {G : Gr} (b : Base G) (h : ∃ f fd, G.mg "code_by" = some (.ref f) ∧ FunD G.K "code_by" "code_by" a_code_by b_code_by s_code_by [] [] f fd) (h0 : DefOk G "shelves_by" 2 ps_shelves_by a_shelves_by b_shelves_by s_shelves_by D_shelves_by) (h1 : DefOk G "place_in" 1 ps_place_in a_place_in b_place_in s_place_in D_place_in) : DefOk G "code_by" 3 ps_code_by a_code_by b_code_by s_code_by D_code_by :=
  DefOk.of (k := 2) b.g h sc_code_by fun fx eG fr hN hs po fn => w_code_by ⟨⟨fr, hN, hs, by rw [eG]; exact ⟨b, h0.mono (by decide), h1.mono (by decide)⟩⟩, po, by kernel_rfl, fn⟩
/-! places_by -/
abbrev b_places_by : List Stmt := defBody (top 29)
abbrev s_places_by : Scope := defScope (top 29)
abbrev a_places_by : Arguments := defArgs (top 29)
def N_places_by : List Str := (["shelf", "askings", "book", "own"] : List Str)
def ps_places_by : List Str := ["shelf", "askings", "book"]
theorem bd_places_by : Bd "places_by" ps_places_by a_places_by b_places_by s_places_by := fun _ _ _ _ _ _ us h => match us, h with
  | [u0, u1, u2], _ => by kernel_rfl
theorem sc_places_by : FnScope N_places_by ps_places_by s_places_by := ⟨rfl, rfl, rfl, by decide +kernel, rfl, by decide +kernel, by decide +kernel⟩
def m_places_by : M Out := (((frzM [2] >>= fun _ => (((((consM (rdA 0) (consM (rdA 1) (pure []))) >>= callM 2 D_shelves_by) >>= toE) >>= seqM) >>= lcM [3] (.name 3) (pure true) (((consM (rdA 3) (consM (rdA 2) (pure []))) >>= callM 2 D_place_in) >>= toE))) >>= toE) >>= fun d => pure (.rt d))
def D_places_by : FnP := fnM N_places_by m_places_by
structure Ph_places_by (G : Gr) (k : Nat) : Prop where
  b : Base G
  shelves_by : DefOk G "shelves_by" k ps_shelves_by a_shelves_by b_shelves_by s_shelves_by D_shelves_by
  place_in : DefOk G "place_in" k ps_place_in a_place_in b_place_in s_place_in D_place_in
theorem w_places_by {fx : Fx} {k : Nat} (d : DCtx Ph_places_by fx k N_places_by s_places_by) : SsOk fx b_places_by m_places_by :=
  have c := d.toCtx
  (ssOne (stRet (ROk.toE (rFrz [2] (cComp [("own", 3)] c (by kernel_rfl) rfl rfl (iSeq' (ROk.toE (cCall c.fr c.φ.shelves_by bd_shelves_by (c.gl "shelves_by" (by kernel_rfl)) rfl rfl (lCons c.fr.g rfl (argName (c.nm 0 "shelf" (by kernel_rfl))) (lCons c.fr.g rfl (argName (c.nm 1 "askings" (by kernel_rfl))) lNil))))) (c.g fun _ c => (gNm c.nd (c.lc 3 "own" (by kernel_rfl)))) .nil (c.e fun _ c => (ROk.toE (cCall c.fr c.φ.place_in bd_place_in (c.gl "place_in" (by kernel_rfl)) rfl rfl (lCons c.fr.g rfl (argName (c.nm 3 "own" (by kernel_rfl))) (lCons c.fr.g rfl (argName (c.nm 2 "book" (by kernel_rfl))) lNil))))))))))
theorem d_places_by {G : Gr} (b : Base G) (h : ∃ f fd, G.mg "places_by" = some (.ref f) ∧ FunD G.K "places_by" "places_by" a_places_by b_places_by s_places_by [] [] f fd) (h0 : DefOk G "shelves_by" 2 ps_shelves_by a_shelves_by b_shelves_by s_shelves_by D_shelves_by) (h1 : DefOk G "place_in" 1 ps_place_in a_place_in b_place_in s_place_in D_place_in) : DefOk G "places_by" 3 ps_places_by a_places_by b_places_by s_places_by D_places_by :=
  DefOk.of (k := 2) b.g h sc_places_by fun fx eG fr hN hs po fn => w_places_by ⟨⟨fr, hN, hs, by rw [eG]; exact ⟨b, h0.mono (by decide), h1.mono (by decide)⟩⟩, po, by kernel_rfl, fn⟩
/-! _law_names -/
abbrev b__law_names : List Stmt := defBody (top 41)
abbrev s__law_names : Scope := defScope (top 41)
abbrev a__law_names : Arguments := defArgs (top 41)
def N__law_names : List Str := (["well", "many", "found", "letters", "words", "k", "name", "lap"] : List Str)
def ps__law_names : List Str := ["well", "many"]
theorem bd__law_names : Bd "_law_names" ps__law_names a__law_names b__law_names s__law_names := fun _ _ _ _ _ _ us h => match us, h with
  | [u0, u1], _ => by kernel_rfl
theorem sc__law_names : FnScope N__law_names ps__law_names s__law_names := ⟨rfl, rfl, rfl, by decide +kernel, rfl, by decide +kernel, by decide +kernel⟩
def m__law_names : M Out := (andThen ((((pure []) >>= lstM) >>= toN) >>= fun r => ((pure (Res.val (.str "abcdefghijklmnopqrstuvwxyz")) : M Res) >>= toN) >>= fun q => set2M 2 3 r q)
  (andThen ((pure (Res.val (.str "ahead all as ask at behind book by code cost end first fixed front in is last leave never next none of")) : M Res) >>= setM 4)
  (andThen ((((((rdM 4) >>= toP) >>= fun x => strOnly x >>= fun _ => ((pure (Res.val (.str " ")) : M Res) >>= toP) >>= fun d => splitM x d) >>= toP) >>= fun x => ((((pure (Res.val (.str "order place put shelf step take times to undo with")) : M Res) >>= toP) >>= fun x => strOnly x >>= fun _ => ((pure (Res.val (.str " ")) : M Res) >>= toP) >>= fun d => splitM x d) >>= toP) >>= fun y => addM x y) >>= setM 4)
  (andThen (((((rdM 1) >>= toE) >>= fun d => (pure []) >>= fun ds => pure (d :: ds)) >>= rng1M) >>= forM (.name 5) (andThen ((pure (Res.val (.str "")) : M Res) >>= setM 6)
  (andThen ((((((consM (rdA 0) (consM ((((((pure (Res.val (.int 0)) : M Res) >>= toE) >>= fun d => (((pure (Res.val (.int 1)) : M Res) >>= toE) >>= fun d => (((pure (Res.val (.int 2)) : M Res) >>= toE) >>= fun d => (((pure (Res.val (.int 3)) : M Res) >>= toE) >>= fun d => (((pure (Res.val (.int 7)) : M Res) >>= toE) >>= fun d => (pure []) >>= fun ds => pure (d :: ds)) >>= fun ds => pure (d :: ds)) >>= fun ds => pure (d :: ds)) >>= fun ds => pure (d :: ds)) >>= fun ds => pure (d :: ds)) >>= tupM) >>= toE) >>= fun d => pure (.val d)) (pure []))) >>= callM 2 D__law_of) >>= toE) >>= fun d => (pure []) >>= fun ds => pure (d :: ds)) >>= rng1M) >>= forM (.name 7) ((((rdM 6) >>= toP) >>= fun x => (((consM (rdA 0) (consM (rdA 3) (pure []))) >>= callM 2 D__law_of) >>= toP) >>= fun y => addM x y) >>= setM 6))
  (andThen ((((rdM 6) >>= toP) >>= fun x => ((((rdM 3) >>= toP) >>= fun x => ((rdM 5) >>= toP) >>= fun i => itemM x i) >>= toP) >>= fun y => addM x y) >>= setM 6)
  ((ownAt 2 >>= fun _ => ((((((rdM 6) >>= toP) >>= fun x => ((rdM 4) >>= toP) >>= fun y => (inM id) x y) >>= asBool) >>= fun k => if k then (((pure (Res.val (.str "q")) : M Res) >>= toP) >>= fun x => ((((rdM 3) >>= toP) >>= fun x => ((rdM 5) >>= toP) >>= fun i => itemM x i) >>= toP) >>= fun y => addM x y) else (rdM 6)) >>= toE) >>= appM 2) >>= fun _ => pure .nx)))))
  (((((rdM 2) >>= toP) >>= tupleM) >>= toE) >>= fun d => pure (.rt d))))))
def D__law_names : FnP := fnM N__law_names m__law_names
structure Ph__law_names (G : Gr) (k : Nat) : Prop where
  b : Base G
  _law_of : DefOk G "_law_of" k ps__law_of a__law_of b__law_of s__law_of D__law_of
theorem w__law_names {fx : Fx} {k : Nat} (d : DCtx Ph__law_names fx k N__law_names s__law_names) : SsOk fx b__law_names m__law_names :=
  have c := d.toCtx
  (ssCons (cPar 2 3 "found" "letters" d (by kernel_rfl) (by kernel_rfl) rfl rfl (rLst aNil) rConst)
  (ssCons (sSet c.nd (d.ld 4 "words" (by kernel_rfl)) rfl rConst)
  (ssCons (sSet c.nd (d.ld 4 "words" (by kernel_rfl)) rfl (rBin opS_add (ROk.toP (rSplit ⟨rfl, rfl, rfl⟩ rfl (ROk.toP (rNm (c.nm 4 "words" (by kernel_rfl)))) (ROk.toP rConst))) (ROk.toP (rSplit ⟨rfl, rfl, rfl⟩ rfl (ROk.toP rConst) (ROk.toP rConst)))))
  (ssCons (stFor d.po c.calm rfl (iRange1 (c.gl "range" (by kernel_rfl)) (c.φ.b.free "range" (by kernel_rfl)) rfl (aCons rfl (ROk.toE (rNm (c.nm 1 "many" (by kernel_rfl)))) aNil)) (gNm c.nd (d.ld 5 "k" (by kernel_rfl))) (ssCons (sSet c.nd (d.ld 6 "name" (by kernel_rfl)) rfl rConst)
  (ssCons (stFor d.po c.calm rfl (iRange1 (c.gl "range" (by kernel_rfl)) (c.φ.b.free "range" (by kernel_rfl)) rfl (aCons rfl (ROk.toE (cCall c.fr c.φ._law_of bd__law_of (c.gl "_law_of" (by kernel_rfl)) rfl rfl (lCons c.fr.g rfl (argName (c.nm 0 "well" (by kernel_rfl))) (lCons c.fr.g rfl (argVal (ROk.toE (rTup (aCons rfl (ROk.toE rConst) (aCons rfl (ROk.toE rConst) (aCons rfl (ROk.toE rConst) (aCons rfl (ROk.toE rConst) (aCons rfl (ROk.toE rConst) aNil)))))))) lNil)))) aNil)) (gNm c.nd (d.ld 7 "lap" (by kernel_rfl))) (ssOne (sSet c.nd (d.ld 6 "name" (by kernel_rfl)) rfl (rBin opS_add (ROk.toP (rNm (c.nm 6 "name" (by kernel_rfl)))) (ROk.toP (cCall c.fr c.φ._law_of bd__law_of (c.gl "_law_of" (by kernel_rfl)) rfl rfl (lCons c.fr.g rfl (argName (c.nm 0 "well" (by kernel_rfl))) (lCons c.fr.g rfl (argName (c.nm 3 "letters" (by kernel_rfl))) lNil))))))))
  (ssCons (sSet c.nd (d.ld 6 "name" (by kernel_rfl)) rfl (rBin opS_add (ROk.toP (rNm (c.nm 6 "name" (by kernel_rfl)))) (ROk.toP (rItem rfl (ROk.toP (rNm (c.nm 3 "letters" (by kernel_rfl)))) (ROk.toP (rNm (c.nm 5 "k" (by kernel_rfl))))))))
  (ssOne (stExprX rfl (xAppend (c.nm 2 "found" (by kernel_rfl)) ⟨rfl, rfl, rfl⟩ rfl (EOk.x (ROk.toE (rIf (tCmp' (opS_in (by have := c.un; omega)) (ROk.toP (rNm (c.nm 6 "name" (by kernel_rfl)))) (ROk.toP (rNm (c.nm 4 "words" (by kernel_rfl)))) rfl) (rBin opS_add (ROk.toP rConst) (ROk.toP (rItem rfl (ROk.toP (rNm (c.nm 3 "letters" (by kernel_rfl)))) (ROk.toP (rNm (c.nm 5 "k" (by kernel_rfl))))))) (rNm (c.nm 6 "name" (by kernel_rfl)))))))))))))
  (ssOne (stRet (ROk.toE (rTy1 cTuple (c.gl "tuple" (by kernel_rfl)) (c.φ.b.free "tuple" (by kernel_rfl)) boot_tuple (by decide) rfl rfl (ROk.toP (rNm (c.nm 2 "found" (by kernel_rfl))))))))))))
theorem d__law_names {G : Gr} (b : Base G) (h : ∃ f fd, G.mg "_law_names" = some (.ref f) ∧ FunD G.K "_law_names" "_law_names" a__law_names b__law_names s__law_names [] [] f fd) (h0 : DefOk G "_law_of" 2 ps__law_of a__law_of b__law_of s__law_of D__law_of) : DefOk G "_law_names" 3 ps__law_names a__law_names b__law_names s__law_names D__law_names :=
  DefOk.of (k := 2) b.g h sc__law_names fun fx eG fr hN hs po fn => w__law_names ⟨⟨fr, hN, hs, by rw [eG]; exact ⟨b, h0.mono (by decide)⟩⟩, po, by kernel_rfl, fn⟩
/-! _law_shuffled -/
abbrev b__law_shuffled : List Stmt := defBody (top 42)
abbrev s__law_shuffled : Scope := defScope (top 42)
abbrev a__law_shuffled : Arguments := defArgs (top 42)
def N__law_shuffled : List Str := (["well", "things", "left", "found", "lap", "one", "each"] : List Str)
def ps__law_shuffled : List Str := ["well", "things"]
theorem bd__law_shuffled : Bd "_law_shuffled" ps__law_shuffled a__law_shuffled b__law_shuffled s__law_shuffled := fun _ _ _ _ _ _ us h => match us, h with
  | [u0, u1], _ => by kernel_rfl
theorem sc__law_shuffled : FnScope N__law_shuffled ps__law_shuffled s__law_shuffled := ⟨rfl, rfl, rfl, by decide +kernel, rfl, by decide +kernel, by decide +kernel⟩
def m__law_shuffled : M Out := (andThen (((((rdM 1) >>= toP) >>= listAM) >>= toN) >>= fun r => (((pure []) >>= tupM) >>= toN) >>= fun q => set2M 2 3 r q)
  (andThen (((((((rdM 1) >>= toP) >>= lenM) >>= toE) >>= fun d => (pure []) >>= fun ds => pure (d :: ds)) >>= rng1M) >>= forM (.name 4) (andThen (((consM (rdA 0) (consM (rdA 2) (pure []))) >>= callM 2 D__law_of) >>= setM 5)
  (((((rdM 3) >>= toP) >>= fun x => (((((rdM 5) >>= toE) >>= fun d => (pure []) >>= fun ds => pure (d :: ds)) >>= tupM) >>= toP) >>= fun y => addM x y) >>= toN) >>= fun r => (((((rdM 2) >>= toE) >>= seqM) >>= lcM [6] (.name 6) ((((rdM 6) >>= toP) >>= fun x => ((rdM 5) >>= toP) >>= fun y => neM x y) >>= asBool) ((rdM 6) >>= toE)) >>= toN) >>= fun q => set2M 3 2 r q)))
  (((rdM 3) >>= toE) >>= fun d => pure (.rt d))))
def D__law_shuffled : FnP := fnM N__law_shuffled m__law_shuffled
structure Ph__law_shuffled (G : Gr) (k : Nat) : Prop where
  b : Base G
  _law_of : DefOk G "_law_of" k ps__law_of a__law_of b__law_of s__law_of D__law_of
theorem w__law_shuffled {fx : Fx} {k : Nat} (d : DCtx Ph__law_shuffled fx k N__law_shuffled s__law_shuffled) : SsOk fx b__law_shuffled m__law_shuffled :=
  have c := d.toCtx
  (ssCons (cPar 2 3 "left" "found" d (by kernel_rfl) (by kernel_rfl) rfl rfl (rTy1 (cListA c.calm) (c.gl "list" (by kernel_rfl)) (c.φ.b.free "list" (by kernel_rfl)) boot_list (by decide) rfl rfl (ROk.toP (rNm (c.nm 1 "things" (by kernel_rfl))))) (rTup aNil))
  (ssCons (stFor d.po c.calm rfl (iRange1 (c.gl "range" (by kernel_rfl)) (c.φ.b.free "range" (by kernel_rfl)) rfl (aCons rfl (ROk.toE (rBlt1 cLen (c.gl "len" (by kernel_rfl)) (c.φ.b.free "len" (by kernel_rfl)) boot_len (by decide) rfl rfl (ROk.toP (rNm (c.nm 1 "things" (by kernel_rfl)))))) aNil)) (gNm c.nd (d.ld 4 "lap" (by kernel_rfl))) (ssCons (sSet c.nd (d.ld 5 "one" (by kernel_rfl)) rfl (cCall c.fr c.φ._law_of bd__law_of (c.gl "_law_of" (by kernel_rfl)) rfl rfl (lCons c.fr.g rfl (argName (c.nm 0 "well" (by kernel_rfl))) (lCons c.fr.g rfl (argName (c.nm 2 "left" (by kernel_rfl))) lNil))))
  (ssOne (cPar 3 2 "found" "left" d (by kernel_rfl) (by kernel_rfl) rfl rfl (rBin opS_add (ROk.toP (rNm (c.nm 3 "found" (by kernel_rfl)))) (ROk.toP (rTup (aCons rfl (ROk.toE (rNm (c.nm 5 "one" (by kernel_rfl)))) aNil)))) (cComp [("each", 6)] c (by kernel_rfl) rfl rfl (iSeq' (ROk.toE (rNm (c.nm 2 "left" (by kernel_rfl))))) (c.g fun _ c => (gNm c.nd (c.lc 6 "each" (by kernel_rfl)))) (c.t fun _ c => (tCmp' (opS_ne (by have := c.un; omega)) (ROk.toP (rNm (c.nm 6 "each" (by kernel_rfl)))) (ROk.toP (rNm (c.nm 5 "one" (by kernel_rfl)))) rfl)) (c.e fun _ c => (ROk.toE (rNm (c.nm 6 "each" (by kernel_rfl))))))))))
  (ssOne (stRet (ROk.toE (rNm (c.nm 3 "found" (by kernel_rfl))))))))
theorem d__law_shuffled {G : Gr} (b : Base G) (h : ∃ f fd, G.mg "_law_shuffled" = some (.ref f) ∧ FunD G.K "_law_shuffled" "_law_shuffled" a__law_shuffled b__law_shuffled s__law_shuffled [] [] f fd) (h0 : DefOk G "_law_of" 2 ps__law_of a__law_of b__law_of s__law_of D__law_of) : DefOk G "_law_shuffled" 3 ps__law_shuffled a__law_shuffled b__law_shuffled s__law_shuffled D__law_shuffled :=
  DefOk.of (k := 2) b.g h sc__law_shuffled fun fx eG fr hN hs po fn => w__law_shuffled ⟨⟨fr, hN, hs, by rw [eG]; exact ⟨b, h0.mono (by decide)⟩⟩, po, by kernel_rfl, fn⟩
/-! _law_askings -/
abbrev b__law_askings : List Stmt := defBody (top 44)
abbrev s__law_askings : Scope := defScope (top 44)
abbrev a__law_askings : Arguments := defArgs (top 44)
def N__law_askings : List Str := (["well", "shelf", "most", "lap"] : List Str)
def ps__law_askings : List Str := ["well", "shelf", "most"]
theorem bd__law_askings : Bd "_law_askings" ps__law_askings a__law_askings b__law_askings s__law_askings := fun _ _ _ _ _ _ us h => match us, h with
  | [u0, u1, u2], _ => by kernel_rfl
theorem sc__law_askings : FnScope N__law_askings ps__law_askings s__law_askings := ⟨rfl, rfl, rfl, by decide +kernel, rfl, by decide +kernel, by decide +kernel⟩
def m__law_askings : M Out := (((((frzM [1] >>= fun _ => ((((((consM (rdA 0) (consM (((((rdM 2) >>= toP) >>= fun x => ((pure (Res.val (.int 1)) : M Res) >>= toP) >>= fun y => addM x y) >>= toE) >>= fun d => pure (.val d)) (pure []))) >>= callM 2 D__law_draw) >>= toE) >>= fun d => (pure []) >>= fun ds => pure (d :: ds)) >>= rng1M) >>= lcM [3] (.name 3) (pure true) (((consM (rdA 0) (consM (rdA 1) (pure []))) >>= callM 2 D__law_of) >>= toE))) >>= toP) >>= tupleM) >>= toE) >>= fun d => pure (.rt d))
def D__law_askings : FnP := fnM N__law_askings m__law_askings
structure Ph__law_askings (G : Gr) (k : Nat) : Prop where
  b : Base G
  _law_draw : DefOk G "_law_draw" k ps__law_draw a__law_draw b__law_draw s__law_draw D__law_draw
  _law_of : DefOk G "_law_of" k ps__law_of a__law_of b__law_of s__law_of D__law_of
theorem w__law_askings {fx : Fx} {k : Nat} (d : DCtx Ph__law_askings fx k N__law_askings s__law_askings) : SsOk fx b__law_askings m__law_askings :=
  have c := d.toCtx
  (ssOne (stRet (ROk.toE (rTy1 cTuple (c.gl "tuple" (by kernel_rfl)) (c.φ.b.free "tuple" (by kernel_rfl)) boot_tuple (by decide) rfl rfl (ROk.toP (rFrz [1] (cComp [("lap", 3)] c (by kernel_rfl) rfl rfl (iRange1 (c.gl "range" (by kernel_rfl)) (c.φ.b.free "range" (by kernel_rfl)) rfl (aCons rfl (ROk.toE (cCall c.fr c.φ._law_draw bd__law_draw (c.gl "_law_draw" (by kernel_rfl)) rfl rfl (lCons c.fr.g rfl (argName (c.nm 0 "well" (by kernel_rfl))) (lCons c.fr.g rfl (argVal (ROk.toE (rBin opS_add (ROk.toP (rNm (c.nm 2 "most" (by kernel_rfl)))) (ROk.toP rConst)))) lNil)))) aNil)) (c.g fun _ c => (gNm c.nd (c.lc 3 "lap" (by kernel_rfl)))) .nil (c.e fun _ c => (ROk.toE (cCall c.fr c.φ._law_of bd__law_of (c.gl "_law_of" (by kernel_rfl)) rfl rfl (lCons c.fr.g rfl (argName (c.nm 0 "well" (by kernel_rfl))) (lCons c.fr.g rfl (argName (c.nm 1 "shelf" (by kernel_rfl))) lNil))))))))))))
theorem d__law_askings {G : Gr} (b : Base G) (h : ∃ f fd, G.mg "_law_askings" = some (.ref f) ∧ FunD G.K "_law_askings" "_law_askings" a__law_askings b__law_askings s__law_askings [] [] f fd) (h0 : DefOk G "_law_draw" 1 ps__law_draw a__law_draw b__law_draw s__law_draw D__law_draw) (h1 : DefOk G "_law_of" 2 ps__law_of a__law_of b__law_of s__law_of D__law_of) : DefOk G "_law_askings" 3 ps__law_askings a__law_askings b__law_askings s__law_askings D__law_askings :=
  DefOk.of (k := 2) b.g h sc__law_askings fun fx eG fr hN hs po fn => w__law_askings ⟨⟨fr, hN, hs, by rw [eG]; exact ⟨b, h0.mono (by decide), h1.mono (by decide)⟩⟩, po, by kernel_rfl, fn⟩
/-! wrong_askings -/
abbrev b_wrong_askings : List Stmt := defBody (top 17)
abbrev s_wrong_askings : Scope := defScope (top 17)
abbrev a_wrong_askings : Arguments := defArgs (top 17)
def N_wrong_askings : List Str := (["shelf", "value", "most"] : List Str)
def ps_wrong_askings : List Str := ["shelf", "value", "most"]
theorem bd_wrong_askings : Bd "wrong_askings" ps_wrong_askings a_wrong_askings b_wrong_askings s_wrong_askings := fun _ _ _ _ _ _ us h => match us, h with
  | [u0, u1, u2], _ => by kernel_rfl
theorem sc_wrong_askings : FnScope N_wrong_askings ps_wrong_askings s_wrong_askings := ⟨rfl, rfl, rfl, by decide +kernel, rfl, by decide +kernel, by decide +kernel⟩
def m_wrong_askings : M Out := (((((rdM 1) >>= toE) >>= lamCall (["each", "before", "most", "shelf"] : List Str) [2, 0] ((((((((rdM 1) >>= toP) >>= lenM) >>= toP) >>= fun x => ((rdM 2) >>= toP) >>= fun y => ltM x y) >>= toE) >>= fun d => truthM d >>= fun k => if k then ((consM (rdA 0) (consM (rdA 3) (pure []))) >>= callM 2 D_is_one_of) else pure (.val d)) >>= toE) D_wrong_at) >>= toE) >>= fun d => pure (.rt d))
def D_wrong_askings : FnP := fnM N_wrong_askings m_wrong_askings
structure Ph_wrong_askings (G : Gr) (k : Nat) : Prop where
  b : Base G
  wrong_at : DefOkC G "wrong_at" 2 ps_wrong_at a_wrong_at b_wrong_at s_wrong_at 2 D_wrong_at
structure Phl_wrong_askings (G : Gr) (k : Nat) : Prop where
  b : Base G
  is_one_of : DefOk G "is_one_of" k ps_is_one_of a_is_one_of b_is_one_of s_is_one_of D_is_one_of
theorem w_wrong_askings {fx : Fx} {k : Nat} (d : DCtx Ph_wrong_askings fx k N_wrong_askings s_wrong_askings) (hk : 2 + 1 ≤ k) (lt : LamFx fx) (φl : Phl_wrong_askings (gr fx) 1) : SsOk fx b_wrong_askings m_wrong_askings :=
  have c := d.toCtx
  (ssOne (stRet (ROk.toE (rLamCall (n := 2) (j := 1) (lps := (["each", "before"] : List Str)) (lfr := (["most", "shelf"] : List Str)) c.fr c.φ.b.c c.φ.wrong_at rfl bd_wrong_at (c.gl "wrong_at" (by kernel_rfl)) rfl rfl hk (by decide) lt rfl (by kernel_rfl) (by rw [c.hs]; kernel_rfl) (by rw [c.hN]; rfl) (fun _ _ _ _ _ us h => match us, h with | [u0, u1], _ => by kernel_rfl) (ROk.toE (rNm (c.nm 1 "value" (by kernel_rfl)))) (fun fx2 eG2 fr2 hN2 hs2 => have c : Ctx Phl_wrong_askings fx2 1 (["each", "before", "most", "shelf"] : List Str) _ := ⟨fr2, hN2, hs2, by rw [eG2]; exact φl⟩; (ROk.toE (rAnd (rCmp opS_lt (ROk.toP (rBlt1 cLen (c.gl "len" (by kernel_rfl)) (c.φ.b.free "len" (by kernel_rfl)) boot_len (by decide) rfl rfl (ROk.toP (rNm (c.nm 1 "before" (by kernel_rfl)))))) (ROk.toP (rNm (c.nm 2 "most" (by kernel_rfl)))) rfl) (rOne (cCall c.fr c.φ.is_one_of bd_is_one_of (c.gl "is_one_of" (by kernel_rfl)) rfl rfl (lCons c.fr.g rfl (argName (c.nm 0 "each" (by kernel_rfl))) (lCons c.fr.g rfl (argName (c.nm 3 "shelf" (by kernel_rfl))) lNil)))))))))))
theorem d_wrong_askings {G : Gr} (b : Base G) (h : ∃ f fd, G.mg "wrong_askings" = some (.ref f) ∧ FunD G.K "wrong_askings" "wrong_askings" a_wrong_askings b_wrong_askings s_wrong_askings [] [] f fd) (h0 : DefOkC G "wrong_at" 2 ps_wrong_at a_wrong_at b_wrong_at s_wrong_at 2 D_wrong_at) (h1 : DefOk G "is_one_of" 1 ps_is_one_of a_is_one_of b_is_one_of s_is_one_of D_is_one_of) : DefOk G "wrong_askings" 4 ps_wrong_askings a_wrong_askings b_wrong_askings s_wrong_askings D_wrong_askings :=
  DefOk.ofL (k := 3) b.g h sc_wrong_askings b.l_wrong_askings fun fx eG fr hN hs po fn lt => w_wrong_askings ⟨⟨fr, hN, hs, by rw [eG]; exact ⟨b, h0⟩⟩, po, by kernel_rfl, fn⟩ (by decide) lt (by rw [eG]; exact ⟨b, h1.mono (by decide)⟩)
/-! check_shelf -/
abbrev b_check_shelf : List Stmt := defBody (top 23)
abbrev s_check_shelf : Scope := defScope (top 23)
abbrev a_check_shelf : Arguments := defArgs (top 23)
def N_check_shelf : List Str := (["value"] : List Str)
def ps_check_shelf : List Str := ["value"]
theorem bd_check_shelf : Bd "check_shelf" ps_check_shelf a_check_shelf b_check_shelf s_check_shelf := fun _ _ _ _ _ _ us h => match us, h with
  | [u0], _ => by kernel_rfl
theorem sc_check_shelf : FnScope N_check_shelf ps_check_shelf s_check_shelf := ⟨rfl, rfl, rfl, by decide +kernel, rfl, by decide +kernel, by decide +kernel⟩
def m_check_shelf : M Out := ((((((consM (rdA 0) (pure [])) >>= callM 1 D_is_shelf_form) >>= toP) >>= truthM) >>= fun b => pure (!b)) >>= fun k => if k then M.fail else (pure .nx))
def D_check_shelf : FnP := fnM N_check_shelf m_check_shelf
structure Ph_check_shelf (G : Gr) (k : Nat) : Prop where
  b : Base G
  is_shelf_form : DefOk G "is_shelf_form" k ps_is_shelf_form a_is_shelf_form b_is_shelf_form s_is_shelf_form D_is_shelf_form
theorem w_check_shelf {fx : Fx} {k : Nat} (d : DCtx Ph_check_shelf fx k N_check_shelf s_check_shelf) : SsOk fx b_check_shelf m_check_shelf :=
  have c := d.toCtx
  (ssOne (stIf (tNot' (tVal rfl (ROk.toP (cCall c.fr c.φ.is_shelf_form bd_is_shelf_form (c.gl "is_shelf_form" (by kernel_rfl)) rfl rfl (lCons c.fr.g rfl (argName (c.nm 0 "value" (by kernel_rfl))) lNil))))) (ssOne stFail) ssNil))
theorem d_check_shelf {G : Gr} (b : Base G) (h : ∃ f fd, G.mg "check_shelf" = some (.ref f) ∧ FunD G.K "check_shelf" "check_shelf" a_check_shelf b_check_shelf s_check_shelf [] [] f fd) (h0 : DefOk G "is_shelf_form" 3 ps_is_shelf_form a_is_shelf_form b_is_shelf_form s_is_shelf_form D_is_shelf_form) : DefOk G "check_shelf" 4 ps_check_shelf a_check_shelf b_check_shelf s_check_shelf D_check_shelf :=
  DefOk.of (k := 3) b.g h sc_check_shelf fun fx eG fr hN hs po fn => w_check_shelf ⟨⟨fr, hN, hs, by rw [eG]; exact ⟨b, h0.mono (by decide)⟩⟩, po, by kernel_rfl, fn⟩
/-! _law_shelf -/
abbrev b__law_shelf : List Stmt := defBody (top 43)
abbrev s__law_shelf : Scope := defScope (top 43)
abbrev a__law_shelf : Arguments := defArgs (top 43)
def N__law_shelf : List Str := (["well", "least", "most", "names"] : List Str)
def ps__law_shelf : List Str := ["well", "least", "most"]
theorem bd__law_shelf : Bd "_law_shelf" ps__law_shelf a__law_shelf b__law_shelf s__law_shelf := fun _ _ _ _ _ _ us h => match us, h with
  | [u0, u1, u2], _ => by kernel_rfl
theorem sc__law_shelf : FnScope N__law_shelf ps__law_shelf s__law_shelf := ⟨rfl, rfl, rfl, by decide +kernel, rfl, by decide +kernel, by decide +kernel⟩
def m__law_shelf : M Out := (andThen (((consM (rdA 0) (consM (((((rdM 1) >>= toP) >>= fun x => (((consM (rdA 0) (consM (((((((rdM 2) >>= toP) >>= fun x => ((rdM 1) >>= toP) >>= fun y => subM x y) >>= toP) >>= fun x => ((pure (Res.val (.int 1)) : M Res) >>= toP) >>= fun y => addM x y) >>= toE) >>= fun d => pure (.val d)) (pure []))) >>= callM 2 D__law_draw) >>= toP) >>= fun y => addM x y) >>= toE) >>= fun d => pure (.val d)) (pure []))) >>= callM 2 D__law_names) >>= setM 3)
  ((((consM (rdA 0) (consM (rdA 3) (pure []))) >>= callM 2 D__law_shuffled) >>= toE) >>= fun d => pure (.rt d)))
def D__law_shelf : FnP := fnM N__law_shelf m__law_shelf
structure Ph__law_shelf (G : Gr) (k : Nat) : Prop where
  b : Base G
  _law_names : DefOk G "_law_names" k ps__law_names a__law_names b__law_names s__law_names D__law_names
  _law_draw : DefOk G "_law_draw" k ps__law_draw a__law_draw b__law_draw s__law_draw D__law_draw
  _law_shuffled : DefOk G "_law_shuffled" k ps__law_shuffled a__law_shuffled b__law_shuffled s__law_shuffled D__law_shuffled
theorem w__law_shelf {fx : Fx} {k : Nat} (d : DCtx Ph__law_shelf fx k N__law_shelf s__law_shelf) : SsOk fx b__law_shelf m__law_shelf :=
  have c := d.toCtx
  (ssCons (sSet c.nd (d.ld 3 "names" (by kernel_rfl)) rfl (cCall c.fr c.φ._law_names bd__law_names (c.gl "_law_names" (by kernel_rfl)) rfl rfl (lCons c.fr.g rfl (argName (c.nm 0 "well" (by kernel_rfl))) (lCons c.fr.g rfl (argVal (ROk.toE (rBin opS_add (ROk.toP (rNm (c.nm 1 "least" (by kernel_rfl)))) (ROk.toP (cCall c.fr c.φ._law_draw bd__law_draw (c.gl "_law_draw" (by kernel_rfl)) rfl rfl (lCons c.fr.g rfl (argName (c.nm 0 "well" (by kernel_rfl))) (lCons c.fr.g rfl (argVal (ROk.toE (rBin opS_add (ROk.toP (rBin opS_sub (ROk.toP (rNm (c.nm 2 "most" (by kernel_rfl)))) (ROk.toP (rNm (c.nm 1 "least" (by kernel_rfl)))))) (ROk.toP rConst)))) lNil))))))) lNil))))
  (ssOne (stRet (ROk.toE (cCall c.fr c.φ._law_shuffled bd__law_shuffled (c.gl "_law_shuffled" (by kernel_rfl)) rfl rfl (lCons c.fr.g rfl (argName (c.nm 0 "well" (by kernel_rfl))) (lCons c.fr.g rfl (argName (c.nm 3 "names" (by kernel_rfl))) lNil)))))))
theorem d__law_shelf {G : Gr} (b : Base G) (h : ∃ f fd, G.mg "_law_shelf" = some (.ref f) ∧ FunD G.K "_law_shelf" "_law_shelf" a__law_shelf b__law_shelf s__law_shelf [] [] f fd) (h0 : DefOk G "_law_names" 3 ps__law_names a__law_names b__law_names s__law_names D__law_names) (h1 : DefOk G "_law_draw" 1 ps__law_draw a__law_draw b__law_draw s__law_draw D__law_draw) (h2 : DefOk G "_law_shuffled" 3 ps__law_shuffled a__law_shuffled b__law_shuffled s__law_shuffled D__law_shuffled) : DefOk G "_law_shelf" 4 ps__law_shelf a__law_shelf b__law_shelf s__law_shelf D__law_shelf :=
  DefOk.of (k := 3) b.g h sc__law_shelf fun fx eG fr hN hs po fn => w__law_shelf ⟨⟨fr, hN, hs, by rw [eG]; exact ⟨b, h0.mono (by decide), h1.mono (by decide), h2.mono (by decide)⟩⟩, po, by kernel_rfl, fn⟩
/-! check_askings_of -/
abbrev b_check_askings_of : List Stmt := defBody (top 25)
abbrev s_check_askings_of : Scope := defScope (top 25)
abbrev a_check_askings_of : Arguments := defArgs (top 25)
def N_check_askings_of : List Str := (["shelf", "value", "at"] : List Str)
def ps_check_askings_of : List Str := ["shelf", "value"]
theorem bd_check_askings_of : Bd "check_askings_of" ps_check_askings_of a_check_askings_of b_check_askings_of s_check_askings_of := fun _ _ _ _ _ _ us h => match us, h with
  | [u0, u1], _ => by kernel_rfl
theorem sc_check_askings_of : FnScope N_check_askings_of ps_check_askings_of s_check_askings_of := ⟨rfl, rfl, rfl, by decide +kernel, rfl, by decide +kernel, by decide +kernel⟩
def m_check_askings_of : M Out := (((((consM (rdA 0) (consM (rdA 1) (consM (((pure (Res.val (.int 30)) : M Res) >>= toE) >>= fun d => pure (.val d)) (pure [])))) >>= callM 3 D_wrong_askings) >>= toE) >>= seqM) >>= forM (.name 2) M.fail)
def D_check_askings_of : FnP := fnM N_check_askings_of m_check_askings_of
structure Ph_check_askings_of (G : Gr) (k : Nat) : Prop where
  b : Base G
  wrong_askings : DefOk G "wrong_askings" k ps_wrong_askings a_wrong_askings b_wrong_askings s_wrong_askings D_wrong_askings
theorem w_check_askings_of {fx : Fx} {k : Nat} (d : DCtx Ph_check_askings_of fx k N_check_askings_of s_check_askings_of) : SsOk fx b_check_askings_of m_check_askings_of :=
  have c := d.toCtx
  (ssOne (stFor d.po c.calm rfl (iSeq' (ROk.toE (cCall c.fr c.φ.wrong_askings bd_wrong_askings (c.gl "wrong_askings" (by kernel_rfl)) rfl rfl (lCons c.fr.g rfl (argName (c.nm 0 "shelf" (by kernel_rfl))) (lCons c.fr.g rfl (argName (c.nm 1 "value" (by kernel_rfl))) (lCons c.fr.g rfl (argVal (ROk.toE (rGlobI (c.gl "MOST_ASKINGS" (by kernel_rfl)) c.φ.b.k_MOST_ASKINGS rfl))) lNil)))))) (gNm c.nd (d.ld 2 "at" (by kernel_rfl))) (ssOne stFail)))
theorem d_check_askings_of {G : Gr} (b : Base G) (h : ∃ f fd, G.mg "check_askings_of" = some (.ref f) ∧ FunD G.K "check_askings_of" "check_askings_of" a_check_askings_of b_check_askings_of s_check_askings_of [] [] f fd) (h0 : DefOk G "wrong_askings" 4 ps_wrong_askings a_wrong_askings b_wrong_askings s_wrong_askings D_wrong_askings) : DefOk G "check_askings_of" 5 ps_check_askings_of a_check_askings_of b_check_askings_of s_check_askings_of D_check_askings_of :=
  DefOk.of (k := 4) b.g h sc_check_askings_of fun fx eG fr hN hs po fn => w_check_askings_of ⟨⟨fr, hN, hs, by rw [eG]; exact ⟨b, h0.mono (by decide)⟩⟩, po, by kernel_rfl, fn⟩
/-! check_asked -/
abbrev b_check_asked : List Stmt := defBody (top 26)
abbrev s_check_asked : Scope := defScope (top 26)
abbrev a_check_asked : Arguments := defArgs (top 26)
def N_check_asked : List Str := (["shelf", "askings"] : List Str)
def ps_check_asked : List Str := ["shelf", "askings"]
theorem bd_check_asked : Bd "check_asked" ps_check_asked a_check_asked b_check_asked s_check_asked := fun _ _ _ _ _ _ us h => match us, h with
  | [u0, u1], _ => by kernel_rfl
theorem sc_check_asked : FnScope N_check_asked ps_check_asked s_check_asked := ⟨rfl, rfl, rfl, by decide +kernel, rfl, by decide +kernel, by decide +kernel⟩
def m_check_asked : M Out := (andThen (((consM (rdA 0) (pure [])) >>= callM 1 D_check_shelf) >>= fun _ => pure .nx)
  (((consM (rdA 0) (consM (rdA 1) (pure []))) >>= callM 2 D_check_askings_of) >>= fun _ => pure .nx))
def D_check_asked : FnP := fnM N_check_asked m_check_asked
structure Ph_check_asked (G : Gr) (k : Nat) : Prop where
  b : Base G
  check_shelf : DefOk G "check_shelf" k ps_check_shelf a_check_shelf b_check_shelf s_check_shelf D_check_shelf
  check_askings_of : DefOk G "check_askings_of" k ps_check_askings_of a_check_askings_of b_check_askings_of s_check_askings_of D_check_askings_of
theorem w_check_asked {fx : Fx} {k : Nat} (d : DCtx Ph_check_asked fx k N_check_asked s_check_asked) : SsOk fx b_check_asked m_check_asked :=
  have c := d.toCtx
  (ssCons (stExpr rfl (cCall c.fr c.φ.check_shelf bd_check_shelf (c.gl "check_shelf" (by kernel_rfl)) rfl rfl (lCons c.fr.g rfl (argName (c.nm 0 "shelf" (by kernel_rfl))) lNil)))
  (ssOne (stExpr rfl (cCall c.fr c.φ.check_askings_of bd_check_askings_of (c.gl "check_askings_of" (by kernel_rfl)) rfl rfl (lCons c.fr.g rfl (argName (c.nm 0 "shelf" (by kernel_rfl))) (lCons c.fr.g rfl (argName (c.nm 1 "askings" (by kernel_rfl))) lNil))))))
theorem d_check_asked {G : Gr} (b : Base G) (h : ∃ f fd, G.mg "check_asked" = some (.ref f) ∧ FunD G.K "check_asked" "check_asked" a_check_asked b_check_asked s_check_asked [] [] f fd) (h0 : DefOk G "check_shelf" 4 ps_check_shelf a_check_shelf b_check_shelf s_check_shelf D_check_shelf) (h1 : DefOk G "check_askings_of" 5 ps_check_askings_of a_check_askings_of b_check_askings_of s_check_askings_of D_check_askings_of) : DefOk G "check_asked" 6 ps_check_asked a_check_asked b_check_asked s_check_asked D_check_asked :=
  DefOk.of (k := 5) b.g h sc_check_asked fun fx eG fr hN hs po fn => w_check_asked ⟨⟨fr, hN, hs, by rw [eG]; exact ⟨b, h0.mono (by decide), h1.mono (by decide)⟩⟩, po, by kernel_rfl, fn⟩
/-! check_followed -/
abbrev b_check_followed : List Stmt := defBody (top 28)
abbrev s_check_followed : Scope := defScope (top 28)
abbrev a_check_followed : Arguments := defArgs (top 28)
def N_check_followed : List Str := (["shelf", "askings", "book"] : List Str)
def ps_check_followed : List Str := ["shelf", "askings", "book"]
theorem bd_check_followed : Bd "check_followed" ps_check_followed a_check_followed b_check_followed s_check_followed := fun _ _ _ _ _ _ us h => match us, h with
  | [u0, u1, u2], _ => by kernel_rfl
theorem sc_check_followed : FnScope N_check_followed ps_check_followed s_check_followed := ⟨rfl, rfl, rfl, by decide +kernel, rfl, by decide +kernel, by decide +kernel⟩
def m_check_followed : M Out := (andThen (((consM (rdA 0) (consM (rdA 1) (pure []))) >>= callM 2 D_check_asked) >>= fun _ => pure .nx)
  (((consM (rdA 0) (consM (rdA 2) (pure []))) >>= callM 2 D_check_book_of) >>= fun _ => pure .nx))
def D_check_followed : FnP := fnM N_check_followed m_check_followed
structure Ph_check_followed (G : Gr) (k : Nat) : Prop where
  b : Base G
  check_asked : DefOk G "check_asked" k ps_check_asked a_check_asked b_check_asked s_check_asked D_check_asked
  check_book_of : DefOk G "check_book_of" k ps_check_book_of a_check_book_of b_check_book_of s_check_book_of D_check_book_of
theorem w_check_followed {fx : Fx} {k : Nat} (d : DCtx Ph_check_followed fx k N_check_followed s_check_followed) : SsOk fx b_check_followed m_check_followed :=
  have c := d.toCtx
  (ssCons (stExpr rfl (cCall c.fr c.φ.check_asked bd_check_asked (c.gl "check_asked" (by kernel_rfl)) rfl rfl (lCons c.fr.g rfl (argName (c.nm 0 "shelf" (by kernel_rfl))) (lCons c.fr.g rfl (argName (c.nm 1 "askings" (by kernel_rfl))) lNil))))
  (ssOne (stExpr rfl (cCall c.fr c.φ.check_book_of bd_check_book_of (c.gl "check_book_of" (by kernel_rfl)) rfl rfl (lCons c.fr.g rfl (argName (c.nm 0 "shelf" (by kernel_rfl))) (lCons c.fr.g rfl (argName (c.nm 2 "book" (by kernel_rfl))) lNil))))))
theorem d_check_followed {G : Gr} (b : Base G) (h : ∃ f fd, G.mg "check_followed" = some (.ref f) ∧ FunD G.K "check_followed" "check_followed" a_check_followed b_check_followed s_check_followed [] [] f fd) (h0 : DefOk G "check_asked" 6 ps_check_asked a_check_asked b_check_asked s_check_asked D_check_asked) (h1 : DefOk G "check_book_of" 2 ps_check_book_of a_check_book_of b_check_book_of s_check_book_of D_check_book_of) : DefOk G "check_followed" 7 ps_check_followed a_check_followed b_check_followed s_check_followed D_check_followed :=
  DefOk.of (k := 6) b.g h sc_check_followed fun fx eG fr hN hs po fn => w_check_followed ⟨⟨fr, hN, hs, by rw [eG]; exact ⟨b, h0.mono (by decide), h1.mono (by decide)⟩⟩, po, by kernel_rfl, fn⟩
/-! shelves_along -/
abbrev b_shelves_along : List Stmt := defBody (top 34)
abbrev s_shelves_along : Scope := defScope (top 34)
abbrev a_shelves_along : Arguments := defArgs (top 34)
def N_shelves_along : List Str := (["shelf", "askings"] : List Str)
def ps_shelves_along : List Str := ["shelf", "askings"]
theorem bd_shelves_along : Bd "shelves_along" ps_shelves_along a_shelves_along b_shelves_along s_shelves_along := fun _ _ _ _ _ _ us h => match us, h with
  | [u0, u1], _ => by kernel_rfl
theorem sc_shelves_along : FnScope N_shelves_along ps_shelves_along s_shelves_along := ⟨rfl, rfl, rfl, by decide +kernel, rfl, by decide +kernel, by decide +kernel⟩
def m_shelves_along : M Out := (andThen (((consM (rdA 0) (consM (rdA 1) (pure []))) >>= callM 2 D_check_asked) >>= fun _ => pure .nx)
  ((((((consM (rdA 0) (consM (rdA 1) (pure []))) >>= callM 2 D_shelves_by) >>= toP) >>= tupleM) >>= toE) >>= fun d => pure (.rt d)))
def D_shelves_along : FnP := fnM N_shelves_along m_shelves_along
structure Ph_shelves_along (G : Gr) (k : Nat) : Prop where
  b : Base G
  check_asked : DefOk G "check_asked" k ps_check_asked a_check_asked b_check_asked s_check_asked D_check_asked
  shelves_by : DefOk G "shelves_by" k ps_shelves_by a_shelves_by b_shelves_by s_shelves_by D_shelves_by
theorem w_shelves_along {fx : Fx} {k : Nat} (d : DCtx Ph_shelves_along fx k N_shelves_along s_shelves_along) : SsOk fx b_shelves_along m_shelves_along :=
  have c := d.toCtx
  (ssCons (stExpr rfl (cCall c.fr c.φ.check_asked bd_check_asked (c.gl "check_asked" (by kernel_rfl)) rfl rfl (lCons c.fr.g rfl (argName (c.nm 0 "shelf" (by kernel_rfl))) (lCons c.fr.g rfl (argName (c.nm 1 "askings" (by kernel_rfl))) lNil))))
  (ssOne (stRet (ROk.toE (rTy1 cTuple (c.gl "tuple" (by kernel_rfl)) (c.φ.b.free "tuple" (by kernel_rfl)) boot_tuple (by decide) rfl rfl (ROk.toP (cCall c.fr c.φ.shelves_by bd_shelves_by (c.gl "shelves_by" (by kernel_rfl)) rfl rfl (lCons c.fr.g rfl (argName (c.nm 0 "shelf" (by kernel_rfl))) (lCons c.fr.g rfl (argName (c.nm 1 "askings" (by kernel_rfl))) lNil)))))))))
theorem d_shelves_along {G : Gr} (b : Base G) (h : ∃ f fd, G.mg "shelves_along" = some (.ref f) ∧ FunD G.K "shelves_along" "shelves_along" a_shelves_along b_shelves_along s_shelves_along [] [] f fd) (h0 : DefOk G "check_asked" 6 ps_check_asked a_check_asked b_check_asked s_check_asked D_check_asked) (h1 : DefOk G "shelves_by" 2 ps_shelves_by a_shelves_by b_shelves_by s_shelves_by D_shelves_by) : DefOk G "shelves_along" 7 ps_shelves_along a_shelves_along b_shelves_along s_shelves_along D_shelves_along :=
  DefOk.of (k := 6) b.g h sc_shelves_along fun fx eG fr hN hs po fn => w_shelves_along ⟨⟨fr, hN, hs, by rw [eG]; exact ⟨b, h0.mono (by decide), h1.mono (by decide)⟩⟩, po, by kernel_rfl, fn⟩
/-! code -/
abbrev b_code : List Stmt := defBody (top 35)
abbrev s_code : Scope := defScope (top 35)
abbrev a_code : Arguments := defArgs (top 35)
def N_code : List Str := (["shelf", "askings"] : List Str)
def ps_code : List Str := ["shelf", "askings"]
theorem bd_code : Bd "code" ps_code a_code b_code s_code := fun _ _ _ _ _ _ us h => match us, h with
  | [u0, u1], _ => by kernel_rfl
theorem bdk_code_1_askings : BdK "code" ps_code a_code b_code s_code 1 ["askings"] := fun _ _ _ _ _ _ us ws h g => match us, ws, h, g with
  | [u0], [w0], _, _ => by kernel_rfl
theorem sc_code : FnScope N_code ps_code s_code := ⟨rfl, rfl, rfl, by decide +kernel, rfl, by decide +kernel, by decide +kernel⟩
def m_code : M Out := (andThen (((consM (rdA 0) (consM (rdA 1) (pure []))) >>= callM 2 D_check_asked) >>= fun _ => pure .nx)
  ((((((consM (rdA 0) (consM (rdA 1) (pure []))) >>= callM 2 D_code_by) >>= toP) >>= tupleM) >>= toE) >>= fun d => pure (.rt d)))
def D_code : FnP := fnM N_code m_code
structure Ph_code (G : Gr) (k : Nat) : Prop where
  b : Base G
  check_asked : DefOk G "check_asked" k ps_check_asked a_check_asked b_check_asked s_check_asked D_check_asked
  code_by : DefOk G "code_by" k ps_code_by a_code_by b_code_by s_code_by D_code_by
theorem w_code {fx : Fx} {k : Nat} (d : DCtx Ph_code fx k N_code s_code) : SsOk fx b_code m_code :=
  have c := d.toCtx
  (ssCons (stExpr rfl (cCall c.fr c.φ.check_asked bd_check_asked (c.gl "check_asked" (by kernel_rfl)) rfl rfl (lCons c.fr.g rfl (argName (c.nm 0 "shelf" (by kernel_rfl))) (lCons c.fr.g rfl (argName (c.nm 1 "askings" (by kernel_rfl))) lNil))))
  (ssOne (stRet (ROk.toE (rTy1 cTuple (c.gl "tuple" (by kernel_rfl)) (c.φ.b.free "tuple" (by kernel_rfl)) boot_tuple (by decide) rfl rfl (ROk.toP (cCall c.fr c.φ.code_by bd_code_by (c.gl "code_by" (by kernel_rfl)) rfl rfl (lCons c.fr.g rfl (argName (c.nm 0 "shelf" (by kernel_rfl))) (lCons c.fr.g rfl (argName (c.nm 1 "askings" (by kernel_rfl))) lNil)))))))))
theorem d_code {G : Gr} (b : Base G) (h : ∃ f fd, G.mg "code" = some (.ref f) ∧ FunD G.K "code" "code" a_code b_code s_code [] [] f fd) (h0 : DefOk G "check_asked" 6 ps_check_asked a_check_asked b_check_asked s_check_asked D_check_asked) (h1 : DefOk G "code_by" 3 ps_code_by a_code_by b_code_by s_code_by D_code_by) : DefOk G "code" 7 ps_code a_code b_code s_code D_code :=
  DefOk.of (k := 6) b.g h sc_code fun fx eG fr hN hs po fn => w_code ⟨⟨fr, hN, hs, by rw [eG]; exact ⟨b, h0.mono (by decide), h1.mono (by decide)⟩⟩, po, by kernel_rfl, fn⟩
/-! _law_same -/
abbrev b__law_same : List Stmt := defBody (top 40)
abbrev s__law_same : Scope := defScope (top 40)
abbrev a__law_same : Arguments := defArgs (top 40)
def N__law_same : List Str := (["one", "two", "k"] : List Str)
def ps__law_same : List Str := ["one", "two"]
theorem bd__law_same : Bd "_law_same" ps__law_same a__law_same b__law_same s__law_same := fun _ _ _ _ _ _ us h => match us, h with
  | [u0, u1], _ => by kernel_rfl
theorem sc__law_same : FnScope N__law_same ps__law_same s__law_same := ⟨rfl, rfl, rfl, by decide +kernel, rfl, by decide +kernel, by decide +kernel⟩
def m__law_same (D__law_same : FnP) : M Out := (andThen ((andB (((((rdM 0) >>= toP) >>= isiM "tuple") >>= toP) >>= truthM) (((((rdM 1) >>= toP) >>= isiM "tuple") >>= toP) >>= truthM)) >>= fun k => if k then (((((((((rdM 0) >>= toP) >>= lenM) >>= toP) >>= fun x => ((((rdM 1) >>= toP) >>= lenM) >>= toP) >>= fun y => eqM x y) >>= toE) >>= fun d => truthM d >>= fun k => if k then (((((((((rdM 0) >>= toP) >>= lenM) >>= toE) >>= fun d => (pure []) >>= fun ds => pure (d :: ds)) >>= rng1M) >>= lcM [2] (.name 2) (pure true) (((consM (((((rdM 0) >>= toP) >>= fun x => ((rdM 2) >>= toP) >>= fun i => itemM x i) >>= toE) >>= fun d => pure (.val d)) (consM (((((rdM 1) >>= toP) >>= fun x => ((rdM 2) >>= toP) >>= fun i => itemM x i) >>= toE) >>= fun d => pure (.val d)) (pure []))) >>= callM 2 D__law_same) >>= toE)) >>= toP) >>= allM fun bs => bs.all id) else pure (.val d)) >>= toE) >>= fun d => pure (.rt d)) else (pure .nx))
  (andThen ((orB ((((((rdM 0) >>= toP) >>= isiM "bool") >>= toP) >>= fun x => ((((rdM 1) >>= toP) >>= isiM "bool") >>= toP) >>= fun y => neM x y) >>= asBool) ((((((rdM 0) >>= toP) >>= isiM "int") >>= toP) >>= fun x => ((((rdM 1) >>= toP) >>= isiM "int") >>= toP) >>= fun y => neM x y) >>= asBool)) >>= fun k => if k then (((pure (Res.val (.bool false)) : M Res) >>= toE) >>= fun d => pure (.rt d)) else (pure .nx))
  (((((((((rdM 0) >>= toP) >>= isiM "tuple") >>= toP) >>= fun x => ((((rdM 1) >>= toP) >>= isiM "tuple") >>= toP) >>= fun y => eqM x y) >>= toE) >>= fun d => truthM d >>= fun k => if k then (((rdM 0) >>= toP) >>= fun x => ((rdM 1) >>= toP) >>= fun y => eqM x y) else pure (.val d)) >>= toE) >>= fun d => pure (.rt d))))
def DR__law_same : Nat → FnP
  | 0 => fun _ _ _ => False
  | n + 1 => fnM N__law_same (m__law_same (DR__law_same n))
def D__law_same : FnP := DR__law_same 6
structure Ph__law_same (D0 : FnP) (G : Gr) (k : Nat) : Prop where
  b : Base G
  _law_same : DefOk G "_law_same" k ps__law_same a__law_same b__law_same s__law_same D0
theorem w__law_same (D__law_same : FnP) {fx : Fx} {k : Nat} (d : DCtx (Ph__law_same D__law_same) fx k N__law_same s__law_same) : SsOk fx b__law_same (m__law_same D__law_same) :=
  have c := d.toCtx
  (ssCons (stIf (WOk.t (wAnd (tVal rfl (ROk.toP (rIsi' (c.gl "isinstance" (by kernel_rfl)) (c.φ.b.free "isinstance" (by kernel_rfl)) (c.gl "tuple" (by kernel_rfl)) (c.φ.b.free "tuple" (by kernel_rfl)) (T := "tuple") (by decide +kernel) (by decide +kernel) rfl rfl (ROk.toP (rNm (c.nm 0 "one" (by kernel_rfl))))))) (wAnd1 (tVal rfl (ROk.toP (rIsi' (c.gl "isinstance" (by kernel_rfl)) (c.φ.b.free "isinstance" (by kernel_rfl)) (c.gl "tuple" (by kernel_rfl)) (c.φ.b.free "tuple" (by kernel_rfl)) (T := "tuple") (by decide +kernel) (by decide +kernel) rfl rfl (ROk.toP (rNm (c.nm 1 "two" (by kernel_rfl)))))))))) (ssOne (stRet (ROk.toE (rAnd (rCmp (opS_eq (by have := c.un; omega)) (ROk.toP (rBlt1 cLen (c.gl "len" (by kernel_rfl)) (c.φ.b.free "len" (by kernel_rfl)) boot_len (by decide) rfl rfl (ROk.toP (rNm (c.nm 0 "one" (by kernel_rfl)))))) (ROk.toP (rBlt1 cLen (c.gl "len" (by kernel_rfl)) (c.φ.b.free "len" (by kernel_rfl)) boot_len (by decide) rfl rfl (ROk.toP (rNm (c.nm 1 "two" (by kernel_rfl)))))) rfl) (rOne (rBlt1 (cAll c.calm) (c.gl "all" (by kernel_rfl)) (c.φ.b.free "all" (by kernel_rfl)) boot_all (by decide) rfl rfl (ROk.toP (cComp [("k", 2)] c (by kernel_rfl) rfl rfl (iRange1 (c.gl "range" (by kernel_rfl)) (c.φ.b.free "range" (by kernel_rfl)) rfl (aCons rfl (ROk.toE (rBlt1 cLen (c.gl "len" (by kernel_rfl)) (c.φ.b.free "len" (by kernel_rfl)) boot_len (by decide) rfl rfl (ROk.toP (rNm (c.nm 0 "one" (by kernel_rfl)))))) aNil)) (c.g fun _ c => (gNm c.nd (c.lc 2 "k" (by kernel_rfl)))) .nil (c.e fun _ c => (ROk.toE (cCall c.fr c.φ._law_same bd__law_same (c.gl "_law_same" (by kernel_rfl)) rfl rfl (lCons c.fr.g rfl (argVal (ROk.toE (rItem rfl (ROk.toP (rNm (c.nm 0 "one" (by kernel_rfl)))) (ROk.toP (rNm (c.nm 2 "k" (by kernel_rfl))))))) (lCons c.fr.g rfl (argVal (ROk.toE (rItem rfl (ROk.toP (rNm (c.nm 1 "two" (by kernel_rfl)))) (ROk.toP (rNm (c.nm 2 "k" (by kernel_rfl))))))) lNil))))))))))))) ssNil)
  (ssCons (stIf (WOk.t (wOr (tCmp' (opS_ne (by have := c.un; omega)) (ROk.toP (rIsi' (c.gl "isinstance" (by kernel_rfl)) (c.φ.b.free "isinstance" (by kernel_rfl)) (c.gl "bool" (by kernel_rfl)) (c.φ.b.free "bool" (by kernel_rfl)) (T := "bool") (by decide +kernel) (by decide +kernel) rfl rfl (ROk.toP (rNm (c.nm 0 "one" (by kernel_rfl)))))) (ROk.toP (rIsi' (c.gl "isinstance" (by kernel_rfl)) (c.φ.b.free "isinstance" (by kernel_rfl)) (c.gl "bool" (by kernel_rfl)) (c.φ.b.free "bool" (by kernel_rfl)) (T := "bool") (by decide +kernel) (by decide +kernel) rfl rfl (ROk.toP (rNm (c.nm 1 "two" (by kernel_rfl)))))) rfl) (wOr1 (tCmp' (opS_ne (by have := c.un; omega)) (ROk.toP (rIsi' (c.gl "isinstance" (by kernel_rfl)) (c.φ.b.free "isinstance" (by kernel_rfl)) (c.gl "int" (by kernel_rfl)) (c.φ.b.free "int" (by kernel_rfl)) (T := "int") (by decide +kernel) (by decide +kernel) rfl rfl (ROk.toP (rNm (c.nm 0 "one" (by kernel_rfl)))))) (ROk.toP (rIsi' (c.gl "isinstance" (by kernel_rfl)) (c.φ.b.free "isinstance" (by kernel_rfl)) (c.gl "int" (by kernel_rfl)) (c.φ.b.free "int" (by kernel_rfl)) (T := "int") (by decide +kernel) (by decide +kernel) rfl rfl (ROk.toP (rNm (c.nm 1 "two" (by kernel_rfl)))))) rfl)))) (ssOne (stRet (ROk.toE rConst))) ssNil)
  (ssOne (stRet (ROk.toE (rAnd (rCmp (opS_eq (by have := c.un; omega)) (ROk.toP (rIsi' (c.gl "isinstance" (by kernel_rfl)) (c.φ.b.free "isinstance" (by kernel_rfl)) (c.gl "tuple" (by kernel_rfl)) (c.φ.b.free "tuple" (by kernel_rfl)) (T := "tuple") (by decide +kernel) (by decide +kernel) rfl rfl (ROk.toP (rNm (c.nm 0 "one" (by kernel_rfl)))))) (ROk.toP (rIsi' (c.gl "isinstance" (by kernel_rfl)) (c.φ.b.free "isinstance" (by kernel_rfl)) (c.gl "tuple" (by kernel_rfl)) (c.φ.b.free "tuple" (by kernel_rfl)) (T := "tuple") (by decide +kernel) (by decide +kernel) rfl rfl (ROk.toP (rNm (c.nm 1 "two" (by kernel_rfl)))))) rfl) (rOne (rCmp (opS_eq (by have := c.un; omega)) (ROk.toP (rNm (c.nm 0 "one" (by kernel_rfl)))) (ROk.toP (rNm (c.nm 1 "two" (by kernel_rfl)))) rfl))))))))
theorem dr__law_same {G : Gr} (b : Base G) (h : ∃ f fd, G.mg "_law_same" = some (.ref f) ∧ FunD G.K "_law_same" "_law_same" a__law_same b__law_same s__law_same [] [] f fd)  : ∀ n : Nat, DefOk G "_law_same" (1 + n) ps__law_same a__law_same b__law_same s__law_same (DR__law_same n)
  | 0 => DefOk.vac h
  | n + 1 => have ih := dr__law_same b h  n
    DefOk.of (k := 1 + n) b.g h sc__law_same fun fx eG fr hN hs po fn => w__law_same (DR__law_same n) ⟨⟨fr, hN, hs, by rw [eG]; exact ⟨b, ih⟩⟩, po, by kernel_rfl, fn⟩
theorem d__law_same {G : Gr} (b : Base G) (h : ∃ f fd, G.mg "_law_same" = some (.ref f) ∧ FunD G.K "_law_same" "_law_same" a__law_same b__law_same s__law_same [] [] f fd)  : DefOk G "_law_same" 7 ps__law_same a__law_same b__law_same s__law_same D__law_same := dr__law_same b h  6
/-! places_along -/
abbrev b_places_along : List Stmt := defBody (top 30)
abbrev s_places_along : Scope := defScope (top 30)
abbrev a_places_along : Arguments := defArgs (top 30)
def N_places_along : List Str := (["shelf", "askings", "book"] : List Str)
def ps_places_along : List Str := ["shelf", "askings", "book"]
theorem bd_places_along : Bd "places_along" ps_places_along a_places_along b_places_along s_places_along := fun _ _ _ _ _ _ us h => match us, h with
  | [u0, u1, u2], _ => by kernel_rfl
theorem bdk_places_along_2_book : BdK "places_along" ps_places_along a_places_along b_places_along s_places_along 2 ["book"] := fun _ _ _ _ _ _ us ws h g => match us, ws, h, g with
  | [u0, u1], [w0], _, _ => by kernel_rfl
theorem sc_places_along : FnScope N_places_along ps_places_along s_places_along := ⟨rfl, rfl, rfl, by decide +kernel, rfl, by decide +kernel, by decide +kernel⟩
def m_places_along : M Out := (andThen (((consM (rdA 0) (consM (rdA 1) (consM (rdA 2) (pure [])))) >>= callM 3 D_check_followed) >>= fun _ => pure .nx)
  ((((((consM (rdA 0) (consM (rdA 1) (consM (rdA 2) (pure [])))) >>= callM 3 D_places_by) >>= toP) >>= tupleM) >>= toE) >>= fun d => pure (.rt d)))
def D_places_along : FnP := fnM N_places_along m_places_along
structure Ph_places_along (G : Gr) (k : Nat) : Prop where
  b : Base G
  check_followed : DefOk G "check_followed" k ps_check_followed a_check_followed b_check_followed s_check_followed D_check_followed
  places_by : DefOk G "places_by" k ps_places_by a_places_by b_places_by s_places_by D_places_by
theorem w_places_along {fx : Fx} {k : Nat} (d : DCtx Ph_places_along fx k N_places_along s_places_along) : SsOk fx b_places_along m_places_along :=
  have c := d.toCtx
  (ssCons (stExpr rfl (cCall c.fr c.φ.check_followed bd_check_followed (c.gl "check_followed" (by kernel_rfl)) rfl rfl (lCons c.fr.g rfl (argName (c.nm 0 "shelf" (by kernel_rfl))) (lCons c.fr.g rfl (argName (c.nm 1 "askings" (by kernel_rfl))) (lCons c.fr.g rfl (argName (c.nm 2 "book" (by kernel_rfl))) lNil)))))
  (ssOne (stRet (ROk.toE (rTy1 cTuple (c.gl "tuple" (by kernel_rfl)) (c.φ.b.free "tuple" (by kernel_rfl)) boot_tuple (by decide) rfl rfl (ROk.toP (cCall c.fr c.φ.places_by bd_places_by (c.gl "places_by" (by kernel_rfl)) rfl rfl (lCons c.fr.g rfl (argName (c.nm 0 "shelf" (by kernel_rfl))) (lCons c.fr.g rfl (argName (c.nm 1 "askings" (by kernel_rfl))) (lCons c.fr.g rfl (argName (c.nm 2 "book" (by kernel_rfl))) lNil))))))))))
theorem d_places_along {G : Gr} (b : Base G) (h : ∃ f fd, G.mg "places_along" = some (.ref f) ∧ FunD G.K "places_along" "places_along" a_places_along b_places_along s_places_along [] [] f fd) (h0 : DefOk G "check_followed" 7 ps_check_followed a_check_followed b_check_followed s_check_followed D_check_followed) (h1 : DefOk G "places_by" 3 ps_places_by a_places_by b_places_by s_places_by D_places_by) : DefOk G "places_along" 8 ps_places_along a_places_along b_places_along s_places_along D_places_along :=
  DefOk.of (k := 7) b.g h sc_places_along fun fx eG fr hN hs po fn => w_places_along ⟨⟨fr, hN, hs, by rw [eG]; exact ⟨b, h0.mono (by decide), h1.mono (by decide)⟩⟩, po, by kernel_rfl, fn⟩
/-! farthest_back -/
abbrev b_farthest_back : List Stmt := defBody (top 31)
abbrev s_farthest_back : Scope := defScope (top 31)
abbrev a_farthest_back : Arguments := defArgs (top 31)
def N_farthest_back : List Str := (["shelf", "askings", "book"] : List Str)
def ps_farthest_back : List Str := ["shelf", "askings", "book"]
theorem bd_farthest_back : Bd "farthest_back" ps_farthest_back a_farthest_back b_farthest_back s_farthest_back := fun _ _ _ _ _ _ us h => match us, h with
  | [u0, u1, u2], _ => by kernel_rfl
theorem bdk_farthest_back_2_book : BdK "farthest_back" ps_farthest_back a_farthest_back b_farthest_back s_farthest_back 2 ["book"] := fun _ _ _ _ _ _ us ws h g => match us, ws, h, g with
  | [u0, u1], [w0], _, _ => by kernel_rfl
theorem sc_farthest_back : FnScope N_farthest_back ps_farthest_back s_farthest_back := ⟨rfl, rfl, rfl, by decide +kernel, rfl, by decide +kernel, by decide +kernel⟩
def m_farthest_back : M Out := (andThen (((consM (rdA 0) (consM (rdA 1) (consM (rdA 2) (pure [])))) >>= callM 3 D_check_followed) >>= fun _ => pure .nx)
  ((((((consM (rdA 0) (consM (rdA 1) (consM (rdA 2) (pure [])))) >>= callM 3 D_places_by) >>= toP) >>= maxLM) >>= toE) >>= fun d => pure (.rt d)))
def D_farthest_back : FnP := fnM N_farthest_back m_farthest_back
structure Ph_farthest_back (G : Gr) (k : Nat) : Prop where
  b : Base G
  check_followed : DefOk G "check_followed" k ps_check_followed a_check_followed b_check_followed s_check_followed D_check_followed
  places_by : DefOk G "places_by" k ps_places_by a_places_by b_places_by s_places_by D_places_by
theorem w_farthest_back {fx : Fx} {k : Nat} (d : DCtx Ph_farthest_back fx k N_farthest_back s_farthest_back) : SsOk fx b_farthest_back m_farthest_back :=
  have c := d.toCtx
  (ssCons (stExpr rfl (cCall c.fr c.φ.check_followed bd_check_followed (c.gl "check_followed" (by kernel_rfl)) rfl rfl (lCons c.fr.g rfl (argName (c.nm 0 "shelf" (by kernel_rfl))) (lCons c.fr.g rfl (argName (c.nm 1 "askings" (by kernel_rfl))) (lCons c.fr.g rfl (argName (c.nm 2 "book" (by kernel_rfl))) lNil)))))
  (ssOne (stRet (ROk.toE (rBlt1 (cMaxL c.calm) (c.gl "max" (by kernel_rfl)) (c.φ.b.free "max" (by kernel_rfl)) boot_max (by decide) rfl rfl (ROk.toP (cCall c.fr c.φ.places_by bd_places_by (c.gl "places_by" (by kernel_rfl)) rfl rfl (lCons c.fr.g rfl (argName (c.nm 0 "shelf" (by kernel_rfl))) (lCons c.fr.g rfl (argName (c.nm 1 "askings" (by kernel_rfl))) (lCons c.fr.g rfl (argName (c.nm 2 "book" (by kernel_rfl))) lNil))))))))))
theorem d_farthest_back {G : Gr} (b : Base G) (h : ∃ f fd, G.mg "farthest_back" = some (.ref f) ∧ FunD G.K "farthest_back" "farthest_back" a_farthest_back b_farthest_back s_farthest_back [] [] f fd) (h0 : DefOk G "check_followed" 7 ps_check_followed a_check_followed b_check_followed s_check_followed D_check_followed) (h1 : DefOk G "places_by" 3 ps_places_by a_places_by b_places_by s_places_by D_places_by) : DefOk G "farthest_back" 8 ps_farthest_back a_farthest_back b_farthest_back s_farthest_back D_farthest_back :=
  DefOk.of (k := 7) b.g h sc_farthest_back fun fx eG fr hN hs po fn => w_farthest_back ⟨⟨fr, hN, hs, by rw [eG]; exact ⟨b, h0.mono (by decide), h1.mono (by decide)⟩⟩, po, by kernel_rfl, fn⟩
/-! times_in_front -/
abbrev b_times_in_front : List Stmt := defBody (top 32)
abbrev s_times_in_front : Scope := defScope (top 32)
abbrev a_times_in_front : Arguments := defArgs (top 32)
def N_times_in_front : List Str := (["shelf", "askings", "book"] : List Str)
def ps_times_in_front : List Str := ["shelf", "askings", "book"]
theorem bd_times_in_front : Bd "times_in_front" ps_times_in_front a_times_in_front b_times_in_front s_times_in_front := fun _ _ _ _ _ _ us h => match us, h with
  | [u0, u1, u2], _ => by kernel_rfl
theorem bdk_times_in_front_2_book : BdK "times_in_front" ps_times_in_front a_times_in_front b_times_in_front s_times_in_front 2 ["book"] := fun _ _ _ _ _ _ us ws h g => match us, ws, h, g with
  | [u0, u1], [w0], _, _ => by kernel_rfl
theorem sc_times_in_front : FnScope N_times_in_front ps_times_in_front s_times_in_front := ⟨rfl, rfl, rfl, by decide +kernel, rfl, by decide +kernel, by decide +kernel⟩
def m_times_in_front : M Out := (andThen (((consM (rdA 0) (consM (rdA 1) (consM (rdA 2) (pure [])))) >>= callM 3 D_check_followed) >>= fun _ => pure .nx)
  ((((((consM (rdA 0) (consM (rdA 1) (consM (rdA 2) (pure [])))) >>= callM 3 D_places_by) >>= toP) >>= fun x => seqOnly x >>= fun _ => ((pure (Res.val (.int 1)) : M Res) >>= toP) >>= fun d => cntM x d) >>= toE) >>= fun d => pure (.rt d)))
def D_times_in_front : FnP := fnM N_times_in_front m_times_in_front
structure Ph_times_in_front (G : Gr) (k : Nat) : Prop where
  b : Base G
  check_followed : DefOk G "check_followed" k ps_check_followed a_check_followed b_check_followed s_check_followed D_check_followed
  places_by : DefOk G "places_by" k ps_places_by a_places_by b_places_by s_places_by D_places_by
theorem w_times_in_front {fx : Fx} {k : Nat} (d : DCtx Ph_times_in_front fx k N_times_in_front s_times_in_front) : SsOk fx b_times_in_front m_times_in_front :=
  have c := d.toCtx
  (ssCons (stExpr rfl (cCall c.fr c.φ.check_followed bd_check_followed (c.gl "check_followed" (by kernel_rfl)) rfl rfl (lCons c.fr.g rfl (argName (c.nm 0 "shelf" (by kernel_rfl))) (lCons c.fr.g rfl (argName (c.nm 1 "askings" (by kernel_rfl))) (lCons c.fr.g rfl (argName (c.nm 2 "book" (by kernel_rfl))) lNil)))))
  (ssOne (stRet (ROk.toE (rCount c.fr.ok ⟨rfl, rfl, rfl⟩ rfl (ROk.toP (cCall c.fr c.φ.places_by bd_places_by (c.gl "places_by" (by kernel_rfl)) rfl rfl (lCons c.fr.g rfl (argName (c.nm 0 "shelf" (by kernel_rfl))) (lCons c.fr.g rfl (argName (c.nm 1 "askings" (by kernel_rfl))) (lCons c.fr.g rfl (argName (c.nm 2 "book" (by kernel_rfl))) lNil))))) (ROk.toP rConst))))))
theorem d_times_in_front {G : Gr} (b : Base G) (h : ∃ f fd, G.mg "times_in_front" = some (.ref f) ∧ FunD G.K "times_in_front" "times_in_front" a_times_in_front b_times_in_front s_times_in_front [] [] f fd) (h0 : DefOk G "check_followed" 7 ps_check_followed a_check_followed b_check_followed s_check_followed D_check_followed) (h1 : DefOk G "places_by" 3 ps_places_by a_places_by b_places_by s_places_by D_places_by) : DefOk G "times_in_front" 8 ps_times_in_front a_times_in_front b_times_in_front s_times_in_front D_times_in_front :=
  DefOk.of (k := 7) b.g h sc_times_in_front fun fx eG fr hN hs po fn => w_times_in_front ⟨⟨fr, hN, hs, by rw [eG]; exact ⟨b, h0.mono (by decide), h1.mono (by decide)⟩⟩, po, by kernel_rfl, fn⟩
/-! _law_right -/
abbrev b__law_right : List Stmt := defBody (top 47)
abbrev s__law_right : Scope := defScope (top 47)
abbrev a__law_right : Arguments := defArgs (top 47)
def N__law_right : List Str := (["well", "shelf", "askings", "here", "rows", "book", "costs", "due", "row", "most", "front", "told"] : List Str) ++ (["k"] : List Str)
def ps__law_right : List Str := ["well"]
theorem bd__law_right : Bd "_law_right" ps__law_right a__law_right b__law_right s__law_right := fun _ _ _ _ _ _ us h => match us, h with
  | [u0], _ => by kernel_rfl
theorem sc__law_right : FnScope N__law_right ps__law_right s__law_right := ⟨rfl, rfl, rfl, by decide +kernel, rfl, by decide +kernel, by decide +kernel⟩
def m__law_right : M Out := (andThen (((consM (rdA 0) (consM (((pure (Res.val (.int 1)) : M Res) >>= toE) >>= fun d => pure (.val d)) (consM (((pure (Res.val (.int 7)) : M Res) >>= toE) >>= fun d => pure (.val d)) (pure [])))) >>= callM 3 D__law_shelf) >>= setM 1)
  (andThen ((((consM (rdA 0) (consM (rdA 1) (consM (((pure (Res.val (.int 15)) : M Res) >>= toE) >>= fun d => pure (.val d)) (pure [])))) >>= callM 3 D__law_askings) >>= toN) >>= fun r => ((rdM 1) >>= toN) >>= fun q => set2M 2 3 r q)
  (andThen (((((rdM 1) >>= toE) >>= fun d => (pure []) >>= fun ds => pure (d :: ds)) >>= lstM) >>= setM 4)
  (andThen ((((rdM 2) >>= toE) >>= seqM) >>= forM (.name 5) (andThen (((consM (rdA 3) (consM (rdA 5) (pure []))) >>= callM 2 D__law_asked) >>= setM 3)
  ((ownAt 4 >>= fun _ => ((rdM 3) >>= toE) >>= appM 4) >>= fun _ => pure .nx)))
  (andThen (((consM (rdA 1) (consM (rdA 2) (pure []))) >>= callM 2 D__law_code) >>= setM 6)
  (andThen ((((((consM (((((((consM (rdA 1) (consM (rdA 2) (pure []))) >>= callM 2 D_shelves_along) >>= toE) >>= fun d => ((((consM (rdA 1) (pure [])) >>= fun sl => (consM (rdA 2) (pure [])) >>= fun zl => M.need (sl.length = 1 ∧ zl.length = 1) >>= fun _ => callM 2 D_code (arr ps_code ["askings"] sl zl)) >>= toE) >>= fun d => (pure []) >>= fun ds => pure (d :: ds)) >>= fun ds => pure (d :: ds)) >>= tupM) >>= toE) >>= fun d => pure (.val d)) (consM ((((((((rdM 4) >>= toP) >>= tupleM) >>= toE) >>= fun d => (((rdM 6) >>= toE) >>= fun d => (pure []) >>= fun ds => pure (d :: ds)) >>= fun ds => pure (d :: ds)) >>= tupM) >>= toE) >>= fun d => pure (.val d)) (pure []))) >>= callM 2 D__law_same) >>= toP) >>= truthM) >>= fun b => pure (!b)) >>= fun k => if k then (((pure (Res.val (.bool false)) : M Res) >>= toE) >>= fun d => pure (.rt d)) else (pure .nx))
  (andThen ((((rdM 1) >>= toE) >>= seqM) >>= forM (.name 5) (andThen (((((((rdM 4) >>= toE) >>= seqM) >>= lcM [8] (.name 8) (pure true) ((((((rdM 8) >>= toP) >>= fun x => seqOnly x >>= fun _ => ((rdM 5) >>= toP) >>= fun d => idxM x d) >>= toP) >>= fun x => ((pure (Res.val (.int 1)) : M Res) >>= toP) >>= fun y => addM x y) >>= toE)) >>= toP) >>= tupleM) >>= setM 7)
  (andThen ((((((consM (((((((consM (rdA 1) (consM (rdA 2) (consM (rdA 5) (pure [])))) >>= callM 3 D_places_along) >>= toE) >>= fun d => ((((consM (rdA 1) (consM (rdA 2) (pure []))) >>= fun sl => (consM (rdA 5) (pure [])) >>= fun zl => M.need (sl.length = 2 ∧ zl.length = 1) >>= fun _ => callM 3 D_places_along (arr ps_places_along ["book"] sl zl)) >>= toE) >>= fun d => (pure []) >>= fun ds => pure (d :: ds)) >>= fun ds => pure (d :: ds)) >>= tupM) >>= toE) >>= fun d => pure (.val d)) (consM ((((((rdM 7) >>= toE) >>= fun d => (((rdM 7) >>= toE) >>= fun d => (pure []) >>= fun ds => pure (d :: ds)) >>= fun ds => pure (d :: ds)) >>= tupM) >>= toE) >>= fun d => pure (.val d)) (pure []))) >>= callM 2 D__law_same) >>= toP) >>= truthM) >>= fun b => pure (!b)) >>= fun k => if k then (((pure (Res.val (.bool false)) : M Res) >>= toE) >>= fun d => pure (.rt d)) else (pure .nx))
  (andThen (((((rdM 7) >>= toP) >>= maxSM) >>= toN) >>= fun r => ((((rdM 7) >>= toP) >>= fun x => seqOnly x >>= fun _ => ((pure (Res.val (.int 1)) : M Res) >>= toP) >>= fun d => cntM x d) >>= toN) >>= fun q => set2M 9 10 r q)
  (andThen ((((((consM (rdA 1) (consM (rdA 2) (consM (rdA 5) (pure [])))) >>= callM 3 D_farthest_back) >>= toE) >>= fun d => ((((consM (rdA 1) (consM (rdA 2) (pure []))) >>= fun sl => (consM (rdA 5) (pure [])) >>= fun zl => M.need (sl.length = 2 ∧ zl.length = 1) >>= fun _ => callM 3 D_farthest_back (arr ps_farthest_back ["book"] sl zl)) >>= toE) >>= fun d => (pure []) >>= fun ds => pure (d :: ds)) >>= fun ds => pure (d :: ds)) >>= tupM) >>= setM 11)
  (andThen ((((((consM (rdA 11) (consM ((((((rdM 9) >>= toE) >>= fun d => (((rdM 9) >>= toE) >>= fun d => (pure []) >>= fun ds => pure (d :: ds)) >>= fun ds => pure (d :: ds)) >>= tupM) >>= toE) >>= fun d => pure (.val d)) (pure []))) >>= callM 2 D__law_same) >>= toP) >>= truthM) >>= fun b => pure (!b)) >>= fun k => if k then (((pure (Res.val (.bool false)) : M Res) >>= toE) >>= fun d => pure (.rt d)) else (pure .nx))
  (andThen ((((((consM (rdA 1) (consM (rdA 2) (consM (rdA 5) (pure [])))) >>= callM 3 D_times_in_front) >>= toE) >>= fun d => ((((consM (rdA 1) (consM (rdA 2) (pure []))) >>= fun sl => (consM (rdA 5) (pure [])) >>= fun zl => M.need (sl.length = 2 ∧ zl.length = 1) >>= fun _ => callM 3 D_times_in_front (arr ps_times_in_front ["book"] sl zl)) >>= toE) >>= fun d => (pure []) >>= fun ds => pure (d :: ds)) >>= fun ds => pure (d :: ds)) >>= tupM) >>= setM 11)
  (andThen ((((((consM (rdA 11) (consM ((((((rdM 10) >>= toE) >>= fun d => (((rdM 10) >>= toE) >>= fun d => (pure []) >>= fun ds => pure (d :: ds)) >>= fun ds => pure (d :: ds)) >>= tupM) >>= toE) >>= fun d => pure (.val d)) (pure []))) >>= callM 2 D__law_same) >>= toP) >>= truthM) >>= fun b => pure (!b)) >>= fun k => if k then (((pure (Res.val (.bool false)) : M Res) >>= toE) >>= fun d => pure (.rt d)) else (pure .nx))
  (((((((((((rdM 2) >>= toP) >>= lenM) >>= toE) >>= fun d => (pure []) >>= fun ds => pure (d :: ds)) >>= rng1M) >>= lcM [12] (.name 12) (andB ((((((rdM 2) >>= toP) >>= fun x => ((rdM 12) >>= toP) >>= fun i => itemM x i) >>= toP) >>= fun x => ((rdM 5) >>= toP) >>= fun y => eqM x y) >>= asBool) ((((((rdM 6) >>= toP) >>= fun x => ((rdM 12) >>= toP) >>= fun i => itemM x i) >>= toP) >>= fun x => ((((rdM 7) >>= toP) >>= fun x => ((rdM 12) >>= toP) >>= fun i => itemM x i) >>= toP) >>= fun y => neM x y) >>= asBool)) ((rdM 12) >>= toE)) >>= toP) >>= fun x => (((pure []) >>= lstM) >>= toP) >>= fun y => neM x y) >>= asBool) >>= fun k => if k then (((pure (Res.val (.bool false)) : M Res) >>= toE) >>= fun d => pure (.rt d)) else (pure .nx))))))))))
  (((pure (Res.val (.bool true)) : M Res) >>= toE) >>= fun d => pure (.rt d)))))))))
def D__law_right : FnP := fnM N__law_right m__law_right
structure Ph__law_right (G : Gr) (k : Nat) : Prop where
  b : Base G
  _law_shelf : DefOk G "_law_shelf" k ps__law_shelf a__law_shelf b__law_shelf s__law_shelf D__law_shelf
  _law_askings : DefOk G "_law_askings" k ps__law_askings a__law_askings b__law_askings s__law_askings D__law_askings
  _law_asked : DefOk G "_law_asked" k ps__law_asked a__law_asked b__law_asked s__law_asked D__law_asked
  _law_code : DefOk G "_law_code" k ps__law_code a__law_code b__law_code s__law_code D__law_code
  _law_same : DefOk G "_law_same" k ps__law_same a__law_same b__law_same s__law_same D__law_same
  code : DefOk G "code" k ps_code a_code b_code s_code D_code
  shelves_along : DefOk G "shelves_along" k ps_shelves_along a_shelves_along b_shelves_along s_shelves_along D_shelves_along
  places_along : DefOk G "places_along" k ps_places_along a_places_along b_places_along s_places_along D_places_along
  farthest_back : DefOk G "farthest_back" k ps_farthest_back a_farthest_back b_farthest_back s_farthest_back D_farthest_back
  times_in_front : DefOk G "times_in_front" k ps_times_in_front a_times_in_front b_times_in_front s_times_in_front D_times_in_front
theorem w__law_right {fx : Fx} {k : Nat} (d : DCtx Ph__law_right fx k N__law_right s__law_right) : SsOk fx b__law_right m__law_right :=
  have c := d.toCtx
  (ssCons (sSet c.nd (d.ld 1 "shelf" (by kernel_rfl)) rfl (cCall c.fr c.φ._law_shelf bd__law_shelf (c.gl "_law_shelf" (by kernel_rfl)) rfl rfl (lCons c.fr.g rfl (argName (c.nm 0 "well" (by kernel_rfl))) (lCons c.fr.g rfl (argVal (ROk.toE rConst)) (lCons c.fr.g rfl (argVal (ROk.toE rConst)) lNil)))))
  (ssCons (cParG 2 3 "askings" "here" d (by kernel_rfl) (by kernel_rfl) rfl rfl (cCall c.fr c.φ._law_askings bd__law_askings (c.gl "_law_askings" (by kernel_rfl)) rfl rfl (lCons c.fr.g rfl (argName (c.nm 0 "well" (by kernel_rfl))) (lCons c.fr.g rfl (argName (c.nm 1 "shelf" (by kernel_rfl))) (lCons c.fr.g rfl (argVal (ROk.toE rConst)) lNil)))) (rNm (c.nm 1 "shelf" (by kernel_rfl))))
  (ssCons (sSet c.nd (d.ld 4 "rows" (by kernel_rfl)) rfl (rLst (aCons rfl (ROk.toE (rNm (c.nm 1 "shelf" (by kernel_rfl)))) aNil)))
  (ssCons (stFor d.po c.calm rfl (iSeq' (ROk.toE (rNm (c.nm 2 "askings" (by kernel_rfl))))) (gNm c.nd (d.ld 5 "book" (by kernel_rfl))) (ssCons (sSet c.nd (d.ld 3 "here" (by kernel_rfl)) rfl (cCall c.fr c.φ._law_asked bd__law_asked (c.gl "_law_asked" (by kernel_rfl)) rfl rfl (lCons c.fr.g rfl (argName (c.nm 3 "here" (by kernel_rfl))) (lCons c.fr.g rfl (argName (c.nm 5 "book" (by kernel_rfl))) lNil))))
  (ssOne (stExprX rfl (xAppend (c.nm 4 "rows" (by kernel_rfl)) ⟨rfl, rfl, rfl⟩ rfl (EOk.x (ROk.toE (rNm (c.nm 3 "here" (by kernel_rfl))))))))))
  (ssCons (sSet c.nd (d.ld 6 "costs" (by kernel_rfl)) rfl (cCall c.fr c.φ._law_code bd__law_code (c.gl "_law_code" (by kernel_rfl)) rfl rfl (lCons c.fr.g rfl (argName (c.nm 1 "shelf" (by kernel_rfl))) (lCons c.fr.g rfl (argName (c.nm 2 "askings" (by kernel_rfl))) lNil))))
  (ssCons (stIf (tNot' (tVal rfl (ROk.toP (cCall c.fr c.φ._law_same bd__law_same (c.gl "_law_same" (by kernel_rfl)) rfl rfl (lCons c.fr.g rfl (argVal (ROk.toE (rTup (aCons rfl (ROk.toE (cCall c.fr c.φ.shelves_along bd_shelves_along (c.gl "shelves_along" (by kernel_rfl)) rfl rfl (lCons c.fr.g rfl (argName (c.nm 1 "shelf" (by kernel_rfl))) (lCons c.fr.g rfl (argName (c.nm 2 "askings" (by kernel_rfl))) lNil)))) (aCons rfl (ROk.toE (cCallK c.fr c.φ.code bdk_code_1_askings (c.gl "code" (by kernel_rfl)) rfl (fun _ => rfl) rfl (lCons c.fr.g rfl (argName (c.nm 1 "shelf" (by kernel_rfl))) lNil) (kCons c.fr.g (argName (c.nm 2 "askings" (by kernel_rfl))) kNil))) aNil))))) (lCons c.fr.g rfl (argVal (ROk.toE (rTup (aCons rfl (ROk.toE (rTy1 cTuple (c.gl "tuple" (by kernel_rfl)) (c.φ.b.free "tuple" (by kernel_rfl)) boot_tuple (by decide) rfl rfl (ROk.toP (rNm (c.nm 4 "rows" (by kernel_rfl)))))) (aCons rfl (ROk.toE (rNm (c.nm 6 "costs" (by kernel_rfl)))) aNil))))) lNil)))))) (ssOne (stRet (ROk.toE rConst))) ssNil)
  (ssCons (stFor d.po c.calm rfl (iSeq' (ROk.toE (rNm (c.nm 1 "shelf" (by kernel_rfl))))) (gNm c.nd (d.ld 5 "book" (by kernel_rfl))) (ssCons (sSet c.nd (d.ld 7 "due" (by kernel_rfl)) rfl (rTy1 cTuple (c.gl "tuple" (by kernel_rfl)) (c.φ.b.free "tuple" (by kernel_rfl)) boot_tuple (by decide) rfl rfl (ROk.toP (cComp [("row", 8)] c (by kernel_rfl) rfl rfl (iSeq' (ROk.toE (rNm (c.nm 4 "rows" (by kernel_rfl))))) (c.g fun _ c => (gNm c.nd (c.lc 8 "row" (by kernel_rfl)))) .nil (c.e fun _ c => (ROk.toE (rBin opS_add (ROk.toP (rIndex' c.fr.ok ⟨rfl, rfl, rfl⟩ rfl (ROk.toP (rNm (c.nm 8 "row" (by kernel_rfl)))) (ROk.toP (rNm (c.nm 5 "book" (by kernel_rfl)))))) (ROk.toP rConst))))))))
  (ssCons (stIf (tNot' (tVal rfl (ROk.toP (cCall c.fr c.φ._law_same bd__law_same (c.gl "_law_same" (by kernel_rfl)) rfl rfl (lCons c.fr.g rfl (argVal (ROk.toE (rTup (aCons rfl (ROk.toE (cCall c.fr c.φ.places_along bd_places_along (c.gl "places_along" (by kernel_rfl)) rfl rfl (lCons c.fr.g rfl (argName (c.nm 1 "shelf" (by kernel_rfl))) (lCons c.fr.g rfl (argName (c.nm 2 "askings" (by kernel_rfl))) (lCons c.fr.g rfl (argName (c.nm 5 "book" (by kernel_rfl))) lNil))))) (aCons rfl (ROk.toE (cCallK c.fr c.φ.places_along bdk_places_along_2_book (c.gl "places_along" (by kernel_rfl)) rfl (fun _ => rfl) rfl (lCons c.fr.g rfl (argName (c.nm 1 "shelf" (by kernel_rfl))) (lCons c.fr.g rfl (argName (c.nm 2 "askings" (by kernel_rfl))) lNil)) (kCons c.fr.g (argName (c.nm 5 "book" (by kernel_rfl))) kNil))) aNil))))) (lCons c.fr.g rfl (argVal (ROk.toE (rTup (aCons rfl (ROk.toE (rNm (c.nm 7 "due" (by kernel_rfl)))) (aCons rfl (ROk.toE (rNm (c.nm 7 "due" (by kernel_rfl)))) aNil))))) lNil)))))) (ssOne (stRet (ROk.toE rConst))) ssNil)
  (ssCons (cPar 9 10 "most" "front" d (by kernel_rfl) (by kernel_rfl) rfl rfl (rBlt1 (cMaxS c.calm (by have := c.un; omega)) (c.gl "max" (by kernel_rfl)) (c.φ.b.free "max" (by kernel_rfl)) boot_max (by decide) rfl rfl (ROk.toP (rNm (c.nm 7 "due" (by kernel_rfl))))) (rCount c.fr.ok ⟨rfl, rfl, rfl⟩ rfl (ROk.toP (rNm (c.nm 7 "due" (by kernel_rfl)))) (ROk.toP rConst)))
  (ssCons (sSet c.nd (d.ld 11 "told" (by kernel_rfl)) rfl (rTup (aCons rfl (ROk.toE (cCall c.fr c.φ.farthest_back bd_farthest_back (c.gl "farthest_back" (by kernel_rfl)) rfl rfl (lCons c.fr.g rfl (argName (c.nm 1 "shelf" (by kernel_rfl))) (lCons c.fr.g rfl (argName (c.nm 2 "askings" (by kernel_rfl))) (lCons c.fr.g rfl (argName (c.nm 5 "book" (by kernel_rfl))) lNil))))) (aCons rfl (ROk.toE (cCallK c.fr c.φ.farthest_back bdk_farthest_back_2_book (c.gl "farthest_back" (by kernel_rfl)) rfl (fun _ => rfl) rfl (lCons c.fr.g rfl (argName (c.nm 1 "shelf" (by kernel_rfl))) (lCons c.fr.g rfl (argName (c.nm 2 "askings" (by kernel_rfl))) lNil)) (kCons c.fr.g (argName (c.nm 5 "book" (by kernel_rfl))) kNil))) aNil))))
  (ssCons (stIf (tNot' (tVal rfl (ROk.toP (cCall c.fr c.φ._law_same bd__law_same (c.gl "_law_same" (by kernel_rfl)) rfl rfl (lCons c.fr.g rfl (argName (c.nm 11 "told" (by kernel_rfl))) (lCons c.fr.g rfl (argVal (ROk.toE (rTup (aCons rfl (ROk.toE (rNm (c.nm 9 "most" (by kernel_rfl)))) (aCons rfl (ROk.toE (rNm (c.nm 9 "most" (by kernel_rfl)))) aNil))))) lNil)))))) (ssOne (stRet (ROk.toE rConst))) ssNil)
  (ssCons (sSet c.nd (d.ld 11 "told" (by kernel_rfl)) rfl (rTup (aCons rfl (ROk.toE (cCall c.fr c.φ.times_in_front bd_times_in_front (c.gl "times_in_front" (by kernel_rfl)) rfl rfl (lCons c.fr.g rfl (argName (c.nm 1 "shelf" (by kernel_rfl))) (lCons c.fr.g rfl (argName (c.nm 2 "askings" (by kernel_rfl))) (lCons c.fr.g rfl (argName (c.nm 5 "book" (by kernel_rfl))) lNil))))) (aCons rfl (ROk.toE (cCallK c.fr c.φ.times_in_front bdk_times_in_front_2_book (c.gl "times_in_front" (by kernel_rfl)) rfl (fun _ => rfl) rfl (lCons c.fr.g rfl (argName (c.nm 1 "shelf" (by kernel_rfl))) (lCons c.fr.g rfl (argName (c.nm 2 "askings" (by kernel_rfl))) lNil)) (kCons c.fr.g (argName (c.nm 5 "book" (by kernel_rfl))) kNil))) aNil))))
  (ssCons (stIf (tNot' (tVal rfl (ROk.toP (cCall c.fr c.φ._law_same bd__law_same (c.gl "_law_same" (by kernel_rfl)) rfl rfl (lCons c.fr.g rfl (argName (c.nm 11 "told" (by kernel_rfl))) (lCons c.fr.g rfl (argVal (ROk.toE (rTup (aCons rfl (ROk.toE (rNm (c.nm 10 "front" (by kernel_rfl)))) (aCons rfl (ROk.toE (rNm (c.nm 10 "front" (by kernel_rfl)))) aNil))))) lNil)))))) (ssOne (stRet (ROk.toE rConst))) ssNil)
  (ssOne (stIf (tCmp' (opS_ne (by have := c.un; omega)) (ROk.toP (cComp [("k", 12)] c (by kernel_rfl) rfl rfl (iRange1 (c.gl "range" (by kernel_rfl)) (c.φ.b.free "range" (by kernel_rfl)) rfl (aCons rfl (ROk.toE (rBlt1 cLen (c.gl "len" (by kernel_rfl)) (c.φ.b.free "len" (by kernel_rfl)) boot_len (by decide) rfl rfl (ROk.toP (rNm (c.nm 2 "askings" (by kernel_rfl)))))) aNil)) (c.g fun _ c => (gNm c.nd (c.lc 12 "k" (by kernel_rfl)))) (c.t fun _ c => (WOk.t (wAnd (tCmp' (opS_eq (by have := c.un; omega)) (ROk.toP (rItem rfl (ROk.toP (rNm (c.nm 2 "askings" (by kernel_rfl)))) (ROk.toP (rNm (c.nm 12 "k" (by kernel_rfl)))))) (ROk.toP (rNm (c.nm 5 "book" (by kernel_rfl)))) rfl) (wAnd1 (tCmp' (opS_ne (by have := c.un; omega)) (ROk.toP (rItem rfl (ROk.toP (rNm (c.nm 6 "costs" (by kernel_rfl)))) (ROk.toP (rNm (c.nm 12 "k" (by kernel_rfl)))))) (ROk.toP (rItem rfl (ROk.toP (rNm (c.nm 7 "due" (by kernel_rfl)))) (ROk.toP (rNm (c.nm 12 "k" (by kernel_rfl)))))) rfl))))) (c.e fun _ c => (ROk.toE (rNm (c.nm 12 "k" (by kernel_rfl))))))) (ROk.toP (rLst aNil)) rfl) (ssOne (stRet (ROk.toE rConst))) ssNil))))))))))
  (ssOne (stRet (ROk.toE rConst))))))))))
theorem d__law_right {G : Gr} (b : Base G) (h : ∃ f fd, G.mg "_law_right" = some (.ref f) ∧ FunD G.K "_law_right" "_law_right" a__law_right b__law_right s__law_right [] [] f fd) (h0 : DefOk G "_law_shelf" 4 ps__law_shelf a__law_shelf b__law_shelf s__law_shelf D__law_shelf) (h1 : DefOk G "_law_askings" 3 ps__law_askings a__law_askings b__law_askings s__law_askings D__law_askings) (h2 : DefOk G "_law_asked" 1 ps__law_asked a__law_asked b__law_asked s__law_asked D__law_asked) (h3 : DefOk G "_law_code" 2 ps__law_code a__law_code b__law_code s__law_code D__law_code) (h4 : DefOk G "_law_same" 7 ps__law_same a__law_same b__law_same s__law_same D__law_same) (h5 : DefOk G "code" 7 ps_code a_code b_code s_code D_code) (h6 : DefOk G "shelves_along" 7 ps_shelves_along a_shelves_along b_shelves_along s_shelves_along D_shelves_along) (h7 : DefOk G "places_along" 8 ps_places_along a_places_along b_places_along s_places_along D_places_along) (h8 : DefOk G "farthest_back" 8 ps_farthest_back a_farthest_back b_farthest_back s_farthest_back D_farthest_back) (h9 : DefOk G "times_in_front" 8 ps_times_in_front a_times_in_front b_times_in_front s_times_in_front D_times_in_front) : DefOk G "_law_right" 9 ps__law_right a__law_right b__law_right s__law_right D__law_right :=
  DefOk.of (k := 8) b.g h sc__law_right fun fx eG fr hN hs po fn => w__law_right ⟨⟨fr, hN, hs, by rw [eG]; exact ⟨b, h0.mono (by decide), h1.mono (by decide), h2.mono (by decide), h3.mono (by decide), h4.mono (by decide), h5.mono (by decide), h6.mono (by decide), h7.mono (by decide), h8.mono (by decide), h9.mono (by decide)⟩⟩, po, by kernel_rfl, fn⟩
/-! law -/
abbrev b_law : List Stmt := defBody (top 48)
abbrev s_law : Scope := defScope (top 48)
abbrev a_law : Arguments := defArgs (top 48)
def N_law : List Str := (["script", "wells", "lap", "k"] : List Str)
def ps_law : List Str := ["script"]
theorem bd_law : Bd "law" ps_law a_law b_law s_law := fun _ _ _ _ _ _ us h => match us, h with
  | [u0], _ => by kernel_rfl
theorem sc_law : FnScope N_law ps_law s_law := ⟨rfl, rfl, rfl, by decide +kernel, rfl, by decide +kernel, by decide +kernel⟩
def m_law : M Out := (andThen (frzM [0] >>= fun _ => (((((pure (Res.val (.int 2)) : M Res) >>= toE) >>= fun d => (pure []) >>= fun ds => pure (d :: ds)) >>= rng1M) >>= lcWM [2] (.name 2) ((consM (rdA 0) (consM (rdA 2) (pure []))) >>= mkWell 2 D__law_well) 1))
  (((((((((pure (Res.val (.int 24)) : M Res) >>= toE) >>= fun d => (pure []) >>= fun ds => pure (d :: ds)) >>= rng1M) >>= lcM [3] (.name 3) (pure true) (((consM (wellIx 1 ((((((rdM 3) >>= toP) >>= intM') >>= toP) >>= fun x => ((pure (Res.val (.int 2)) : M Res) >>= toP) >>= fun y => modM x y) >>= toP)) (pure [])) >>= callM 1 D__law_right) >>= toE)) >>= toP) >>= allM fun bs => bs.all id) >>= toE) >>= fun d => pure (.rt d)))
def D_law : FnP := fnM N_law m_law
structure Ph_law (G : Gr) (k : Nat) : Prop where
  b : Base G
  _law_well : DefOkW G "_law_well" k ps__law_well a__law_well b__law_well s__law_well D__law_well
  _law_right : DefOk G "_law_right" k ps__law_right a__law_right b__law_right s__law_right D__law_right
theorem w_law {fx : Fx} {k : Nat} (d : DCtx Ph_law fx k N_law s_law) : SsOk fx b_law m_law :=
  have c := d.toCtx
  (ssCons (stFrz [0] (cSetWells [("lap", 2)] 1 "wells" d c.φ.b.c (by kernel_rfl) (by kernel_rfl) rfl rfl (iRange1 (c.gl "range" (by kernel_rfl)) (c.φ.b.free "range" (by kernel_rfl)) rfl (aCons rfl (ROk.toE rConst) aNil)) (c.g fun _ c => (gNm c.nd (c.lc 2 "lap" (by kernel_rfl)))) (c.w fun _ c => (cMkWell c.fr c.φ._law_well bd__law_well (c.gl "_law_well" (by kernel_rfl)) rfl rfl (lCons c.fr.g rfl (argName (c.nm 0 "script" (by kernel_rfl))) (lCons c.fr.g rfl (argName (c.nm 2 "lap" (by kernel_rfl))) lNil))))))
  (ssOne (stRet (ROk.toE (rBlt1 (cAll c.calm) (c.gl "all" (by kernel_rfl)) (c.φ.b.free "all" (by kernel_rfl)) boot_all (by decide) rfl rfl (ROk.toP (cComp [("k", 3)] c (by kernel_rfl) rfl rfl (iRange1 (c.gl "range" (by kernel_rfl)) (c.φ.b.free "range" (by kernel_rfl)) rfl (aCons rfl (ROk.toE rConst) aNil)) (c.g fun _ c => (gNm c.nd (c.lc 3 "k" (by kernel_rfl)))) .nil (c.e fun _ c => (ROk.toE (cCall c.fr c.φ._law_right bd__law_right (c.gl "_law_right" (by kernel_rfl)) rfl rfl (lCons c.fr.g rfl (argWellIx c.φ.b.c rfl (c.nm 1 "wells" (by kernel_rfl)) (ROk.toP (rBin opS_mod (ROk.toP (rTy1 cInt (c.gl "int" (by kernel_rfl)) (c.φ.b.free "int" (by kernel_rfl)) boot_int (by decide) rfl rfl (ROk.toP (rNm (c.nm 3 "k" (by kernel_rfl)))))) (ROk.toP rConst)))) lNil)))))))))))
theorem d_law {G : Gr} (b : Base G) (h : ∃ f fd, G.mg "law" = some (.ref f) ∧ FunD G.K "law" "law" a_law b_law s_law [] [] f fd) (h0 : DefOkW G "_law_well" 1 ps__law_well a__law_well b__law_well s__law_well D__law_well) (h1 : DefOk G "_law_right" 9 ps__law_right a__law_right b__law_right s__law_right D__law_right) : DefOk G "law" 10 ps_law a_law b_law s_law D_law :=
  DefOk.of (k := 9) b.g h sc_law fun fx eG fr hN hs po fn => w_law ⟨⟨fr, hN, hs, by rw [eG]; exact ⟨b, h0.mono (by decide), h1.mono (by decide)⟩⟩, po, by kernel_rfl, fn⟩
end K77
namespace K77
open PySem PySem.Spec PyProof.Rows L2 LamX FS
local macro_rules | `(tactic| decreasing_trivial) => `(tactic| simp -implicitDefEqProofs only [bindA, pureA, okA, optA, needA, andThenA, callA, toEv, toEn, toPv, toPn, toPb, rdMA, rdK_val, rdK_own, rdAA, raK_val, raK_own, raK_well, raK_clo, truthBA, truthIA, truthLA, truthTA, truthNA, asBoolA, notA, ltA, leA, gtA, geA, addA, subA, mulA, modA, mulLI, mulLL, reprXI, toEb, sortTA, sortLA, enumTA, enumLA, lc2A, fdivA, frzNil, frzCons, frz1A, frK_val, frK_own, frK_none, frK_well, frK_clo, neI, neS, eqI, cntLI, toNv, toNn, id_eq, inSA, addSA, cutSA, isi_str, isi_tuple, set2A, set2nn, set2nv, set2vn, eqS, isIA, isNA, isNotIA, isNotNA, intA, absA, negA, lenLA, lenTA, tupA, lstA, tupleLA, tupleTA, listLA, listTA, putOwnA, lenSA, listALA, listATA, listASA, revLA, revTA, itemLA, itemTA, setVA, setVbA, setNA, divmodA, reprA, rdWellA, putWellA, putNA, putTupA, putsNilA, putsConsA, orA, andA, consA, seqA, seqL, seqT, seqS, rng1A, rng2A, endRA, endNA, onlyNxA, powA, intOA, cutLA, cutTA, lcA, callWellA, cntTA, cntLA, seqOnlyL, seqOnlyT, itemsL, itemsT, addLA, addTA, allA, min2A, max2A, ownAtA, owK_own, appA, wellPA, wipeE, fnM, fnW, startE, List.map_cons, List.map_nil, List.cons_append, List.nil_append, List.length_cons, List.length_nil, List.replicate, List.getElem?_cons_zero, List.getElem?_cons_succ, List.set_cons_zero, List.set_cons_succ, Nat.reduceAdd, Nat.reduceSub, Nat.zero_add, Nat.add_zero, if_true, if_false, eq_self, Bool.false_eq_true, reduceIte, Bool.not_true, Bool.not_false, Option.map_some, true_and, and_true, isi_int_int, isi_int_bool, set3vvn, set3vvv, set3vnv, set3vnn, set3nnn, strOnlyA, lrg1A, lrg2A, wordsA, splitA, eqTT, neTT, eqLnil, neLnil])
theorem cmul {i j : Int} (h : 0 ≤ j) (h2 : j < 2 ^ 64) : CMul i j := .inr ⟨by omega, h2⟩
theorem cmul' {i j : Int} (h : 0 ≤ i) (h2 : i < 2 ^ 64) : CMul i j := .inl ⟨by omega, h2⟩
theorem take_flat {α β : Type} {g : α → List β} {l : List α} {i : Nat} {r : α} (h : l[i]? = some r) : (l.take (i + 1)).flatMap g = (l.take i).flatMap g ++ g r := by
  rw [List.take_add_one, h]
  simp
theorem flat_le {α β : Type} {g : α → List β} {l : List α} {i : Nat} : ((l.take i).flatMap g).length ≤ (l.flatMap g).length := by
  conv => rhs; rw [← List.take_append_drop i l]
  rw [List.flatMap_append, List.length_append]
  omega
def Seq3 (v : PV) (xs : List PV) : Prop := v = .list xs ∨ v = .tuple xs ∨ ∃ z : Str, v = .str z ∧ xs = (signsOf z).map .str
theorem signs_len (z : Str) : ((signsOf z).map PyData.str).length = z.length := by
  rw [List.length_map, signsOf, List.length_map, Array.length_toList]
  rfl
theorem len3 {v : PV} {xs : List PV} (h : Seq3 v xs) (hz : xs.length ≤ sizeLine) {s : En} {P : Res → En → Prop} {E : EP'} (g : P (.val (.int (xs.length : Nat))) s) : lenM v s P E := by
  rcases h with rfl | rfl | ⟨z, rfl, rfl⟩
  · exact g
  · exact g
  · rw [signs_len] at g hz
    exact ⟨hz, g⟩
theorem list3 {v : PV} {xs : List PV} (h : Seq3 v xs) {s : En} {P : Res → En → Prop} {E : EP'} (hz : xs.length ≤ sizeLine) (g : P (.new xs) s) : listAM v s P E := by
  rcases h with rfl | rfl | ⟨z, rfl, rfl⟩
  · exact ⟨hz, g⟩
  · exact ⟨hz, g⟩
  · rw [signs_len] at hz
    exact ⟨hz, g⟩
theorem perm_erase {α : Type} : ∀ {ys : List α} {i : Nat} (hi : i < ys.length), (ys[i] :: ys.eraseIdx i).Perm ys
  | y :: ys, 0, _ => List.Perm.refl _
  | y :: ys, i + 1, h => (List.Perm.swap y _ _).trans (List.Perm.cons y (perm_erase (ys := ys) (by simpa using h)))
theorem perm_move {α : Type} {zs ys xs : List α} {i : Nat} (hi : i < ys.length) (h : (zs ++ ys).Perm xs) : ((zs ++ [ys[i]]) ++ ys.eraseIdx i).Perm xs := by
  refine List.Perm.trans ?_ h
  rw [List.append_assoc]
  refine List.Perm.append_left zs ?_
  exact perm_erase hi
def small : Str := "abcdefghijklmnopqrstuvwxyz"
def wordB (z : Str) : Bool := z != ("" : Str) && z.cps.toList.all fun c => inStr small ⟨#[c]⟩
theorem t_is_word {z : Str} {P : PV → Prop} {E : EP'} (hz : z.length ≤ 100) (h : P (.bool (wordB z))) : D_is_word [.val (.str z)] P E := by
  have sz : sizeLine = 16777216 := rfl
  unfold D_is_word m_is_word N_is_word
  decreasing_trivial
  unfold wordB at h
  have e : (!(z == ("" : Str))) = (z != ("" : Str)) := rfl
  rw [e]
  cases hh : z != ("" : Str) with
  | false =>
    rw [hh] at h
    decreasing_trivial
    exact h
  | true =>
    rw [hh] at h
    decreasing_trivial
    have hl : z.cps.toList.length ≤ 100 := by rw [Array.length_toList]; exact hz
    rw [List.length_map]
    refine ⟨by omega, lc_mapL (fun c => .str ⟨#[c]⟩) (fun c => .bool (inStr small ⟨#[c]⟩)) _ (fun c hc => ⟨_, rfl, fun L hL => ?_⟩) ?_⟩
    · decreasing_trivial
      exact hL
    · rw [bools_map]
      decreasing_trivial
      rw [all_map]
      exact h
def kWords : List Str := (["ahead", "all", "as", "ask", "at", "behind", "book", "by", "code", "cost", "end", "first"] : List Str) ++ ((["fixed", "front", "in", "is", "last", "leave", "never", "next", "none", "of", "order", "place"] : List Str) ++ (["put", "shelf", "step", "take", "times", "to", "undo", "with"] : List Str))
def nameB (z : Str) : Bool := wordB z && (decide (z.length ≤ 8) && !kWords.contains z)
theorem any_str (l : List Str) (z : Str) : ((l.map PyData.str).any fun y => PyData.eqv y (.str z)) = l.contains z := by
  rw [List.any_map]
  induction l with
  | nil => rfl
  | cons x l ih =>
    rw [List.any_cons, List.contains_cons, ih]
    congr 1
    show (x == z) = (z == x)
    exact Bool.beq_comm
theorem kd_words : kd_WORDS = .tuple (kWords.map .str) := by kernel_rfl
theorem t_is_name {z : Str} {P : PV → Prop} {E : EP'} (hz : z.length ≤ 100) (h : P (.bool (nameB z))) : D_is_name [.val (.str z)] P E := by
  have sz : sizeLine = 16777216 := rfl
  unfold D_is_name m_is_name N_is_name
  decreasing_trivial
  refine t_is_word hz ?_
  decreasing_trivial
  unfold nameB at h
  cases hw : wordB z with
  | false =>
    rw [hw] at h
    decreasing_trivial
    exact h
  | true =>
    rw [hw] at h
    decreasing_trivial
    refine ⟨by omega, ?_⟩
    by_cases h8 : z.length ≤ 8
    · rw [decide_eq_true h8] at h
      rw [decide_eq_true (show ((z.length : Nat) : Int) ≤ 8 by omega), kd_words]
      decreasing_trivial
      rw [inTA]
      refine ⟨Nat.le_trans (Nat.min_le_right ..) (Nat.zero_le 64), ?_⟩
      rw [any_str]
      exact h
    · rw [decide_eq_false h8] at h
      rw [decide_eq_false (show ¬ ((z.length : Nat) : Int) ≤ 8 by omega)]
      decreasing_trivial
      exact h
/-- the signs 97 to 122 are small letters -/
theorem small_in : ∀ c : Nat, 97 ≤ c → c ≤ 122 → inStr small ⟨#[c]⟩ = true := by
  have h : ∀ c < 123, 97 ≤ c → inStr small ⟨#[c]⟩ = true := by decide +kernel
  exact fun c h1 h2 => h c (by omega) h1
def Small (z : Str) : Prop := ∀ c ∈ z.cps.toList, 97 ≤ c ∧ c ≤ 122
theorem name_ok {z : Str} (h0 : 1 ≤ z.length) (h1 : z.length ≤ 8) (h2 : Small z) (h3 : z ∉ kWords) : nameB z = true := by
  unfold nameB wordB
  have e0 : (z != ("" : Str)) = true := by
    rw [bne_iff_ne]
    rintro rfl
    exact absurd h0 (by decide)
  have e1 : (z.cps.toList.all fun c => inStr small ⟨#[c]⟩) = true := List.all_eq_true.mpr fun c hc => small_in c (h2 c hc).1 (h2 c hc).2
  have e2 : kWords.contains z = false := by
    cases q : kWords.contains z with
    | false => rfl
    | true => exact absurd (List.contains_iff_mem.mp q) h3
  rw [e0, e1, e2, decide_eq_true h1]
  rfl
theorem words_q : ∀ w ∈ kWords, w.cps.toList.getLast? ≠ some 113 := by decide +kernel
theorem str_app (x y : Str) : (x ++ y).cps = x.cps ++ y.cps := rfl
def Name (z : Str) (c : Nat) : Prop := nameB z = true ∧ z.length ≤ 8 ∧ z.cps.toList.head? = some c ∧ Small z
theorem cut_head {α : Type} (xs : List α) (k : Nat) : cutP xs none (some (k : Int)) = xs.take k := by
  unfold cutP
  have e0 : HT.sIx xs.length 0 none = 0 := rfl
  have e1 : HT.sIx xs.length xs.length (some (k : Int)) = min k xs.length := HT.sIx_nat _ _ k
  rw [e0, e1, List.drop_zero, Nat.sub_zero]
  by_cases h : k ≤ xs.length
  · rw [Nat.min_eq_left h]
  · rw [Nat.min_eq_right (by omega), List.take_of_length_le (Nat.le_refl _), List.take_of_length_le (by omega)]
theorem small_list : small.cps.toList = (List.range 26).map (97 + ·) := by decide +kernel
theorem small_item {i : Int} (h0 : 0 ≤ i) (h1 : i < 26) {s : En} {P : Res → En → Prop} {E : EP'} (h : P (.val (.str ⟨#[97 + i.toNat]⟩)) s) : itemM (.str small) (.int i) s P E := by
  have e : itemP (.str small) (.int i) = some (.str ⟨#[97 + i.toNat]⟩) := by
    show (if small.length ≤ sizeLine then (atI small.cps.toList i).map fun c => PyData.str ⟨#[c]⟩ else none) = _
    rw [if_pos (by decide), small_list, atI_lt h0 (by simpa using h1), List.getElem?_map, List.getElem?_range (by omega)]
    rfl
  unfold itemM
  show (match itemP (.str small) (.int i) with
    | some d => P (.val d) s
    | none => False)
  rw [e]
  exact h
theorem name_q {z : Str} {c : Nat} (h0 : 1 ≤ z.length) (h1 : z.length ≤ 8) (h2 : Small z) (hc : z.cps.toList.head? = some c) : Name (⟨(z.cps.toList.take 7).toArray⟩ ++ ("q" : Str)) c := by
  have el : (⟨(z.cps.toList.take 7).toArray⟩ ++ ("q" : Str) : Str).cps.toList = z.cps.toList.take 7 ++ [113] := by
    rw [str_app, Array.toList_append]
    rfl
  have hl : z.cps.toList.length = z.length := Array.length_toList
  have ez : (⟨(z.cps.toList.take 7).toArray⟩ ++ ("q" : Str) : Str).length = min 7 z.length + 1 := by
    show (⟨(z.cps.toList.take 7).toArray⟩ ++ ("q" : Str) : Str).cps.size = _
    rw [← Array.length_toList, el, List.length_append, List.length_take, hl]
    rfl
  have hs : Small (⟨(z.cps.toList.take 7).toArray⟩ ++ ("q" : Str) : Str) := fun d hd => by
    rw [el, List.mem_append] at hd
    rcases hd with hd | hd
    · exact h2 d (List.mem_of_mem_take hd)
    · rw [List.mem_singleton] at hd
      omega
  refine ⟨name_ok (by omega) (by omega) hs fun hw => words_q _ hw ?_, by omega, ?_, hs⟩
  · rw [el, List.getLast?_append]
    rfl
  · rw [el]
    cases q : z.cps.toList with
    | nil => rw [q] at hl; simp at hl; omega
    | cons a r =>
      rw [q] at hc
      exact hc
def unS : PV → Str
  | .str z => z
  | _ => ""
theorem unS_map (ns : List Str) : (ns.map PyData.str).map unS = ns := by
  rw [List.map_map]
  exact (List.map_congr_left fun x _ => rfl).trans (List.map_id ns)
theorem perm_strs {ys : List PV} {ns : List Str} (h : ys.Perm (ns.map .str)) : ∃ ms : List Str, ms.Perm ns ∧ ys = ms.map .str := by
  refine ⟨ys.map unS, (h.map unS).trans (by rw [unS_map]), ?_⟩
  rw [List.map_map]
  refine ((List.map_congr_left (g := id) fun y hy => ?_).trans (List.map_id ys)).symm
  obtain ⟨z, _, rfl⟩ := List.mem_map.mp (h.mem_iff.mp hy)
  rfl
theorem names_nodup {ns : List Str} {cs : List Nat} (hc : cs.Nodup) (hl : ns.length = cs.length) (h : ∀ (j : Nat) z c, ns[j]? = some z → cs[j]? = some c → Name z c) : ns.Nodup := by
  rw [List.Nodup, List.pairwise_iff_getElem]
  intro i j hi hj hij e
  have h1 := h i ns[i] cs[i] (List.getElem?_eq_getElem hi) (List.getElem?_eq_getElem (by omega))
  have h2 := h j ns[j] cs[j] (List.getElem?_eq_getElem hj) (List.getElem?_eq_getElem (by omega))
  have q1 := h1.2.2.1
  rw [e, h2.2.2.1] at q1
  have q2 := Option.some.inj q1
  exact (List.pairwise_iff_getElem.mp hc) i j (by omega) (by omega) hij q2.symm
/-- a shelf's form -/
def Names (ns : List Str) : Prop := ns.Nodup ∧ ∀ n ∈ ns, nameB n = true ∧ n.length ≤ 8 ∧ Small n
def nameP : PV → Bool
  | .str z => nameB z
  | _ => false
/-- values that are asked -/
def Plain : PV → Prop
  | .str z => z.length ≤ 100
  | .dict _ => False
  | _ => True
theorem isi_str_B {v : PV} (hv : Plain v) {s : En} {P : Res → En → Prop} {E : EP'} (h : ∀ b, (b = true → ∃ z, v = .str z) → (b = false → ∀ z, v ≠ .str z) → P (.val (.bool b)) s) : isiM "str" v s P E := by
  cases v with
  | str z => rw [isi_str]; exact h true (fun _ => ⟨_, rfl⟩) (fun z => by cases z)
  | dict _ => exact hv.elim
  | none =>
    show (optM (L2.kitB "str" "NoneType") >>= fun b => (pure (.val (.bool b)) : M Res)) s P E
    rw [show L2.kitB "str" "NoneType" = some false by decide +kernel]
    exact h false (fun z => by cases z) (fun _ z e => by cases e)
  | bool b =>
    show (optM (L2.kitB "str" "bool") >>= fun b => (pure (.val (.bool b)) : M Res)) s P E
    rw [show L2.kitB "str" "bool" = some false by decide +kernel]
    exact h false (fun z => by cases z) (fun _ z e => by cases e)
  | int b =>
    show (optM (L2.kitB "str" "int") >>= fun b => (pure (.val (.bool b)) : M Res)) s P E
    rw [show L2.kitB "str" "int" = some false by decide +kernel]
    exact h false (fun z => by cases z) (fun _ z e => by cases e)
  | list b =>
    show (optM (L2.kitB "str" "list") >>= fun b => (pure (.val (.bool b)) : M Res)) s P E
    rw [show L2.kitB "str" "list" = some false by decide +kernel]
    exact h false (fun z => by cases z) (fun _ z e => by cases e)
  | tuple b =>
    show (optM (L2.kitB "str" "tuple") >>= fun b => (pure (.val (.bool b)) : M Res)) s P E
    rw [show L2.kitB "str" "tuple" = some false by decide +kernel]
    exact h false (fun z => by cases z) (fun _ z e => by cases e)
theorem t_is_name_P {v : PV} (hv : Plain v) {P : PV → Prop} {E : EP'} (h : P (.bool (nameP v))) : D_is_name [.val v] P E := by
  by_cases q : ∃ z, v = .str z
  · obtain ⟨z, rfl⟩ := q
    exact t_is_name hv h
  have hn : nameP v = false := by
    cases v <;> first | rfl | exact absurd ⟨_, rfl⟩ q
  rw [hn] at h
  unfold D_is_name m_is_name N_is_name
  decreasing_trivial
  unfold D_is_word m_is_word N_is_word
  decreasing_trivial
  refine isi_str_B hv fun b h1 h2 => ?_
  cases b with
  | true => exact absurd (h1 rfl) q
  | false =>
    decreasing_trivial
    exact h
theorem isi_tup_B {v : PV} (hv : Plain v) {s : En} {P : Res → En → Prop} {E : EP'} (h : ∀ b, (b = true → ∃ z, v = .tuple z) → (b = false → ∀ z, v ≠ .tuple z) → P (.val (.bool b)) s) : isiM "tuple" v s P E := by
  cases v with
  | tuple z => rw [isi_tuple]; exact h true (fun _ => ⟨_, rfl⟩) (fun z => by cases z)
  | dict _ => exact hv.elim
  | none =>
    show (optM (L2.kitB "tuple" "NoneType") >>= fun b => (pure (.val (.bool b)) : M Res)) s P E
    rw [show L2.kitB "tuple" "NoneType" = some false by decide +kernel]
    exact h false (fun z => by cases z) (fun _ z e => by cases e)
  | bool b =>
    show (optM (L2.kitB "tuple" "bool") >>= fun b => (pure (.val (.bool b)) : M Res)) s P E
    rw [show L2.kitB "tuple" "bool" = some false by decide +kernel]
    exact h false (fun z => by cases z) (fun _ z e => by cases e)
  | int b =>
    show (optM (L2.kitB "tuple" "int") >>= fun b => (pure (.val (.bool b)) : M Res)) s P E
    rw [show L2.kitB "tuple" "int" = some false by decide +kernel]
    exact h false (fun z => by cases z) (fun _ z e => by cases e)
  | list b =>
    show (optM (L2.kitB "tuple" "list") >>= fun b => (pure (.val (.bool b)) : M Res)) s P E
    rw [show L2.kitB "tuple" "list" = some false by decide +kernel]
    exact h false (fun z => by cases z) (fun _ z e => by cases e)
  | str b =>
    show (optM (L2.kitB "tuple" "str") >>= fun b => (pure (.val (.bool b)) : M Res)) s P E
    rw [show L2.kitB "tuple" "str" = some false by decide +kernel]
    exact h false (fun z => by cases z) (fun _ z e => by cases e)

def shelfB : PV → Bool
  | .tuple xs => decide (1 ≤ xs.length) && (decide (xs.length ≤ 7) && (xs.all nameP && decide ((xs.map unS).Nodup)))
  | _ => false
theorem count_strs (ns : List Str) (z : Str) : ((ns.map PyData.str).countP fun y => PyData.eqv y (.str z)) = ns.count z := by
  rw [List.countP_map, List.count]
  rfl
theorem all_once (ns : List Str) : (ns.all fun z => ((ns.count z : Nat) : Int) == 1) = decide ns.Nodup := by
  rw [Bool.eq_iff_iff, List.all_eq_true, decide_eq_true_eq, List.nodup_iff_count]
  constructor
  · intro h z
    by_cases q : z ∈ ns
    · have := h z q
      rw [beq_iff_eq] at this
      omega
    · rw [List.count_eq_zero_of_not_mem q]
      omega
  · intro h z hz
    have h1 := h z
    have h2 := List.count_pos_iff.mpr hz
    rw [beq_iff_eq]
    omega
theorem names_of {xs : List PV} (h : xs.all nameP = true) : xs = (xs.map unS).map .str := by
  rw [List.map_map]
  refine ((List.map_congr_left (g := id) fun y hy => ?_).trans (List.map_id xs)).symm
  have q := List.all_eq_true.mp h y hy
  cases y <;> first | rfl | cases q
def Plain2 (v : PV) : Prop := Plain v ∧ ∀ xs, v = .tuple xs → xs.length ≤ 100 ∧ ∀ x ∈ xs, Plain x
theorem t_is_shelf_form {v : PV} (hv : Plain2 v) {P : PV → Prop} {E : EP'} (h : P (.bool (shelfB v))) : D_is_shelf_form [.val v] P E := by
  have sz : sizeLine = 16777216 := rfl
  unfold D_is_shelf_form m_is_shelf_form N_is_shelf_form
  decreasing_trivial
  refine isi_tup_B hv.1 fun b h1 h2 => ?_
  cases b with
  | false =>
    have e : shelfB v = false := by
      cases v <;> first | rfl | exact absurd rfl (h2 rfl _)
    rw [e] at h
    decreasing_trivial
    exact h
  | true =>
    obtain ⟨xs, rfl⟩ := h1 rfl
    have hx := hv.2 xs rfl
    have h : P (.bool (decide (1 ≤ xs.length) && (decide (xs.length ≤ 7) && (xs.all nameP && decide ((xs.map unS).Nodup))))) := h
    decreasing_trivial
    by_cases q1 : 1 ≤ xs.length
    · rw [decide_eq_true q1] at h
      rw [decide_eq_true (show (1 : Int) ≤ (xs.length : Nat) by omega)]
      decreasing_trivial
      by_cases q2 : xs.length ≤ 7
      · rw [decide_eq_true q2] at h
        rw [decide_eq_true (show ((xs.length : Nat) : Int) ≤ 7 by omega)]
        decreasing_trivial
        refine ⟨by omega, ?_⟩
        refine lc_mapE (fun x => .bool (nameP x)) xs (fun x hx' => ⟨_, rfl, fun L hL => ?_⟩) ?_
        · decreasing_trivial
          exact t_is_name_P (hx.2 x hx') hL
        · rw [bools_map]
          decreasing_trivial
          rw [all_map]
          cases q3 : xs.all nameP with
          | false =>
            rw [q3] at h
            decreasing_trivial
            exact h
          | true =>
            rw [q3] at h
            have en := names_of q3
            decreasing_trivial
            refine ⟨by omega, ?_⟩
            clear h1 h2 hx q3
            generalize xs.map unS = ns at en h
            have h9 : P (.bool (decide ns.Nodup)) := h
            subst en
            refine lc_mapL PyData.str (fun z => .bool (((ns.count z : Nat) : Int) == 1)) ns (fun z hz => ⟨_, rfl, fun L hL => ?_⟩) ?_
            · decreasing_trivial
              refine ⟨Nat.le_trans (Nat.min_le_right ..) (Nat.zero_le 64), ?_⟩
              rw [count_strs]
              exact hL
            · rw [bools_map]
              decreasing_trivial
              rw [all_map, all_once]
              exact h9
      · rw [decide_eq_false q2] at h
        rw [decide_eq_false (show ¬ ((xs.length : Nat) : Int) ≤ 7 by omega)]
        decreasing_trivial
        exact h
    · rw [decide_eq_false q1] at h
      rw [decide_eq_false (show ¬ (1 : Int) ≤ (xs.length : Nat) by omega)]
      decreasing_trivial
      exact h
theorem names_fine {ns : List Str} (h : Names ns) : ∀ x ∈ ns.map PyData.str, Fine 0 8 x := fun x hx => by
  obtain ⟨n, hn, rfl⟩ := List.mem_map.mp hx
  obtain ⟨_, h2, h3⟩ := h.2 n hn
  exact fineS (fun c hc => by have := h3 c hc; omega) h2
theorem Names.perm {ns ms : List Str} (h : Names ns) (p : ms.Perm ns) : Names ms := ⟨p.nodup_iff.mpr h.1, fun n hn => h.2 n (p.mem_iff.mp hn)⟩
theorem shelf_good {ns : List Str} (h : Names ns) (h1 : 1 ≤ ns.length) (h2 : ns.length ≤ 7) : shelfB (.tuple (ns.map .str)) = true := by
  show (decide (1 ≤ (ns.map PyData.str).length) && (decide ((ns.map PyData.str).length ≤ 7) && ((ns.map PyData.str).all nameP && decide (((ns.map PyData.str).map unS).Nodup)))) = true
  rw [unS_map, List.length_map, decide_eq_true h1, decide_eq_true h2, decide_eq_true h.1]
  have e : (ns.map PyData.str).all nameP = true := by
    rw [List.all_map]
    exact List.all_eq_true.mpr fun z hz => (h.2 z hz).1
  rw [e]
  rfl
theorem shelf_plain {ns : List Str} (h : Names ns) (h2 : ns.length ≤ 7) : Plain2 (.tuple (ns.map .str)) := by
  refine ⟨trivial, fun xs e => ?_⟩
  cases e
  refine ⟨by rw [List.length_map]; omega, fun x hx => ?_⟩
  obtain ⟨z, hz, rfl⟩ := List.mem_map.mp hx
  have := (h.2 z hz).2
  show z.length ≤ 100
  omega
theorem t_check_shelf {ns : List Str} (h : Names ns) (h1 : 1 ≤ ns.length) (h2 : ns.length ≤ 7) {P : PV → Prop} {E : EP'} (hp : P .none) : D_check_shelf [.val (.tuple (ns.map .str))] P E := by
  unfold D_check_shelf m_check_shelf N_check_shelf
  decreasing_trivial
  refine t_is_shelf_form (shelf_plain h h2) ?_
  rw [shelf_good h h1 h2]
  exact hp
theorem ndR_nodup : ∀ l : List Str, (ndR l = l.length ↔ l.Nodup)
  | [] => ⟨fun _ => List.nodup_nil, fun _ => rfl⟩
  | x :: r => by
    have ih := ndR_nodup r
    have le := ndR_le r
    unfold ndR
    rw [List.nodup_cons, List.length_cons]
    by_cases q : x ∈ r
    · rw [if_pos q]
      exact ⟨fun h => by omega, fun h => absurd q h.1⟩
    · rw [if_neg q]
      exact ⟨fun h => ⟨q, ih.mp (by omega)⟩, fun h => by rw [ih.mpr h.2]⟩
theorem nd_nodup (ns : List Str) : (((nd ns : Nat) : Int) == ((ns.length : Nat) : Int)) = decide ns.Nodup := by
  rw [Bool.eq_iff_iff, beq_iff_eq, decide_eq_true_eq]
  have h := ndR_nodup ns.reverse
  rw [List.length_reverse] at h
  unfold nd
  constructor
  · intro e
    exact (List.reverse_perm ns).nodup_iff.mp (h.mp (by omega))
  · intro e
    rw [h.mpr ((List.reverse_perm ns).nodup_iff.mpr e)]
theorem strsP_map : ∀ ns : List Str, strsP (ns.map .str) = some ns
  | [] => rfl
  | a :: r => by
    show (strsP (r.map .str)).map (a :: ·) = _
    rw [strsP_map r]
    rfl
theorem lenSetS {ns : List Str} {s : En} {P : Res → En → Prop} {E : EP'} : lenSetSM (.tuple (ns.map .str)) s P E = (ns.length < 4000 ∧ P (.val (.int (nd ns : Nat))) s) := by
  show (optM (strsP (ns.map .str)) >>= _ : M Res) s P E = _
  rw [strsP_map]
  rfl
theorem t_is_one_of {ns : List Str} {z : Str} {P : PV → Prop} {E : EP'} (h : P (.bool (ns.contains z))) : D_is_one_of [.val (.str z), .val (.tuple (ns.map .str))] P E := by
  unfold D_is_one_of m_is_one_of N_is_one_of
  try decreasing_trivial
  rw [inTA, any_str]
  exact ⟨Nat.le_trans (Nat.min_le_right ..) (Nat.zero_le _), h⟩
theorem t_check_book_of {ns : List Str} {z : Str} {P : PV → Prop} {E : EP'} (hz : z ∈ ns) (h : P .none) : D_check_book_of [.val (.tuple (ns.map .str)), .val (.str z)] P E := by
  unfold D_check_book_of m_check_book_of N_check_book_of
  try decreasing_trivial
  refine t_is_one_of ?_
  rw [List.contains_iff_mem.mpr hz]
  try decreasing_trivial
  exact h
theorem eqv_refl_strs : ∀ l : List Str, PyData.eqvAll (l.map .str) (l.map .str) = true
  | [] => rfl
  | a :: l => by
    show ((a == a) && PyData.eqvAll (l.map .str) (l.map .str)) = true
    rw [beq_self_eq_true, eqv_refl_strs l]
    rfl
theorem depth_strs : ∀ l : List Str, PyData.depthAll (l.map .str) = 0
  | [] => rfl
  | a :: l => by
    show max 0 (PyData.depthAll (l.map .str)) = 0
    rw [depth_strs l]
    rfl
theorem t_place_in {ns : List Str} {z : Str} {P : PV → Prop} {E : EP'} (hz : z ∈ ns) (h : P (.int ((ns.idxOf z : Nat) + 1))) : D_place_in [.val (.tuple (ns.map .str)), .val (.str z)] P E := by
  unfold D_place_in m_place_in N_place_in
  try decreasing_trivial
  refine idxTS hz ?_
  try decreasing_trivial
  exact h
/-- the order of two books is not the same on both -/
def apart (ns ms : List Str) (p : Str × Str) : Bool := decide (ns.idxOf p.1 < ns.idxOf p.2) != decide (ms.idxOf p.1 < ms.idxOf p.2)
theorem apart_sym {ns ms : List Str} (hp : ms.Perm ns) : ∀ a b, a ∈ ns → b ∈ ns → apart ns ms (a, b) = apart ns ms (b, a) := fun a b ha hb => by
  unfold apart
  by_cases e : a = b
  · rw [e]
  · have h1 : ns.idxOf a ≠ ns.idxOf b := fun z => e (idx_inj ha hb z)
    have h2 : ms.idxOf a ≠ ms.idxOf b := fun z => e (idx_inj (hp.mem_iff.mpr ha) (hp.mem_iff.mpr hb) z)
    show (decide (ns.idxOf a < ns.idxOf b) != decide (ms.idxOf a < ms.idxOf b)) = (decide (ns.idxOf b < ns.idxOf a) != decide (ms.idxOf b < ms.idxOf a))
    have e1 : decide (ns.idxOf b < ns.idxOf a) = !decide (ns.idxOf a < ns.idxOf b) := by
      rw [← decide_not]
      exact decide_eq_decide.mpr (by omega)
    have e2 : decide (ms.idxOf b < ms.idxOf a) = !decide (ms.idxOf a < ms.idxOf b) := by
      rw [← decide_not]
      exact decide_eq_decide.mpr (by omega)
    rw [e1, e2]
    cases decide (ns.idxOf a < ns.idxOf b) <;> cases decide (ms.idxOf a < ms.idxOf b) <;> rfl
/-- a pair of ns, in its order, stands turned on ms -/
def turnedB (ms : List Str) (p : Str × Str) : Bool := decide (ms.idxOf p.2 < ms.idxOf p.1)
theorem apart_turned {ns ms : List Str} (hn : ns.Nodup) (hp : ms.Perm ns) {p : Str × Str} (h : p ∈ pairsL ns) : apart ns ms p = turnedB ms p := by
  have lt := pairs_lt hn h
  have m := pairs_mem h
  have ne : p.1 ≠ p.2 := fun z => by rw [z] at lt; exact Nat.lt_irrefl _ lt
  have ne2 : ms.idxOf p.1 ≠ ms.idxOf p.2 := fun z => ne (idx_inj (hp.mem_iff.mpr m.1) (hp.mem_iff.mpr m.2) z)
  unfold apart turnedB
  rw [decide_eq_true lt]
  by_cases g : ms.idxOf p.2 < ms.idxOf p.1
  · rw [decide_eq_true g, decide_eq_false (show ¬ ms.idxOf p.1 < ms.idxOf p.2 by omega)]
    rfl
  · rw [decide_eq_false g, decide_eq_true (show ms.idxOf p.1 < ms.idxOf p.2 by omega)]
    rfl
theorem count_apart {ns ms : List Str} (hn : ns.Nodup) (hp : ms.Perm ns) : (pairsL (sortS ns)).countP (apart ns ms) = (pairsL ns).countP (turnedB ms) := by
  have hs := sortS_perm ns
  rw [count_pairs_perm hs fun a b ha hb => apart_sym hp a b (hs.mem_iff.mp ha) (hs.mem_iff.mp hb)]
  exact List.countP_congr fun p h => by rw [apart_turned hn hp h]
theorem count_apart' {ns ms : List Str} (hn : ns.Nodup) (hp : ms.Perm ns) : (pairsL (sortS ms)).countP (apart ms ns) = (pairsL ns).countP (turnedB ms) := by
  rw [← count_apart hn hp, sortS_eq hp]
  refine List.countP_congr fun p _ => ?_
  unfold apart
  cases decide (ms.idxOf p.1 < ms.idxOf p.2) <;> cases decide (ns.idxOf p.1 < ns.idxOf p.2) <;> exact Iff.rfl
theorem count_self {ns : List Str} (hn : ns.Nodup) : (pairsL ns).countP (turnedB ns) = 0 := by
  rw [List.countP_eq_zero]
  intro p hp
  have := pairs_lt hn hp
  unfold turnedB
  rw [decide_eq_false (by omega)]
  decide
theorem count_rev {ns : List Str} (hn : ns.Nodup) : (pairsL ns).countP (turnedB ns.reverse) = ns.length * (ns.length - 1) / 2 := by
  have e : (pairsL ns).countP (turnedB ns.reverse) = (pairsL ns).length := by
    rw [List.countP_eq_length]
    intro p hp
    have lt := pairs_lt hn hp
    have m := pairs_mem hp
    have r1 := idx_rev hn m.1
    have r2 := idx_rev hn m.2
    unfold turnedB
    rw [decide_eq_true_eq]
    omega
  have := pairs_len ns
  omega
theorem t_wrong_at {f0 : Addr} {D0 : FnP} {xs : List PV} {P : PV → Prop} {E : EP'} (hd : ∀ (j : Nat) (x : PV) (Q : PV → Prop), xs[j]? = some x → Q (.bool true) → D0 [.val x, .val (.tuple (xs.take j))] Q E) (h : P (.list [])) : D_wrong_at f0 D0 [.val (.tuple xs), .clo f0 []] P E := by
  unfold D_wrong_at m_wrong_at N_wrong_at
  try decreasing_trivial
  refine forM_inv (fun _ s => ∃ a b, s = [some (.val (.tuple xs)), some (.clo f0 []), a, b]) _ 0 _ ⟨_, _, rfl⟩ (fun j x s K e ⟨a, b, es⟩ k1 k2 k3 k4 => ?_) fun s ⟨a, b, es⟩ => ?_
  · clear k2 k3 k4
    subst es
    obtain ⟨y, ey, rfl⟩ := enum0_get e
    refine ⟨_, rfl, rfl, ?_⟩
    try decreasing_trivial
    rw [cut_headN]
    try decreasing_trivial
    refine hd j y _ ey ?_
    try decreasing_trivial
    exact k1 _ ⟨_, _, rfl⟩
  · subst es
    try decreasing_trivial
    exact ⟨by decide, h⟩
theorem t_wrong_askings {ns as : List Str} {most : Int} (hs : ∀ b ∈ as, b ∈ ns) (hl : (as.length : Int) ≤ most) {P : PV → Prop} {E : EP'} (h : P (.list [])) : D_wrong_askings [.val (.tuple (ns.map .str)), .val (.tuple (as.map .str)), .val (.int most)] P E := by
  unfold D_wrong_askings m_wrong_askings N_wrong_askings
  try decreasing_trivial
  intro f0
  refine t_wrong_at (fun j x Q e hQ => ?_) ?_
  · rw [List.getElem?_map] at e
    obtain ⟨z, ez, rfl⟩ := Option.map_eq_some_iff.mp e
    have lj := (List.getElem?_eq_some_iff.mp ez).1
    unfold lamD startC capOf
    try decreasing_trivial
    rw [← List.map_take, List.length_map, List.length_take, decide_eq_true (show ((min j as.length : Nat) : Int) < most by omega)]
    try decreasing_trivial
    refine t_is_one_of ?_
    rw [List.contains_iff_mem.mpr (hs z (List.mem_of_getElem? ez))]
    try decreasing_trivial
  · try decreasing_trivial
    exact h
theorem t_check_askings_of {ns as : List Str} (hs : ∀ b ∈ as, b ∈ ns) (hl : as.length ≤ 30) {P : PV → Prop} {E : EP'} (h : P .none) : D_check_askings_of [.val (.tuple (ns.map .str)), .val (.tuple (as.map .str))] P E := by
  unfold D_check_askings_of m_check_askings_of N_check_askings_of
  try decreasing_trivial
  refine t_wrong_askings hs (by omega) ?_
  try decreasing_trivial
  exact h
theorem t_check_asked {ns as : List Str} (hn : Names ns) (h1 : 1 ≤ ns.length) (h2 : ns.length ≤ 7) (hs : ∀ b ∈ as, b ∈ ns) (hl : as.length ≤ 30) {P : PV → Prop} {E : EP'} (h : P .none) : D_check_asked [.val (.tuple (ns.map .str)), .val (.tuple (as.map .str))] P E := by
  unfold D_check_asked m_check_asked N_check_asked
  try decreasing_trivial
  refine t_check_shelf hn h1 h2 (t_check_askings_of hs hl ?_)
  try decreasing_trivial
theorem t_fronted {ns : List Str} {b : Str} (h2 : ns.length ≤ 100) {P : PV → Prop} {E : EP'} (h : P (.tuple ((front ns b).map .str))) : D_fronted [.val (.tuple (ns.map .str)), .val (.str b)] P E := by
  have sz : sizeLine = 16777216 := rfl
  unfold D_fronted m_fronted N_fronted
  try decreasing_trivial
  refine ⟨by rw [List.length_map]; omega, ?_⟩
  refine lc_filterL (α := Str) .str (fun z => z != b) .str ns (fun z hz => ⟨_, rfl, fun K hK => ?_, fun L hL => ?_⟩) ?_
  · try decreasing_trivial
    exact hK
  · try decreasing_trivial
    exact hL
  · try decreasing_trivial
    have fl : (ns.filter fun z => z != b).length ≤ ns.length := List.length_filter_le ..
    refine ⟨by rw [List.length_append, List.length_map]; show _ + 0 + 1 ≤ _; omega, ?_⟩
    rw [List.append_nil]
    exact h
def shP (s : List Str) : PV := .tuple (s.map .str)
theorem t_shelves_by {ns as : List Str} (hn : ns.Nodup) (h2 : ns.length ≤ 100) (hl : as.length ≤ 100) (hs : ∀ b ∈ as, b ∈ ns) {P : PV → Prop} {E : EP'} (h : P (.list ((shelvesL ns as).map shP))) : D_shelves_by [.val (.tuple (ns.map .str)), .val (.tuple (as.map .str))] P E := by
  have sz : sizeLine = 16777216 := rfl
  unfold D_shelves_by m_shelves_by N_shelves_by
  try decreasing_trivial
  refine ⟨by decide, ?_⟩
  refine forM_inv (fun j s => ∃ b, s = [some (.val (.tuple (ns.map .str))), some (.val (.tuple (as.map .str))), some (.own ((shelvesL ns (as.take j)).map shP)), b]) _ 0 _ ⟨_, rfl⟩ (fun j x s K e ⟨b, es⟩ k1 k2 k3 k4 => ?_) fun s ⟨b, es⟩ => ?_
  · clear k2 k3 k4
    subst es
    rw [List.getElem?_map] at e
    obtain ⟨z, ez, rfl⟩ := Option.map_eq_some_iff.mp e
    rw [Nat.zero_add] at k1
    have lj := (List.getElem?_eq_some_iff.mp ez).1
    have hp := led_perm (as := as.take j) hn fun b hb => hs b (List.mem_of_mem_take hb)
    have et : as.take (j + 1) = as.take j ++ [z] := by rw [List.take_add_one, ez]; rfl
    rw [et, shelves_snoc] at k1
    refine ⟨_, rfl, ?_⟩
    rw [Nat.zero_add]
    obtain ⟨i, ei⟩ := shelves_last (as.take j) ns
    have ln := shelves_len (as.take j) ns
    rw [List.length_take] at ln
    try decreasing_trivial
    rw [ei, List.map_append, List.map_cons, List.map_nil, atI_end]
    try decreasing_trivial
    refine t_fronted (ns := ledL ns (as.take j)) (by rw [hp.length_eq]; omega) ?_
    have ln2 : i.length + 1 = (shelvesL ns (as.take j)).length := by rw [ei, List.length_append]; rfl
    try decreasing_trivial
    refine ⟨?_, ?_⟩
    · rw [List.length_append, List.length_map]
      show i.length + 1 < _
      omega
    · rw [ei] at k1
      simp only [List.map_append, List.map_cons, List.map_nil] at k1
      exact k1 _ ⟨_, rfl⟩
  · subst es
    rw [Nat.zero_add, List.length_map, List.take_length]
    try decreasing_trivial
    exact h
theorem t_code_by {ns as : List Str} (hn : ns.Nodup) (h2 : ns.length ≤ 100) (hl : as.length ≤ 100) (hs : ∀ b ∈ as, b ∈ ns) {P : PV → Prop} {E : EP'} (h : P (.list ((codeL ns as).map fun k => .int (k : Nat)))) : D_code_by [.val (.tuple (ns.map .str)), .val (.tuple (as.map .str))] P E := by
  have sz : sizeLine = 16777216 := rfl
  unfold D_code_by m_code_by N_code_by
  try decreasing_trivial
  refine t_shelves_by hn h2 hl hs ?_
  try decreasing_trivial
  rw [zipLT]
  have lz : (zipP ((shelvesL ns as).map shP) (as.map .str)).length = as.length := by
    rw [zipP_len, List.length_map, List.length_map, shelves_len]
    omega
  refine ⟨by omega, lc_at _ ((codeL ns as).map fun (k : Nat) => .int k) (by rw [lz, List.length_map, code_len]) (fun j x d e1 e2 => ?_) h⟩
  obtain ⟨x, y, a1, a2, rfl⟩ := zipP_get e1
  rw [List.getElem?_map] at a1 a2 e2
  obtain ⟨sh, b1, rfl⟩ := Option.map_eq_some_iff.mp a1
  obtain ⟨z, b2, rfl⟩ := Option.map_eq_some_iff.mp a2
  obtain ⟨k, b3, rfl⟩ := Option.map_eq_some_iff.mp e2
  have lj := (List.getElem?_eq_some_iff.mp b2).1
  rw [shelves_get as ns j (by omega)] at b1
  rw [code_get as ns j z b2] at b3
  have b1 := Option.some.inj b1
  have b3 := Option.some.inj b3
  subst b1
  subst b3
  have hp := led_perm (as := as.take j) hn fun b hb => hs b (List.mem_of_mem_take hb)
  refine ⟨_, rfl, fun L hL => ?_⟩
  try decreasing_trivial
  refine t_place_in (ns := ledL ns (as.take j)) (hp.mem_iff.mpr (hs z (List.mem_of_getElem? b2))) ?_
  exact hL
theorem t_shelves_along {ns as : List Str} (hn : Names ns) (h1 : 1 ≤ ns.length) (h2 : ns.length ≤ 7) (hs : ∀ b ∈ as, b ∈ ns) (hl : as.length ≤ 30) {P : PV → Prop} {E : EP'} (h : P (.tuple ((shelvesL ns as).map shP))) : D_shelves_along [.val (.tuple (ns.map .str)), .val (.tuple (as.map .str))] P E := by
  unfold D_shelves_along m_shelves_along N_shelves_along
  try decreasing_trivial
  refine t_check_asked hn h1 h2 hs hl ?_
  try decreasing_trivial
  refine t_shelves_by hn.1 (by omega) (by omega) hs ?_
  try decreasing_trivial
  exact h
theorem t_code {ns as : List Str} (hn : Names ns) (h1 : 1 ≤ ns.length) (h2 : ns.length ≤ 7) (hs : ∀ b ∈ as, b ∈ ns) (hl : as.length ≤ 30) {P : PV → Prop} {E : EP'} (h : P (.tuple ((codeL ns as).map fun k => .int (k : Nat)))) : D_code [.val (.tuple (ns.map .str)), .val (.tuple (as.map .str))] P E := by
  unfold D_code m_code N_code
  try decreasing_trivial
  refine t_check_asked hn h1 h2 hs hl ?_
  try decreasing_trivial
  refine t_code_by hn.1 (by omega) (by omega) hs ?_
  try decreasing_trivial
  exact h
def optP : Option Nat → List PV
  | some n => [.int (n : Nat)]
  | none => []
def optV : Option Nat → PV
  | some n => .int (n : Nat)
  | none => .none
theorem led_twice (ns as : List Str) : ledL (ledL ns as) as = ledL ns as := by
  rw [led_lasts (ledL ns as) as, led_lasts ns as]
  congr 1
  rw [List.filter_append, List.filter_filter]
  have e : ((lastsL as).filter fun z => !(lastsL as).contains z) = [] := by
    rw [List.filter_eq_nil_iff]
    intro z hz
    rw [List.contains_iff_mem.mpr hz]
    decide
  rw [e, List.nil_append]
  refine List.filter_congr fun z _ => ?_
  rw [Bool.and_self]
theorem max0 (j w : Nat) : (if ((j : Int) - (w : Int)) > 0 then (j : Int) - (w : Int) else 0) = ((j - w : Nat) : Int) := by split <;> omega
theorem win_len (as : List Str) (w j : Nat) : (winL as w j).length ≤ as.length := by
  unfold winL
  rw [List.length_drop, List.length_take]
  omega
theorem lc_filterS {g : Tg} {mt : M Bool} {me : M PV} {s0 : En} {Q : List PV → Prop} (f : Str → Bool) (xs : List Str)
    (hs : ∀ x ∈ xs, ∃ s1, g.put (.str x) s0 = some s1 ∧ (∀ K : Bool → En → Prop, K (f x) s1 → mt s1 K NoE) ∧ ∀ L : PV → En → Prop, L (.str x) s1 → me s1 L NoE) (hd : Q ((xs.filter f).map .str)) : lcLoop g mt me s0 Q (xs.map .str) [] := lc_filterL .str f .str xs hs hd
def rowP (ns as : List Str) (p : Str × Str) : PV := .tuple [.str p.1, .str p.2, .int ((behL ns as p.1 p.2).2 : Nat)]
theorem pairs_ne {ns : List Str} (hn : ns.Nodup) {p : Str × Str} (hp : p ∈ pairsL (sortS ns)) : p.1 ∈ ns ∧ p.2 ∈ ns ∧ p.1 ≠ p.2 := by
  have pm := sortS_perm ns
  obtain ⟨m1, m2⟩ := pairs_mem hp
  refine ⟨pm.mem_iff.mp m1, pm.mem_iff.mp m2, fun e => ?_⟩
  have := pairs_lt (pm.nodup_iff.mpr hn) hp
  rw [e] at this
  omega
theorem pairs_len7 {l : List Str} (h : l.length ≤ 7) : (pairsL l).length ≤ 21 := by
  have := pairs_len l
  have h2 : l.length * (l.length - 1) ≤ 7 * 6 := Nat.mul_le_mul h (by omega)
  omega
theorem cut_one {α : Type} (xs : List α) : cutP xs none (some 1) = xs.take 1 := cut_headN xs 1
def rowG (p : Str × Str) (k : Int) : PV := .tuple [.str p.1, .str p.2, .int k]
def gapRows (ns ms as : List Str) (l : List (Str × Str)) : List PV := l.flatMap fun p => (gapL ns ms as p).map (rowG p)
theorem rows_len (ns ms as : List Str) (l : List (Str × Str)) : (gapRows ns ms as l).length ≤ l.length := by
  induction l with
  | nil => exact Nat.le_refl _
  | cons p l ih =>
    show (((gapL ns ms as p).map (rowG p)) ++ gapRows ns ms as l).length ≤ _
    rw [List.length_append, List.length_map, List.length_cons]
    have := (gap_one ns ms as p).1
    omega
def FoundIs (o : FS.Slot) (xs : List (List Str)) : Prop := o = .own (xs.map shP) ∨ o = .val (.list (xs.map shP))
theorem cut_30 {α : Type} (xs : List α) : cutP xs none (some 30) = xs.take 30 := cut_headN xs 30
theorem item3 {v : PV} {xs : List PV} (h : Seq3 v xs) {i : Int} (h0 : 0 ≤ i) (h1 : i < (xs.length : Nat)) (hz : xs.length ≤ sizeLine) {s : En} {P : Res → En → Prop} {E : EP'} (g : ∀ d ∈ xs, P (.val d) s) : itemM v (.int i) s P E := by
  have hi : i.toNat < xs.length := by omega
  rcases h with rfl | rfl | ⟨z, rfl, rfl⟩
  · rw [itemLA, atI_lt h0 h1, List.getElem?_eq_getElem hi]
    exact g _ (List.getElem_mem _)
  · rw [itemTA, atI_lt h0 h1, List.getElem?_eq_getElem hi]
    exact g _ (List.getElem_mem _)
  · have hl := signs_len z
    have hl2 : z.cps.toList.length = z.length := Array.length_toList
    have hi2 : i.toNat < z.cps.toList.length := by omega
    have e : itemP (.str z) (.int i) = some (.str ⟨#[z.cps.toList[i.toNat]]⟩) := by
      show (if z.length ≤ sizeLine then (atI z.cps.toList i).map fun c => PyData.str ⟨#[c]⟩ else none) = _
      rw [if_pos (by omega), atI_lt h0 (by omega), List.getElem?_eq_getElem hi2]
      rfl
    unfold itemM
    show (match itemP (.str z) (.int i) with
      | some d => P (.val d) s
      | none => False)
    rw [e]
    refine g _ (List.mem_map.mpr ⟨_, List.mem_map.mpr ⟨_, List.getElem_mem hi2, rfl⟩, rfl⟩)
theorem perm_map_inv {α β : Type} {f : α → β} {ys zs : List β} (h : ys.Perm zs) : ∀ l : List α, zs = l.map f → ∃ m : List α, m.Perm l ∧ ys = m.map f := by
  induction h with
  | nil =>
    intro l e
    cases l with
    | nil => exact ⟨[], .nil, rfl⟩
    | cons a l => cases e
  | cons x h ih =>
    intro l e
    cases l with
    | nil => cases e
    | cons a l =>
      obtain ⟨rfl, e2⟩ := List.cons.inj e
      obtain ⟨m, p, rfl⟩ := ih l e2
      exact ⟨a :: m, p.cons a, rfl⟩
  | swap x y l0 =>
    intro l e
    cases l with
    | nil => cases e
    | cons a l =>
      cases l with
      | nil => cases e
      | cons b l =>
        obtain ⟨rfl, e2⟩ := List.cons.inj e
        obtain ⟨rfl, rfl⟩ := List.cons.inj e2
        exact ⟨b :: a :: l, .swap .., rfl⟩
  | trans h1 h2 ih1 ih2 =>
    intro l e
    obtain ⟨m, p, e2⟩ := ih2 l e
    obtain ⟨k, q, e3⟩ := ih1 m e2
    exact ⟨k, q.trans p, e3⟩
def strOf (cs : List Nat) : Str := ⟨cs.toArray⟩
theorem join_signs (cs : List Nat) : Txt.join "" (cs.map fun c => (⟨#[c]⟩ : Str)) = strOf cs := by
  have e : ∀ l : List Str, (Str.join "" l).cps.toList = l.flatMap fun z => z.cps.toList := by
    intro l
    induction l with
    | nil => rfl
    | cons x l ih =>
      cases l with
      | nil => show x.cps.toList = x.cps.toList ++ []; rw [List.append_nil]
      | cons y l =>
        show (x ++ ("" : Str) ++ Str.join "" (y :: l)).cps.toList = _
        rw [str_app, Array.toList_append, ih, str_app, Array.toList_append]
        show x.cps.toList ++ [] ++ _ = _
        rw [List.append_nil]
        rfl
  have q := e (cs.map fun c => (⟨#[c]⟩ : Str))
  rw [List.flatMap_map] at q
  have q2 : (cs.flatMap fun c => (⟨#[c]⟩ : Str).cps.toList) = cs := by
    induction cs with
    | nil => rfl
    | cons c cs ih => rw [List.flatMap_cons, ih (by rw [e, List.flatMap_map])]; rfl
  rw [q2] at q
  rw [show Txt.join "" (cs.map fun c => (⟨#[c]⟩ : Str)) = Str.join "" (cs.map fun c => (⟨#[c]⟩ : Str)) from eq_of_beq (join_plain_closes _ _)]
  have z : ∀ (s : Str) (l : List Nat), s.cps.toList = l → s = strOf l := fun s l h => by
    cases s with
    | mk a => unfold strOf; rw [← h, Array.toArray_toList]
  exact z _ _ q
theorem words_b : ∀ w ∈ kWords, 2 ≤ w.cps.toList.length ∧ ∀ c, w.cps.toList[1]? = some c → c ∉ ([98, 118, 120, 122] : List Nat) := by
  have q : ∀ w ∈ kWords, 2 ≤ w.cps.toList.length ∧ (w.cps.toList[1]?.all fun c => !([98, 118, 120, 122] : List Nat).contains c) = true := by decide +kernel
  intro w hw
  refine ⟨(q w hw).1, fun c hc => ?_⟩
  have := (q w hw).2
  rw [hc] at this
  intro z
  have z2 := List.contains_iff_mem.mpr z
  simp only [Option.all_some, z2] at this
  exact absurd this (by decide)
theorem name_b {c : Nat} {cs : List Nat} (h1 : 97 ≤ c) (h2 : c ≤ 122) (h3 : ∀ d ∈ cs, d ∈ ([98, 118, 120, 122] : List Nat)) (h4 : cs.length ≤ 7) : Name ((⟨#[c]⟩ : Str) ++ strOf cs) c := by
  have el : ((⟨#[c]⟩ : Str) ++ strOf cs).cps.toList = c :: cs := by
    rw [str_app, Array.toList_append]
    rfl
  have ez : ((⟨#[c]⟩ : Str) ++ strOf cs).length = cs.length + 1 := by
    show ((⟨#[c]⟩ : Str) ++ strOf cs).cps.size = _
    rw [← Array.length_toList, el]
    rfl
  have hs : Small ((⟨#[c]⟩ : Str) ++ strOf cs) := fun d hd => by
    rw [el, List.mem_cons] at hd
    rcases hd with rfl | hd
    · exact ⟨h1, h2⟩
    · have := h3 d hd
      simp only [List.mem_cons, List.not_mem_nil, or_false] at this
      omega
  refine ⟨name_ok (by omega) (by omega) hs fun hw => ?_, by omega, by rw [el]; rfl, hs⟩
  obtain ⟨q1, q2⟩ := words_b _ hw
  rw [el] at q1 q2
  cases cs with
  | nil => exact absurd q1 (by simp)
  | cons d cs => exact q2 d rfl (h3 d (List.mem_cons_self ..))
theorem small_signs : (signsOf small).map PyData.str = ((List.range 26).map (97 + ·)).map fun c => PyData.str ⟨#[c]⟩ := by
  rw [signsOf, small_list, List.map_map]
  rfl
theorem pairSum_le {f g : Str × Str → Nat} {l : List Str} (h : ∀ p ∈ pairsL l, f p ≤ g p) : pairSum f l ≤ pairSum g l := by
  unfold pairSum
  generalize pairsL l = L at h
  induction L with
  | nil => exact Nat.le_refl _
  | cons p L ih =>
    rw [List.map_cons, List.map_cons, List.sum_cons, List.sum_cons]
    exact Nat.add_le_add (h p (List.mem_cons_self ..)) (ih fun q hq => h q (List.mem_cons_of_mem _ hq))
theorem pairSum_two (f : Str × Str → Nat) (l : List Str) : pairSum (fun p => 2 * f p) l = 2 * pairSum f l := by
  rw [show (fun p => 2 * f p) = fun p => f p + f p from funext fun p => by omega, pairSum_add]
  omega
theorem count_sum (f : Str × Str → Bool) (l : List Str) : (pairsL l).countP f = pairSum (fun p => if f p then 1 else 0) l := by
  unfold pairSum
  generalize pairsL l = L
  induction L with
  | nil => rfl
  | cons p L ih =>
    rw [List.countP_cons, List.map_cons, List.sum_cons, ih]
    omega
def fixL (ms as : List Str) : Nat := (as.map fun b => ms.idxOf b + 1).sum
theorem inc_idx {ns L : List Str} {b : Str} (hn : ns.Nodup) (hL : L.Perm ns) (hb : b ∈ ns) : pairSum (incB b fun z => decide (ns.idxOf z < ns.idxOf b)) L = ns.idxOf b := by
  rw [inc_some (by rw [decide_eq_false]; omega) (hL.nodup_iff.mpr hn) (hL.mem_iff.mpr hb), (hL.filter _).length_eq]
  exact ahead_count hn hb
theorem idx_front {ns : List Str} {b : Str} : (front ns b).idxOf b = 0 := by
  unfold front
  exact List.idxOf_cons_self
theorem idx_front_pos {ns : List Str} {b y : Str} (h : y ≠ b) : 0 < (front ns b).idxOf y := by
  unfold front
  rw [idx_cons_ne (Ne.symm h)]
  omega
/-- one asking -/
theorem step_pair {ns ms : List Str} {b : Str} (hn : ns.Nodup) (hm : ms.Nodup) (hp : ms.Perm ns) {x y : Str} (hx : x ∈ ns) (hy : y ∈ ns) (hxy : x ≠ y) :
    (if apart (front ns b) ms (x, y) then 1 else 0) + incB b (fun z => decide (ns.idxOf z < ns.idxOf b)) (x, y) ≤ (if apart ns ms (x, y) then 1 else 0) + 2 * incB b (fun z => decide (ms.idxOf z < ms.idxOf b)) (x, y) := by
  unfold apart incB
  have nx : ns.idxOf x ≠ ns.idxOf y := fun e => hxy (idx_inj hx hy e)
  have mx : ms.idxOf x ≠ ms.idxOf y := fun e => hxy (idx_inj (hp.mem_iff.mpr hx) (hp.mem_iff.mpr hy) e)
  simp only
  by_cases c1 : x = b
  · subst c1
    rw [if_pos rfl, if_pos rfl, idx_front]
    have h1 := idx_front_pos (ns := ns) (b := x) (Ne.symm hxy)
    rw [decide_eq_true h1]
    rcases Nat.lt_or_gt_of_ne nx with n | n <;> rcases Nat.lt_or_gt_of_ne mx with m | m <;> simp [n, m, Nat.lt_asymm n, Nat.lt_asymm m]
  · rw [if_neg c1, if_neg c1]
    by_cases c2 : y = b
    · subst c2
      rw [if_pos rfl, if_pos rfl, idx_front]
      have h1 := idx_front_pos (ns := ns) (b := y) hxy
      rw [decide_eq_false (show ¬ (front ns y).idxOf x < 0 by omega)]
      rcases Nat.lt_or_gt_of_ne nx with n | n <;> rcases Nat.lt_or_gt_of_ne mx with m | m <;> simp [n, m, Nat.lt_asymm n, Nat.lt_asymm m]
    · rw [if_neg c2, if_neg c2]
      have e := front_lt (l := ns) hx hy (Ne.symm c1) (Ne.symm c2)
      rw [show decide ((front ns b).idxOf x < (front ns b).idxOf y) = decide (ns.idxOf x < ns.idxOf y) from decide_eq_decide.mpr e]
      omega
theorem twice {ms L : List Str} (hm : ms.Nodup) (hL : L.Perm ms) : ∀ (as ns : List Str), ms.Perm ns → (∀ b ∈ as, b ∈ ns) → (codeL ns as).sum + as.length ≤ 2 * fixL ms as + (pairsL L).countP (apart ns ms)
  | [], ns, hp, _ => by
    show 0 + 0 ≤ _
    omega
  | b :: as, ns, hp, hs => by
    have hn : ns.Nodup := hp.nodup_iff.mp hm
    have hb : b ∈ ns := hs b (List.mem_cons_self ..)
    have hb2 : b ∈ ms := hp.mem_iff.mpr hb
    have fp := front_perm hn hb
    have ih := twice hm hL as (front ns b) (hp.trans fp.symm) fun z hz => fp.mem_iff.mpr (hs z (List.mem_cons_of_mem _ hz))
    have i1 := inc_idx hn (hL.trans hp) hb
    have i2 := inc_idx hm hL hb2
    have st : pairSum (fun p => (if apart (front ns b) ms p then 1 else 0) + incB b (fun z => decide (ns.idxOf z < ns.idxOf b)) p) L ≤ pairSum (fun p => (if apart ns ms p then 1 else 0) + 2 * incB b (fun z => decide (ms.idxOf z < ms.idxOf b)) p) L := pairSum_le fun p q => by
      have q1 := pairs_mem q
      have q2 := pairs_lt (hL.nodup_iff.mpr hm) q
      have mem : ∀ z ∈ L, z ∈ ns := fun z hz => (hL.trans hp).mem_iff.mp hz
      exact step_pair hn hm hp (mem _ q1.1) (mem _ q1.2) fun e => by rw [e] at q2; omega
    rw [pairSum_add, pairSum_add, pairSum_two, i1, i2, ← count_sum, ← count_sum] at st
    show ns.idxOf b + 1 + (codeL (front ns b) as).sum + (as.length + 1) ≤ 2 * fixL ms (b :: as) + _
    have ef : fixL ms (b :: as) = ms.idxOf b + 1 + fixL ms as := rfl
    omega
theorem fix_bound {ms as : List Str} (hs : ∀ b ∈ as, b ∈ ms) : fixL ms as ≤ as.length * ms.length := by
  unfold fixL
  have h := sum_bound (m := ms.length) (l := as.map fun b => ms.idxOf b + 1) fun k hk => by
    obtain ⟨b, hb, rfl⟩ := List.mem_map.mp hk
    exact List.idxOf_lt_length_of_mem (hs b hb)
  rwa [List.length_map] at h
def spareI (ns ms as : List Str) : Int := 2 * (fixL ms as : Nat) - (as.length : Nat) + ((pairsL (sortS ns)).countP (apart ns ms) : Nat) - ((codeL ns as).sum : Nat)
def sureL (ns one two : List Str) : List (Str × Str) := ((pairsL (sortS ns)).filter fun p => sureB one two p.1 p.2).map (aheadP (ledL ns (one ++ two)))
def condS (ns one two : List Str) (x y : Str) : Bool := x != y && (sureB one two x y && decide ((ledL ns (one ++ two)).idxOf x < (ledL ns (one ++ two)).idxOf y))
theorem sure_grid {ns one two : List Str} (hn : ns.Nodup) (ho : ∀ b ∈ one, b ∈ ns) (ht : ∀ b ∈ two, b ∈ ns) : (sureL ns one two).Perm (grid ns (condS ns one two)) :=
  ahead_perm (c := sureB one two) hn (sortS_perm ns) (led_perm hn fun b hb => by
    rcases List.mem_append.mp hb with z | z
    · exact ho b z
    · exact ht b z) (sure_symm one two)
theorem flat_snoc {α β : Type} (f : α → List β) {l : List α} {j : Nat} {a : α} (h : l[j]? = some a) : (l.take (j + 1)).flatMap f = (l.take j).flatMap f ++ f a := by
  rw [List.take_add_one, h, List.flatMap_append]
  show _ ++ (f a ++ []) = _
  rw [List.append_nil]
theorem filt_snocT {l : List Str} {f : Str → Bool} {j : Nat} {a : Str} (h : l[j]? = some a) : (l.take (j + 1)).filter f = (l.take j).filter f ++ if f a then [a] else [] := by
  rw [List.take_add_one, h, List.filter_append]
  cases q : f a <;> simp [q]
def mv (q : List Str × Nat × Nat) : PV := .tuple [.tuple (q.1.map .str), .int (q.2.1 : Nat), .int (q.2.2 : Nat)]
theorem atI_strD {l : List Str} {i : Nat} (h : i < l.length) : L2.atI (l.map PyData.str) ((i : Nat) : Int) = some (.str (l.getD i "")) := by
  refine atI_of ?_
  rw [List.getElem?_map, List.getElem?_eq_getElem h]
  simp [List.getD, List.getElem?_eq_getElem h]
theorem grid_congr {ns : List Str} {c d : Str → Str → Bool} (h : ∀ x ∈ ns, ∀ y ∈ ns, c x y = d x y) : grid ns c = grid ns d := by
  have e : ∀ l : List Str, (∀ x ∈ l, x ∈ ns) → (l.flatMap fun x => (ns.filter (c x)).map fun y => (x, y)) = l.flatMap fun x => (ns.filter (d x)).map fun y => (x, y) := fun l => by
    induction l with
    | nil => exact fun _ => rfl
    | cons x l ih =>
      intro hl
      rw [List.flatMap_cons, List.flatMap_cons, ih fun z hz => hl z (List.mem_cons_of_mem _ hz), List.filter_congr fun y hy => h x (hl x (List.mem_cons_self ..)) y hy]
  exact e ns fun _ h => h
theorem cond_swap {ns one two : List Str} (hn : ns.Nodup) (ho : ∀ b ∈ one, b ∈ ns) (ht : ∀ b ∈ two, b ∈ ns) : ∀ x ∈ ns, ∀ y ∈ ns, condS ns one two x y = condS ns two one x y := by
  have go : ∀ {one two : List Str}, (∀ b ∈ one, b ∈ ns) → (∀ b ∈ two, b ∈ ns) → ∀ x ∈ ns, ∀ y ∈ ns, condS ns one two x y = true → condS ns two one x y = true := fun {one two} ho ht x hx y hy h => by
    unfold condS at h ⊢
    simp only [Bool.and_eq_true, bne_iff_ne, decide_eq_true_eq] at h ⊢
    refine ⟨h.1, ?_, (sure_iff hn hx hy h.1 ho ht).mpr h.2 _ (mergesL_ba one two)⟩
    have := h.2.1
    unfold sureB at this ⊢
    cases e1 : lastO one x y <;> cases e2 : lastO two x y <;> simp_all
  intro x hx y hy
  rw [Bool.eq_iff_iff]
  exact ⟨go ho ht x hx y hy, go ht ho x hx y hy⟩
theorem sure_sorted {ns one two : List Str} (hn : ns.Nodup) (ho : ∀ b ∈ one, b ∈ ns) (ht : ∀ b ∈ two, b ∈ ns) : sortedP ((sureL ns one two).map pairP) = sortedP ((grid ns (condS ns one two)).map pairP) :=
  sortedP_eq ((sure_grid hn ho ht).map pairP) pairs_toks
theorem pairs_fine {ns : List Str} (hn : Names ns) {m : List (Str × Str)} (hm : ∀ p ∈ m, p.1 ∈ ns ∧ p.2 ∈ ns) (hl : m.length ≤ 49) : Fine 2 1100 (.tuple (m.map pairP)) :=
  fineT (m := 20) (fun x hx => by
    obtain ⟨p, hp, rfl⟩ := List.mem_map.mp hx
    exact fineT (k := 0) (m := 8) (fun v hv => by
      simp only [List.mem_cons, List.not_mem_nil, or_false] at hv
      rcases hv with rfl | rfl
      · exact names_fine hn _ (List.mem_map_of_mem (hm p hp).1)
      · exact names_fine hn _ (List.mem_map_of_mem (hm p hp).2)) (show 2 * (8 + 1) ≤ 20 by decide)) (by rw [List.length_map]; omega)
theorem pairs_depth (m : List (Str × Str)) : (PyData.tuple (m.map pairP)).depth ≤ 64 := by
  have e : ∀ l : List (Str × Str), PyData.depthAll (l.map pairP) ≤ 1 := fun l => by
    induction l with
    | nil => exact Nat.zero_le _
    | cons p l ih => exact Nat.max_le.mpr ⟨by show 0 + 1 ≤ 1; decide, ih⟩
  show PyData.depthAll _ + 1 ≤ 64
  have := e m
  omega
theorem open_flip {ns one two : List Str} {x y : Str} (hn : ns.Nodup) (hx : x ∈ ns) (hy : y ∈ ns) (hxy : x ≠ y) (h1 : ∀ b ∈ one, b ∈ ns) (h2 : ∀ b ∈ two, b ∈ ns) (h : sureB one two x y = false) :
    ((ledL ns (one ++ two)).idxOf x < (ledL ns (one ++ two)).idxOf y) ↔ ¬ ((ledL ns (two ++ one)).idxOf x < (ledL ns (two ++ one)).idxOf y) := by
  have hab : ∀ b ∈ one ++ two, b ∈ ns := fun b hb => by
    rcases List.mem_append.mp hb with z | z
    · exact h1 b z
    · exact h2 b z
  have hba : ∀ b ∈ two ++ one, b ∈ ns := fun b hb => by
    rcases List.mem_append.mp hb with z | z
    · exact h2 b z
    · exact h1 b z
  rw [ahead_last hn hx hy hxy hab, ahead_last hn hx hy hxy hba, lastO_app, lastO_app]
  unfold sureB at h
  cases e1 : lastO one x y with
  | none => rw [e1] at h; simp at h
  | some u =>
    cases e2 : lastO two x y with
    | none => rw [e1, e2] at h; simp at h
    | some v =>
      rw [e1, e2] at h
      have huv : u ≠ v := by simpa using h
      show v = x ↔ ¬ u = x
      rcases lastO_in e1 with rfl | rfl <;> rcases lastO_in e2 with rfl | rfl
      · exact absurd rfl huv
      · exact ⟨fun z => absurd z.symm huv, fun z => absurd rfl z⟩
      · exact ⟨fun _ z => hxy z.symm, fun _ => rfl⟩
      · exact absurd rfl huv
theorem ways_list (m f : Nat) (c : Nat) : ((List.range c).map fun i => PyData.int ((pRow m).getD (f + i) 0)) = ((List.range c).map fun i => (pRow m).getD (f + i) 0).map .int := by
  rw [List.map_map]
  rfl
def kTaken : List Str := (["ahead", "all", "as", "ask", "at", "behind", "book", "by", "code", "cost", "end", "first"] : List Str) ++ ((["fixed", "front", "in", "is", "last", "leave", "never", "next", "none", "of", "order", "place"] : List Str) ++ ((["put", "shelf", "step", "take", "times", "to", "undo", "with", "done", "yes", "no", "back"] : List Str)))
theorem taken_words : ∀ w ∈ kWords, w ∈ kTaken := by decide +kernel
theorem taken_q : ∀ w ∈ kTaken, w.cps.toList.getLast? ≠ some 113 := by decide +kernel
/-- a word's like: six signs of it, another one, a last one -/
def like (z : Str) (e : Str) (c : Nat) : Str := ((⟨(z.cps.toList.take 6).toArray⟩ : Str) ++ (⟨#[c]⟩ : Str)) ++ e
theorem like_list (z e : Str) (c : Nat) : (like z e c).cps.toList = z.cps.toList.take 6 ++ [c] ++ e.cps.toList := by
  unfold like
  rw [str_app, str_app, Array.toList_append, Array.toList_append]
theorem str_len (z : Str) : z.cps.toList.length = z.length := Array.length_toList
def Good (z : Str) : Prop := 1 ≤ z.length ∧ z.length ≤ 8 ∧ Small z
theorem like_good {z : Str} (hz : Small z) {e : Str} (he : e = "q" ∨ e = "z") {c : Nat} (h1 : 97 ≤ c) (h2 : c ≤ 122) : Good (like z e c) := by
  have el := like_list z e c
  have ee : e.cps.toList = [113] ∨ e.cps.toList = [122] := by
    rcases he with rfl | rfl
    · exact .inl rfl
    · exact .inr rfl
  have l1 : (z.cps.toList.take 6).length ≤ 6 := by rw [List.length_take]; omega
  have l2 : (like z e c).length = (z.cps.toList.take 6).length + 2 := by
    rw [← str_len, el, List.length_append, List.length_append]
    rcases ee with q | q <;> rw [q] <;> rfl
  refine ⟨by omega, by omega, fun d hd => ?_⟩
  rw [el, List.mem_append, List.mem_append] at hd
  rcases hd with (hd | hd) | hd
  · exact hz d (List.mem_of_mem_take hd)
  · rw [List.mem_singleton] at hd
    omega
  · rcases ee with q | q <;> rw [q, List.mem_singleton] at hd <;> omega
def cs26 : List Nat := (List.range 26).map (97 + ·)
def cands (z : Str) : List Str := [z] ++ cs26.map (like z "q") ++ cs26.map (like z "z")
theorem cs26_mem {c : Nat} (h : c ∈ cs26) : 97 ≤ c ∧ c ≤ 122 := by
  obtain ⟨k, hk, rfl⟩ := List.mem_map.mp h
  have := List.mem_range.mp hk
  omega
theorem cands_good {z : Str} (h : Good z) : ∀ w ∈ cands z, Good w := fun w hw => by
  unfold cands at hw
  rw [List.mem_append, List.mem_append] at hw
  rcases hw with (hw | hw) | hw
  · rw [List.mem_singleton] at hw
    exact hw ▸ h
  · obtain ⟨c, hc, rfl⟩ := List.mem_map.mp hw
    exact like_good h.2.2 (.inl rfl) (cs26_mem hc).1 (cs26_mem hc).2
  · obtain ⟨c, hc, rfl⟩ := List.mem_map.mp hw
    exact like_good h.2.2 (.inr rfl) (cs26_mem hc).1 (cs26_mem hc).2
theorem nodup_le {α : Type} [DecidableEq α] : ∀ {l m : List α}, l.Nodup → (∀ z ∈ l, z ∈ m) → l.length ≤ m.length
  | [], _, _, _ => Nat.zero_le _
  | a :: l, m, h, hs => by
    obtain ⟨h1, h2⟩ := List.nodup_cons.mp h
    have ha := hs a (List.mem_cons_self ..)
    have := nodup_le (m := m.erase a) h2 fun z hz => (List.mem_erase_of_ne (by rintro rfl; exact h1 hz)).mpr (hs z (List.mem_cons_of_mem _ hz))
    rw [List.length_erase_of_mem ha] at this
    have := List.length_pos_of_mem ha
    simp only [List.length_cons]
    omega
/-- some like is none yet -/
theorem cands_some {z : Str} {ns : List Str} (hl : ns.length ≤ 20) : ∃ w r, (cands z).filter (fun w => !(ns ++ kTaken).contains w) = w :: r ∧ w ∈ cands z ∧ w ∉ ns ∧ w ∉ kTaken := by
  have ex : ∃ w ∈ cands z, w ∉ ns ∧ w ∉ kTaken := by
    refine Classical.byContradiction fun no => ?_
    have all : ∀ w ∈ cs26.map (like z "q"), w ∈ ns := fun w hw => by
      refine Classical.byContradiction fun hn => no ⟨w, ?_, hn, ?_⟩
      · unfold cands
        exact List.mem_append_left _ (List.mem_append_right _ hw)
      · obtain ⟨c, _, rfl⟩ := List.mem_map.mp hw
        intro ht
        refine taken_q _ ht ?_
        rw [like_list, List.getLast?_append]
        rfl
    have nd : (cs26.map (like z "q")).Nodup := by
      refine List.Pairwise.map _ (fun a b hab e => hab ?_) (show cs26.Nodup by decide +kernel)
      have := congrArg (fun y : Str => y.cps.toList) e
      simp only [like_list, List.append_assoc] at this
      have := List.append_cancel_left this
      exact (List.cons.inj this).1
    have := nodup_le nd all
    rw [List.length_map] at this
    have e26 : cs26.length = 26 := rfl
    omega
  obtain ⟨w, hw, h1, h2⟩ := ex
  cases q : (cands z).filter (fun w => !(ns ++ kTaken).contains w) with
  | nil =>
    have := List.filter_eq_nil_iff.mp q w hw
    simp [h1, h2] at this
  | cons u r =>
    have hu : u ∈ (cands z).filter (fun w => !(ns ++ kTaken).contains w) := q ▸ List.mem_cons_self ..
    obtain ⟨h3, h4⟩ := List.mem_filter.mp hu
    have h4 : u ∉ ns ++ kTaken := by simpa using h4
    exact ⟨u, r, rfl, h3, fun z => h4 (List.mem_append_left _ z), fun z => h4 (List.mem_append_right _ z)⟩
theorem signs26 : (small.cps.toList.map fun c => PyData.str ⟨#[c]⟩) = cs26.map fun c => .str ⟨#[c]⟩ := by
  rw [small_list]
  rfl
def againL (as : List Str) : List Nat := (List.range as.length).filter fun j => (as.drop (j + 1)).contains (as.getD j "")
def restL (as : List Str) : List Str := ((List.range as.length).filter fun j => !(againL as).contains j).map fun j => as.getD j ""
def outL (as : List Str) (k : Nat) : List Str := as.take k ++ as.drop (k + 1)
def needL (ns as : List Str) : List Nat := (List.range as.length).filter fun k => decide (deedL ns (outL as k) = deedL ns as)
theorem rest_lasts (as : List Str) : restL as = (lastsL as).reverse := by
  have e1 : ∀ as : List Str, restL as = ((List.range as.length).filter fun j => !(as.drop (j + 1)).contains (as.getD j "")).map fun j => as.getD j "" := fun as => by
    unfold restL
    congr 1
    refine List.filter_congr fun j hj => ?_
    congr 1
    rw [Bool.eq_iff_iff, List.contains_iff_mem]
    unfold againL
    rw [List.mem_filter]
    exact ⟨fun h => h.2, fun h => ⟨hj, h⟩⟩
  rw [e1]
  clear e1
  induction as with
  | nil => rfl
  | cons a t ih =>
    rw [List.length_cons, List.range_succ_eq_map, lasts_consF]
    have e2 : ((List.range t.length).map Nat.succ).filter (fun j => !((a :: t).drop (j + 1)).contains ((a :: t).getD j "")) = ((List.range t.length).filter fun j => !(t.drop (j + 1)).contains (t.getD j "")).map Nat.succ := by
      rw [List.filter_map]
      rfl
    by_cases c : a ∈ t
    · rw [if_pos c, List.append_nil, List.filter_cons_of_neg (by simp [c]), e2, List.map_map, ← ih]
      rfl
    · rw [if_neg c, List.reverse_append, List.filter_cons_of_pos (by simp [c]), e2, List.map_cons, List.map_map, ← ih]
      rfl
theorem lasts_app (x y : List Str) : lastsL (x ++ y) = lastsL y ++ (lastsL x).filter fun z => !y.contains z := by
  unfold lastsL
  rw [List.reverse_append, lastsR_app]
  congr 1
  refine List.filter_congr fun z _ => ?_
  congr 1
  rw [Bool.eq_iff_iff, List.contains_iff_mem, List.contains_iff_mem, List.mem_reverse]
theorem again_need {ns as : List Str} {k : Nat} (h : k ∈ againL as) : k ∈ needL ns as := by
  unfold againL at h
  obtain ⟨h1, h2⟩ := List.mem_filter.mp h
  have hk := List.mem_range.mp h1
  rw [List.contains_iff_mem] at h2
  refine List.mem_filter.mpr ⟨h1, decide_eq_true ?_⟩
  have ed : as.drop k = as.getD k "" :: as.drop (k + 1) := by
    rw [List.drop_eq_getElem_cons hk]
    simp [List.getD, List.getElem?_eq_getElem hk]
  have ea : as = as.take k ++ (as.getD k "" :: as.drop (k + 1)) := by rw [← ed, List.take_append_drop]
  have el : lastsL (outL as k) = lastsL as := by
    unfold outL
    conv => rhs; rw [ea]
    generalize as.getD k "" = a at h2
    rw [lasts_app, lasts_app, lasts_consF, if_pos h2, List.append_nil]
    congr 1
    refine List.filter_congr fun z _ => ?_
    congr 1
    rw [Bool.eq_iff_iff, List.contains_iff_mem, List.contains_iff_mem, List.mem_cons]
    exact ⟨.inr, fun q => q.elim (fun e => e ▸ h2) id⟩
  unfold deedL
  rw [el]
theorem ends_iff {ns x y : List Str} (hn : ns.Nodup) (hx : ∀ b ∈ x, b ∈ ns) (hy : ∀ b ∈ y, b ∈ ns) : ((shelvesN (sortS ns) ns.length).map fun o => ledL o x) = ((shelvesN (sortS ns) ns.length).map fun o => ledL o y) ↔ deedL ns x = deedL ns y := by
  rw [List.map_inj_left, ← alike_iff hn hx hy]
  exact ⟨fun h own ho => h own ((shelvesN_perm hn (sortS_perm ns) own).mpr ho), fun h own ho => h own ((shelvesN_perm hn (sortS_perm ns) own).mp ho)⟩
theorem deed_of_lasts {ns x y : List Str} (h : lastsL x = lastsL y) : deedL ns x = deedL ns y := by
  unfold deedL
  rw [h]
theorem out_sub {as : List Str} {k : Nat} {z : Str} (h : z ∈ outL as k) : z ∈ as := by
  rcases List.mem_append.mp h with h | h
  · exact List.mem_of_mem_take h
  · exact List.mem_of_mem_drop h
theorem out_len (as : List Str) (k : Nat) : (outL as k).length ≤ as.length := by
  unfold outL
  rw [List.length_append, List.length_take, List.length_drop]
  omega
theorem again_lc {as : List Str} {g : Tg} {mt : M Bool} {me : M PV} {s0 : En} {Q : List PV → Prop}
    (hs : ∀ j < as.length, ∃ s1, g.put (.tuple [.int (j : Nat), .str (as.getD j "")]) s0 = some s1 ∧ (∀ K : Bool → En → Prop, K ((as.drop (j + 1)).contains (as.getD j "")) s1 → mt s1 K NoE) ∧ ∀ L : PV → En → Prop, L (.int (j : Nat)) s1 → me s1 L NoE) (hd : Q ((againL as).map fun (k : Nat) => .int k)) : lcLoop g mt me s0 Q (enumP (as.map .str) 0) [] := by
  rw [enum_map]
  exact lc_filterL (α := Nat) (fun j => .tuple [.int (j : Nat), .str (as.getD j "")]) (fun j => (as.drop (j + 1)).contains (as.getD j "")) (fun j => .int (j : Nat)) (List.range as.length) (fun j hj => hs j (List.mem_range.mp hj)) hd
theorem rest_lc {as : List Str} {g : Tg} {mt : M Bool} {me : M PV} {s0 : En} {Q : List PV → Prop}
    (hs : ∀ j < as.length, ∃ s1, g.put (.tuple [.int (j : Nat), .str (as.getD j "")]) s0 = some s1 ∧ (∀ K : Bool → En → Prop, K (!(againL as).contains j) s1 → mt s1 K NoE) ∧ ∀ L : PV → En → Prop, L (.str (as.getD j "")) s1 → me s1 L NoE) (hd : Q ((restL as).map .str)) : lcLoop g mt me s0 Q (enumP (as.map .str) 0) [] := by
  rw [enum_map]
  refine lc_filterL (α := Nat) (fun j => .tuple [.int (j : Nat), .str (as.getD j "")]) (fun j => !(againL as).contains j) (fun j => .str (as.getD j "")) (List.range as.length) (fun j hj => hs j (List.mem_range.mp hj)) ?_
  unfold restL at hd
  rw [List.map_map] at hd
  exact hd
theorem range_snoc (p : Nat → Bool) (j : Nat) : (List.range (j + 1)).filter p = (List.range j).filter p ++ if p j then [j] else [] := by
  rw [List.range_succ, List.filter_append]
  cases h : p j <;> simp [h]
theorem mul_two (T : PV) : (List.replicate (2 : Int).toNat [T]).flatten = [T, T] := rfl
theorem two_fine {T : PV} {k n : Nat} (h : Fine k n T) : Fine (k + 1) (2 * (n + 1)) (.list [T, T]) := fineL (m := n) (fun w hw => by
  simp only [List.mem_cons, List.not_mem_nil, or_false] at hw
  rcases hw with rfl | rfl <;> exact h) (Nat.le_refl _)
theorem strs_fine {ns : List Str} (hn : Names ns) {l : List Str} (h : ∀ z ∈ l, z ∈ ns) (hl : l.length ≤ 100) : Fine 1 1000 (.tuple (l.map .str)) := fineT (k := 0) (m := 8) (fun v hv => by
  obtain ⟨z, hz, rfl⟩ := List.mem_map.mp hv
  exact names_fine hn _ (List.mem_map_of_mem (h z hz))) (by rw [List.length_map]; omega)
def putL (ns : List Str) (b : Str) (p : Nat) : List Str := (ns.filter fun z => z != b).take (p - 1) ++ b :: (ns.filter fun z => z != b).drop (p - 1)
theorem putL_perm {ns : List Str} {b : Str} (hn : ns.Nodup) (hb : b ∈ ns) (p : Nat) : (putL ns b p).Perm ns := by
  unfold putL
  refine List.perm_middle.trans ?_
  rw [List.take_append_drop]
  exact front_perm hn hb
theorem putL_split {p t : List Str} {a b : Str} (h : (p ++ a :: b :: t).Nodup) : putL (p ++ a :: b :: t) b (p.length + 1) = p ++ b :: a :: t := by
  have hm : b ∉ p ∧ a ≠ b ∧ b ∉ t := by
    obtain ⟨h1, h2, h3⟩ := List.nodup_append.mp h
    obtain ⟨h4, h5⟩ := List.nodup_cons.mp h2
    obtain ⟨h6, h7⟩ := List.nodup_cons.mp h5
    exact ⟨fun z => h3 b z b (List.mem_cons_of_mem _ (List.mem_cons_self ..)) rfl, fun z => h4 (z ▸ List.mem_cons_self ..), h6⟩
  have e : (p ++ a :: b :: t).filter (fun z => z != b) = p ++ a :: t := by
    rw [List.filter_append, List.filter_cons_of_pos (by simp [hm.2.1]), List.filter_cons_of_neg (by simp), List.filter_eq_self.mpr fun z hz => by
      rw [bne_iff_ne]
      rintro rfl
      exact hm.1 hz, List.filter_eq_self.mpr fun z hz => by
      rw [bne_iff_ne]
      rintro rfl
      exact hm.2.2 hz]
  unfold putL
  rw [e, Nat.add_sub_cancel, List.take_left' rfl, List.drop_left' rfl]
theorem split_idx {ns : List Str} {b : Str} (hb : b ∈ ns) (hi : 0 < ns.idxOf b) : ∃ p a t, ns = p ++ a :: b :: t ∧ p.length + 1 = ns.idxOf b := by
  have hl := List.idxOf_lt_length_of_mem hb
  have e1 : ns.drop (ns.idxOf b - 1) = ns[ns.idxOf b - 1] :: ns.drop (ns.idxOf b) := by
    rw [List.drop_eq_getElem_cons (by omega), show ns.idxOf b - 1 + 1 = ns.idxOf b by omega]
  have e2 : ns.drop (ns.idxOf b) = b :: ns.drop (ns.idxOf b + 1) := by
    rw [List.drop_eq_getElem_cons hl]
    congr 1
    have := idx_at hb
    rw [List.getElem?_eq_getElem hl] at this
    exact Option.some.inj this
  refine ⟨ns.take (ns.idxOf b - 1), ns[ns.idxOf b - 1], ns.drop (ns.idxOf b + 1), ?_, by rw [List.length_take]; omega⟩
  rw [← e2, ← e1, List.take_append_drop]
theorem put_first {ns : List Str} {b : Str} (hn : ns.Nodup) (hb : b ∈ ns) (hi : ns.idxOf b = 0) : putL ns b 1 = ns := by
  cases ns with
  | nil => cases hb
  | cons a t =>
    by_cases c : a = b
    · subst c
      have h1 := (List.nodup_cons.mp hn).1
      unfold putL
      rw [List.filter_cons_of_neg (by simp), List.filter_eq_self.mpr fun z hz => by
        rw [bne_iff_ne]
        rintro rfl
        exact h1 hz]
      rfl
    · rw [idx_cons_ne c] at hi
      omega
def stepF (s : List Str × Nat) (b : Str) : List Str × Nat := (putL s.1 b (max 1 (s.1.idxOf b)), s.2 + (s.1.idxOf b + 1))
def stepsL (ns as : List Str) : List Str × Nat := as.foldl stepF (ns, 0)
theorem steps_snoc (ns as : List Str) (b : Str) : stepsL ns (as ++ [b]) = stepF (stepsL ns as) b := by
  unfold stepsL
  rw [List.foldl_append]
  rfl
theorem steps_perm {ns : List Str} (hn : ns.Nodup) (as : List Str) : (∀ b ∈ as, b ∈ ns) → (stepsL ns as).1.Perm ns := by
  refine snoc_ind (P := fun as => (∀ b ∈ as, b ∈ ns) → (stepsL ns as).1.Perm ns) (fun _ => List.Perm.refl _) (fun l b ih hs => ?_) as
  have p := ih fun z hz => hs z (List.mem_append_left _ hz)
  rw [steps_snoc]
  exact (putL_perm (p.nodup_iff.mpr hn) (p.mem_iff.mpr (hs b (List.mem_append_right _ (List.mem_singleton.mpr rfl)))) _).trans p
theorem steps_cost {ns : List Str} (hn : ns.Nodup) (as : List Str) : (∀ b ∈ as, b ∈ ns) → (stepsL ns as).2 ≤ as.length * ns.length := by
  refine snoc_ind (P := fun as => (∀ b ∈ as, b ∈ ns) → (stepsL ns as).2 ≤ as.length * ns.length) (fun _ => Nat.zero_le _) (fun l b ih hs => ?_) as
  have h := ih fun z hz => hs z (List.mem_append_left _ hz)
  have p := steps_perm hn l fun z hz => hs z (List.mem_append_left _ hz)
  have hl := List.idxOf_lt_length_of_mem (p.mem_iff.mpr (hs b (List.mem_append_right _ (List.mem_singleton.mpr rfl))))
  rw [p.length_eq] at hl
  rw [steps_snoc, List.length_append, Nat.add_mul]
  show (stepsL ns l).2 + _ ≤ _
  simp only [List.length_singleton]
  omega
/-- the law's exchange is the step -/
theorem swap_step {ns : List Str} {b : Str} (hn : ns.Nodup) (hb : b ∈ ns) (hi : 0 < ns.idxOf b) : ∃ a, ns[ns.idxOf b - 1]? = some a ∧ putL ns b (max 1 (ns.idxOf b)) = (ns.set (ns.idxOf b - 1) b).set (ns.idxOf b) a := by
  obtain ⟨p, a, t, e, el⟩ := split_idx hb hi
  rw [← el]
  have e2 : max 1 (p.length + 1) = p.length + 1 := by omega
  rw [e2, Nat.add_sub_cancel]
  subst e
  refine ⟨a, by rw [List.getElem?_append_right (Nat.le_refl _), Nat.sub_self]; rfl, ?_⟩
  rw [putL_split hn, List.set_append_right _ _ (Nat.le_refl _), Nat.sub_self, List.set_append_right _ _ (by omega), show p.length + 1 - p.length = 1 by omega]
  rfl
theorem any_in2 (t : List Str) (x y : Str) : (t.map fun b => ([x, y] : List Str).contains b).any id = (t.contains x || t.contains y) := by
  rw [Bool.eq_iff_iff, List.any_eq_true, Bool.or_eq_true, List.contains_iff_mem, List.contains_iff_mem]
  constructor
  · rintro ⟨b, hb, hq⟩
    obtain ⟨z, hz, rfl⟩ := List.mem_map.mp hb
    have hq : ([x, y] : List Str).contains z = true := hq
    rw [List.contains_iff_mem] at hq
    simp only [List.mem_cons, List.not_mem_nil, or_false] at hq
    rcases hq with rfl | rfl
    · exact .inl hz
    · exact .inr hz
  · rintro (h | h)
    · exact ⟨true, List.mem_map.mpr ⟨x, h, by simp⟩, rfl⟩
    · exact ⟨true, List.mem_map.mpr ⟨y, h, by simp⟩, rfl⟩
theorem grid_snoc (l : List Str) (c : Str → Str → Bool) {j : Nat} {x : Str} (h : l[j]? = some x) : ((l.take (j + 1)).flatMap fun x => (l.filter (c x)).map fun y => (x, y)) = ((l.take j).flatMap fun x => (l.filter (c x)).map fun y => (x, y)) ++ (l.filter (c x)).map fun y => (x, y) := flat_snoc _ h
theorem filt_split {α : Type} (f : α → Bool) : ∀ l : List α, (l.filter f).length + (l.filter fun x => !f x).length = l.length
  | [] => rfl
  | a :: l => by
    have ih := filt_split f l
    cases q : f a <;> simp [q] <;> omega
theorem isNotT {xs : List PV} {s : En} {P : Res → En → Prop} {E : EP'} : isNotM (.tuple xs) .none s P E = P (.val (.bool true)) s := rfl
theorem add_new (found : List Str) (b : Str) : (found ++ if !found.contains b then [b] else []) = addNew found b := by
  unfold addNew
  cases found.contains b <;> simp
theorem nin_first (as X : List Str) : (X.filter fun z => !(lastsR as).contains z) = X.filter fun z => !as.contains z := by
  refine List.filter_congr fun z _ => ?_
  congr 1
  rw [Bool.eq_iff_iff, List.contains_iff_mem, List.contains_iff_mem, lastsR_mem]
theorem eqv_pairP (a b : Str × Str) : PyData.eqv (pairP a) (pairP b) = (a == b) := by
  obtain ⟨a1, a2⟩ := a
  obtain ⟨b1, b2⟩ := b
  show PyData.eqvAll (([a1, a2] : List Str).map .str) (([b1, b2] : List Str).map .str) = _
  rw [eqvAll_strs, Bool.eq_iff_iff, decide_eq_true_iff, beq_iff_eq]
  simp
theorem any_pairP (M : List (Str × Str)) (p : Str × Str) : ((M.map pairP).any fun y => PyData.eqv y (pairP p)) = M.contains p := by
  induction M with
  | nil => rfl
  | cons a M ih =>
    rw [List.map_cons, List.any_cons, ih, eqv_pairP, List.contains_cons, Bool.beq_comm]
theorem inTP {f : Bool → Bool} {M : List (Str × Str)} {p : Str × Str} {s : En} {P : Res → En → Prop} {E : EP'} (h : P (.val (.bool (f (M.contains p)))) s) : inM f (pairP p) (.tuple (M.map pairP)) s P E := by
  rw [inTA, any_pairP]
  have := pairs_depth M
  have e : (PyData.tuple (M.map pairP)).depth = PyData.depthAll (M.map pairP) + 1 := rfl
  exact ⟨Nat.le_trans (Nat.min_le_left ..) (by omega), h⟩
theorem open_iff {ns one two : List Str} (hn : ns.Nodup) (ho : ∀ b ∈ one, b ∈ ns) (ht : ∀ b ∈ two, b ∈ ns) {M : List (Str × Str)} (hM : M.Perm (grid ns (condS ns one two))) : ∀ p ∈ pairsL (sortS ns), (!(M.contains p) && !(M.contains (p.2, p.1))) = !sureB one two p.1 p.2 := fun p hp => by
  obtain ⟨m1, m2, m3⟩ := pairs_ne hn hp
  obtain ⟨x, y⟩ := p
  have hab : ∀ b ∈ one ++ two, b ∈ ns := fun b hb => (List.mem_append.mp hb).elim (ho b) (ht b)
  have pA := led_perm hn hab
  have ne : (ledL ns (one ++ two)).idxOf x ≠ (ledL ns (one ++ two)).idxOf y := fun e => m3 (idx_inj (pA.mem_iff.mpr m1) (pA.mem_iff.mpr m2) e)
  have c1 : ∀ x y, M.contains (x, y) = true ↔ (x ∈ ns ∧ y ∈ ns ∧ condS ns one two x y = true) := fun x y => by
    rw [List.contains_iff_mem, hM.mem_iff, grid_mem]
  have s := sure_symm one two x y
  rw [Bool.eq_iff_iff, Bool.and_eq_true, Bool.not_eq_true', Bool.not_eq_true', Bool.not_eq_true', ← Bool.not_eq_true, ← Bool.not_eq_true, ← Bool.not_eq_true, c1, c1]
  unfold condS
  rw [Bool.and_eq_true, Bool.and_eq_true, Bool.and_eq_true, Bool.and_eq_true, bne_iff_ne, bne_iff_ne, decide_eq_true_iff, decide_eq_true_iff, ← s]
  constructor
  · rintro ⟨h1, h2⟩ h3
    rcases Nat.lt_or_gt_of_ne ne with c | c
    · exact h1 ⟨m1, m2, m3, h3, c⟩
    · exact h2 ⟨m2, m1, m3.symm, h3, c⟩
  · intro h
    exact ⟨fun q => h q.2.2.2.1, fun q => h q.2.2.2.1⟩
theorem eqvTT {a b : List Str} : (PyData.tuple (a.map .str)).eqv (.tuple (b.map .str)) = decide (a = b) := by
  rw [show PyData.eqv (.tuple (a.map .str)) (.tuple (b.map .str)) = PyData.eqvAll (a.map .str) (b.map .str) from rfl, eqvAll_strs]
theorem some_mem {ns one two : List Str} (hn : ns.Nodup) : ∀ own ∈ shelvesN (sortS ns) ns.length, own.Perm ns := fun own ho => (shelvesN_perm hn (sortS_perm ns) own).mp ho
def rowW (bs : List Str) : PV := .tuple (bs.map .str)
/-- books at p-1 and p exchanged -/
def swapL (ns : List Str) (p : Nat) : List Str := ns.take (p - 1) ++ ns.getD p "" :: ns.getD (p - 1) "" :: ns.drop (p + 1)
theorem swap_perm {ns : List Str} {p : Nat} (h1 : 1 ≤ p) (h2 : p < ns.length) : (swapL ns p).Perm ns := by
  have e1 : ns.drop (p - 1) = ns.getD (p - 1) "" :: ns.drop p := by
    rw [List.drop_eq_getElem_cons (by omega), show p - 1 + 1 = p by omega, List.getD_eq_getElem?_getD, List.getElem?_eq_getElem (by omega)]
    rfl
  have e2 : ns.drop p = ns.getD p "" :: ns.drop (p + 1) := by
    rw [List.drop_eq_getElem_cons h2, List.getD_eq_getElem?_getD, List.getElem?_eq_getElem h2]
    rfl
  unfold swapL
  conv => rhs; rw [← List.take_append_drop (p - 1) ns, e1, e2]
  exact List.Perm.append_left _ (List.Perm.swap _ _ _)
theorem snoc_indN {P : List Nat → Prop} (h0 : P []) (hs : ∀ l b, P l → P (l ++ [b])) (l : List Nat) : P l := by
  have : ∀ r : List Nat, P r.reverse := fun r => by
    induction r with
    | nil => exact h0
    | cons a r ih =>
      rw [List.reverse_cons]
      exact hs _ _ ih
  have := this l.reverse
  rwa [List.reverse_reverse] at this
def Sw (n : Nat) (ps : List Nat) : Prop := ∀ p ∈ ps, 1 ≤ p ∧ p < n
def exL (ns : List Str) (ps : List Nat) : List Str := ps.foldl swapL ns
theorem ex_snoc (ns : List Str) (ps : List Nat) (p : Nat) : exL ns (ps ++ [p]) = swapL (exL ns ps) p := by
  unfold exL
  rw [List.foldl_append]
  rfl
theorem ex_perm {ns : List Str} (ps : List Nat) : Sw ns.length ps → (exL ns ps).Perm ns := by
  refine snoc_indN (P := fun ps => Sw ns.length ps → (exL ns ps).Perm ns) (fun _ => List.Perm.refl _) (fun l p ih h => ?_) ps
  have q := ih fun z hz => h z (List.mem_append_left _ hz)
  have hp := h p (List.mem_append_right _ (List.mem_singleton.mpr rfl))
  rw [ex_snoc]
  exact (swap_perm hp.1 (by rw [q.length_eq]; exact hp.2)).trans q
abbrev StepT := List Nat × Nat
def stepP (e : StepT) : PV := .tuple [.tuple (e.1.map fun (k : Nat) => .int k), .int (e.2 : Nat)]
def planP (pl : List StepT) : PV := .tuple (pl.map stepP)
abbrev RunT := List Str × Nat × Nat × Nat
def stZ (s : RunT) (z : Str × StepT) : RunT := (putL (exL s.1 z.2.1) z.1 z.2.2, s.2.1 + ((exL s.1 z.2.1).idxOf z.1 + 1), s.2.2.1 + z.2.1.length, s.2.2.2 + ((exL s.1 z.2.1).idxOf z.1 + 1) - z.2.2)
def runZ (ns : List Str) (zs : List (Str × StepT)) : RunT := zs.foldl stZ (ns, 0, 0, 0)
theorem run_snoc (ns : List Str) (zs : List (Str × StepT)) (z : Str × StepT) : runZ ns (zs ++ [z]) = stZ (runZ ns zs) z := by
  unfold runZ
  rw [List.foldl_append]
  rfl
/-- a step that may be gone from this shelf -/
def OkZ (s : List Str) (z : Str × StepT) : Prop := z.1 ∈ s ∧ z.2.1.length ≤ 3 ∧ Sw s.length z.2.1 ∧ 1 ≤ z.2.2 ∧ z.2.2 ≤ (exL s z.2.1).idxOf z.1 + 1
inductive Val (ns : List Str) : List (Str × StepT) → Prop
  | nil : Val ns []
  | snoc {zs z} : Val ns zs → OkZ (runZ ns zs).1 z → Val ns (zs ++ [z])
theorem snoc_inj {α : Type} {a b : List α} {x y : α} (h : a ++ [x] = b ++ [y]) : a = b ∧ x = y := by
  have := List.append_inj' h rfl
  exact ⟨this.1, List.singleton_inj.mp this.2⟩
theorem Val.inv {ns : List Str} {zs : List (Str × StepT)} {z : Str × StepT} (h : Val ns (zs ++ [z])) : Val ns zs ∧ OkZ (runZ ns zs).1 z := by
  generalize e : zs ++ [z] = w at h
  cases h with
  | nil => simp at e
  | snoc h1 h2 =>
    obtain ⟨rfl, rfl⟩ := snoc_inj e
    exact ⟨h1, h2⟩
theorem Val.step {ns : List Str} {zs : List (Str × StepT)} (h : Val ns zs) : ∀ {j : Nat} {z : Str × StepT}, zs[j]? = some z → Val ns (zs.take j) ∧ OkZ (runZ ns (zs.take j)).1 z := by
  induction h with
  | nil => intro j z e; simp at e
  | snoc h1 h2 ih =>
    rename_i ws w
    intro j z e
    rcases Nat.lt_or_ge j ws.length with c | c
    · rw [List.getElem?_append_left c] at e
      rw [List.take_append_of_le_length (by omega)]
      exact ih e
    · have hj := (List.getElem?_eq_some_iff.mp e).1
      rw [List.length_append, List.length_singleton] at hj
      have : j = ws.length := by omega
      subst this
      rw [List.getElem?_append_right (Nat.le_refl _), Nat.sub_self] at e
      have e := Option.some.inj e
      subst e
      rw [List.take_left' rfl]
      exact ⟨h1, h2⟩
theorem Val.perm {ns : List Str} (hn : ns.Nodup) {zs : List (Str × StepT)} (h : Val ns zs) : (runZ ns zs).1.Perm ns := by
  induction h with
  | nil => exact List.Perm.refl _
  | snoc h1 h2 ih =>
    rw [run_snoc]
    have ex := ex_perm _ h2.2.2.1
    have xn := (ex.trans ih).nodup_iff.mpr hn
    exact (putL_perm xn (ex.mem_iff.mpr h2.1) _).trans (ex.trans ih)
theorem Val.bound {ns : List Str} (hn : ns.Nodup) {zs : List (Str × StepT)} (h : Val ns zs) : (runZ ns zs).2.1 ≤ zs.length * ns.length ∧ (runZ ns zs).2.2.1 ≤ zs.length * 3 ∧ (runZ ns zs).2.2.2 ≤ zs.length * ns.length := by
  induction h with
  | nil => exact ⟨Nat.zero_le _, Nat.zero_le _, Nat.zero_le _⟩
  | snoc h1 h2 ih =>
    rw [run_snoc, List.length_append, List.length_singleton]
    have p := h1.perm hn
    have ex := ex_perm _ h2.2.2.1
    have il := List.idxOf_lt_length_of_mem (ex.mem_iff.mpr h2.1)
    rw [ex.length_eq, p.length_eq] at il
    have q := h2.2.1
    unfold stZ
    simp only [Nat.add_mul, Nat.one_mul]
    omega
theorem zip_item {as : List Str} {pl : List StepT} {j : Nat} {x : PV} (h : (zipP (as.map .str) (pl.map stepP))[j]? = some x) : ∃ z : Str × StepT, (as.zip pl)[j]? = some z ∧ x = .tuple [.str z.1, stepP z.2] := by
  obtain ⟨a, b, e1, e2, rfl⟩ := zipP_get h
  rw [List.getElem?_map] at e1 e2
  obtain ⟨z, ez, rfl⟩ := Option.map_eq_some_iff.mp e1
  obtain ⟨w, ew, rfl⟩ := Option.map_eq_some_iff.mp e2
  exact ⟨(z, w), by rw [List.getElem?_zip_eq_some]; exact ⟨ez, ew⟩, rfl⟩
theorem zipTT {xs ys : List PV} {s : En} {P : List PV → En → Prop} {E : EP'} : zipM [.tuple xs, .tuple ys] s P E = P (zipP xs ys) s := rfl
theorem zip_all {as : List Str} {pl : List StepT} : (as.zip pl).take (0 + (zipP (as.map .str) (pl.map stepP)).length) = as.zip pl := by
  rw [Nat.zero_add, zipP_len, List.length_map, List.length_map]
  exact List.take_of_length_le (by rw [List.length_zip]; exact Nat.le_refl _)
def partsP (s : RunT) : PV := .tuple [.int (s.2.1 : Nat), .int (s.2.2.1 : Nat), .int (s.2.2.2 : Nat)]
def frontS : StepT := ([], 1)
theorem forM_nil {g : Tg} {m : M Out} {s : En} {P : Out → En → Prop} {E : EP'} : FS.forM g m [] s P E = P .nx s := rfl
theorem zip_snoc {as : List Str} {pl : List StepT} {j : Nat} {b : Str} {e : StepT} (hb : as[j]? = some b) (hl : pl.length = j) : (as.take (j + 1)).zip (pl ++ [e]) = (as.take j).zip pl ++ [(b, e)] := by
  have lj := (List.getElem?_eq_some_iff.mp hb).1
  rw [List.take_add_one, hb]
  exact List.zip_append (by rw [List.length_take]; omega)
theorem front_val {ns : List Str} (hn : ns.Nodup) (as : List Str) : (∀ b ∈ as, b ∈ ns) → Val ns (as.zip (List.replicate as.length frontS)) ∧ (runZ ns (as.zip (List.replicate as.length frontS))).1 = ledL ns as ∧ (runZ ns (as.zip (List.replicate as.length frontS))).2.1 = (codeL ns as).sum ∧ (runZ ns (as.zip (List.replicate as.length frontS))).2.2.1 = 0 := by
  refine snoc_ind (P := fun as => (∀ b ∈ as, b ∈ ns) → Val ns (as.zip (List.replicate as.length frontS)) ∧ (runZ ns (as.zip (List.replicate as.length frontS))).1 = ledL ns as ∧ (runZ ns (as.zip (List.replicate as.length frontS))).2.1 = (codeL ns as).sum ∧ (runZ ns (as.zip (List.replicate as.length frontS))).2.2.1 = 0) (fun _ => ⟨.nil, rfl, rfl, rfl⟩) (fun l b ih hs => ?_) as
  obtain ⟨i1, i2, i3, i4⟩ := ih fun z hz => hs z (List.mem_append_left _ hz)
  have ez : (l ++ [b]).zip (List.replicate (l ++ [b]).length frontS) = l.zip (List.replicate l.length frontS) ++ [(b, frontS)] := by
    rw [List.length_append, List.length_singleton, List.replicate_succ']
    exact List.zip_append (by rw [List.length_replicate])
  have p := i1.perm hn
  have hb := p.mem_iff.mpr (hs b (List.mem_append_right _ (List.mem_singleton.mpr rfl)))
  rw [ez, run_snoc]
  refine ⟨.snoc i1 ⟨hb, by show 0 ≤ 3; omega, fun z hz => (List.not_mem_nil hz).elim, Nat.le_refl _, by show 1 ≤ _ + 1; omega⟩, ?_, ?_, ?_⟩
  · show putL (runZ ns (l.zip (List.replicate l.length frontS))).1 b 1 = _
    rw [i2, led_snoc]
    rfl
  · show (runZ ns (l.zip (List.replicate l.length frontS))).2.1 + ((runZ ns (l.zip (List.replicate l.length frontS))).1.idxOf b + 1) = _
    rw [i2, i3, code_append, List.sum_append]
    show _ = _ + (((ledL ns l).idxOf b + 1) + 0)
    omega
  · show (runZ ns (l.zip (List.replicate l.length frontS))).2.2.1 + 0 = 0
    omega
theorem plan_fine {as : List Str} (la : as.length ≤ 12) : Fine 3 1000 (planP (List.replicate as.length frontS)) := fineT (k := 2) (m := 10) (fun v hv => by
  obtain ⟨e, he, rfl⟩ := List.mem_map.mp hv
  rw [List.eq_of_mem_replicate he]
  exact fineT (k := 1) (m := 1) (fun w hw => by
    simp only [List.mem_cons, List.not_mem_nil, or_false] at hw
    rcases hw with rfl | rfl
    · exact fineT (k := 0) (m := 0) (fun w hw => (List.not_mem_nil hw).elim) (by decide)
    · exact fineI (by decide)) (by decide)) (by rw [List.length_map, List.length_replicate]; omega)
def intsP (l : List Nat) : List PV := l.map fun (k : Nat) => .int k
theorem sum_take (l : List Nat) (j : Nat) {x : Nat} (h : l[j]? = some x) : (l.take j).sum + x ≤ l.sum := by
  induction l generalizing j with
  | nil => simp at h
  | cons a l ih =>
    cases j with
    | zero =>
      have h := Option.some.inj h
      subst h
      show 0 + a ≤ a + l.sum
      omega
    | succ j =>
      have := ih j h
      show a + (l.take j).sum + x ≤ a + l.sum
      omega
theorem zipI_item {as : List Str} {pl : List Nat} {j : Nat} {x : PV} (h : (zipP (as.map .str) (intsP pl))[j]? = some x) : ∃ z : Str × Nat, (as.zip pl)[j]? = some z ∧ x = .tuple [.str z.1, .int z.2] := by
  obtain ⟨a, b, e1, e2, rfl⟩ := zipP_get h
  unfold intsP at e2
  rw [List.getElem?_map] at e1 e2
  obtain ⟨z, ez, rfl⟩ := Option.map_eq_some_iff.mp e1
  obtain ⟨w, ew, rfl⟩ := Option.map_eq_some_iff.mp e2
  exact ⟨(z, w), by rw [List.getElem?_zip_eq_some]; exact ⟨ez, ew⟩, rfl⟩
theorem zipI_all {as : List Str} {pl : List Nat} : (as.zip pl).take (0 + (zipP (as.map .str) (intsP pl)).length) = as.zip pl := by
  unfold intsP
  rw [Nat.zero_add, zipP_len, List.length_map, List.length_map]
  exact List.take_of_length_le (by rw [List.length_zip]; exact Nat.le_refl _)
theorem range_snoc2 (p : Nat → Bool) (j : Nat) : (List.range (j + 1)).filter p = (List.range j).filter p ++ if p j then [j] else [] := by
  rw [List.range_succ, List.filter_append]
  cases h : p j <;> simp [h]
theorem set_cut (l : List Nat) (k w : Nat) (hk : k < l.length) : intsP (l.take k) ++ [.int (w : Nat)] ++ intsP (l.drop (k + 1)) = intsP (l.set k w) := by
  have e : l.set k w = l.take k ++ w :: l.drop (k + 1) := List.set_eq_take_append_cons_drop .. |>.trans (by rw [if_pos hk])
  unfold intsP
  rw [e, List.map_append, List.map_cons, List.append_assoc]
  first | done | rfl
end K77
namespace K77
open PySem PySem.Spec PyProof.Rows L2 LamX FS
local macro_rules | `(tactic| decreasing_trivial) => `(tactic| simp -implicitDefEqProofs only [bindA, pureA, okA, optA, needA, andThenA, callA, toEv, toEn, toPv, toPn, toPb, rdMA, rdK_val, rdK_own, rdAA, raK_val, raK_own, raK_well, raK_clo, truthBA, truthIA, truthLA, truthTA, truthNA, asBoolA, notA, ltA, leA, gtA, geA, addA, subA, mulA, modA, mulLI, mulLL, reprXI, toEb, sortTA, sortLA, enumTA, enumLA, lc2A, fdivA, frzNil, frzCons, frz1A, frK_val, frK_own, frK_none, frK_well, frK_clo, neI, neS, eqI, cntLI, toNv, toNn, id_eq, inSA, addSA, cutSA, isi_str, isi_tuple, set2A, set2nn, set2nv, set2vn, eqS, isIA, isNA, isNotIA, isNotNA, intA, absA, negA, lenLA, lenTA, tupA, lstA, tupleLA, tupleTA, listLA, listTA, putOwnA, lenSA, listALA, listATA, listASA, revLA, revTA, itemLA, itemTA, setVA, setVbA, setNA, divmodA, reprA, rdWellA, putWellA, putNA, putTupA, putsNilA, putsConsA, orA, andA, consA, seqA, seqL, seqT, seqS, rng1A, rng2A, endRA, endNA, onlyNxA, powA, intOA, cutLA, cutTA, lcA, callWellA, cntTA, cntLA, seqOnlyL, seqOnlyT, itemsL, itemsT, addLA, addTA, allA, min2A, max2A, ownAtA, owK_own, appA, wellPA, wipeE, fnM, fnW, startE, List.map_cons, List.map_nil, List.cons_append, List.nil_append, List.length_cons, List.length_nil, List.replicate, List.getElem?_cons_zero, List.getElem?_cons_succ, List.set_cons_zero, List.set_cons_succ, Nat.reduceAdd, Nat.reduceSub, Nat.zero_add, Nat.add_zero, if_true, if_false, eq_self, Bool.false_eq_true, reduceIte, Bool.not_true, Bool.not_false, Option.map_some, true_and, and_true, isi_int_int, isi_int_bool, set3vvn, set3vvv, set3vnv, set3vnn, set3nnn, strOnlyA, lrg1A, lrg2A, wordsA, splitA, eqTT, neTT, eqLnil, neLnil, dcMA, dcK_dic, dcK_dcf, dicMA, dicK_dic, inDA, getD2A, setDA, frzDA, fzK_dic, fzK_dcf, dispKA, dispTA, setDnA, setDfA, toNdn, toNdf, rdK_dcf, raK_dcf, set2vd, set2dv, set2nd, set2dn, set3dnd, set3dnv])
theorem t_draw {n : Int} {P : PV → Prop} {E : EP'} (h1 : 0 < n) (h2 : n < 1073741824) (h : ∀ i : Int, 0 ≤ i → i < n → P (.int i)) : D__law_draw [.well, .val (.int n)] P E := by
  unfold D__law_draw m__law_draw N__law_draw
  decreasing_trivial
  refine ⟨by decide, fun x hx => ?_⟩
  have hx0 : 0 ≤ x := hx.1
  by_cases hp : 0 < x
  · rw [decide_eq_true hp]
    decreasing_trivial
    refine ⟨by decide, fun y hy => ?_⟩
    have hy0 : 0 ≤ y := hy.1
    refine ⟨⟨h1, h2⟩, ⟨by decide, Int.ediv_nonneg hy0 (by omega), fun z => by cases z⟩, ?_⟩
    exact h _ (Int.emod_nonneg _ (by omega)) (Int.emod_lt_of_pos _ h1)
  · rw [decide_eq_false hp]
    decreasing_trivial
    have wn : ∀ X : Int, WellN 1 (X % 2147483563) := fun X => ⟨Int.emod_nonneg _ (by decide), fun _ => by have := Int.emod_lt_of_pos X (show (0 : Int) < 2147483563 by decide); omega⟩
    refine ⟨by decide, fun a ha => ⟨⟨by decide, ⟨by have := ha.1; omega, fun z => by cases z⟩⟩, by decide, fun y hy => ⟨.inl (cmul (by decide) (by decide)), by decide, fun b hb => ⟨.inl (cmul' (by decide) (by decide)), by decide, by decide, .inl (cmul (by omega) (by omega)), by decide, fun c hc =>
      ⟨by decide, ⟨by decide, wn _⟩, by decide, fun e he => ⟨⟨by decide, by decide⟩, h1, h _ (Int.emod_nonneg _ (by omega)) (Int.emod_lt_of_pos _ h1)⟩⟩⟩⟩⟩⟩
theorem t_well {ns : List Int} {k : Int} {P : Int → Int → Int → Prop} (hk : 0 ≤ k) (hl : ns.length ≤ sizeLine) (h : ∀ x y z, WellN 0 x → WellN 1 y → WellN 2 z → P x y z) : D__law_well [.val (.list (ns.map PyData.int)), .val (.int k)] P := by
  unfold D__law_well m__law_well N__law_well
  decreasing_trivial
  refine ⟨.inl (cmul' (by decide) (by decide)), by rw [List.length_map]; exact hl, ?_⟩
  refine forM_inv (fun _ s => ∃ m c, s = [some (.val (.list (ns.map PyData.int))), some (.val (.int k)), some (.val (.int m)), c, none]) _ 0 _ ⟨_, _, rfl⟩ (fun j x s K e ⟨m, c, es⟩ k1 k2 k3 k4 => ?_) fun s ⟨m, c, es⟩ => ?_
  · clear k2 k3 k4
    subst es
    have hx := cut_mem (List.mem_of_getElem? e)
    obtain ⟨i, _, rfl⟩ := List.mem_map.mp hx
    refine ⟨_, rfl, ?_⟩
    decreasing_trivial
    refine ⟨.inl (cmul (by decide) (by decide)), by decide, by decide, ?_⟩
    exact k1 _ ⟨_, _, rfl⟩
  · subst es
    decreasing_trivial
    have w1 : ∀ X : Int, WellN 1 (X % 2147483563) := fun X => ⟨Int.emod_nonneg _ (by decide), fun _ => by have := Int.emod_lt_of_pos X (show (0 : Int) < 2147483563 by decide); omega⟩
    have w2 : WellN 2 0 := ⟨by decide, fun z => by cases z⟩
    have w0 : ∀ x : Int, 0 ≤ x → WellN 0 x := fun x z => ⟨z, fun z => by cases z⟩
    rw [List.length_map]
    have fin : ∀ (o X : Int) (c : Option FS.Slot), (if decide (o < 0) = true then (pure true : M Bool) else ((rdM 4 >>= toP) >>= fun x => (((((pure (Res.val (PyData.int 10)) : M Res) >>= toP) >>= fun x => ((pure (Res.val (PyData.int 15)) : M Res) >>= toP) >>= fun y => powM x y) >>= toP)) >>= fun y => geM x y) >>= asBool) [some (Slot.val (PyData.list (List.map PyData.int ns))), some (Slot.val (PyData.int k)), some (Slot.val (PyData.int (X % 2147483563))), c, some (Slot.val (PyData.int o))]
        (fun a s' => ((if a = true then rdM 4 >>= toP >>= absM else pure (Res.val (PyData.int 0))) : M Res) s' (fun a s' => toE a s' (fun a s' => rdK 2 s'[2]? (fun a_1 s' => toE a_1 s' (fun a_2 s' => 3 ≤ sizeLine ∧ wellP P (Res.new [a, a_2, PyData.int 0]) s') NoE) s') NoE) NoE) NoE := fun o X c => by
      by_cases h1 : o < 0
      · rw [decide_eq_true h1]
        decreasing_trivial
        exact ⟨by decide, h _ _ _ (w0 _ (by rw [if_pos h1]; omega)) (w1 _) w2⟩
      · rw [decide_eq_false h1]
        decreasing_trivial
        refine ⟨⟨by decide, by decide, by decide⟩, ?_⟩
        by_cases h2 : 10 ^ (15 : Int).toNat ≤ o
        · rw [decide_eq_true h2]
          decreasing_trivial
          exact ⟨by decide, h _ _ _ (w0 _ (by rw [if_neg h1]; omega)) (w1 _) w2⟩
        · rw [decide_eq_false h2]
          decreasing_trivial
          exact ⟨by decide, h _ _ _ (w0 _ (by decide)) (w1 _) w2⟩
    by_cases hn : k < (ns.length : Int)
    · rw [decide_eq_true hn]
      decreasing_trivial
      rw [atI_lt hk (by rw [List.length_map]; exact hn), List.getElem?_map, List.getElem?_eq_getElem (by omega)]
      decreasing_trivial
      refine ⟨.inl (cmul (by decide) (by decide)), by decide, .inl (cmul (by decide) (by decide)), by decide, ?_⟩
      exact fin _ _ _
    · rw [decide_eq_false hn]
      decreasing_trivial
      refine ⟨.inl (cmul (by decide) (by decide)), by decide, .inl (cmul (by decide) (by decide)), by decide, ?_⟩
      exact fin _ _ _
theorem t_of {xs : List PV} {v : PV} (hv : v = .list xs ∨ v = .tuple xs) {P : PV → Prop} {E : EP'} (h0 : 0 < xs.length) (h1 : xs.length < 1073741824) (h : ∀ d ∈ xs, P d) : D__law_of [.well, .val v] P E := by
  unfold D__law_of m__law_of N__law_of
  rcases hv with rfl | rfl <;> (
    decreasing_trivial
    refine t_draw (by omega) (by omega) fun i h2 h3 => ?_
    decreasing_trivial
    rw [atI_lt h2 h3, List.getElem?_eq_getElem (by omega)]
    decreasing_trivial
    exact h _ (List.getElem_mem _))
theorem isiA {T t : String} {b : Bool} {d : PV} (ht : tyP d = some t) (hk : L2.kitB t T = some b) {s : En} {P : Res → En → Prop} {E : EP'} : isiM T d s P E = P (.val (.bool b)) s := by
  unfold isiM
  show optM (tyP d) s (fun t s => optM (L2.kitB t T) s (fun b s => P (.val (.bool b)) s) E) E = _
  rw [ht]
  show optM (L2.kitB t T) s (fun b s => P (.val (.bool b)) s) E = _
  rw [hk]
  rfl
theorem isi_st {z : Str} {s : En} {P : Res → En → Prop} {E : EP'} : isiM "tuple" (.str z) s P E = P (.val (.bool false)) s := isiA rfl (by decide +kernel)
theorem isi_sb {z : Str} {s : En} {P : Res → En → Prop} {E : EP'} : isiM "bool" (.str z) s P E = P (.val (.bool false)) s := isiA rfl (by decide +kernel)
theorem isi_si {z : Str} {s : En} {P : Res → En → Prop} {E : EP'} : isiM "int" (.str z) s P E = P (.val (.bool false)) s := isiA rfl (by decide +kernel)
theorem isi_it {z : Int} {s : En} {P : Res → En → Prop} {E : EP'} : isiM "tuple" (.int z) s P E = P (.val (.bool false)) s := isiA rfl (by decide +kernel)
theorem isi_ib {z : Int} {s : En} {P : Res → En → Prop} {E : EP'} : isiM "bool" (.int z) s P E = P (.val (.bool false)) s := isiA rfl (by decide +kernel)
theorem isi_ii {z : Int} {s : En} {P : Res → En → Prop} {E : EP'} : isiM "int" (.int z) s P E = P (.val (.bool true)) s := isiA rfl (by decide +kernel)
theorem isi_tt {z : List PV} {s : En} {P : Res → En → Prop} {E : EP'} : isiM "tuple" (.tuple z) s P E = P (.val (.bool true)) s := isiA rfl (by decide +kernel)
theorem t_law_same0 {n : Nat} {a : PV} (ha : (∃ z, a = .str z) ∨ (∃ i, a = .int i)) {P : PV → Prop} {E : EP'} (h : P (.bool true)) : DR__law_same (n + 1) [.val a, .val a] P E := by
  show fnM N__law_same (m__law_same (DR__law_same n)) [.val a, .val a] P E
  unfold m__law_same N__law_same
  try decreasing_trivial
  rcases ha with ⟨z, rfl⟩ | ⟨i, rfl⟩
  · rw [isi_st]
    try decreasing_trivial
    repeat (rw [isi_sb]; try decreasing_trivial)
    refine neSelf rfl (by decide) ?_
    try decreasing_trivial
    repeat (rw [isi_si]; try decreasing_trivial)
    refine neSelf rfl (by decide) ?_
    try decreasing_trivial
    repeat (rw [isi_st]; try decreasing_trivial)
    refine eqSelf rfl (by decide) ?_
    try decreasing_trivial
    rw [beq_self_eq_true]
    first | done | exact h
  · rw [isi_it]
    try decreasing_trivial
    repeat (rw [isi_ib]; try decreasing_trivial)
    refine neSelf rfl (by decide) ?_
    try decreasing_trivial
    repeat (rw [isi_ii]; try decreasing_trivial)
    refine neSelf rfl (by decide) ?_
    try decreasing_trivial
    repeat (rw [isi_it]; try decreasing_trivial)
    refine eqSelf rfl (by decide) ?_
    try decreasing_trivial
    rw [beq_self_eq_true]
    first | done | exact h
theorem laps_all {n : Nat} {s : En} {P : List Bool → En → Prop} {E : EP'} : optM (boolsP ((rngP 0 n).mapIdx fun (_ : Nat) (_ : PV) => PyData.bool true)) s P E = P (List.replicate n true) s := by
  have e : ((rngP 0 n).mapIdx fun (_ : Nat) (_ : PV) => PyData.bool true) = List.replicate n (PyData.bool true) := by
    refine List.ext_getElem (by simp [rng_len]) fun i h1 h2 => ?_
    simp
  rw [e, bools_yes]
  rfl
theorem t_law_sameT {n : Nat} {xs : List PV} (hl : xs.length ≤ 1000) (hx : ∀ x ∈ xs, ∀ (P : PV → Prop) (E : EP'), P (.bool true) → DR__law_same n [.val x, .val x] P E) {P : PV → Prop} {E : EP'} (h : P (.bool true)) : DR__law_same (n + 1) [.val (.tuple xs), .val (.tuple xs)] P E := by
  have sz : sizeLine = 16777216 := rfl
  show fnM N__law_same (m__law_same (DR__law_same n)) [.val (.tuple xs), .val (.tuple xs)] P E
  unfold m__law_same N__law_same
  try decreasing_trivial
  rw [beq_self_eq_true, if_pos rfl]
  try decreasing_trivial
  refine ⟨by omega, by rw [rng_len]; omega, lc_map (fun _ _ => .bool true) _ (fun j x e => ?_) ?_⟩
  · obtain ⟨hj, rfl⟩ := rng0_get e
    refine ⟨_, rfl, fun L hL => ?_⟩
    try decreasing_trivial
    have hj : j < xs.length := by omega
    rw [L2.atI_nat (List.getElem?_eq_getElem hj)]
    try decreasing_trivial
    rw [L2.atI_nat (List.getElem?_eq_getElem hj)]
    try decreasing_trivial
    exact hx _ (List.getElem_mem hj) _ _ hL
  · try decreasing_trivial
    rw [laps_all]
    rw [show (List.replicate (((xs.length : Nat) : Int)).toNat true).all id = true from List.all_eq_true.mpr fun b hb => (List.mem_replicate.mp hb).2]
    exact h
def TxtP (a : PV) : Prop := (∃ z, a = .str z) ∨ (∃ i, a = .int i)
def SameP : Nat → PV → Prop
  | 0, a => TxtP a
  | n + 1, a => ∃ xs, a = .tuple xs ∧ xs.length ≤ 1000 ∧ ∀ x ∈ xs, SameP n x ∨ TxtP x
theorem t_law_sameN : ∀ (n m : Nat) (a : PV), SameP n a → n < m → ∀ (P : PV → Prop) (E : EP'), P (.bool true) → DR__law_same m [.val a, .val a] P E
  | 0, m + 1, a, ha, _, P, E, h => t_law_same0 ha h
  | n + 1, m + 1, a, ⟨xs, e, hl, hx⟩, hn, P, E, h => by
    subst e
    refine t_law_sameT hl (fun x hm P E h => ?_) h
    rcases hx x hm with q | q
    · exact t_law_sameN n m x q (by omega) P E h
    · exact t_law_sameN 0 m x q (by omega) P E h
theorem t_law_same {a b : PV} (n : Nat) (hn : n < 6) (ha : SameP n a) (e : a = b) {P : PV → Prop} {E : EP'} (h : P (.bool true)) : D__law_same [.val a, .val b] P E := by
  subst e
  exact t_law_sameN n 6 a ha hn P E h
theorem same_strs {l : List Str} (h : l.length ≤ 1000) : SameP 1 (.tuple (l.map .str)) := ⟨_, rfl, by rw [List.length_map]; exact h, fun x hx => by
  obtain ⟨z, _, rfl⟩ := List.mem_map.mp hx
  exact .inr (.inl ⟨z, rfl⟩)⟩
theorem same_nats {l : List Nat} (h : l.length ≤ 1000) : SameP 1 (.tuple (l.map fun (k : Nat) => PyData.int k)) := ⟨_, rfl, by rw [List.length_map]; exact h, fun x hx => by
  obtain ⟨z, _, rfl⟩ := List.mem_map.mp hx
  exact .inr (.inr ⟨_, rfl⟩)⟩
theorem same_up : ∀ (n : Nat) (a : PV), SameP (n + 1) a → SameP (n + 2) a
  | 0, a, ⟨xs, e, hl, hx⟩ => ⟨xs, e, hl, fun x hm => .inr ((hx x hm).elim id id)⟩
  | n + 1, a, ⟨xs, e, hl, hx⟩ => ⟨xs, e, hl, fun x hm => (hx x hm).elim (fun q => .inl (same_up n x q)) .inr⟩
theorem same_rows {l : List (List Str)} (h : l.length ≤ 1000) (g : ∀ r ∈ l, r.length ≤ 1000) : SameP 2 (.tuple (l.map shP)) := ⟨_, rfl, by rw [List.length_map]; exact h, fun x hx => by
  obtain ⟨z, hz, rfl⟩ := List.mem_map.mp hx
  exact .inl (same_strs (g z hz))⟩
theorem same_pair {n : Nat} {a b : PV} (ha : SameP n a ∨ TxtP a) (hb : SameP n b ∨ TxtP b) : SameP (n + 1) (.tuple [a, b]) := ⟨_, rfl, (show 2 ≤ 1000 by decide), fun x hx => by
  simp only [List.mem_cons, List.not_mem_nil, or_false] at hx
  rcases hx with rfl | rfl
  · exact ha
  · exact hb⟩
theorem t_law_asked {ns : List Str} {b : Str} (h2 : ns.length ≤ 100) {P : PV → Prop} {E : EP'} (h : P (.tuple ((front ns b).map .str))) : D__law_asked [.val (.tuple (ns.map .str)), .val (.str b)] P E := by
  have sz : sizeLine = 16777216 := rfl
  unfold D__law_asked m__law_asked N__law_asked
  try decreasing_trivial
  refine ⟨by decide, by rw [List.length_map]; omega, ?_⟩
  refine lc_filterL (α := Str) .str (fun z => z != b) .str ns (fun z hz => ⟨_, rfl, fun K hK => ?_, fun L hL => ?_⟩) ?_
  · try decreasing_trivial
    exact hK
  · try decreasing_trivial
    exact hL
  · have fl := List.length_filter_le (fun z => z != b) ns
    try decreasing_trivial
    refine ⟨by rw [List.length_map]; omega, ?_⟩
    exact h
theorem t_law_shuffled {xs : List Str} (hn : xs.Nodup) (hl : xs.length ≤ 30) {P : PV → Prop} {E : EP'} (h : ∀ ys : List Str, ys.Perm xs → P (.tuple (ys.map .str))) : D__law_shuffled [.well, .val (.tuple (xs.map .str))] P E := by
  have sz : sizeLine = 16777216 := rfl
  unfold D__law_shuffled m__law_shuffled N__law_shuffled
  try decreasing_trivial
  refine ⟨by rw [List.length_map]; omega, Nat.zero_le _, by rw [List.length_map]; omega, ?_⟩
  rw [List.length_map]
  refine forM_inv (fun i s => ∃ (left found : List Str) (o4 o5 : Option FS.Slot), (found ++ left).Perm xs ∧ found.length = i ∧ s = [some .well, some (.val (.tuple (xs.map .str))), some (.own (left.map .str)), some (.val (.tuple (found.map .str))), o4, o5, none]) _ 0 _ ⟨xs, [], _, _, .refl _, rfl, rfl⟩ (fun i x s K e hI k1 k2 k3 k4 => ?_) fun s hI => ?_
  · clear k2 k3 k4
    obtain ⟨left, found, o4, o5, hp, hf, es⟩ := hI
    subst es
    obtain ⟨hi, rfl⟩ := rng0_get e
    have hi : i < xs.length := by omega
    rw [Nat.zero_add] at k1 hf
    have hlen := hp.length_eq
    rw [List.length_append] at hlen
    refine ⟨_, rfl, ?_⟩
    try decreasing_trivial
    refine t_of (.inl rfl) (by rw [List.length_map]; omega) (by rw [List.length_map]; omega) fun d hd => ?_
    obtain ⟨b, hb, rfl⟩ := List.mem_map.mp hd
    try decreasing_trivial
    refine ⟨by decide, by rw [List.length_map]; omega, by rw [List.length_map]; omega, ?_⟩
    refine lc_filterL (α := Str) .str (fun z => z != b) .str left (fun z hz => ⟨_, rfl, fun K hK => ?_, fun L hL => ?_⟩) ?_
    · try decreasing_trivial
      exact hK
    · try decreasing_trivial
      exact hL
    · have nl : left.Nodup := (List.nodup_append.mp (hp.nodup_iff.mpr hn)).2.1
      refine k1 _ ⟨left.filter fun z => z != b, found ++ [b], _, _, ?_, by rw [List.length_append, List.length_singleton]; omega, by rw [List.map_append]; rfl⟩
      rw [List.append_assoc]
      exact (List.Perm.append_left found (front_perm nl hb)).trans hp
  · obtain ⟨left, found, o4, o5, hp, hf, es⟩ := hI
    subst es
    rw [rng_len, Nat.zero_add] at hf
    have hlen := hp.length_eq
    rw [List.length_append] at hlen
    have : left = [] := List.eq_nil_of_length_eq_zero (by omega)
    subst this
    rw [List.append_nil] at hp
    try decreasing_trivial
    exact h _ hp
def wordsD : List Str := Txt.split ("ahead all as ask at behind book by code cost end first fixed front in is last leave never next none of" : Str) (" " : Str) ++ Txt.split ("order place put shelf step take times to undo with" : Str) (" " : Str)
theorem wordsD_all : ∀ w ∈ kWords, w ∈ wordsD := by decide +kernel
theorem wordsD_len : wordsD.length ≤ 64 := by decide +kernel
def NameZ (z : Str) (c : Nat) : Prop := nameB z = true ∧ z.length ≤ 8 ∧ z.cps.toList.getLast? = some c ∧ Small z
theorem names_nodupZ {ns : List Str} (h : ∀ (j : Nat) z, ns[j]? = some z → NameZ z (97 + j)) : ns.Nodup := by
  rw [List.Nodup, List.pairwise_iff_getElem]
  intro i j hi hj hij e
  have q1 := (h i ns[i] (List.getElem?_eq_getElem hi)).2.2.1
  have q2 := (h j ns[j] (List.getElem?_eq_getElem hj)).2.2.1
  rw [e, q2] at q1
  have := Option.some.inj q1
  omega
theorem q_name : ∀ j, j < 26 → nameB (("q" : Str) ++ (⟨#[97 + j]⟩ : Str)) = true := by decide +kernel
theorem t_ofS {P : PV → Prop} {E : EP'} (h : ∀ c : Nat, c < 26 → P (.str ⟨#[97 + c]⟩)) : D__law_of [.well, .val (.str small)] P E := by
  unfold D__law_of m__law_of N__law_of
  try decreasing_trivial
  refine ⟨by decide, ?_⟩
  refine t_draw (by decide) (by decide) fun i i0 i1 => ?_
  try decreasing_trivial
  have sl : small.length = 26 := by decide +kernel
  refine small_item i0 (by omega) ?_
  try decreasing_trivial
  exact h _ (by omega)
theorem nameZ_q {j : Nat} (h : j < 26) : NameZ (("q" : Str) ++ (⟨#[97 + j]⟩ : Str)) (97 + j) := by
  have el : (("q" : Str) ++ (⟨#[97 + j]⟩ : Str)).cps.toList = [113, 97 + j] := by
    rw [str_app, Array.toList_append]
    rfl
  refine ⟨q_name j h, ?_, by rw [el]; rfl, fun c hc => ?_⟩
  · show (("q" : Str) ++ (⟨#[97 + j]⟩ : Str)).cps.size ≤ 8
    rw [← Array.length_toList, el]
    exact (show 2 ≤ 8 by decide)
  · rw [el] at hc
    simp only [List.mem_cons, List.not_mem_nil, or_false] at hc
    rcases hc with rfl | rfl <;> omega
theorem nameZ_z {z : Str} {j : Nat} (h : j < 26) (hz : Small z) (hl : z.length ≤ 7) (hw : z ++ (⟨#[97 + j]⟩ : Str) ∉ wordsD) : NameZ (z ++ (⟨#[97 + j]⟩ : Str)) (97 + j) := by
  have el : (z ++ (⟨#[97 + j]⟩ : Str)).cps.toList = z.cps.toList ++ [97 + j] := by
    rw [str_app, Array.toList_append]
  have ez : (z ++ (⟨#[97 + j]⟩ : Str)).length = z.length + 1 := by
    show (z ++ (⟨#[97 + j]⟩ : Str)).cps.size = z.cps.size + 1
    rw [str_app, Array.size_append]
    rfl
  have sm : Small (z ++ (⟨#[97 + j]⟩ : Str)) := fun c hc => by
    rw [el, List.mem_append] at hc
    rcases hc with hc | hc
    · exact hz c hc
    · rw [List.mem_singleton] at hc
      omega
  exact ⟨name_ok (by omega) (by omega) sm fun q => hw (wordsD_all _ q), by omega, by rw [el]; simp, sm⟩
theorem t_law_names {many : Int} (h0 : 0 ≤ many) (h1 : many ≤ 7) {P : PV → Prop} {E : EP'} (h : ∀ ns : List Str, Names ns → ns.length = many.toNat → P (.tuple (ns.map .str))) : D__law_names [.well, .val (.int many)] P E := by
  have sz : sizeLine = 16777216 := rfl
  unfold D__law_names m__law_names N__law_names
  try decreasing_trivial
  refine ⟨Nat.zero_le _, ⟨by decide, by decide⟩, ⟨by decide, by decide⟩, by rw [List.length_map, List.length_map]; decide +kernel, ⟨by omega, by omega⟩, ?_⟩
  rw [← List.map_append]
  refine forM_inv (fun i s => ∃ (ns : List Str) (o5 o6 o7 : Option FS.Slot), ns.length = i ∧ (∀ (j : Nat) z, ns[j]? = some z → NameZ z (97 + j)) ∧ s = [some .well, some (.val (.int many)), some (.own (ns.map .str)), some (.val (.str small)), some (.own (wordsD.map .str)), o5, o6, o7]) _ 0 _ ⟨[], _, _, _, rfl, fun j z e => (by simp at e), rfl⟩ (fun i x s K e hI k1 k2 k3 k4 => ?_) fun s hI => ?_
  · clear k2 k3 k4
    obtain ⟨ns, o5, o6, o7, hl, hz, es⟩ := hI
    subst es
    obtain ⟨hi, rfl⟩ := rng0_get e
    have hi : i < 7 := by omega
    rw [Nat.zero_add] at k1 hl
    refine ⟨_, rfl, ?_⟩
    try decreasing_trivial
    refine ⟨by decide, ?_⟩
    refine t_of (.inr rfl) (by decide) (by decide) fun w hw => ?_
    have hw' : ∃ m : Nat, m ≤ 7 ∧ w = .int m := by
      simp only [List.mem_cons, List.not_mem_nil, or_false] at hw
      rcases hw with rfl | rfl | rfl | rfl | rfl
      · exact ⟨0, by decide, rfl⟩
      · exact ⟨1, by decide, rfl⟩
      · exact ⟨2, by decide, rfl⟩
      · exact ⟨3, by decide, rfl⟩
      · exact ⟨7, by decide, rfl⟩
    obtain ⟨m, hm, rfl⟩ := hw'
    try decreasing_trivial
    refine ⟨⟨by omega, by omega⟩, ?_⟩
    refine forM_inv (fun j s => ∃ (z : Str) (o7 : Option FS.Slot), Small z ∧ z.length = j ∧ s = [some .well, some (.val (.int many)), some (.own (ns.map .str)), some (.val (.str small)), some (.own (wordsD.map .str)), some (.val (.int (i : Nat))), some (.val (.str z)), o7]) _ 0 _ ⟨("" : Str), _, fun c hc => (by cases hc), rfl, rfl⟩ (fun j x s K2 e2 hI2 q1 q2 q3 q4 => ?_) fun s hI2 => ?_
    · clear q2 q3 q4
      obtain ⟨z, o7, hz2, hzl, es⟩ := hI2
      subst es
      obtain ⟨hj, rfl⟩ := rng0_get e2
      rw [Nat.zero_add] at q1 hzl
      refine ⟨_, rfl, ?_⟩
      try decreasing_trivial
      refine t_ofS fun c hc => ?_
      try decreasing_trivial
      have el : (z ++ (⟨#[97 + c]⟩ : Str)).cps.toList = z.cps.toList ++ [97 + c] := by
        rw [str_app, Array.toList_append]
      have ez : (z ++ (⟨#[97 + c]⟩ : Str)).length = z.length + 1 := by
        show (z ++ (⟨#[97 + c]⟩ : Str)).cps.size = z.cps.size + 1
        rw [str_app, Array.size_append]
        rfl
      refine ⟨by show z.length + 1 ≤ sizeLine; omega, ?_⟩
      refine q1 _ ⟨z ++ (⟨#[97 + c]⟩ : Str), _, fun d hd => ?_, by omega, rfl⟩
      rw [el, List.mem_append] at hd
      rcases hd with hd | hd
      · exact hz2 d hd
      · rw [List.mem_singleton] at hd
        omega
    · obtain ⟨z, o7, hz2, hzl, es⟩ := hI2
      subst es
      rw [rng_len, Nat.zero_add] at hzl
      try decreasing_trivial
      refine small_item (by omega) (by omega) ?_
      rw [show ((i : Nat) : Int).toNat = i by omega]
      try decreasing_trivial
      refine ⟨by show z.length + 1 ≤ sizeLine; omega, ?_⟩
      refine inLS ?_
      try decreasing_trivial
      have fin : ∀ y, NameZ y (97 + i) → ((ns.map PyData.str).length < sizeLine ∧ K .nx [some .well, some (.val (.int many)), some (.own (ns.map .str ++ [.str y])), some (.val (.str small)), some (.own (wordsD.map .str)), some (.val (.int (i : Nat))), some (.val (.str (z ++ (⟨#[97 + i]⟩ : Str)))), o7]) := fun y hy => by
        refine ⟨by rw [List.length_map]; omega, ?_⟩
        refine k1 _ ⟨ns ++ [y], some (.val (.int (i : Nat))), some (.val (.str (z ++ (⟨#[97 + i]⟩ : Str)))), o7, by rw [List.length_append, List.length_singleton]; omega, fun j w e => ?_, by rw [List.map_append]; rfl⟩
        by_cases c : j < ns.length
        · rw [List.getElem?_append_left c] at e
          exact hz j w e
        · rw [List.getElem?_append_right (by omega)] at e
          have hj : j - ns.length = 0 := by
            have := (List.getElem?_eq_some_iff.mp e).1
            simp at this
            omega
          rw [hj] at e
          cases e
          rw [show j = i by omega]
          exact hy
      cases c : wordsD.contains (z ++ (⟨#[97 + i]⟩ : Str)) with
      | true =>
        rw [if_pos rfl]
        try decreasing_trivial
        refine small_item (by omega) (by omega) ?_
        rw [show ((i : Nat) : Int).toNat = i by omega]
        try decreasing_trivial
        refine ⟨(show 1 + 1 ≤ sizeLine by decide), ?_⟩
        exact fin _ (nameZ_q (by omega))
      | false =>
        rw [if_neg Bool.false_ne_true]
        try decreasing_trivial
        refine fin _ (nameZ_z (by omega) hz2 (by omega) fun q => ?_)
        rw [List.contains_iff_mem.mpr q] at c
        cases c
  · obtain ⟨ns, o5, o6, o7, hl, hz, es⟩ := hI
    subst es
    rw [rng_len, Nat.zero_add] at hl
    try decreasing_trivial
    try refine ⟨by rw [List.length_map]; omega, ?_⟩
    refine h ns ⟨names_nodupZ hz, fun n hn => ?_⟩ hl
    obtain ⟨j, hj, e⟩ := List.mem_iff_getElem.mp hn
    have q := hz j n (by rw [List.getElem?_eq_getElem hj, e])
    exact ⟨q.1, q.2.1, q.2.2.2⟩
theorem t_law_shelf {least most : Int} {P : PV → Prop} {E : EP'} (h0 : 1 ≤ least) (h1 : least ≤ most) (h2 : most ≤ 7) (h : ∀ ns : List Str, Names ns → least ≤ (ns.length : Int) → (ns.length : Int) ≤ most → P (.tuple (ns.map .str))) : D__law_shelf [.well, .val (.int least), .val (.int most)] P E := by
  unfold D__law_shelf m__law_shelf N__law_shelf
  try decreasing_trivial
  refine t_draw (by omega) (by omega) fun i i0 i1 => ?_
  try decreasing_trivial
  refine t_law_names (by omega) (by omega) fun ns hn hl => ?_
  try decreasing_trivial
  refine t_law_shuffled hn.1 (by omega) fun ys hp => ?_
  try decreasing_trivial
  refine h ys (hn.perm hp) ?_ ?_
  · rw [hp.length_eq]
    omega
  · rw [hp.length_eq]
    omega
theorem t_law_askings {ns : List Str} {most : Int} (h1 : 1 ≤ ns.length) (h2 : ns.length ≤ 100) (m0 : 0 ≤ most) (m1 : most ≤ 100) {P : PV → Prop} {E : EP'} (h : ∀ as : List Str, (∀ b ∈ as, b ∈ ns) → (as.length : Int) ≤ most → P (.tuple (as.map .str))) : D__law_askings [.well, .val (.tuple (ns.map .str)), .val (.int most)] P E := by
  have sz : sizeLine = 16777216 := rfl
  unfold D__law_askings m__law_askings N__law_askings
  try decreasing_trivial
  refine t_draw (by omega) (by omega) fun i i0 i1 => ?_
  try decreasing_trivial
  refine ⟨⟨by omega, by omega⟩, by rw [rng_len]; omega, ?_⟩
  refine lc_inv (fun m acc => ∃ as : List Str, acc = as.map .str ∧ as.length = m ∧ ∀ b ∈ as, b ∈ ns) _ 0 [] ⟨[], rfl, rfl, fun b hb => by cases hb⟩ (fun j x acc e ⟨as, ea, la, ha⟩ => ?_) fun acc ⟨as, ea, la, ha⟩ => ?_
  · obtain ⟨_, rfl⟩ := rng0_get e
    refine ⟨_, rfl, fun K k1 k2 => k1 fun L hL => ?_⟩
    try decreasing_trivial
    refine t_of (.inr rfl) (by rw [List.length_map]; omega) (by rw [List.length_map]; omega) fun d hd => ?_
    obtain ⟨z, hz, rfl⟩ := List.mem_map.mp hd
    refine hL _ ⟨as ++ [z], by rw [ea, List.map_append]; rfl, by rw [List.length_append, la]; rfl, fun b hb => ?_⟩
    rcases List.mem_append.mp hb with hb | hb
    · exact ha b hb
    · rw [List.mem_singleton.mp hb]
      exact hz
  · rw [ea]
    rw [rng_len] at la
    exact h as ha (by omega)
theorem law_holdsD (he : ∀ {P : PV → Prop} {E : EP'}, P (.bool true) → D__law_right [.well] P E) {ns : List Int} (hl : ns.length ≤ 63) : D_law [.val (.list (ns.map PyData.int))] (fun d => d = .bool true) NoE := by
  have sz : sizeLine = 16777216 := rfl
  unfold D_law m_law N_law
  try decreasing_trivial
  refine ⟨⟨by decide, by decide⟩, ⟨by rw [rng_len]; decide, fun x hx => ?_⟩, fun D => ?_⟩
  · obtain ⟨j, hj⟩ := List.mem_iff_getElem?.mp hx
    obtain ⟨hj, rfl⟩ := rng0_get hj
    refine ⟨_, rfl, ?_⟩
    try decreasing_trivial
    exact ⟨⟨rfl, t_well (by omega) (by omega) fun x y z hx hy hz => ⟨hx, hy, hz⟩⟩, rfl⟩
  · try decreasing_trivial
    refine ⟨⟨by decide, by decide⟩, by rw [rng_len]; decide, lc_map (fun _ _ => .bool true) _ (fun j x e => ?_) ?_⟩
    · obtain ⟨hj, rfl⟩ := rng0_get e
      refine ⟨_, rfl, fun L hL => ?_⟩
      try decreasing_trivial
      unfold wellIx
      refine ⟨D, _, rfl, ?_⟩
      try decreasing_trivial
      rw [rng_len]
      exact ⟨by decide, ⟨by omega, by show _ < ((2 : Nat) : Int); omega⟩, he hL⟩
    · exact laps_end
theorem arr_code (a b : FS.Slot) : arr ps_code (["askings"] : List Str) [a] [b] = [a, b] := rfl
theorem arr_pa (a b c : FS.Slot) : arr ps_places_along (["book"] : List Str) [a, b] [c] = [a, b, c] := rfl
theorem arr_fb (a b c : FS.Slot) : arr ps_farthest_back (["book"] : List Str) [a, b] [c] = [a, b, c] := rfl
theorem arr_tf (a b c : FS.Slot) : arr ps_times_in_front (["book"] : List Str) [a, b] [c] = [a, b, c] := rfl
def placesL (ns as : List Str) (b : Str) : List Nat := (shelvesL ns as).map fun r => r.idxOf b + 1
def natsP (l : List Nat) : List PV := l.map fun (k : Nat) => .int k
theorem places_len (ns as : List Str) (b : Str) : (placesL ns as b).length = as.length + 1 := by unfold placesL; rw [List.length_map, shelves_len]
theorem t_check_followed {ns as : List Str} (hn : Names ns) (h1 : 1 ≤ ns.length) (h2 : ns.length ≤ 7) (hs : ∀ b ∈ as, b ∈ ns) (hl : as.length ≤ 30) {b : Str} (hb : b ∈ ns) {P : PV → Prop} {E : EP'} (h : P .none) : D_check_followed [.val (.tuple (ns.map .str)), .val (.tuple (as.map .str)), .val (.str b)] P E := by
  unfold D_check_followed m_check_followed N_check_followed
  try decreasing_trivial
  refine t_check_asked hn h1 h2 hs hl ?_
  try decreasing_trivial
  refine t_check_book_of hb ?_
  try decreasing_trivial
  first | done | exact h
theorem t_places_by {ns as : List Str} (hn : Names ns) (h2 : ns.length ≤ 7) (hs : ∀ b ∈ as, b ∈ ns) (hl : as.length ≤ 30) {b : Str} (hb : b ∈ ns) {P : PV → Prop} {E : EP'} (h : P (.list (natsP (placesL ns as b)))) : D_places_by [.val (.tuple (ns.map .str)), .val (.tuple (as.map .str)), .val (.str b)] P E := by
  have sz : sizeLine = 16777216 := rfl
  unfold D_places_by m_places_by N_places_by
  try decreasing_trivial
  refine t_shelves_by hn.1 (by omega) (by omega) hs ?_
  try decreasing_trivial
  refine ⟨by rw [List.length_map, shelves_len]; omega, ?_⟩
  refine lc_mapL (α := List Str) shP (fun r => .int ((r.idxOf b + 1 : Nat) : Int)) (shelvesL ns as) (fun r hr => ⟨_, rfl, fun L hL => ?_⟩) ?_
  · try decreasing_trivial
    refine t_place_in (ns := r) ((shelves_mem hn.1 hs r hr).mem_iff.mpr hb) ?_
    exact hL
  · try decreasing_trivial
    have e : natsP (placesL ns as b) = (shelvesL ns as).map fun r => PyData.int ((r.idxOf b + 1 : Nat) : Int) := by
      unfold natsP placesL
      rw [List.map_map]
      rfl
    rw [← e]
    exact h
theorem t_places_along {ns as : List Str} (hn : Names ns) (h1 : 1 ≤ ns.length) (h2 : ns.length ≤ 7) (hs : ∀ b ∈ as, b ∈ ns) (hl : as.length ≤ 30) {b : Str} (hb : b ∈ ns) {P : PV → Prop} {E : EP'} (h : P (.tuple (natsP (placesL ns as b)))) : D_places_along [.val (.tuple (ns.map .str)), .val (.tuple (as.map .str)), .val (.str b)] P E := by
  unfold D_places_along m_places_along N_places_along
  try decreasing_trivial
  refine t_check_followed hn h1 h2 hs hl hb ?_
  try decreasing_trivial
  refine t_places_by hn h2 hs hl hb ?_
  try decreasing_trivial
  first | done | exact h | exact ⟨by unfold natsP; rw [List.length_map, places_len]; exact Nat.le_trans (Nat.succ_le_succ hl) (by decide), h⟩
theorem max_exists : ∀ l : List Nat, 0 < l.length → ∃ m, m ∈ l ∧ ∀ y ∈ l, y ≤ m
  | [a], _ => ⟨a, List.mem_singleton.mpr rfl, fun y hy => by rw [List.mem_singleton.mp hy]; exact Nat.le_refl _⟩
  | a :: b :: t, _ => by
    obtain ⟨m, hm, hy⟩ := max_exists (b :: t) (Nat.succ_pos _)
    by_cases c : m ≤ a
    · refine ⟨a, List.mem_cons_self .., fun y hy' => ?_⟩
      rcases List.mem_cons.mp hy' with rfl | h
      · exact Nat.le_refl _
      · exact Nat.le_trans (hy y h) c
    · refine ⟨m, List.mem_cons_of_mem _ hm, fun y hy' => ?_⟩
      rcases List.mem_cons.mp hy' with rfl | h
      · omega
      · exact hy y h
theorem maxN {l : List Nat} {m : Nat} (hm : m ∈ l) (hy : ∀ y ∈ l, y ≤ m) {s : En} {P : Res → En → Prop} {E : EP'} (h : P (.val (.int (m : Nat))) s) : maxLM (.list (natsP l)) s P E := by
  have e : natsP l = (l.map fun (k : Nat) => (k : Int)).map PyData.int := by
    unfold natsP
    rw [List.map_map]
    rfl
  rw [e, maxLA]
  refine ⟨by rw [List.length_map]; exact List.length_pos_of_mem hm, fun x hx hx2 => ?_⟩
  obtain ⟨k, hk, rfl⟩ := List.mem_map.mp hx
  have a1 := hy k hk
  have a2 := hx2 _ (List.mem_map.mpr ⟨m, hm, rfl⟩)
  rw [show k = m by omega]
  exact h
theorem t_farthest_back {ns as : List Str} (hn : Names ns) (h1 : 1 ≤ ns.length) (h2 : ns.length ≤ 7) (hs : ∀ b ∈ as, b ∈ ns) (hl : as.length ≤ 30) {b : Str} (hb : b ∈ ns) {m : Nat} (hm : m ∈ placesL ns as b) (hy : ∀ y ∈ placesL ns as b, y ≤ m) {P : PV → Prop} {E : EP'} (h : P (.int (m : Nat))) : D_farthest_back [.val (.tuple (ns.map .str)), .val (.tuple (as.map .str)), .val (.str b)] P E := by
  unfold D_farthest_back m_farthest_back N_farthest_back
  try decreasing_trivial
  refine t_check_followed hn h1 h2 hs hl hb ?_
  try decreasing_trivial
  refine t_places_by hn h2 hs hl hb ?_
  try decreasing_trivial
  refine maxN hm hy ?_
  try decreasing_trivial
  first | done | exact h
def frontN (l : List Nat) : Nat := (natsP l).countP fun z => PyData.eqv z (.int 1)
theorem t_times_in_front {ns as : List Str} (hn : Names ns) (h1 : 1 ≤ ns.length) (h2 : ns.length ≤ 7) (hs : ∀ b ∈ as, b ∈ ns) (hl : as.length ≤ 30) {b : Str} (hb : b ∈ ns) {P : PV → Prop} {E : EP'} (h : P (.int (frontN (placesL ns as b) : Nat))) : D_times_in_front [.val (.tuple (ns.map .str)), .val (.tuple (as.map .str)), .val (.str b)] P E := by
  unfold D_times_in_front m_times_in_front N_times_in_front
  try decreasing_trivial
  refine t_check_followed hn h1 h2 hs hl hb ?_
  try decreasing_trivial
  refine t_places_by hn h2 hs hl hb ?_
  try decreasing_trivial
  try rw [cntLI]
  try decreasing_trivial
  first | done | exact h | exact ⟨Nat.le_trans (Nat.min_le_right ..) (by decide), h⟩
theorem t_law_code {ns as : List Str} (hn : ns.Nodup) (h2 : ns.length ≤ 100) (hl : as.length ≤ 100) (hs : ∀ b ∈ as, b ∈ ns) {P : PV → Prop} {E : EP'} (h : P (.tuple (natsP (codeL ns as)))) : D__law_code [.val (.tuple (ns.map .str)), .val (.tuple (as.map .str))] P E := by
  have sz : sizeLine = 16777216 := rfl
  unfold D__law_code m__law_code N__law_code
  try decreasing_trivial
  refine ⟨Nat.zero_le _, ?_⟩
  refine forM_inv (fun j s => ∃ o, s = [some (.val (.tuple ((ledL ns (as.take j)).map .str))), some (.val (.tuple (as.map .str))), some (.val (.tuple (natsP (codeL ns (as.take j))))), o]) _ 0 _ ⟨_, rfl⟩ (fun j x s K e hI k1 k2 k3 k4 => ?_) fun s hI => ?_
  · clear k2 k3 k4
    obtain ⟨o, es⟩ := hI
    subst es
    rw [List.getElem?_map] at e
    obtain ⟨z, ez, rfl⟩ := Option.map_eq_some_iff.mp e
    rw [Nat.zero_add] at k1
    have lj := (List.getElem?_eq_some_iff.mp ez).1
    have hp := led_perm (as := as.take j) hn fun b hb => hs b (List.mem_of_mem_take hb)
    have et : as.take (j + 1) = as.take j ++ [z] := by rw [List.take_add_one, ez]; rfl
    have cl := code_len (as.take j) ns
    rw [List.length_take] at cl
    have ec : codeL ns (as.take j ++ [z]) = codeL ns (as.take j) ++ [(ledL ns (as.take j)).idxOf z + 1] := by
      rw [code_append]
      rfl
    rw [et, led_snoc, ec] at k1
    refine ⟨_, rfl, ?_⟩
    rw [Nat.zero_add]
    try decreasing_trivial
    refine idxTS (hp.mem_iff.mpr (hs z (List.mem_of_getElem? ez))) ?_
    try decreasing_trivial
    refine ⟨by decide, ?_⟩
    refine ⟨by unfold natsP; rw [List.length_map]; omega, ?_⟩
    refine t_law_asked (by rw [hp.length_eq]; omega) ?_
    try decreasing_trivial
    refine k1 _ ⟨some (.val (.str z)), ?_⟩
    unfold natsP
    rw [List.map_append]
    rfl
  · obtain ⟨o, es⟩ := hI
    subst es
    rw [Nat.zero_add, List.length_map, List.take_length]
    try decreasing_trivial
    first | done | exact h
theorem t_law_right {P : PV → Prop} {E : EP'} (h : P (.bool true)) : D__law_right [.well] P E := by
  have sz : sizeLine = 16777216 := rfl
  unfold D__law_right m__law_right N__law_right
  try decreasing_trivial
  refine t_law_shelf (by decide) (by decide) (by decide) fun ns hn h1 h7 => ?_
  have h1 : 1 ≤ ns.length := by omega
  have h7 : ns.length ≤ 7 := by omega
  try decreasing_trivial
  refine t_law_askings h1 (by omega) (by decide) (by decide) fun as hs hl => ?_
  have hl : as.length ≤ 15 := by omega
  try decreasing_trivial
  refine ⟨by decide, ?_⟩
  refine forM_inv (fun j s => ∃ o5, s = [some .well, some (.val (.tuple (ns.map .str))), some (.val (.tuple (as.map .str))), some (.val (.tuple ((ledL ns (as.take j)).map .str))), some (.own ((shelvesL ns (as.take j)).map shP)), o5, none, none, none, none, none, none, none]) _ 0 _ ⟨_, rfl⟩ (fun j x s K e hI k1 k2 k3 k4 => ?_) fun s hI => ?_
  · clear k2 k3 k4
    obtain ⟨o5, es⟩ := hI
    subst es
    rw [List.getElem?_map] at e
    obtain ⟨z, ez, rfl⟩ := Option.map_eq_some_iff.mp e
    rw [Nat.zero_add] at k1
    have lj := (List.getElem?_eq_some_iff.mp ez).1
    have hp := led_perm (as := as.take j) hn.1 fun b hb => hs b (List.mem_of_mem_take hb)
    have et : as.take (j + 1) = as.take j ++ [z] := by rw [List.take_add_one, ez]; rfl
    have ln := shelves_len (as.take j) ns
    rw [List.length_take] at ln
    rw [et, shelves_snoc, led_snoc] at k1
    refine ⟨_, rfl, ?_⟩
    rw [Nat.zero_add]
    try decreasing_trivial
    refine t_law_asked (by rw [hp.length_eq]; omega) ?_
    try decreasing_trivial
    refine ⟨by rw [List.length_map]; omega, ?_⟩
    refine k1 _ ⟨some (.val (.str z)), ?_⟩
    rw [List.map_append]
    rfl
  · obtain ⟨o5, es⟩ := hI
    subst es
    rw [Nat.zero_add, List.length_map, List.take_length]
    try decreasing_trivial
    refine t_law_code hn.1 (by omega) (by omega) hs ?_
    try decreasing_trivial
    refine t_shelves_along hn h1 h7 hs (by omega) ?_
    try decreasing_trivial
    rw [arr_code]
    refine ⟨rfl, t_code hn h1 h7 hs (by omega) ?_⟩
    try decreasing_trivial
    have sr : SameP 2 (.tuple ((shelvesL ns as).map shP)) := same_rows (by rw [shelves_len]; omega) fun r hr => by rw [(shelves_mem hn.1 hs r hr).length_eq]; omega
    have sc : SameP 2 (.tuple (natsP (codeL ns as))) := same_up 0 _ (same_nats (by rw [code_len]; omega))
    have ep : natsP (codeL ns as) = (codeL ns as).map fun (k : Nat) => PyData.int k := rfl
    rw [← ep]
    refine ⟨by decide, by decide, t_law_same 3 (by decide) (same_pair (.inl sr) (.inl sc)) rfl ?_⟩
    try decreasing_trivial
    refine forM_inv (fun j s => ∃ o4 o5 o7 o9 o10 o11, (o4 = FS.Slot.own ((shelvesL ns as).map shP) ∨ o4 = .val (.list ((shelvesL ns as).map shP))) ∧ s = [some .well, some (.val (.tuple (ns.map .str))), some (.val (.tuple (as.map .str))), some (.val (.tuple ((ledL ns as).map .str))), some o4, o5, some (.val (.tuple (natsP (codeL ns as)))), o7, none, o9, o10, o11, none]) _ 0 _ ⟨_, _, _, _, _, _, .inl rfl, rfl⟩ (fun j x s K e hI k1 k2 k3 k4 => ?_) fun s hI => ?_
    · clear k2 k3 k4
      obtain ⟨o4, o5, o7, o9, o10, o11, h4, es⟩ := hI
      subst es
      rw [List.getElem?_map] at e
      obtain ⟨b, eb, rfl⟩ := Option.map_eq_some_iff.mp e
      have hb : b ∈ ns := List.mem_of_getElem? eb
      refine ⟨_, rfl, ?_⟩
      rcases h4 with rfl | rfl
      all_goals
        try decreasing_trivial
        refine ⟨by rw [List.length_map, shelves_len]; omega, ?_⟩
        refine lc_mapL (α := List Str) shP (fun r => .int ((r.idxOf b + 1 : Nat) : Int)) (shelvesL ns as) (fun r hr => ⟨_, rfl, fun L hL => ?_⟩) ?_
        · have hr' : b ∈ r := (shelves_mem hn.1 hs r hr).mem_iff.mpr hb
          show _
          unfold shP
          try decreasing_trivial
          refine idxTS hr' ?_
          try decreasing_trivial
          exact hL
        · rw [show ((shelvesL ns as).map fun r => PyData.int ((r.idxOf b + 1 : Nat) : Int)) = natsP (placesL ns as b) by unfold natsP placesL; rw [List.map_map]; rfl]
          try decreasing_trivial
          have pl := places_len ns as b
          have sp : SameP 1 (.tuple (natsP (placesL ns as b))) := same_nats (by omega)
          obtain ⟨m, hm, hy⟩ := max_exists (placesL ns as b) (by omega)
          refine t_places_along hn h1 h7 hs (by omega) hb ?_
          try decreasing_trivial
          rw [arr_pa]
          refine ⟨rfl, t_places_along hn h1 h7 hs (by omega) hb ?_⟩
          try decreasing_trivial
          refine ⟨by decide, by decide, t_law_same 2 (by decide) (same_pair (.inl sp) (.inl sp)) rfl ?_⟩
          try decreasing_trivial
          rw [maxST]
          refine maxN hm hy ?_
          try decreasing_trivial
          rw [show List.countP (fun z => z.eqv (PyData.int 1)) (natsP (placesL ns as b)) = frontN (placesL ns as b) from rfl]
          refine ⟨Nat.le_trans (Nat.min_le_right ..) (by decide), t_farthest_back hn h1 h7 hs (by omega) hb hm hy ?_⟩
          try decreasing_trivial
          rw [arr_fb]
          refine ⟨rfl, t_farthest_back hn h1 h7 hs (by omega) hb hm hy ?_⟩
          try decreasing_trivial
          refine ⟨by decide, by decide, t_law_same 1 (by decide) (same_pair (n := 0) (.inr (.inr ⟨_, rfl⟩)) (.inr (.inr ⟨_, rfl⟩))) rfl ?_⟩
          try decreasing_trivial
          refine t_times_in_front hn h1 h7 hs (by omega) hb ?_
          try decreasing_trivial
          rw [arr_tf]
          refine ⟨rfl, t_times_in_front hn h1 h7 hs (by omega) hb ?_⟩
          try decreasing_trivial
          refine ⟨by decide, by decide, t_law_same 1 (by decide) (same_pair (n := 0) (.inr (.inr ⟨_, rfl⟩)) (.inr (.inr ⟨_, rfl⟩))) rfl ?_⟩
          try decreasing_trivial
          rw [List.length_map]
          refine ⟨⟨by omega, by omega⟩, by rw [rng_len]; omega, ?_⟩
          rw [rng_map, show ((as.length : Nat) : Int).toNat = as.length by omega]
          refine lc_filterL (α := Nat) (fun (k : Nat) => .int k) (fun z => false) (fun (k : Nat) => .int k) (List.range as.length) (fun z hz => ⟨_, rfl, fun K hK => ?_, fun L hL => ?_⟩) ?_
          · have hz := List.mem_range.mp hz
            try decreasing_trivial
            rw [atI_strD hz]
            try decreasing_trivial
            cases c : as.getD z (Str.ofString "") == b with
            | false =>
              rw [if_neg Bool.false_ne_true]
              try decreasing_trivial
              exact hK
            | true =>
              have eb2 : as[z]? = some b := by
                rw [List.getElem?_eq_getElem hz]
                rw [List.getD_eq_getElem?_getD, List.getElem?_eq_getElem hz] at c
                exact congrArg some (eq_of_beq c)
              have a1 : L2.atI (natsP (codeL ns as)) ((z : Nat) : Int) = some (.int (((ledL ns (as.take z)).idxOf b + 1 : Nat) : Int)) := L2.atI_nat (by
                unfold natsP
                rw [List.getElem?_map, code_get as ns z b eb2]
                rfl)
              have a2 : L2.atI (natsP (placesL ns as b)) ((z : Nat) : Int) = some (.int (((ledL ns (as.take z)).idxOf b + 1 : Nat) : Int)) := L2.atI_nat (by
                unfold natsP placesL
                rw [List.getElem?_map, List.getElem?_map, shelves_get as ns z (by omega)]
                rfl)
              rw [if_pos rfl]
              try decreasing_trivial
              rw [a1]
              try decreasing_trivial
              rw [a2]
              try decreasing_trivial
              rw [beq_self_eq_true]
              try decreasing_trivial
              exact hK
          · try decreasing_trivial
            exact hL
          · rw [show (List.range as.length).filter (fun _ => false) = [] from List.filter_eq_nil_iff.mpr fun a _ => Bool.false_ne_true, List.map_nil]
            try decreasing_trivial
            refine ⟨Nat.zero_le _, ?_⟩
            rw [if_neg (show ¬ ((!([] : List PV).isEmpty) = true) from Bool.false_ne_true)]
            try decreasing_trivial
            exact k1 _ ⟨_, _, _, _, _, _, .inr rfl, rfl⟩
    · obtain ⟨o4, o5, o7, o9, o10, o11, h4, es⟩ := hI
      subst es
      try decreasing_trivial
      first | done | exact h
theorem law_holds {ns : List Int} (hl : ns.length ≤ 63) : D_law [.val (.list (ns.map PyData.int))] (fun d => d = .bool true) NoE := law_holdsD (fun h => t_law_right h) hl
end K77
namespace K77
open PySem PySem.Spec PyProof.Rows L2 LamX FS
/-! the head -/
def mkD (x : Str) (i : Nat) : He.DefD := ⟨(x, none), x, x, defArgs (top i), defBody (top i), defScope (top i), [], []⟩
def fn : List He.DefD := ([mkD "wrong_at" 9, mkD "is_one_of" 10, mkD "is_word" 11, mkD "is_name" 12, mkD "is_shelf_form" 16, mkD "wrong_askings" 17, mkD "place_in" 18, mkD "fronted" 19, mkD "shelves_by" 20, mkD "code_by" 21, mkD "check_shelf" 23, mkD "check_book_of" 24] : List He.DefD) ++ ([mkD "check_askings_of" 25, mkD "check_asked" 26, mkD "check_followed" 28, mkD "places_by" 29, mkD "places_along" 30, mkD "farthest_back" 31, mkD "times_in_front" 32, mkD "shelves_along" 34, mkD "code" 35, mkD "_law_well" 37, mkD "_law_draw" 38, mkD "_law_of" 39] : List He.DefD) ++ ([mkD "_law_same" 40, mkD "_law_names" 41, mkD "_law_shuffled" 42, mkD "_law_shelf" 43, mkD "_law_askings" 44, mkD "_law_asked" 45, mkD "_law_code" 46, mkD "_law_right" 47, mkD "law" 48] : List He.DefD)
def glos : List Str := (["wrong_at", "is_one_of", "is_word", "is_name", "is_shelf_form", "wrong_askings", "place_in", "fronted", "shelves_by", "code_by", "check_shelf", "check_book_of"] : List Str) ++ (["check_askings_of", "check_asked", "check_followed", "places_by", "places_along", "farthest_back", "times_in_front", "shelves_along", "code", "_law_well", "_law_draw", "_law_of"] : List Str) ++ (["_law_same", "_law_names", "_law_shuffled", "_law_shelf", "_law_askings", "_law_asked", "_law_code", "_law_right", "law"] : List Str)
def cons : List He.Fa := ([.str "SMALL" "abcdefghijklmnopqrstuvwxyz", .int "MOST_SIGNS" 8, .glo "WORDS", .int "MOST_BOOKS" 7, .int "MOST_ASKINGS" 30] : List He.Fa)
def fa : List He.Fa := glos.map He.Fa.glo ++ (frees.map He.Fa.free ++ cons)
def tf : List He.Defn := [("wrong_askings", none)]
def bareB (o : Obj) : Bool := match o.cls, o.dict with
  | .type t, some _ => !decide (t = "tuple")
  | _, _ => true
def ex0 (K : PySem.W.Frag) : Bool := K.all fun q => bareB q.2
def exT (K : PySem.W.Frag) : Bool := tupC K (He.ga K "WORDS") kd_WORDS && (tabsApart K tf)
def ex (K : PySem.W.Frag) : Bool := ex0 K && exT K
theorem bare_ok {K : PySem.W.Frag} (h : ex0 K = true) : ∀ a o, K.lookup a = some o → o.cls = .type "tuple" → o.dict = none := fun a o e ec => by
  have z : bareB o = true := List.all_eq_true.mp h _ (He.lookup_mem e)
  unfold bareB at z
  rw [ec] at z
  cases ed : o.dict with
  | none => rfl
  | some d =>
    rw [ed] at z
    have z2 : (!decide (("tuple" : Str) = "tuple")) = true := z
    rw [decide_eq_true rfl] at z2
    cases z2
abbrev R : PySem.W.OpenRow := PySem.W.OpenLaw.row PySem.Challenge.rw_frontshelf_k77_whole_places_along
abbrev hk : PySem.W.Hook := He.hookX 4 fa fn [] tf ex
def ob (s : PySem.W.SharedT) : He.AlX := He.obsX 4 fa fn [] tf ex (HandSHeadRun.getT s)
theorem ob_eq (s : PySem.W.SharedT) : ob s = hk.obs s.abs := He.obsX_eq (HandSHeadRun.getT_eq s)
def loose : List PySem.Str := (["InvalidAskings", "InvalidShelf", "MOST_ASKINGS", "MOST_BOOKS", "MOST_SIGNS", "SMALL", "ShelfError", "UnknownBook", "WORDS", "_law_asked", "_law_askings", "_law_code"] : List PySem.Str) ++ (["_law_draw", "_law_names", "_law_of", "_law_right", "_law_same", "_law_shelf", "_law_shuffled", "_law_well", "check_asked", "check_askings_of", "check_book_of", "check_followed"] : List PySem.Str) ++ (["check_shelf", "code", "code_by", "farthest_back", "fronted", "is_name", "is_one_of", "is_shelf_form", "is_word", "place_in", "places_along", "places_by"] : List PySem.Str) ++ (["shelves_along", "shelves_by", "times_in_front", "wrong_askings", "wrong_at"] : List PySem.Str)
theorem run (w : World) : HandSHeadRun.RunEq R (PySem.W.view R.prog [48]) hk ob 4000 loose w := by
  intro os
  kernel_rfl
theorem facts {P : Program} {w : World} {K : PySem.W.Frag} {h : Heap} {mg : Str → Option Value} {f : Addr} (X : K.In h) (G : h.Ns mainGlobals mg) (hfa : mg ("law" : Str) = some (.ref f)) (c : He.SaysX fa fn [] tf ex w h K) :
    ∃ fd : FuncData, (∀ (s : Shared) (v : Value), BindsTo s fd ⟨[v], []⟩ [("script", v)]) ∧ ∀ base : Heap, K.In base → base.Ns mainGlobals mg → (∀ p ∈ tf.map (He.cT K), TabB base mg p.1 p.2) → DOk (groundT P w K mg base (tabT K tf)) 10 f fd ["script"] D_law := by
  have cd : He.SaysD fa fn K := c.t.d
  have gl : ∀ x : Str, He.Fa.glo x ∈ fa → mg x = some (.ref (He.ga K x)) := fun x z => He.glo_ok X G (He.SaysD.facts cd z)
  have mem : ∀ x : Str, x ∈ glos → He.Fa.glo x ∈ fa := fun x z => List.mem_append_left _ (List.mem_map_of_mem (f := He.Fa.glo) z)
  have fr : ∀ x : Str, frees.contains x = true → mg x = none := fun x z => He.free_ok X G (He.SaysD.facts cd (List.mem_append_right _ (List.mem_append_left _ (List.mem_map_of_mem (f := He.Fa.free) (List.contains_iff_mem.mp z)))))
  have co : ∀ y : He.Fa, y ∈ cons → y.ok K = true := fun y z => He.SaysD.facts cd (List.mem_append_right _ (List.mem_append_right _ z))
  have go : ∀ base : Heap, K.In base → (∀ p ∈ tf.map (He.cT K), TabB base mg p.1 p.2) → Base (groundT P w K mg base (tabT K tf)) := fun base KB tb => ⟨⟨bare_ok (Bool.and_eq_true_iff.mp c.more).1, groundT_mono⟩, groundT_c, fr
    , He.str_ok X G (co _ (List.mem_of_getElem? (i := 0) rfl))
    , He.int_ok X G (co _ (List.mem_of_getElem? (i := 1) rfl))
    , ⟨_, He.glo_ok X G (co _ (List.mem_of_getElem? (i := 2) rfl)), fun F => tupC_ok (Bool.and_eq_true_iff.mp ((Bool.and_eq_true_iff.mp c.more).2)).1 F⟩
    , He.int_ok X G (co _ (List.mem_of_getElem? (i := 3) rfl))
    , He.int_ok X G (co _ (List.mem_of_getElem? (i := 4) rfl))
    , lam_fact ((Bool.and_eq_true_iff.mp ((Bool.and_eq_true_iff.mp c.more).2)).2) (List.mem_of_getElem? (i := 0) rfl) KB tb (gl "wrong_askings" (mem _ (List.mem_of_getElem? (i := 5) rfl))) (by obtain ⟨fd, F⟩ := cd.def_ 5 (d := mkD "wrong_askings" 17) rfl; exact ⟨fd, _, _, _, F⟩)
    ⟩
  have f_wrong_at : ∃ f fd, mg "wrong_at" = some (.ref f) ∧ FunD K "wrong_at" "wrong_at" a_wrong_at b_wrong_at s_wrong_at [] [] f fd := by
    obtain ⟨fd, F⟩ := cd.def_ 0 (d := mkD "wrong_at" 9) rfl
    exact ⟨_, fd, gl "wrong_at" (mem _ (List.mem_of_getElem? (i := 0) rfl)), F⟩
  have f_is_one_of : ∃ f fd, mg "is_one_of" = some (.ref f) ∧ FunD K "is_one_of" "is_one_of" a_is_one_of b_is_one_of s_is_one_of [] [] f fd := by
    obtain ⟨fd, F⟩ := cd.def_ 1 (d := mkD "is_one_of" 10) rfl
    exact ⟨_, fd, gl "is_one_of" (mem _ (List.mem_of_getElem? (i := 1) rfl)), F⟩
  have f_is_word : ∃ f fd, mg "is_word" = some (.ref f) ∧ FunD K "is_word" "is_word" a_is_word b_is_word s_is_word [] [] f fd := by
    obtain ⟨fd, F⟩ := cd.def_ 2 (d := mkD "is_word" 11) rfl
    exact ⟨_, fd, gl "is_word" (mem _ (List.mem_of_getElem? (i := 2) rfl)), F⟩
  have f_is_name : ∃ f fd, mg "is_name" = some (.ref f) ∧ FunD K "is_name" "is_name" a_is_name b_is_name s_is_name [] [] f fd := by
    obtain ⟨fd, F⟩ := cd.def_ 3 (d := mkD "is_name" 12) rfl
    exact ⟨_, fd, gl "is_name" (mem _ (List.mem_of_getElem? (i := 3) rfl)), F⟩
  have f_is_shelf_form : ∃ f fd, mg "is_shelf_form" = some (.ref f) ∧ FunD K "is_shelf_form" "is_shelf_form" a_is_shelf_form b_is_shelf_form s_is_shelf_form [] [] f fd := by
    obtain ⟨fd, F⟩ := cd.def_ 4 (d := mkD "is_shelf_form" 16) rfl
    exact ⟨_, fd, gl "is_shelf_form" (mem _ (List.mem_of_getElem? (i := 4) rfl)), F⟩
  have f_wrong_askings : ∃ f fd, mg "wrong_askings" = some (.ref f) ∧ FunD K "wrong_askings" "wrong_askings" a_wrong_askings b_wrong_askings s_wrong_askings [] [] f fd := by
    obtain ⟨fd, F⟩ := cd.def_ 5 (d := mkD "wrong_askings" 17) rfl
    exact ⟨_, fd, gl "wrong_askings" (mem _ (List.mem_of_getElem? (i := 5) rfl)), F⟩
  have f_place_in : ∃ f fd, mg "place_in" = some (.ref f) ∧ FunD K "place_in" "place_in" a_place_in b_place_in s_place_in [] [] f fd := by
    obtain ⟨fd, F⟩ := cd.def_ 6 (d := mkD "place_in" 18) rfl
    exact ⟨_, fd, gl "place_in" (mem _ (List.mem_of_getElem? (i := 6) rfl)), F⟩
  have f_fronted : ∃ f fd, mg "fronted" = some (.ref f) ∧ FunD K "fronted" "fronted" a_fronted b_fronted s_fronted [] [] f fd := by
    obtain ⟨fd, F⟩ := cd.def_ 7 (d := mkD "fronted" 19) rfl
    exact ⟨_, fd, gl "fronted" (mem _ (List.mem_of_getElem? (i := 7) rfl)), F⟩
  have f_shelves_by : ∃ f fd, mg "shelves_by" = some (.ref f) ∧ FunD K "shelves_by" "shelves_by" a_shelves_by b_shelves_by s_shelves_by [] [] f fd := by
    obtain ⟨fd, F⟩ := cd.def_ 8 (d := mkD "shelves_by" 20) rfl
    exact ⟨_, fd, gl "shelves_by" (mem _ (List.mem_of_getElem? (i := 8) rfl)), F⟩
  have f_code_by : ∃ f fd, mg "code_by" = some (.ref f) ∧ FunD K "code_by" "code_by" a_code_by b_code_by s_code_by [] [] f fd := by
    obtain ⟨fd, F⟩ := cd.def_ 9 (d := mkD "code_by" 21) rfl
    exact ⟨_, fd, gl "code_by" (mem _ (List.mem_of_getElem? (i := 9) rfl)), F⟩
  have f_check_shelf : ∃ f fd, mg "check_shelf" = some (.ref f) ∧ FunD K "check_shelf" "check_shelf" a_check_shelf b_check_shelf s_check_shelf [] [] f fd := by
    obtain ⟨fd, F⟩ := cd.def_ 10 (d := mkD "check_shelf" 23) rfl
    exact ⟨_, fd, gl "check_shelf" (mem _ (List.mem_of_getElem? (i := 10) rfl)), F⟩
  have f_check_book_of : ∃ f fd, mg "check_book_of" = some (.ref f) ∧ FunD K "check_book_of" "check_book_of" a_check_book_of b_check_book_of s_check_book_of [] [] f fd := by
    obtain ⟨fd, F⟩ := cd.def_ 11 (d := mkD "check_book_of" 24) rfl
    exact ⟨_, fd, gl "check_book_of" (mem _ (List.mem_of_getElem? (i := 11) rfl)), F⟩
  have f_check_askings_of : ∃ f fd, mg "check_askings_of" = some (.ref f) ∧ FunD K "check_askings_of" "check_askings_of" a_check_askings_of b_check_askings_of s_check_askings_of [] [] f fd := by
    obtain ⟨fd, F⟩ := cd.def_ 12 (d := mkD "check_askings_of" 25) rfl
    exact ⟨_, fd, gl "check_askings_of" (mem _ (List.mem_of_getElem? (i := 12) rfl)), F⟩
  have f_check_asked : ∃ f fd, mg "check_asked" = some (.ref f) ∧ FunD K "check_asked" "check_asked" a_check_asked b_check_asked s_check_asked [] [] f fd := by
    obtain ⟨fd, F⟩ := cd.def_ 13 (d := mkD "check_asked" 26) rfl
    exact ⟨_, fd, gl "check_asked" (mem _ (List.mem_of_getElem? (i := 13) rfl)), F⟩
  have f_check_followed : ∃ f fd, mg "check_followed" = some (.ref f) ∧ FunD K "check_followed" "check_followed" a_check_followed b_check_followed s_check_followed [] [] f fd := by
    obtain ⟨fd, F⟩ := cd.def_ 14 (d := mkD "check_followed" 28) rfl
    exact ⟨_, fd, gl "check_followed" (mem _ (List.mem_of_getElem? (i := 14) rfl)), F⟩
  have f_places_by : ∃ f fd, mg "places_by" = some (.ref f) ∧ FunD K "places_by" "places_by" a_places_by b_places_by s_places_by [] [] f fd := by
    obtain ⟨fd, F⟩ := cd.def_ 15 (d := mkD "places_by" 29) rfl
    exact ⟨_, fd, gl "places_by" (mem _ (List.mem_of_getElem? (i := 15) rfl)), F⟩
  have f_places_along : ∃ f fd, mg "places_along" = some (.ref f) ∧ FunD K "places_along" "places_along" a_places_along b_places_along s_places_along [] [] f fd := by
    obtain ⟨fd, F⟩ := cd.def_ 16 (d := mkD "places_along" 30) rfl
    exact ⟨_, fd, gl "places_along" (mem _ (List.mem_of_getElem? (i := 16) rfl)), F⟩
  have f_farthest_back : ∃ f fd, mg "farthest_back" = some (.ref f) ∧ FunD K "farthest_back" "farthest_back" a_farthest_back b_farthest_back s_farthest_back [] [] f fd := by
    obtain ⟨fd, F⟩ := cd.def_ 17 (d := mkD "farthest_back" 31) rfl
    exact ⟨_, fd, gl "farthest_back" (mem _ (List.mem_of_getElem? (i := 17) rfl)), F⟩
  have f_times_in_front : ∃ f fd, mg "times_in_front" = some (.ref f) ∧ FunD K "times_in_front" "times_in_front" a_times_in_front b_times_in_front s_times_in_front [] [] f fd := by
    obtain ⟨fd, F⟩ := cd.def_ 18 (d := mkD "times_in_front" 32) rfl
    exact ⟨_, fd, gl "times_in_front" (mem _ (List.mem_of_getElem? (i := 18) rfl)), F⟩
  have f_shelves_along : ∃ f fd, mg "shelves_along" = some (.ref f) ∧ FunD K "shelves_along" "shelves_along" a_shelves_along b_shelves_along s_shelves_along [] [] f fd := by
    obtain ⟨fd, F⟩ := cd.def_ 19 (d := mkD "shelves_along" 34) rfl
    exact ⟨_, fd, gl "shelves_along" (mem _ (List.mem_of_getElem? (i := 19) rfl)), F⟩
  have f_code : ∃ f fd, mg "code" = some (.ref f) ∧ FunD K "code" "code" a_code b_code s_code [] [] f fd := by
    obtain ⟨fd, F⟩ := cd.def_ 20 (d := mkD "code" 35) rfl
    exact ⟨_, fd, gl "code" (mem _ (List.mem_of_getElem? (i := 20) rfl)), F⟩
  have f__law_well : ∃ f fd, mg "_law_well" = some (.ref f) ∧ FunD K "_law_well" "_law_well" a__law_well b__law_well s__law_well [] [] f fd := by
    obtain ⟨fd, F⟩ := cd.def_ 21 (d := mkD "_law_well" 37) rfl
    exact ⟨_, fd, gl "_law_well" (mem _ (List.mem_of_getElem? (i := 21) rfl)), F⟩
  have f__law_draw : ∃ f fd, mg "_law_draw" = some (.ref f) ∧ FunD K "_law_draw" "_law_draw" a__law_draw b__law_draw s__law_draw [] [] f fd := by
    obtain ⟨fd, F⟩ := cd.def_ 22 (d := mkD "_law_draw" 38) rfl
    exact ⟨_, fd, gl "_law_draw" (mem _ (List.mem_of_getElem? (i := 22) rfl)), F⟩
  have f__law_of : ∃ f fd, mg "_law_of" = some (.ref f) ∧ FunD K "_law_of" "_law_of" a__law_of b__law_of s__law_of [] [] f fd := by
    obtain ⟨fd, F⟩ := cd.def_ 23 (d := mkD "_law_of" 39) rfl
    exact ⟨_, fd, gl "_law_of" (mem _ (List.mem_of_getElem? (i := 23) rfl)), F⟩
  have f__law_same : ∃ f fd, mg "_law_same" = some (.ref f) ∧ FunD K "_law_same" "_law_same" a__law_same b__law_same s__law_same [] [] f fd := by
    obtain ⟨fd, F⟩ := cd.def_ 24 (d := mkD "_law_same" 40) rfl
    exact ⟨_, fd, gl "_law_same" (mem _ (List.mem_of_getElem? (i := 24) rfl)), F⟩
  have f__law_names : ∃ f fd, mg "_law_names" = some (.ref f) ∧ FunD K "_law_names" "_law_names" a__law_names b__law_names s__law_names [] [] f fd := by
    obtain ⟨fd, F⟩ := cd.def_ 25 (d := mkD "_law_names" 41) rfl
    exact ⟨_, fd, gl "_law_names" (mem _ (List.mem_of_getElem? (i := 25) rfl)), F⟩
  have f__law_shuffled : ∃ f fd, mg "_law_shuffled" = some (.ref f) ∧ FunD K "_law_shuffled" "_law_shuffled" a__law_shuffled b__law_shuffled s__law_shuffled [] [] f fd := by
    obtain ⟨fd, F⟩ := cd.def_ 26 (d := mkD "_law_shuffled" 42) rfl
    exact ⟨_, fd, gl "_law_shuffled" (mem _ (List.mem_of_getElem? (i := 26) rfl)), F⟩
  have f__law_shelf : ∃ f fd, mg "_law_shelf" = some (.ref f) ∧ FunD K "_law_shelf" "_law_shelf" a__law_shelf b__law_shelf s__law_shelf [] [] f fd := by
    obtain ⟨fd, F⟩ := cd.def_ 27 (d := mkD "_law_shelf" 43) rfl
    exact ⟨_, fd, gl "_law_shelf" (mem _ (List.mem_of_getElem? (i := 27) rfl)), F⟩
  have f__law_askings : ∃ f fd, mg "_law_askings" = some (.ref f) ∧ FunD K "_law_askings" "_law_askings" a__law_askings b__law_askings s__law_askings [] [] f fd := by
    obtain ⟨fd, F⟩ := cd.def_ 28 (d := mkD "_law_askings" 44) rfl
    exact ⟨_, fd, gl "_law_askings" (mem _ (List.mem_of_getElem? (i := 28) rfl)), F⟩
  have f__law_asked : ∃ f fd, mg "_law_asked" = some (.ref f) ∧ FunD K "_law_asked" "_law_asked" a__law_asked b__law_asked s__law_asked [] [] f fd := by
    obtain ⟨fd, F⟩ := cd.def_ 29 (d := mkD "_law_asked" 45) rfl
    exact ⟨_, fd, gl "_law_asked" (mem _ (List.mem_of_getElem? (i := 29) rfl)), F⟩
  have f__law_code : ∃ f fd, mg "_law_code" = some (.ref f) ∧ FunD K "_law_code" "_law_code" a__law_code b__law_code s__law_code [] [] f fd := by
    obtain ⟨fd, F⟩ := cd.def_ 30 (d := mkD "_law_code" 46) rfl
    exact ⟨_, fd, gl "_law_code" (mem _ (List.mem_of_getElem? (i := 30) rfl)), F⟩
  have f__law_right : ∃ f fd, mg "_law_right" = some (.ref f) ∧ FunD K "_law_right" "_law_right" a__law_right b__law_right s__law_right [] [] f fd := by
    obtain ⟨fd, F⟩ := cd.def_ 31 (d := mkD "_law_right" 47) rfl
    exact ⟨_, fd, gl "_law_right" (mem _ (List.mem_of_getElem? (i := 31) rfl)), F⟩
  have f_law : ∃ f fd, mg "law" = some (.ref f) ∧ FunD K "law" "law" a_law b_law s_law [] [] f fd := by
    obtain ⟨fd, F⟩ := cd.def_ 32 (d := mkD "law" 48) rfl
    exact ⟨_, fd, gl "law" (mem _ (List.mem_of_getElem? (i := 32) rfl)), F⟩
  obtain ⟨f1, fd, e1, F⟩ := id f_law
  have e := hfa.symm.trans e1
  cases e
  have b := FunD.bindsA (ps := ["script"]) F fun _ _ _ _ _ _ us hl => match us, hl with | [_], _ => rfl
  refine ⟨fd, fun s v => b s [v] rfl, fun base KB _ tb => ?_⟩
  have g := go base KB tb
  have k_is_one_of := d_is_one_of g f_is_one_of 
  have k_is_word := d_is_word g f_is_word 
  have k_place_in := d_place_in g f_place_in 
  have k_fronted := d_fronted g f_fronted 
  have k__law_well := d__law_well g f__law_well 
  have k__law_draw := d__law_draw g f__law_draw 
  have k__law_asked := d__law_asked g f__law_asked 
  have k_is_name := d_is_name g f_is_name k_is_word
  have k_shelves_by := d_shelves_by g f_shelves_by k_fronted
  have k_check_book_of := d_check_book_of g f_check_book_of k_is_one_of
  have k__law_of := d__law_of g f__law_of k__law_draw
  have k__law_code := d__law_code g f__law_code k__law_asked
  have k_wrong_at := d_wrong_at g f_wrong_at 
  have k_is_shelf_form := d_is_shelf_form g f_is_shelf_form k_is_name
  have k_code_by := d_code_by g f_code_by k_shelves_by k_place_in
  have k_places_by := d_places_by g f_places_by k_shelves_by k_place_in
  have k__law_names := d__law_names g f__law_names k__law_of
  have k__law_shuffled := d__law_shuffled g f__law_shuffled k__law_of
  have k__law_askings := d__law_askings g f__law_askings k__law_draw k__law_of
  have k_wrong_askings := d_wrong_askings g f_wrong_askings k_wrong_at k_is_one_of
  have k_check_shelf := d_check_shelf g f_check_shelf k_is_shelf_form
  have k__law_shelf := d__law_shelf g f__law_shelf k__law_names k__law_draw k__law_shuffled
  have k_check_askings_of := d_check_askings_of g f_check_askings_of k_wrong_askings
  have k_check_asked := d_check_asked g f_check_asked k_check_shelf k_check_askings_of
  have k_check_followed := d_check_followed g f_check_followed k_check_asked k_check_book_of
  have k_shelves_along := d_shelves_along g f_shelves_along k_check_asked k_shelves_by
  have k_code := d_code g f_code k_check_asked k_code_by
  have k__law_same := d__law_same g f__law_same 
  have k_places_along := d_places_along g f_places_along k_check_followed k_places_by
  have k_farthest_back := d_farthest_back g f_farthest_back k_check_followed k_places_by
  have k_times_in_front := d_times_in_front g f_times_in_front k_check_followed k_places_by
  have k__law_right := d__law_right g f__law_right k__law_shelf k__law_askings k__law_asked k__law_code k__law_same k_code k_shelves_along k_places_along k_farthest_back k_times_in_front
  have k_law := d_law g ⟨f, fd, e1, F⟩ k__law_well k__law_right
  obtain ⟨f2, fd2, e2, F2, k⟩ := k_law.ex
  have e := e1.symm.trans e2
  cases e
  have ed : fd = fd2 := by
    obtain ⟨_, _, _, _, _, _, _, _, _, _, _, l1, _⟩ := F.ex
    obtain ⟨_, _, _, _, _, _, _, _, _, _, _, l2, _⟩ := F2.ex
    have z := l1.symm.trans l2
    exact Data.func.inj (Obj.mk.inj (Option.some.inj z)).2.2.1
  subst ed
  exact k
end K77
open PySem PySem.W PySem.Calls PyProof.Rows
theorem PySem.Challenge.cw_frontshelf_k77_whole_places_along_holds : PySem.Challenge.rw_frontshelf_k77_whole_places_along.Holds := by
  w_on; o_law
  refine HandSHeadRun.head_any (r := OpenLaw.row PySem.Challenge.rw_frontshelf_k77_whole_places_along) (q := view (OpenLaw.row PySem.Challenge.rw_frontshelf_k77_whole_places_along).prog [48]) (H := K77.hk) (ob := K77.ob) (M := 4000) (loose := K77.loose) (d := HandSHeadRun.topDef (OpenLaw.row PySem.Challenge.rw_frontshelf_k77_whole_places_along).prog 48) (kwd := []) K77.ob_eq
    (by kernel_rfl) (fun s => by kernel_rfl) K77.run (by kernel_rfl) (by kernel_rfl) (by kernel_rfl) (by rfl) (by first | assumption | decide +kernel) (by decide +kernel) ⟨rfl, rfl, rfl, rfl, rfl, by decide +kernel⟩ ?hw ?hc
  case hw => w_witness2
  case hc =>
    refine FS.walk_lawT (l := PySem.Challenge.rw_frontshelf_k77_whole_places_along) (n := 63) (k := 10) (x := "script") rfl (by decide) (by kernel_rfl) ⟨rfl, by decide, by decide⟩ ?F
    intro w mg fa h Y G hmg0
    obtain ⟨K, KX, c⟩ := Y
    have hmg : mg ("law" : PySem.Str) = some (.ref fa) := by
      have e : (HandSHeadRun.topDef (OpenLaw.row PySem.Challenge.rw_frontshelf_k77_whole_places_along).prog 48).name = ("law" : PySem.Str) := by kernel_rfl
      rw [← e]
      exact hmg0
    obtain ⟨fd, hb, hF⟩ := K77.facts (P := (PySem.Challenge.rw_frontshelf_k77_whole_places_along).prog) (w := w) KX G hmg c
    exact ⟨K, fd, K77.D_law, _, _, KX, FS.tabsIn_of KX c, FS.tabT_in, hb, fun ns hl => K77.law_holds hl, hF⟩
