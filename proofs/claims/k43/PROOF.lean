import PyProof.Rows.All
import Wide.All
import OpenK.AllK
import Wide.FinOn
import HandS.ForMost
import HandS.Walk
import HandS.WideBits
import HandS.TupAny
import HandS.TupMul
import HandS.Strs
import HandS.Lambda
import HandS.Gcd
import HandS.IsInst
import PyProof.TupleKey
import PyProof.DictKinds
import HandS.Zip
import HandS.Iter
import KE.GoesEnum
import HandS.Style
import HandS.EndBits
import HandS.Head0
import HandS.Head1
import HandS.Head2
import HandS.Head3
import HandS.HeadHook1
import HandS.Deep
import HandS.DictComp
import PyProof.NeKinds
import HandS.Small
import HandS.WordsDict
import HandS.Conv
import KE.SortData
import KE.KDictPairs
import HandS.SetFor
import KE.KStar
import HandS.HeadHook4
import HandS.NestedK
import HandS.SortInts
import Wide.Txt2
import KE.DataMinMax
import HandS.More
import KE.KDictZip
import PyProof.ListNew
import PySem.Challenge.RW_deedhouses_k43_vague_houses_of_anything
import PyProof.ReprBulk
set_option Elab.async false
set_option linter.all false
set_option maxRecDepth 100000
set_option maxHeartbeats 4000000
namespace Dh
open PySem PySem.Spec L2 PyProof.Rows
/-- the law's tables of code objects, with the one name that each tells -/
class LawT where
  T : List (Addr × Str)
/-- a law without lambdas -/
instance (priority := 10) noLam : LawT := ⟨[]⟩
/-- Q of a tuple just made -/
abbrev TpQ (H : Hp) (xs : List V) (Q : VK) : Prop := ∀ (p : Addr) (o : Obj), H p = none → o.dict = none → Q (.ref p) (upd H p (.frz o (.tup xs)))
section
variable {X : Cx} {es : List Expr} {t : TA} {pos : Pos}
theorem obj_tup {h : Heap} {H : Hp} {a : Addr} {its : List Value} {xs : List V} {n : Nat} (e : h.get? a = some { cls := .type "tuple", data := .seq its.toArray n }) (hz : xs.length ≤ sizeLine) (r : Vals xs its) : ObjOk X.prog X.w H h a (.frz { cls := .type "tuple", data := .seq its.toArray n } (.tup xs)) :=
  ⟨e, hz, its, r, ⟨_, e, rfl, n, rfl⟩⟩
def tTupS (t : TA) : TE := fun σ H Q => t σ H fun xs H1 => xs.length ≤ sizeLine ∧ TpQ H1 xs Q
theorem pe_tupS {x1} (h : PA X es t) : PE X (.Tuple es x1 pos) (tTupS t) := by
  refine ⟨fun pins s σ H Q I hq => ?_⟩
  refine wpAny_Tuple_spliced (thn (h.run pos pins s σ H _ I hq) fun us s1 ⟨xs, H1, I1, r, z, q⟩ => ⟨by rw [← r.length]; exact z, ?_⟩)
  have hf : H1 s1.heap.objs.size = none := I1.hok.fresh (Nat.le_refl _)
  exact ⟨.ref s1.heap.objs.size, upd H1 s1.heap.objs.size (.frz { cls := .type "tuple", data := .seq us.toArray } (.tup xs)), I1.laid (t' := s1.toks) (fun b u e => Heap.get?_push_of_some _ e) (Nat.le_refl _) (obj_tup (Heap.get?_push_size _ rfl) z r), rfl, q _ _ hf rfl⟩
theorem call_tuple_ofS : CallR X (.type "tuple") (fun xs H Q => ∃ p ys, xs = [.ref p] ∧ ((SqL X.K H p ys ∧ TpQ H ys Q) ∨ (SqT X.K H p ys ∧ Q (.ref p) H))) := by
  intro pins s σ H xs us Q I r h
  obtain ⟨p, ys, rfl, h⟩ := h
  obtain ⟨u, rfl, rx⟩ := vals1 r
  cases rx
  rcases h with ⟨hq, q⟩ | ⟨hq, q⟩
  · obtain ⟨its, r', pl, hz⟩ := I.list hq
    have hlen := r'.length
    refine call_tuple_list pl.isList (fun h' kp => ?_) (by simp only [List.size_toArray] <;> omega)
    have I1 : Inv X pins σ H { s with heap := h' } := I.kept (t' := s.toks) kp
    have I2 : Inv X pins σ (upd H h'.objs.size (.frz { cls := .type "tuple", data := .seq its.toArray } (.tup ys))) { s with heap := h'.push { cls := .type "tuple", data := .seq its.toArray } } :=
      I1.laid (t' := s.toks) (fun b o e => Heap.get?_push_of_some _ e) (Nat.le_refl _) (obj_tup (Heap.get?_push_size _ rfl) hz r')
    exact ⟨.ref h'.objs.size, _, I2, rfl, q _ _ (I1.hok.fresh (Nat.le_refl _)) rfl⟩
  · obtain ⟨its, r', pl, hz⟩ := I.tuple hq
    exact call_tuple_same pl ⟨.ref p, H, I, rfl, q⟩
theorem call_divmodS : CallR X (.builtin "divmod") (fun xs H Q => ∃ i j, xs = [.int i, .int j] ∧ CDivP i j ∧ TpQ H [.int (i / j), .int (i % j)] Q) := by
  intro pins s σ H xs us Q I r h
  obtain ⟨i, j, rfl, ⟨h1, h2⟩, q⟩ := h
  obtain ⟨u, w', rfl, ⟨t, rfl⟩, ⟨t', rfl⟩⟩ := vals2 r
  refine divmod_int (by omega) ?_ (.inl h2)
  rw [Int.fdiv_eq_ediv_of_nonneg i (by omega), Int.fmod_eq_emod_of_nonneg i (by omega)]
  have hn : H s.heap.objs.size = none := I.hok.fresh (Nat.le_refl _)
  refine ⟨.ref s.heap.objs.size, _, ?_, rfl, q _ { cls := .type "tuple", data := .seq [Value.int (i / j) s.toks, Value.int (i % j) (s.toks + 1)].toArray } hn rfl⟩
  exact I.laid (fun b o e => Heap.get?_push_of_some _ e) (Nat.le_refl _) (obj_tup (its := [.int (i / j) s.toks, .int (i % j) (s.toks + 1)]) (Heap.get?_push_size s.heap rfl) (by simp only [List.length_cons, List.length_nil]; rw [sizeLine_eq]; decide) (.cons ⟨_, rfl⟩ (.cons ⟨_, rfl⟩ .nil)))
/-- t + u -/
def rCatS (K : PySem.W.Frag) : R2 := fun x y H Q => ∃ a b xs ys, x = .ref a ∧ y = .ref b ∧ SqT K H a xs ∧ SqT K H b ys ∧ xs.length + ys.length ≤ sizeLine ∧
  (xs = [] → Q (.ref b) H) ∧ (xs ≠ [] → ys = [] → Q (.ref a) H) ∧ (xs ≠ [] → ys ≠ [] → TpQ H (xs ++ ys) Q)
theorem op_catS : OpR X (binaryOp .Add) (rCatS X.K) := by
  intro pins s σ H x y v u Q I rx ry h
  obtain ⟨a, b, xs, ys, rfl, rfl, ha, hb, hz, q0, q1, q2⟩ := h
  cases rx
  cases ry
  obtain ⟨its, r1, p1, _⟩ := I.tuple ha
  obtain ⟨its2, r2, p2, _⟩ := I.tuple hb
  by_cases hx : xs = []
  · subst hx
    cases r1
    exact cat_tup0 p1 p2 ⟨.ref b, H, I, rfl, q0 rfl⟩
  · refine HT.cat_tup p1 p2 (fun z => hx (r1.nil_iff.mp z)) (fun z => ⟨.ref a, H, I, rfl, q1 hx (r2.nil_iff.mp z)⟩) (fun z => ?_) (by rw [← r1.length, ← r2.length]; exact hz)
    exact ⟨.ref s.heap.objs.size, _, I.laid (t' := s.toks) (fun b ob q => Heap.get?_push_of_some _ q) (Nat.le_refl _) (obj_tup (its := its ++ its2) (xs := xs ++ ys) (by first | exact Heap.get?_push_size _ rfl | (rw [← List.append_toArray] <;> exact Heap.get?_push_size _ rfl)) (by rw [List.length_append]; exact hz) (r1.append r2)), rfl, q2 hx (fun w => z (r2.nil_iff.mpr w)) _ _ (I.hok.fresh (Nat.le_refl _)) rfl⟩
/-- t[lo:hi]: the whole of it is t itself -/
def rSlS (K : PySem.W.Frag) : V → Option Int → Option Int → Hp → VK → Prop := fun x lo hi H Q => ∃ a xs, x = .ref a ∧ SqT K H a xs ∧
  (HT.sIx xs.length 0 lo = 0 ∧ HT.sIx xs.length xs.length hi = xs.length → Q (.ref a) H) ∧ (¬ (HT.sIx xs.length 0 lo = 0 ∧ HT.sIx xs.length xs.length hi = xs.length) → TpQ H (cutV xs lo hi) Q)
theorem sl_tupS : SlR X (rSlS X.K) := by
  intro pins s σ H x v vl vu lo hi sl Q I rx hs pl pu h
  obtain ⟨a, xs, rfl, hx, q1, q2⟩ := h
  cases rx
  obtain ⟨its, r, ht, hz⟩ := I.tuple hx
  have hlen : its.toArray.size = xs.length := by rw [List.size_toArray]; exact r.length.symm
  refine ⟨"tuple", _, PyProof.Rows.slot_tuple_getitem.lookup, ht.typeIs, ?_⟩
  by_cases hw : HT.sIx xs.length 0 lo = 0 ∧ HT.sIx xs.length xs.length hi = xs.length
  · exact getItem_tuple_whole ht hs pl pu (by rw [hlen]; exact hw) ⟨.ref a, H, I, rfl, q1 hw⟩
  · refine HT.getItem_tuple_cut ht hs pl pu (by rw [hlen]; exact hw) ?_ (by rw [hlen]; exact hz)
    rw [hlen]
    exact ⟨.ref s.heap.objs.size, _, I.laid (t' := s.toks) (fun b ob q => Heap.get?_push_of_some _ q) (Nat.le_refl _) (obj_tup (Heap.get?_push_size _ rfl) (Nat.le_trans (cutV_length xs lo hi) hz) ((r.drop (HT.sIx xs.length 0 lo)).take (HT.sIx xs.length xs.length hi - HT.sIx xs.length 0 lo))), rfl, q2 hw _ _ (I.hok.fresh (Nat.le_refl _)) rfl⟩
/-- t * k -/
def rRepS (K : PySem.W.Frag) : R2 := fun x y H Q => ∃ l k xs, x = .ref l ∧ y = .int k ∧ SqT K H l xs ∧ xs ≠ [] ∧ 2 ≤ k ∧ k ≤ 1000 ∧ xs.length ≤ 1000 ∧ TpQ H (List.replicate k.toNat xs).flatten Q
theorem op_repS : OpR X (binaryOp .Mult) (rRepS X.K) := by
  intro pins s σ H x y v u Q I rx ry h
  obtain ⟨l, k, xs, rfl, rfl, hT, hne, h1, h2, hz, q⟩ := h
  cases rx
  obtain ⟨t, rfl⟩ := ry
  obtain ⟨its, r, ⟨⟨cls, dd, data, sl⟩, ho, hc, n, hd⟩, hs⟩ := I.tuple hT
  simp only at hc hd
  subst hc hd
  have hle : its.length = xs.length := r.length.symm
  have hn : its ≠ [] := fun e => hne (by
    rw [e] at hle
    exact List.eq_nil_of_length_eq_zero hle.symm)
  have hi : its.toArray.isEmpty = false := by
    cases its with
    | nil => exact absurd rfl hn
    | cons a b => rfl
  have hsz0 : its.toArray.size = xs.length := by rw [List.size_toArray, hle]
  have hm : ((its.toArray.size : Nat) : Int) * k ≤ 1000000 := by
    rw [hsz0]
    have a1 : ((xs.length : Nat) : Int) * k ≤ 1000 * k := Int.mul_le_mul_of_nonneg_right (by omega) (by omega)
    omega
  have flen : (List.replicate k.toNat its).flatten.length ≤ sizeLine := by
    rw [PyProof.Rows.lm_len_rep_flat, hle, sizeLine_eq]
    have a1 : k.toNat * xs.length ≤ 1000 * 1000 := Nat.mul_le_mul (by omega) hz
    omega
  have c0 : (decide (k < -(2 ^ 63)) || decide (k ≥ 2 ^ 63)) = false := by
    rw [decide_eq_false (by omega), decide_eq_false (by omega)] <;> rfl
  have c1 : (its.toArray.isEmpty || k == 1) = false := by
    rw [hi, Bool.false_or]
    exact beq_eq_false_iff_ne.mpr (by omega)
  have c2 : (decide (k ≤ 0) || its.toArray.isEmpty) = false := by
    rw [hi, Bool.or_false]
    exact decide_eq_false (by omega)
  have c4 : Builtin.Tuple.tupleTooMany (((its.toArray.size : Nat) : Int) * k) = false := by
    unfold Builtin.Tuple.tupleTooMany
    rw [sizeLine_eq]
    exact decide_eq_false (by omega)
  refine wpAny_binaryOp_repeat_ref (T := "tuple") (U := "int") (by decide) ⟨_, ho, rfl⟩ (fun s' => typeIs_int s' k t) noFill_tuple_mul F.fills_int_mul F.slot_int_rmul repeat_tuple F.slot_int_index.lookup
    (call_meets F.slot_int_rmul (typeIs_int s k t) F.entry_int_rmul (F.args_int_rmul_2 _ _) (int_rmul_tuple k t l its.toArray n dd sl)
      ⟨ho, rfl, ⟨_, ho, rfl⟩, call_meets F.slot_tuple_mul ⟨_, ho, rfl⟩ F.entry_tuple_mul (F.args_tuple_mul_2 _ _) (tuple_mulW l its.toArray n dd sl k t c0 c1 c2 (by omega) c4 (by rw [size_rep, List.size_toArray]; exact flen)) ⟨ho, ?_⟩⟩)
  rw [size_rep]
  exact ⟨.ref s.heap.objs.size, _, I.laid (t' := s.toks) (fun b ob q => Heap.get?_push_of_some _ q) (Nat.le_refl _) (obj_tup (Heap.get?_push_size _ rfl) (by rw [PyProof.Rows.lm_len_rep_flat, sizeLine_eq]; have a1 : k.toNat * xs.length ≤ 1000 * 1000 := Nat.mul_le_mul (by omega) hz; omega) (r.rep k.toNat)), rfl, q _ _ (I.hok.fresh (Nat.le_refl _)) rfl⟩
end
end Dh
namespace Dh
open PySem PySem.Spec L2
variable [LawT]
/-- a function made by a lambda: its place, its code object, the code object's name; what it saw of the frame: values, data -/
structure Lam where
  f : Addr
  c : Addr
  q : Str
  vs : L2.St
  xs : List (Option PyData)
/-- what an expression gives: a datum that stays; a list just made; a list of the frame's own, looked at; the spring -/
inductive R where
  | d (x : PyData) | f (xs : List PyData) | b (xs : List PyData) | s | m (acc : List (Key × PyData)) | n (acc : List (Key × PyData)) | t (acc : List (List Int × PyData)) | u (acc : List (List Int × PyData)) | h (l : Lam)
/-- what a slot holds -/
inductive Cl where
  | d (x : PyData) | o (xs : List PyData) | s | m (acc : List (Key × PyData)) | t (acc : List (List Int × PyData)) | h (l : Lam)
abbrev Ev := List (Option Cl)
abbrev Sto := List Int
abbrev Mx := Ev → Sto → Option (R × Sto)
abbrev Mt := Ev → Sto → Option (Bool × Sto)
abbrev Ma := Ev → Sto → Option (List R × Sto)
abbrev Fz := Addr → Prop
/-- a list that stays -/
def FzL (K : PySem.W.Frag) (fz : Fz) (H : Hp) (a : Addr) (xs : List V) : Prop :=
  (H a = some (.lst xs) ∧ fz a) ∨ (∃ o, H a = some (.frz o (.lst xs))) ∨
    ∃ (o : Obj) (its : Array Value) (n : Nat), K.lookup a = some o ∧ o.cls = .type "list" ∧ o.dict = none ∧ o.data = .seq its n ∧ its.size ≤ sizeLine ∧ Vals xs its.toList
theorem FzL.sq {K : PySem.W.Frag} {fz : Fz} {H : Hp} {a : Addr} {xs : List V} (h : FzL K fz H a xs) : SqL K H a xs := by
  rcases h with ⟨h, _⟩ | h | h
  · exact .inl (.inl h)
  · exact .inl (.inr h)
  · exact .inr h
/-- a tuple that stays; it bears no names of its own -/
def FzT (K : PySem.W.Frag) (H : Hp) (a : Addr) (xs : List V) : Prop :=
  (∃ o, H a = some (.frz o (.tup xs)) ∧ o.dict = none) ∨
    ∃ (o : Obj) (its : Array Value) (n : Nat), K.lookup a = some o ∧ o.cls = .type "tuple" ∧ o.dict = none ∧ o.data = .seq its n ∧ its.size ≤ sizeLine ∧ Vals xs its.toList
theorem FzT.sq {K : PySem.W.Frag} {H : Hp} {a : Addr} {xs : List V} (h : FzT K H a xs) : SqT K H a xs := by
  rcases h with ⟨o, h, _⟩ | ⟨o, its, n, h1, h2, _, h3, h4, h5⟩
  · exact .inl (.inr ⟨o, h⟩)
  · exact .inr ⟨o, its, n, h1, h2, h3, h4, h5⟩
mutual
/-- the value v is the datum d, for as long as what is frozen stays -/
inductive Im (K : PySem.W.Frag) (fz : Fz) (H : Hp) : V → PyData → Prop
  | non : Im K fz H .non .none
  | bl (b : Bool) : Im K fz H (.bl b) (.bool b)
  | int (i : Int) : Im K fz H (.int i) (.int i)
  | str (x : Str) : Im K fz H (.str x) (.str x)
  | lst {a : Addr} {xs : List V} {ds : List PyData} : FzL K fz H a xs → ImA K fz H xs ds → Im K fz H (.ref a) (.list ds)
  | tup {a : Addr} {xs : List V} {ds : List PyData} : FzT K H a xs → ImA K fz H xs ds → Im K fz H (.ref a) (.tuple ds)
  | dct {a : Addr} {kvs : List (Key × V)} {ds : List (PyData × PyData)} : H a = some (.dK kvs) → fz a → ImA K fz H (kvs.map fun p => kV p.1) (ds.map (·.1)) → ImA K fz H (kvs.map (·.2)) (ds.map (·.2)) → Im K fz H (.ref a) (.dict ds)
inductive ImA (K : PySem.W.Frag) (fz : Fz) (H : Hp) : List V → List PyData → Prop
  | nil : ImA K fz H [] []
  | cons {v : V} {vs : List V} {d : PyData} {ds : List PyData} : Im K fz H v d → ImA K fz H vs ds → ImA K fz H (v :: vs) (d :: ds)
end
/-- the entries of a dict as they are tracked, and as data -/
def ImK (K : PySem.W.Frag) (fz : Fz) (H : Hp) (kvs : List (Key × V)) (acc : List (Key × PyData)) : Prop := kvs.map (·.1) = acc.map (·.1) ∧ ImA K fz H (kvs.map (·.2)) (acc.map (·.2))
/-- the entry of a key of whole numbers -/
abbrev entI (P : Program) (w : World) (x : List Int × Addr × Value) : DictEntry := entryOfKey (tupleKind (intKind P w)) x
/-- a dict whose keys are tuples of whole numbers: keys, the tuples' places, values -/
abbrev DTO (a : Addr) (xs : List (List Int × Addr × Value)) : HO := .ext fun h => (a == sysModules) = false ∧ ∃ (P : Program) (w : World) (o : Obj) (es : Array DictEntry) (ep : Nat), h.get? a = some o ∧ o.ExactDict ∧ o.data = .dict es ep ∧ es.toList = xs.map (entI P w) ∧ (xs.map (·.1)).Nodup
/-- what it holds, as data -/
def TK (K : PySem.W.Frag) (fz : Fz) (H : Hp) (xs : List (List Int × Addr × Value)) (acc : List (List Int × PyData)) : Prop :=
  Paired (fun (p : List Int × PyData) (q : List Int × Addr × Value) => p.1 = q.1 ∧ FzT K H q.2.1 (q.1.map V.int) ∧ ∃ v, RelV v q.2.2 ∧ Im K fz H v p.2) acc xs
/-- the lambda's code object stands; what it saw stands for its data -/
def LamOk (K : PySem.W.Frag) (fz : Fz) (H : Hp) (l : Lam) : Prop :=
  H l.c = some (LamX.CodeO l.c l.q) ∧ ∀ (i : Nat) (x : PyData), l.xs[i]? = some (some x) → ∃ v, l.vs[i]? = some (some v) ∧ Im K fz H v x
/-- neither a table nor a code object -/
def NTb (o : HO) : Prop := (∀ ps, o ≠ .tbl ps) ∧ ∀ c q, o ≠ LamX.CodeO c q
theorem NTb.lst {xs : List V} : NTb (.lst xs) := ⟨fun _ z => (by cases z), fun _ _ z => (by unfold LamX.CodeO at z; cases z)⟩
theorem NTb.dK {xs : List (Key × V)} : NTb (.dK xs) := ⟨fun _ z => (by cases z), fun _ _ z => (by unfold LamX.CodeO at z; cases z)⟩
theorem NTb.frz {o : Obj} {u : HO} : NTb (.frz o u) := ⟨fun _ z => (by cases z), fun _ _ z => (by unfold LamX.CodeO at z; cases z)⟩
/-- a heap of code objects alone -/
def codeHeap (n : Nat) (q : Str) : Heap := ⟨Array.replicate n { cls := .none, data := .fields #[.none, .str q 0] }, {}⟩
theorem codeHeap_get {n a : Nat} {q : Str} (h : a < n) : (codeHeap n q).get? a = some { cls := .none, data := .fields #[.none, .str q 0] } := by
  have e : (codeHeap n q).objs[a]? = some { cls := .none, data := .fields #[.none, .str q 0] } := by
    show (Array.replicate n _)[a]? = _
    rw [Array.getElem?_replicate, if_pos h]
  unfold Heap.get?
  rw [e]
theorem ntb_DTO {a : Addr} {xs : List (List Int × Addr × Value)} : NTb (DTO a xs) := ⟨fun _ z => (by cases z), fun c q z => by
  unfold LamX.CodeO at z
  have e := HO.ext.inj z
  have g := congrFun e (codeHeap (a + c + 1) q)
  have r : (∃ (oc : Obj) (vs : Array Value) (t : Tok), (codeHeap (a + c + 1) q).get? c = some oc ∧ oc.data = .fields vs ∧ vs[1]? = some (.str q t)) := ⟨_, _, 0, codeHeap_get (by omega), rfl, rfl⟩
  rw [← g] at r
  obtain ⟨_, P, w, o, es, ep, h1, _, h2, _⟩ := r
  rw [codeHeap_get (by omega)] at h1
  cases h1
  cases h2⟩
theorem Tabs.upd {H : Hp} {a : Addr} {o o' : HO} {T : List (Addr × Str)} (t : LamX.Tabs T H) (h : H a = some o) (n : NTb o) : LamX.Tabs T (L2.upd H a o') := fun p hp => by
  obtain ⟨ps, h1, h2, h3⟩ := t p hp
  refine ⟨ps, ?_, h2, fun pos cv hc => ?_⟩
  · rw [upd_ne (fun z => n.1 ps (by rw [z, h] at h1; exact Option.some.inj h1))]; exact h1
  obtain ⟨c, e1, e2⟩ := h3 pos cv hc
  exact ⟨c, e1, by rw [upd_ne (fun z => n.2 a p.2 (by rw [z, h] at e2; exact Option.some.inj e2))]; exact e2⟩
/-- the spring is tracked -/
def SpSt (sp : Option Addr) (H : Hp) : Prop := ∀ a, sp = some a → ∃ o, H a = some o ∧ NTb o
/-- from one moment to a later one: what was tracked stands, but the spring and tables; what is newly frozen was not there -/
structure Stp (sp : Option Addr) (fz : Fz) (H : Hp) (fz' : Fz) (H' : Hp) : Prop where
  mono : ∀ a, fz a → fz' a
  ext0 : ∀ a o, H a = some o → some a ≠ sp → (∀ ps, o ≠ .tbl ps) → H' a = some o
  tb : ∀ a ps, H a = some (.tbl ps) → some a ≠ sp → ∃ ps', H' a = some (.tbl ps')
  new : ∀ a, fz' a → fz a ∨ (some a ≠ sp ∧ H a = none)
  trk : (∀ a, fz a → H a ≠ none) → ∀ a, fz' a → H' a ≠ none
  sps : SpSt sp H → SpSt sp H'
  tab : SpSt sp H → LamX.Tabs LawT.T H → LamX.Tabs LawT.T H'
section
variable {K : PySem.W.Frag} {sp : Option Addr} {fz fz1 fz2 : Fz} {H H1 H2 : Hp}
theorem Stp.ext (s : Stp sp fz H fz1 H1) (a : Addr) (o : HO) (h : H a = some o) (n : some a ≠ sp) (nt : ∀ ps, o ≠ .tbl ps := by intro _ z; cases z) : H1 a = some o := s.ext0 a o h n nt
/-- all is kept -/
theorem Stp.of (m : ∀ a, fz a → fz1 a) (e : ∀ a o, H a = some o → H1 a = some o) (nw : ∀ a, fz1 a → fz a ∨ (some a ≠ sp ∧ H a = none)) (t : (∀ a, fz a → H a ≠ none) → ∀ a, fz1 a → H1 a ≠ none) : Stp sp fz H fz1 H1 :=
  ⟨m, fun a o h _ _ => e a o h, fun a ps h _ => ⟨ps, e a _ h⟩, nw, t, fun q a z => by
    obtain ⟨o, h, n⟩ := q a z
    exact ⟨o, e a o h, n⟩, fun _ q => q.ext e⟩
theorem Stp.refl : Stp sp fz H fz H := .of (fun _ h => h) (fun _ _ h => h) (fun _ h => .inl h) (fun h => h)
theorem Stp.back (s : Stp sp fz H fz1 H1) {a : Addr} (n : some a ≠ sp) (h : H1 a = none) : H a = none := by
  cases q : H a with
  | none => rfl
  | some o =>
    by_cases z : ∃ ps, o = .tbl ps
    · obtain ⟨ps, rfl⟩ := z
      obtain ⟨ps', e⟩ := s.tb a ps q n
      rw [e] at h; cases h
    · rw [s.ext a o q n (fun ps e => z ⟨ps, e⟩)] at h; cases h
theorem Stp.trans (s : Stp sp fz H fz1 H1) (t : Stp sp fz1 H1 fz2 H2) : Stp sp fz H fz2 H2 where
  mono := fun a h => t.mono a (s.mono a h)
  ext0 := fun a o h n nt => t.ext a o (s.ext a o h n nt) n nt
  tb := fun a ps h n => by
    obtain ⟨ps', e⟩ := s.tb a ps h n
    exact t.tb a ps' e n
  new := fun a h => by
    rcases t.new a h with h | ⟨n, h⟩
    · exact s.new a h
    · exact .inr ⟨n, s.back n h⟩
  trk := fun h => t.trk (s.trk h)
  sps := fun q => t.sps (s.sps q)
  tab := fun p h => t.tab (s.sps p) (s.tab p h)
theorem Stp.nsp (s : Stp sp fz H fz1 H1) (n : ∀ a, sp = some a → ¬ fz a) : ∀ a, sp = some a → ¬ fz1 a := fun a e h => by
  rcases s.new a h with h | ⟨h, _⟩
  · exact n a e h
  · exact h e.symm
/-- a new object -/
theorem Stp.laid {a : Addr} {o : HO} (h : H a = none) : Stp sp fz H fz (upd H a o) :=
  .of (fun _ h => h) (fun b u q => by rw [upd_ne (ne_of_none q h)]; exact q) (fun _ h => .inl h) (fun t b q z => by
    by_cases e : b = a
    · subst e; rw [upd_same] at z; cases z
    · rw [upd_ne e] at z; exact t b q z)
/-- a new object, frozen -/
theorem Stp.frz {a : Addr} {o : HO} (h : H a = none) (n : some a ≠ sp) : Stp sp fz H (fun b => fz b ∨ b = a) (upd H a o) :=
  .of (fun _ h => .inl h) (fun b u q => by rw [upd_ne (ne_of_none q h)]; exact q) (fun b q => by
    rcases q with q | q
    · exact .inl q
    · subst q; exact .inr ⟨n, h⟩) (fun t b q z => by
    by_cases e : b = a
    · subst e; rw [upd_same] at z; cases z
    · rw [upd_ne e] at z
      rcases q with q | q
      · exact t b q z
      · exact e q)
/-- a list that was just made is frozen -/
theorem Stp.freeze {a : Addr} {o : HO} (s : Stp sp fz H fz1 H1) (h0 : H a = none) (n : some a ≠ sp) (h : H1 a = some o) : Stp sp fz H (fun b => fz1 b ∨ b = a) H1 :=
  ⟨fun b q => .inl (s.mono b q), s.ext0, s.tb, fun b q => by
    rcases q with q | q
    · exact s.new b q
    · subst q; exact .inr ⟨n, h0⟩, (fun t b q z => by
    rcases q with q | q
    · exact s.trk t b q z
    · subst q; rw [h] at z; cases z), s.sps, s.tab⟩
/-- what was frozen since is forgotten -/
theorem Stp.seen (s : Stp sp fz2 H fz1 H1) (g : ∀ a, fz a → fz2 a) (t : ∀ a, fz2 a → H a ≠ none) : Stp sp fz H fz H1 :=
  ⟨fun _ h => h, s.ext0, s.tb, fun _ h => .inl h, fun _ b q => s.trk t b (s.mono b (g b q)), s.sps, s.tab⟩
/-- an own object is written -/
theorem Stp.own {a : Addr} {o o' : HO} (s : Stp sp fz H fz1 H1) (h0 : H a = none) (n : some a ≠ sp) (h : H1 a = some o) (nt : NTb o) : Stp sp fz H fz1 (upd H1 a o') :=
  ⟨s.mono, fun b u q m t => by
    rw [upd_ne (fun z => by rw [z, h0] at q; cases q)]; exact s.ext0 b u q m t, fun b ps q m => by
    rw [upd_ne (fun z => by rw [z, h0] at q; cases q)]; exact s.tb b ps q m, s.new, fun t b q z => by
    by_cases e : b = a
    · subst e; rw [upd_same] at z; cases z
    · rw [upd_ne e] at z; exact s.trk t b q z, fun q b z => by
    obtain ⟨u, e1, e2⟩ := s.sps q b z
    exact ⟨u, by rw [upd_ne (fun y => n (by rw [z, y]))]; exact e1, e2⟩, fun p q => Tabs.upd (s.tab p q) h nt⟩
/-- the spring is written -/
theorem Stp.spr {a : Addr} {o o' : HO} (s : Stp sp fz H fz1 H1) (e : sp = some a) (h : H1 a = some o) (nt : NTb o) (nt' : NTb o') : Stp sp fz H fz1 (upd H1 a o') :=
  ⟨s.mono, fun b u q m t => by
    rw [upd_ne (fun z => m (by rw [z, e]))]; exact s.ext0 b u q m t, fun b ps q m => by
    rw [upd_ne (fun z => m (by rw [z, e]))]; exact s.tb b ps q m, s.new, fun t b q z => by
    by_cases y : b = a
    · subst y; rw [upd_same] at z; cases z
    · rw [upd_ne y] at z; exact s.trk t b q z, fun q b z => by
    rw [e] at z; cases z
    exact ⟨o', upd_same, nt'⟩, fun p q => Tabs.upd (s.tab p q) h nt⟩
def SpL (sp : Option Addr) (H : Hp) (sto : Sto) : Prop := ∀ a, sp = some a → H a = some (.lst (sto.map V.int))
theorem SpL.ne {sto : Sto} {a : Addr} {o : Option HO} (l : SpL sp H sto) (h : H a = o) (n : o ≠ some (.lst (sto.map V.int))) : some a ≠ sp := fun e => n (h.symm.trans (l a e.symm))
theorem SpL.upd {sto : Sto} {a : Addr} {o : HO} (l : SpL sp H sto) (n : some a ≠ sp) : SpL sp (L2.upd H a o) sto := fun p e => by
  have : p ≠ a := fun z => n (by rw [← z, e])
  rw [upd_ne this]
  exact l p e
/-- the value is the spring -/
def IsS (sp : Option Addr) (v : V) : Prop := ∃ a, sp = some a ∧ v = .ref a
/-- the spring stands, it is not frozen, what is frozen is tracked -/
structure Bs (sp : Option Addr) (fz : Fz) (H : Hp) (sto : Sto) : Prop where
  spl : SpL sp H sto
  nsp : ∀ a, sp = some a → ¬ fz a
  trk : ∀ a, fz a → H a ≠ none
  tab : LamX.Tabs LawT.T H
theorem SpL.st {sto : Sto} (l : SpL sp H sto) : SpSt sp H := fun a e => ⟨_, l a e, .lst⟩
theorem Bs.step {sto sto' : Sto} (B : Bs sp fz H sto) (s : Stp sp fz H fz1 H1) (l : SpL sp H1 sto') : Bs sp fz1 H1 sto' := ⟨l, s.nsp B.nsp, s.trk B.trk, s.tab B.spl.st B.tab⟩
theorem ne_spring {sto : Sto} {a : Addr} {xs : List V} (l : SpL sp H sto) (h : H a = some (.tup xs)) : some a ≠ sp := by
  exact l.ne h (by intro z; cases z)
theorem SqT.stp {sto : Sto} {a : Addr} {xs : List V} (s : Stp sp fz H fz1 H1) (B : Bs sp fz H sto) (h : SqT K H a xs) : SqT K H1 a xs := by
  rcases h with (h | ⟨o, h⟩) | h
  · exact .inl (.inl (s.ext _ _ h (ne_spring B.spl h)))
  · exact .inl (.inr ⟨o, s.ext _ _ h (B.spl.ne h (by intro z; cases z))⟩)
  · exact .inr h
theorem FzT.stp {sto : Sto} {a : Addr} {xs : List V} (s : Stp sp fz H fz1 H1) (B : Bs sp fz H sto) (h : FzT K H a xs) : FzT K H1 a xs := by
  rcases h with ⟨o, h, d⟩ | h
  · exact .inl ⟨o, s.ext _ _ h (B.spl.ne h (by intro z; cases z)), d⟩
  · exact .inr h
theorem FzL.stp {sto : Sto} {a : Addr} {xs : List V} (s : Stp sp fz H fz1 H1) (B : Bs sp fz H sto) (h : FzL K fz H a xs) : FzL K fz1 H1 a xs := by
  rcases h with ⟨h, f⟩ | ⟨o, h⟩ | h
  · exact .inl ⟨s.ext _ _ h (by intro e; exact B.nsp _ e.symm f), s.mono _ f⟩
  · exact .inr (.inl ⟨o, s.ext _ _ h (B.spl.ne h (by intro z; cases z))⟩)
  · exact .inr (.inr h)
mutual
theorem Im.stp {sto : Sto} (s : Stp sp fz H fz1 H1) (B : Bs sp fz H sto) : ∀ {v : V} {d : PyData}, Im K fz H v d → Im K fz1 H1 v d
  | _, _, .non => .non
  | _, _, .bl b => .bl b
  | _, _, .int i => .int i
  | _, _, .str x => .str x
  | _, _, .lst h a => .lst (h.stp s B) (ImA.stp s B a)
  | _, _, .tup h a => .tup (FzT.stp s B h) (ImA.stp s B a)
  | _, _, .dct h f a b => .dct (s.ext _ _ h (by intro e; exact B.nsp _ e.symm f)) (s.mono _ f) (ImA.stp s B a) (ImA.stp s B b)
theorem ImA.stp {sto : Sto} (s : Stp sp fz H fz1 H1) (B : Bs sp fz H sto) : ∀ {v : List V} {d : List PyData}, ImA K fz H v d → ImA K fz1 H1 v d
  | _, _, .nil => .nil
  | _, _, .cons h t => .cons (Im.stp s B h) (ImA.stp s B t)
end
mutual
theorem Im.fzm (g : ∀ a, fz a → fz1 a) : ∀ {v : V} {d : PyData}, Im K fz H v d → Im K fz1 H v d
  | _, _, .non => .non
  | _, _, .bl b => .bl b
  | _, _, .int i => .int i
  | _, _, .str x => .str x
  | _, _, .lst h a => .lst (by
      rcases h with ⟨h, f⟩ | h | h
      · exact .inl ⟨h, g _ f⟩
      · exact .inr (.inl h)
      · exact .inr (.inr h)) (ImA.fzm g a)
  | _, _, .tup h a => .tup h (ImA.fzm g a)
  | _, _, .dct h f a b => .dct h (g _ f) (ImA.fzm g a) (ImA.fzm g b)
theorem ImA.fzm (g : ∀ a, fz a → fz1 a) : ∀ {v : List V} {d : List PyData}, ImA K fz H v d → ImA K fz1 H v d
  | _, _, .nil => .nil
  | _, _, .cons h t => .cons (Im.fzm g h) (ImA.fzm g t)
end
theorem TK.stp {sto : Sto} (s : Stp sp fz H fz1 H1) (B : Bs sp fz H sto) {xs : List (List Int × Addr × Value)} {acc : List (List Int × PyData)} (h : TK K fz H xs acc) : TK K fz1 H1 xs acc :=
  Paired.mapP h fun _ _ ⟨a, b, v, c, d⟩ => ⟨a, b.stp s B, v, c, Im.stp s B d⟩
theorem TK.fzm (g : ∀ a, fz a → fz1 a) {xs : List (List Int × Addr × Value)} {acc : List (List Int × PyData)} (h : TK K fz H xs acc) : TK K fz1 H xs acc :=
  Paired.mapP h fun _ _ ⟨a, b, v, c, d⟩ => ⟨a, b, v, c, Im.fzm g d⟩
theorem codeO_ntb (c : Addr) (q : Str) (ps : Array Value) : LamX.CodeO c q ≠ .tbl ps := fun z => by
  unfold LamX.CodeO at z
  cases z
theorem LamOk.stp {sto : Sto} (s : Stp sp fz H fz1 H1) (B : Bs sp fz H sto) {l : Lam} (h : LamOk K fz H l) : LamOk K fz1 H1 l :=
  ⟨s.ext _ _ h.1 (B.spl.ne h.1 (by intro z; unfold LamX.CodeO at z; cases z)) (codeO_ntb _ _), fun i x e => by
    obtain ⟨v, e1, im⟩ := h.2 i x e
    exact ⟨v, e1, Im.stp s B im⟩⟩
theorem LamOk.fzm (g : ∀ a, fz a → fz1 a) {l : Lam} (h : LamOk K fz H l) : LamOk K fz1 H l := ⟨h.1, fun i x e => by
    obtain ⟨v, e1, im⟩ := h.2 i x e
    exact ⟨v, e1, Im.fzm g im⟩⟩
theorem ImA.length : ∀ {v : List V} {d : List PyData}, ImA K fz H v d → v.length = d.length
  | _, _, .nil => rfl
  | _, _, .cons _ t => by rw [List.length_cons, List.length_cons, ImA.length t]
theorem ImA.at : ∀ {v : List V} {d : List PyData}, ImA K fz H v d → ∀ (i : Nat) (x : PyData), d[i]? = some x → ∃ w, v[i]? = some w ∧ Im K fz H w x
  | _, _, .nil, i, x, h => by simp at h
  | _, _, .cons h t, 0, x, e => by
    simp only [List.getElem?_cons_zero, Option.some.injEq] at e
    subst e
    exact ⟨_, rfl, h⟩
  | _, _, .cons h t, i + 1, x, e => by
    simp only [List.getElem?_cons_succ] at e ⊢
    exact ImA.at t i x e
theorem ImA.get : ∀ {v : List V} {d : List PyData}, ImA K fz H v d → ∀ (i : Nat) (w : V), v[i]? = some w → ∃ x, d[i]? = some x ∧ Im K fz H w x
  | _, _, .nil, i, x, h => by simp at h
  | _, _, .cons h t, 0, x, e => by
    simp only [List.getElem?_cons_zero, Option.some.injEq] at e
    subst e
    exact ⟨_, rfl, h⟩
  | _, _, .cons h t, i + 1, x, e => by
    simp only [List.getElem?_cons_succ] at e ⊢
    exact ImA.get t i x e
theorem ImA.append : ∀ {v : List V} {d : List PyData}, ImA K fz H v d → ∀ {v' : List V} {d' : List PyData}, ImA K fz H v' d' → ImA K fz H (v ++ v') (d ++ d')
  | _, _, .nil, _, _, h => h
  | _, _, .cons h t, _, _, h' => .cons h (t.append h')
theorem ImA.drop : ∀ {v : List V} {d : List PyData} (n : Nat), ImA K fz H v d → ImA K fz H (v.drop n) (d.drop n)
  | _, _, 0, h => by simpa using h
  | _, _, n + 1, .nil => by simpa using ImA.nil
  | _, _, n + 1, .cons h t => by simpa using ImA.drop n t
theorem ImA.take : ∀ {v : List V} {d : List PyData} (n : Nat), ImA K fz H v d → ImA K fz H (v.take n) (d.take n)
  | _, _, 0, h => by simpa using ImA.nil
  | _, _, n + 1, .nil => by simpa using ImA.nil
  | _, _, n + 1, .cons h t => by simpa using ImA.cons h (ImA.take n t)
theorem ImA.set : ∀ {v : List V} {d : List PyData} (i : Nat) {w : V} {x : PyData}, ImA K fz H v d → Im K fz H w x → ImA K fz H (v.set i w) (d.set i x)
  | _, _, i, _, _, .nil, _ => by simpa using ImA.nil
  | _, _, 0, _, _, .cons h t, q => by simpa using ImA.cons q t
  | _, _, i + 1, _, _, .cons h t, q => by simpa using ImA.cons h (ImA.set i t q)
theorem ImA.ints : ∀ (ns : List Int), ImA K fz H (ns.map V.int) (ns.map PyData.int)
  | [] => .nil
  | n :: r => .cons (.int n) (ImA.ints r)
end
/-- the context of a frame: the spring's place, what was frozen and the heap at the entry -/
structure Cn where
  sp : Option Addr
  fz0 : Fz
  H0 : Hp
def CellOk (K : PySem.W.Frag) (C : Cn) (fz : Fz) (H : Hp) (σ : St) (i : Nat) : Cl → Prop
  | .d x => ∃ v, σ[i]? = some (some v) ∧ Im K fz H v x
  | .o xs => ∃ a vs, σ[i]? = some (some (.ref a)) ∧ H a = some (.lst vs) ∧ ImA K fz H vs xs ∧ ¬ fz a ∧ some a ≠ C.sp ∧ C.H0 a = none
  | .s => ∃ a, C.sp = some a ∧ σ[i]? = some (some (.ref a))
  | .m acc => ∃ a kvs, σ[i]? = some (some (.ref a)) ∧ H a = some (.dK kvs) ∧ ImK K fz H kvs acc ∧ ¬ fz a ∧ some a ≠ C.sp ∧ C.H0 a = none
  | .t acc => ∃ a xs, σ[i]? = some (some (.ref a)) ∧ H a = some (DTO a xs) ∧ TK K fz H xs acc ∧ ¬ fz a ∧ some a ≠ C.sp ∧ C.H0 a = none
  | .h l => σ[i]? = some (some (.ref l.f)) ∧ LamOk K fz H l
structure Fm (K : PySem.W.Frag) (C : Cn) (fz : Fz) (ρ : Ev) (sto : Sto) (σ : St) (H : Hp) : Prop where
  len : ρ.length = σ.length
  st : Stp C.sp C.fz0 C.H0 fz H
  bs : Bs C.sp fz H sto
  vars : ∀ (i : Nat) (c : Cl), ρ[i]? = some (some c) → CellOk K C fz H σ i c
  sep : ∀ (i j : Nat) (xs ys : List PyData) (a : Addr), i ≠ j → ρ[i]? = some (some (.o xs)) → ρ[j]? = some (some (.o ys)) → σ[i]? = some (some (.ref a)) → σ[j]? ≠ some (some (.ref a))
section
variable {K : PySem.W.Frag} {C : Cn} {fz fz1 : Fz} {ρ : Ev} {sto sto' : Sto} {σ : St} {H H1 : Hp}
theorem Fm.step (F : Fm K C fz ρ sto σ H) (s : Stp C.sp fz H fz1 H1) (l : SpL C.sp H1 sto') : Fm K C fz1 ρ sto' σ H1 where
  len := F.len
  st := F.st.trans s
  bs := F.bs.step s l
  vars := fun i c h => by
    have q := F.vars i c h
    cases c with
    | d x => obtain ⟨v, e, q⟩ := q; exact ⟨v, e, q.stp s F.bs⟩
    | o xs =>
      obtain ⟨a, vs, e, h1, h2, h3, h4, h5⟩ := q
      refine ⟨a, vs, e, s.ext _ _ h1 h4, h2.stp s F.bs, fun z => ?_, h4, h5⟩
      rcases s.new a z with z | ⟨_, z⟩
      · exact h3 z
      · rw [h1] at z; cases z
    | s => exact q
    | m acc =>
      obtain ⟨a, vs, e, h1, h2, h3, h4, h5⟩ := q
      refine ⟨a, vs, e, s.ext _ _ h1 h4, ⟨h2.1, h2.2.stp s F.bs⟩, fun z => ?_, h4, h5⟩
      rcases s.new a z with z | ⟨_, z⟩
      · exact h3 z
      · rw [h1] at z; cases z
    | t acc =>
      obtain ⟨a, vs, e, h1, h2, h3, h4, h5⟩ := q
      refine ⟨a, vs, e, s.ext _ _ h1 h4, h2.stp s F.bs, fun z => ?_, h4, h5⟩
      rcases s.new a z with z | ⟨_, z⟩
      · exact h3 z
      · rw [h1] at z; cases z
    | h l => exact ⟨q.1, q.2.stp s F.bs⟩
  sep := F.sep
end
/-- what an expression gives, seen from the heap H at its start -/
def ImR (K : PySem.W.Frag) (sp : Option Addr) (H : Hp) (fz' : Fz) (H' : Hp) (v : V) : R → Prop
  | .d x => Im K fz' H' v x
  | .f xs => ∃ a vs, v = .ref a ∧ H' a = some (.lst vs) ∧ ImA K fz' H' vs xs ∧ ¬ fz' a ∧ some a ≠ sp ∧ H a = none
  | .b xs => ∃ a vs, v = .ref a ∧ H' a = some (.lst vs) ∧ ImA K fz' H' vs xs ∧ some a ≠ sp
  | .s => IsS sp v
  | .m acc => ∃ a kvs, v = .ref a ∧ H' a = some (.dK kvs) ∧ ImK K fz' H' kvs acc ∧ ¬ fz' a ∧ some a ≠ sp ∧ H a = none
  | .t acc => ∃ a xs, v = .ref a ∧ H' a = some (DTO a xs) ∧ TK K fz' H' xs acc ∧ ¬ fz' a ∧ some a ≠ sp ∧ H a = none
  | .n acc => ∃ a kvs, v = .ref a ∧ H' a = some (.dK kvs) ∧ ImK K fz' H' kvs acc ∧ some a ≠ sp
  | .u acc => ∃ a xs, v = .ref a ∧ H' a = some (DTO a xs) ∧ TK K fz' H' xs acc ∧ some a ≠ sp
  | .h l => v = .ref l.f ∧ LamOk K fz' H' l
section
variable {K : PySem.W.Frag} {sp : Option Addr} {fz fz1 fz2 : Fz} {H H1 H2 : Hp} {sto : Sto} {v : V} {r : R}
/-- later on -/
theorem ImR.stp (h : ImR K sp H fz1 H1 v r) (s : Stp sp fz1 H1 fz2 H2) (B : Bs sp fz1 H1 sto) : ImR K sp H fz2 H2 v r := by
  cases r with
  | d x => exact Im.stp s B h
  | f xs =>
    obtain ⟨a, vs, e, h1, h2, h3, h4, h5⟩ := h
    refine ⟨a, vs, e, s.ext _ _ h1 h4, h2.stp s B, fun z => ?_, h4, h5⟩
    rcases s.new a z with z | ⟨_, z⟩
    · exact h3 z
    · rw [h1] at z; cases z
  | b xs =>
    obtain ⟨a, vs, e, h1, h2, h4⟩ := h
    exact ⟨a, vs, e, s.ext _ _ h1 h4, h2.stp s B, h4⟩
  | s => exact h
  | m acc =>
    obtain ⟨a, vs, e, h1, h2, h3, h4, h5⟩ := h
    refine ⟨a, vs, e, s.ext _ _ h1 h4, ⟨h2.1, h2.2.stp s B⟩, fun z => ?_, h4, h5⟩
    rcases s.new a z with z | ⟨_, z⟩
    · exact h3 z
    · rw [h1] at z; cases z
  | t acc =>
    obtain ⟨a, vs, e, h1, h2, h3, h4, h5⟩ := h
    refine ⟨a, vs, e, s.ext _ _ h1 h4, h2.stp s B, fun z => ?_, h4, h5⟩
    rcases s.new a z with z | ⟨_, z⟩
    · exact h3 z
    · rw [h1] at z; cases z
  | n acc =>
    obtain ⟨a, vs, e, h1, h2, h4⟩ := h
    exact ⟨a, vs, e, s.ext _ _ h1 h4, ⟨h2.1, h2.2.stp s B⟩, h4⟩
  | u acc =>
    obtain ⟨a, vs, e, h1, h2, h4⟩ := h
    exact ⟨a, vs, e, s.ext _ _ h1 h4, h2.stp s B, h4⟩
  | h l => exact ⟨h.1, h.2.stp s B⟩
/-- seen from an earlier start -/
theorem ImR.early (h : ImR K sp H1 fz2 H2 v r) (s : Stp sp fz H fz1 H1) : ImR K sp H fz2 H2 v r := by
  cases r with
  | d x => exact h
  | f xs =>
    obtain ⟨a, vs, e, h1, h2, h3, h4, h5⟩ := h
    exact ⟨a, vs, e, h1, h2, h3, h4, s.back h4 h5⟩
  | b xs => exact h
  | s => exact h
  | m acc =>
    obtain ⟨a, vs, e, h1, h2, h3, h4, h5⟩ := h
    exact ⟨a, vs, e, h1, h2, h3, h4, s.back h4 h5⟩
  | t acc =>
    obtain ⟨a, vs, e, h1, h2, h3, h4, h5⟩ := h
    exact ⟨a, vs, e, h1, h2, h3, h4, s.back h4 h5⟩
  | n acc => exact h
  | u acc => exact h
  | h l => exact h
end
def rdE (K : PySem.W.Frag) (m : Mx) : TE := fun σ H Q => ∃ (C : Cn) (fz : Fz) (ρ : Ev) (sto : Sto) (r : R) (sto' : Sto), Fm K C fz ρ sto σ H ∧ m ρ sto = some (r, sto') ∧
  ∀ v fz' H', Stp C.sp fz H fz' H' → SpL C.sp H' sto' → ImR K C.sp H fz' H' v r → Q v H'
def rdT (K : PySem.W.Frag) (m : Mt) : TT := fun σ H Q => ∃ (C : Cn) (fz : Fz) (ρ : Ev) (sto : Sto) (r : Bool) (sto' : Sto), Fm K C fz ρ sto σ H ∧ m ρ sto = some (r, sto') ∧
  ∀ fz' H', Stp C.sp fz H fz' H' → SpL C.sp H' sto' → Q r H'
abbrev ImRs (K : PySem.W.Frag) (sp : Option Addr) (H : Hp) (fz' : Fz) (H' : Hp) : List V → List R → Prop := Paired (ImR K sp H fz' H')
def rdA (K : PySem.W.Frag) (m : Ma) : TA := fun σ H Q => ∃ (C : Cn) (fz : Fz) (ρ : Ev) (sto : Sto) (r : List R) (sto' : Sto), Fm K C fz ρ sto σ H ∧ m ρ sto = some (r, sto') ∧
  ∀ vs fz' H', Stp C.sp fz H fz' H' → SpL C.sp H' sto' → ImRs K C.sp H fz' H' vs r → Q vs H'
def SE (X : Cx) (e : Expr) (m : Mx) : Prop := PE X e (rdE X.K m)
def SB (X : Cx) (e : Expr) (m : Mt) : Prop := PT X e (rdT X.K m)
/-- a test among and | or -/
def SW (X : Cx) (e : Expr) (m : Mt) : Prop := PW X e (rdT X.K m)
def SA (X : Cx) (es : List Expr) (m : Ma) : Prop := PA X es (rdA X.K m)
theorem PE.imp {X : Cx} {e : Expr} {t t' : TE} (h : PE X e t) (q : ∀ σ H Q, t' σ H Q → t σ H Q) : PE X e t' := ⟨fun pins s σ H Q I w => h.run pins s σ H Q I (q _ _ _ w)⟩
theorem PT.imp {X : Cx} {e : Expr} {t t' : TT} (h : PT X e t) (q : ∀ σ H Q, t' σ H Q → t σ H Q) : PT X e t' := ⟨fun pins s σ H Q I w => h.run pins s σ H Q I (q _ _ _ w)⟩
theorem PW.imp {X : Cx} {e : Expr} {t t' : TT} (h : PW X e t) (q : ∀ σ H Q, t' σ H Q → t σ H Q) : PW X e t' := ⟨fun wh pins s σ H Q I w => h.run wh pins s σ H Q I (q _ _ _ w)⟩
theorem PA.imp {X : Cx} {e : List Expr} {t t' : TA} (h : PA X e t) (q : ∀ σ H Q, t' σ H Q → t σ H Q) : PA X e t' := ⟨fun p pins s σ H Q I w => h.run p pins s σ H Q I (q _ _ _ w)⟩
theorem PS.imp {X : Cx} {e : Stmt} {t t' : TS} (h : PS X e t) (q : ∀ D σ H, t' D σ H → t D σ H) : PS X e t' := ⟨fun pins s σ H D I w => h.run pins s σ H D I (q _ _ _ w)⟩
theorem PSs.imp {X : Cx} {e : List Stmt} {t t' : TS} (h : PSs X e t) (q : ∀ D σ H, t' D σ H → t D σ H) : PSs X e t' := ⟨fun pins s σ H D I w => h.run pins s σ H D I (q _ _ _ w)⟩
def bnd {α β : Type} (a : Ev → Sto → Option (α × Sto)) (f : α → Ev → Sto → Option (β × Sto)) : Ev → Sto → Option (β × Sto) := fun ρ s =>
  match a ρ s with
  | some (x, s1) => f x ρ s1
  | none => none
theorem bnd_some {α β : Type} {a : Ev → Sto → Option (α × Sto)} {f : α → Ev → Sto → Option (β × Sto)} {ρ : Ev} {s : Sto} {y : β} {s2 : Sto} (h : bnd a f ρ s = some (y, s2)) : ∃ x s1, a ρ s = some (x, s1) ∧ f x ρ s1 = some (y, s2) := by
  unfold bnd at h
  split at h
  · rename_i x s1 e
    exact ⟨x, s1, e, h⟩
  · cases h
def ret {α : Type} (x : Option α) : Sto → Option (α × Sto) := fun s => match x with | some y => some (y, s) | none => none
theorem ret_some {α : Type} {x : Option α} {s : Sto} {y : α} {s2 : Sto} (h : ret x s = some (y, s2)) : x = some y ∧ s2 = s := by
  unfold ret at h
  split at h
  · rename_i z
    cases h
    exact ⟨rfl, rfl⟩
  · cases h
/-- one value, then a rule by values -/
def m1 (f : R → Option R) (a : Mx) : Mx := bnd a fun x _ => ret (f x)
def m2 (f : R → R → Option R) (a b : Mx) : Mx := bnd a fun x => bnd b fun y _ => ret (f x y)
def mA (f : List R → Option R) (a : Ma) : Mx := bnd a fun x _ => ret (f x)
/-- by values: from a heap with the spring, the rule's reading r follows from the function f -/
def Ok1 (K : PySem.W.Frag) (r : V → Hp → VK → Prop) (f : R → Option R) : Prop := ∀ (sp : Option Addr) (fz : Fz) (H H0 : Hp) (sto : Sto) (v : V) (x z : R) (Q : VK), Bs sp fz H sto → ImR K sp H0 fz H v x → f x = some z →
  (∀ u fz' H', Stp sp fz H fz' H' → SpL sp H' sto → ImR K sp H fz' H' u z ∨ (x = z ∧ u = v) → Q u H') → r v H Q
def Ok2 (K : PySem.W.Frag) (r : R2) (f : R → R → Option R) : Prop := ∀ (sp : Option Addr) (fz : Fz) (H H0 : Hp) (sto : Sto) (v w : V) (x y z : R) (Q : VK), Bs sp fz H sto → ImR K sp H0 fz H v x → ImR K sp H0 fz H w y → f x y = some z →
  (∀ u fz' H', Stp sp fz H fz' H' → SpL sp H' sto → ImR K sp H fz' H' u z → Q u H') → r v w H Q
def OkA (K : PySem.W.Frag) (r : List V → Hp → VK → Prop) (f : List R → Option R) : Prop := ∀ (sp : Option Addr) (fz fzS : Fz) (H H0 : Hp) (sto : Sto) (vs : List V) (xs : List R) (z : R) (Q : VK), Stp sp fzS H0 fz H → Bs sp fz H sto → ImRs K sp H0 fz H vs xs → f xs = some z →
  (∀ u fz' H', Stp sp fzS H0 fz' H' → SpL sp H' sto → ImR K sp H0 fz' H' u z → Q u H') → r vs H Q
section
variable {K : PySem.W.Frag} {sp : Option Addr} {fz fz1 fz2 : Fz} {H H1 H2 : Hp} {sto : Sto}
theorem ImRs.stp : ∀ {vs : List V} {rs : List R}, ImRs K sp H fz1 H1 vs rs → Stp sp fz1 H1 fz2 H2 → Bs sp fz1 H1 sto → ImRs K sp H fz2 H2 vs rs
  | _, _, .nil, _, _ => .nil
  | _, _, .cons h t, s, B => .cons (h.stp s B) (ImRs.stp t s B)
theorem ImRs.early : ∀ {vs : List V} {rs : List R}, ImRs K sp H1 fz2 H2 vs rs → Stp sp fz H fz1 H1 → ImRs K sp H fz2 H2 vs rs
  | _, _, .nil, _ => .nil
  | _, _, .cons h t, s => .cons (h.early s) (ImRs.early t s)
end
section
variable {X : Cx} {a b : Expr} {ma mb : Mx}
/-- two expressions, then a rule -/
theorem rd_two {K : PySem.W.Frag} {r : R2} {f : R → R → Option R} (hf : Ok2 K r f) {σ : St} {H : Hp} {Q : VK} (h : rdE K (m2 f ma mb) σ H Q) : tOp r (rdE K ma) (rdE K mb) σ H Q := by
  obtain ⟨C, fz, ρ, sto, z, sto', F, e, k⟩ := h
  obtain ⟨x, s1, ea, e⟩ := bnd_some e
  obtain ⟨y, s2, eb, e⟩ := bnd_some e
  obtain ⟨ef, rfl⟩ := ret_some e
  refine ⟨C, fz, ρ, sto, x, s1, F, ea, fun v fz1 H1 st1 l1 i1 => ?_⟩
  refine ⟨C, fz1, ρ, s1, y, sto', F.step st1 l1, eb, fun w fz2 H2 st2 l2 i2 => ?_⟩
  have B1 := F.bs.step st1 l1
  refine hf C.sp fz2 H2 H sto' v w x y z Q (B1.step st2 l2) (i1.stp st2 B1) (i2.early st1) ef fun u fz3 H3 st3 l3 i3 => ?_
  exact k u fz3 H3 ((st1.trans st2).trans st3) l3 (i3.early (st1.trans st2))
theorem rd_one {K : PySem.W.Frag} {r : V → Hp → VK → Prop} {f : R → Option R} (hf : Ok1 K r f) {σ : St} {H : Hp} {Q : VK} (h : rdE K (m1 f ma) σ H Q) : tUn r (rdE K ma) σ H Q := by
  obtain ⟨C, fz, ρ, sto, z, sto', F, e, k⟩ := h
  obtain ⟨x, s1, ea, e⟩ := bnd_some e
  obtain ⟨ef, rfl⟩ := ret_some e
  refine ⟨C, fz, ρ, sto, x, sto', F, ea, fun v fz1 H1 st1 l1 i1 => ?_⟩
  refine hf C.sp fz1 H1 H sto' v x z Q (F.bs.step st1 l1) i1 ef fun u fz3 H3 st3 l3 i3 => ?_
  refine k u fz3 H3 (st1.trans st3) l3 ?_
  rcases i3 with i3 | ⟨rfl, rfl⟩
  · exact i3.early st1
  · exact i1.stp st3 (F.bs.step st1 l1)
theorem rd_args {K : PySem.W.Frag} {r : List V → Hp → VK → Prop} {f : List R → Option R} {m : Ma} (hf : OkA K r f) {σ : St} {H : Hp} {Q : VK} (h : rdE K (mA f m) σ H Q) : tCB r (rdA K m) σ H Q := by
  obtain ⟨C, fz, ρ, sto, z, sto', F, e, k⟩ := h
  obtain ⟨x, s1, ea, e⟩ := bnd_some e
  obtain ⟨ef, rfl⟩ := ret_some e
  refine ⟨C, fz, ρ, sto, x, sto', F, ea, fun v fz1 H1 st1 l1 i1 => ?_⟩
  exact hf C.sp fz1 fz H1 H sto' v x z Q st1 (F.bs.step st1 l1) i1 ef fun u fz3 H3 st3 l3 i3 => k u fz3 H3 st3 l3 i3
end
def maNil : Ma := fun _ s => some ([], s)
def maCons (a : Mx) (r : Ma) : Ma := bnd a fun x => bnd r fun xs _ s => some (x :: xs, s)
section
variable {X : Cx} {e : Expr} {es : List Expr} {me : Mx} {mr : Ma}
theorem sa_nil : SA X [] maNil := PA.imp pa_nil fun σ H Q h => by
  obtain ⟨C, fz, ρ, sto, r, sto', F, e, k⟩ := h
  cases e
  exact k [] fz H .refl F.bs.spl .nil
theorem sa_cons (he : SE X e me) (hr : SA X es mr) (hs : starEach (e :: es) X.env = (false, eval e X.env) :: starEach es X.env := by rfl) : SA X (e :: es) (maCons me mr) := PA.imp (pa_cons he hr hs) fun σ H Q h => by
  obtain ⟨C, fz, ρ, sto, r, sto', F, e, k⟩ := h
  obtain ⟨x, s1, ea, e⟩ := bnd_some e
  obtain ⟨xs, s2, eb, e⟩ := bnd_some e
  cases e
  refine ⟨C, fz, ρ, sto, x, s1, F, ea, fun v fz1 H1 st1 l1 i1 => ?_⟩
  refine ⟨C, fz1, ρ, s1, xs, sto', F.step st1 l1, eb, fun vs fz2 H2 st2 l2 i2 => ?_⟩
  exact k (v :: vs) fz2 H2 (st1.trans st2) l2 (.cons (i1.stp st2 (F.bs.step st1 l1)) (i2.early st1))
end
def rdCl : Cl → R
  | .d x => .d x
  | .o xs => .b xs
  | .s => .s
  | .m acc => .n acc
  | .t acc => .u acc
  | .h l => .h l
def mVar (i : Nat) : Mx := fun ρ s => match ρ[i]? with
  | some (some c) => some (rdCl c, s)
  | _ => none
def mKon (x : PyData) : Mx := fun _ s => some (.d x, s)
section
variable {X : Cx}
theorem se_var {i : Nat} {x : Str} {pos : Pos} (hN : X.N[i]? = some x := by rfl) (hv : Vis X.env.scope x := by first | exact Or.inl rfl | exact Or.inr (Or.inl rfl) | exact Or.inr (Or.inr rfl)) (hd : (x == ("__debug__" : Str)) = false := by decide)
    (hcd : (x == ("__classdict__" : Str)) = false := by decide) : SE X (.Name x pos) (mVar i) := PE.imp (pe_var hN hv hd hcd) fun σ H Q h => by
  obtain ⟨C, fz, ρ, sto, r, sto', F, e, k⟩ := h
  unfold mVar at e
  split at e
  · rename_i c hc
    cases e
    have q := F.vars i c hc
    cases c with
    | d x => obtain ⟨v, e, q⟩ := q; exact ⟨v, e, k v fz H .refl F.bs.spl q⟩
    | o xs =>
      obtain ⟨a, vs, e, h1, h2, h3, h4, h5⟩ := q
      exact ⟨_, e, k _ fz H .refl F.bs.spl ⟨a, vs, rfl, h1, h2, h4⟩⟩
    | s => obtain ⟨a, ea, q⟩ := q; exact ⟨_, q, k _ fz H .refl F.bs.spl ⟨a, ea, rfl⟩⟩
    | m acc =>
      obtain ⟨a, vs, e, h1, h2, h3, h4, h5⟩ := q
      exact ⟨_, e, k _ fz H .refl F.bs.spl ⟨a, vs, rfl, h1, h2, h4⟩⟩
    | t acc =>
      obtain ⟨a, vs, e, h1, h2, h3, h4, h5⟩ := q
      exact ⟨_, e, k _ fz H .refl F.bs.spl ⟨a, vs, rfl, h1, h2, h4⟩⟩
    | h l => exact ⟨_, q.1, k _ fz H .refl F.bs.spl ⟨rfl, q.2⟩⟩
  · cases e
theorem rd_kon {K : PySem.W.Frag} {v : V} {x : PyData} (hv : ∀ fz H, Im K fz H v x) {σ : St} {H : Hp} {Q : VK} (h : rdE K (mKon x) σ H Q) : tC v σ H Q := by
  obtain ⟨C, fz, ρ, sto, r, sto', F, e, k⟩ := h
  cases e
  exact k v fz H .refl F.bs.spl (hv _ _)
theorem se_int {i : Int} {j pos} : SE X (.Constant (.int i) j pos) (mKon (.int i)) := PE.imp pe_int fun _ _ _ h => rd_kon (fun _ _ => .int i) h
theorem se_bl {i : Bool} {j pos} : SE X (.Constant (.bool i) j pos) (mKon (.bool i)) := PE.imp pe_bl fun _ _ _ h => rd_kon (fun _ _ => .bl i) h
theorem se_non {j pos} : SE X (.Constant .none j pos) (mKon .none) := PE.imp pe_non fun _ _ _ h => rd_kon (fun _ _ => .non) h
theorem se_str {i : Str} {j pos} : SE X (.Constant (.str i) j pos) (mKon (.str i)) := PE.imp pe_str fun _ _ _ h => rd_kon (fun _ _ => .str i) h
/-- a constant of the text -/
structure GlK (K : PySem.W.Frag) (mg : Str → Option Value) (x : Str) (d : PyData) : Prop where
  ex : ∃ v u, mg x = some u ∧ RelV v u ∧ ∀ fz H, Im K fz H v d
theorem se_glob {x : Str} {d : PyData} {pos : Pos} (hk : GlK X.K X.mg x d) (hg : Gl X x) (hd : (x == ("__debug__" : Str)) = false := by decide) : SE X (.Name x pos) (mKon d) := by
  obtain ⟨v, u, hm, r, q⟩ := hk.ex
  exact PE.imp (pe_glob hg hm r hd) fun _ _ _ h => rd_kon q h
end
end Dh
namespace Dh
open PySem PySem.Spec L2 PyProof.Rows
theorem tuple_mul1 (l : Addr) (items : Array Value) (n : Nat) (dd : Option Addr) (sl : Array (Option Value)) (u : Tok) :
    Meets (Builtin.«tuple.__mul__» ⟨[.ref l, .int 1 u], []⟩) (fun _ R s => s.heap.get? l = some { cls := .type "tuple", dict := dd, data := .seq items n, slots := sl } ∧ R (.ok (.ret (Value.ref l))) s) :=
  .of_wp fun prog w A R s h => by
    obtain ⟨hp, g, d, tk, os⟩ := s
    obtain ⟨hl, h⟩ := h
    have f1 := AutoSeq1.idx_int
    wp_walk using wpAny_loadPart' hl
    exact ⟨_, rfl, h⟩
def rRepT1 (K : PySem.W.Frag) : R2 := fun x y H Q => ∃ l xs, x = .ref l ∧ y = .int 1 ∧ SqT K H l xs ∧ Q (.ref l) H
section
variable {X : Cx}
theorem op_repT1 : OpR X (binaryOp .Mult) (rRepT1 X.K) := by
  intro pins s σ H x y v u Q I rx ry h
  obtain ⟨l, xs, rfl, rfl, hT, q⟩ := h
  cases rx
  obtain ⟨t, rfl⟩ := ry
  obtain ⟨its, r, ⟨⟨cls, dd, data, sl⟩, ho, hc, n, hd⟩, hs⟩ := I.tuple hT
  simp only at hc hd
  subst hc hd
  refine wpAny_binaryOp_repeat_ref (T := "tuple") (U := "int") (by decide) ⟨_, ho, rfl⟩ (fun s' => typeIs_int s' 1 t) noFill_tuple_mul F.fills_int_mul F.slot_int_rmul repeat_tuple F.slot_int_index.lookup
    (call_meets F.slot_int_rmul (typeIs_int s 1 t) F.entry_int_rmul (F.args_int_rmul_2 _ _) (int_rmul_tuple 1 t l its.toArray n dd sl)
      ⟨ho, rfl, ⟨_, ho, rfl⟩, call_meets F.slot_tuple_mul ⟨_, ho, rfl⟩ F.entry_tuple_mul (F.args_tuple_mul_2 _ _) (tuple_mul1 l its.toArray n dd sl t) ⟨ho, ?_⟩⟩)
  exact ⟨.ref l, H, I, rfl, q⟩
end
end Dh
namespace Dh
open PySem PySem.Spec L2
variable [LawT]
theorem OpR.or {X : Cx} {f : Value → Value → Sem Value} {r r' : R2} (h : OpR X f r) (h' : OpR X f r') : OpR X f (fun x y H Q => r x y H Q ∨ r' x y H Q) := fun pins s σ H x y v u Q I rx ry q => by
  rcases q with q | q
  · exact h pins s σ H x y v u Q I rx ry q
  · exact h' pins s σ H x y v u Q I rx ry q
theorem CallR.or {X : Cx} {f : Value} {r r' : List V → Hp → VK → Prop} (h : CallR X f r) (h' : CallR X f r') : CallR X f (fun x H Q => r x H Q ∨ r' x H Q) := fun pins s σ H x v Q I rx q => by
  rcases q with q | q
  · exact h pins s σ H x v Q I rx q
  · exact h' pins s σ H x v Q I rx q
section
variable {X : Cx} {a b : Expr} {ma mb : Mx} {pos : Pos}
theorem se_op {op : Operator} {r : R2} {f : R → R → Option R} (ho : OpR X (binaryOp op) r) (hf : Ok2 X.K r f) (ha : SE X a ma) (hb : SE X b mb) : SE X (.BinOp a op b pos) (m2 f ma mb) := PE.imp (pe_op ho ha hb) fun _ _ _ h => rd_two hf h
theorem se_un {op : UnaryOp} {r : V → Hp → VK → Prop} {f : R → Option R} (ho : UnR X (unaryOp op) r) (hf : Ok1 X.K r f) (ha : SE X a ma) : SE X (.UnaryOp op a pos) (m1 f ma) := PE.imp (pe_un ho ha) fun _ _ _ h => rd_one hf h
theorem se_cmp {op : CmpOp} {r : R2} {f : R → R → Option R} (ho : OpR X (compareOp op) r) (hf : Ok2 X.K r f) (ha : SE X a ma) (hb : SE X b mb) (hm : behindInMarks op b = false) : SE X (.Compare a [op] [b] pos) (m2 f ma mb) := PE.imp (pe_cmpR ho ha hb hm) fun _ _ _ h => rd_two hf h
/-- the truth of a bool -/
def bT (a : Mx) : Mt := bnd a fun x _ s => match x with | .d (.bool k) => some (k, s) | _ => none
theorem rd_bT {K : PySem.W.Frag} {m : Mx} {σ : L2.St} {H : Hp} {Q : Bool → Hp → Prop} (h : rdT K (bT m) σ H Q) : rdE K m σ H fun x H1 => ∃ c, x = .bl c ∧ Q c H1 := by
  obtain ⟨C, fz, ρ, sto, z, sto', F, e, k⟩ := h
  obtain ⟨x, s1, ea, e⟩ := bnd_some e
  split at e
  · rename_i k'
    cases e
    exact ⟨C, fz, ρ, sto, _, _, F, ea, fun v fz1 H1 st1 l1 i1 => by cases i1; exact ⟨_, rfl, k fz1 H1 st1 l1⟩⟩
  · cases e
theorem sb_val (h : SE X a ma) (he : ∀ whole, isTrue a X.env whole = (do let v ← whole; standAt a.pos; holding [v] (truthy v)) := by intro _; rfl) : SB X a (bT ma) := PT.imp (pt_val h he) fun _ _ _ q => rd_bT q
theorem sb_cmp {op : CmpOp} {r : R2} {f : R → R → Option R} (ho : OpR X (compareOp op) r) (hf : Ok2 X.K r f) (ha : SE X a ma) (hb : SE X b mb) (hm : behindInMarks op b = false) : SB X (.Compare a [op] [b] pos) (bT (m2 f ma mb)) :=
  PT.imp (pt_cmpR ho ha hb hm) fun σ H Q q => rd_two (Q := fun x H' => ∃ k, x = .bl k ∧ Q k H') hf (rd_bT q)
end
def fI (g : Int → Int → Option PyData) : R → R → Option R
  | .d (.int i), .d (.int j) => (g i j).map .d
  | _, _ => none
theorem fI_some {g : Int → Int → Option PyData} {x y z : R} (h : fI g x y = some z) : ∃ i j d, x = .d (.int i) ∧ y = .d (.int j) ∧ g i j = some d ∧ z = .d d := by
  unfold fI at h
  split at h
  · rename_i i j
    cases q : g i j with
    | none => rw [q] at h; cases h
    | some d => rw [q] at h; cases h; exact ⟨i, j, d, rfl, rfl, q, rfl⟩
  · cases h
theorem ok_I {K : PySem.W.Frag} {C : Int → Int → Prop} {gv : Int → Int → V} {g : Int → Int → Option PyData} (hg : ∀ i j d, g i j = some d → C i j ∧ ∀ fz H, Im K fz H (gv i j) d) : Ok2 K (rI C gv) (fI g) := by
  intro sp fz H H0 sto v w x y z Q B ix iy e k
  obtain ⟨i, j, d, rfl, rfl, q, rfl⟩ := fI_some e
  cases ix
  cases iy
  obtain ⟨c, im⟩ := hg i j d q
  exact ⟨i, j, rfl, rfl, c, k _ fz H .refl B.spl (im _ _)⟩
theorem ok_I0 {K : PySem.W.Frag} {gv : Int → Int → V} {g : Int → Int → Option PyData} (hg : ∀ i j d, g i j = some d → ∀ fz H, Im K fz H (gv i j) d) : Ok2 K (rI0 gv) (fI g) := by
  intro sp fz H H0 sto v w x y z Q B ix iy e k
  obtain ⟨i, j, d, rfl, rfl, q, rfl⟩ := fI_some e
  cases ix
  cases iy
  exact ⟨i, j, rfl, rfl, k _ fz H .refl B.spl (hg i j d q _ _)⟩
def gMns (i j : Int) : Option PyData := some (.int (i - j))
def gLt (i j : Int) : Option PyData := some (.bool (decide (i < j)))
def gLe (i j : Int) : Option PyData := some (.bool (decide (i ≤ j)))
def gGt (i j : Int) : Option PyData := some (.bool (decide (j < i)))
def gGe (i j : Int) : Option PyData := some (.bool (decide (j ≤ i)))
def gFdiv (i j : Int) : Option PyData := if j ≠ 0 ∧ Builtin.divisionGoesByPylong i j = false then some (.int (i.fdiv j)) else none
def gMod (i j : Int) : Option PyData := if j ≠ 0 then some (.int (i.fmod j)) else none
def gPow (i j : Int) : Option PyData := if 0 ≤ j ∧ j ≤ 1000000 ∧ i.natAbs < 2 ^ 64 then some (.int (i ^ j.toNat)) else none
/-- two factors of together at most 2^27 bits -/
def mulOk (i j : Int) : Bool := Nat.ble (Builtin.Int.intBits i + Builtin.Int.intBits j) 134217728
def CFdivP (i j : Int) : Prop := j ≠ 0 ∧ Builtin.divisionGoesByPylong i j = false
section
variable {X : Cx} {a b : Expr} {ma mb : Mx} {pos : Pos}
theorem op_fdivP : OpR X (binaryOp .FloorDiv) (rI CFdivP fun i j => .int (i.fdiv j)) := opI fun _ _ _ _ _ _ _ hc q => PyProof.Rows.floordiv_int hc.1 q (.inl hc.2)
theorem se_sub (ha : SE X a ma) (hb : SE X b mb) : SE X (.BinOp a .Sub b pos) (m2 (fI gMns) ma mb) := se_op op_sub (ok_I0 fun i j d e _ _ => by cases e; exact .int _) ha hb
theorem se_fdiv (ha : SE X a ma) (hb : SE X b mb) : SE X (.BinOp a .FloorDiv b pos) (m2 (fI gFdiv) ma mb) := se_op op_fdivP (ok_I fun i j d e => by
  unfold gFdiv at e
  split at e
  · rename_i c; cases e; exact ⟨c, fun _ _ => .int _⟩
  · cases e) ha hb
theorem se_mod (ha : SE X a ma) (hb : SE X b mb) : SE X (.BinOp a .Mod b pos) (m2 (fI gMod) ma mb) := se_op op_modN (ok_I fun i j d e => by
  unfold gMod at e
  split at e
  · rename_i c; cases e; exact ⟨c, fun _ _ => .int _⟩
  · cases e) ha hb
theorem se_pow (ha : SE X a ma) (hb : SE X b mb) : SE X (.BinOp a .Pow b pos) (m2 (fI gPow) ma mb) := se_op op_pow (ok_I fun i j d e => by
  unfold gPow at e
  split at e
  · rename_i c; cases e; exact ⟨c, fun _ _ => .int _⟩
  · cases e) ha hb
theorem ok_lt {K : PySem.W.Frag} : Ok2 K (rI0 fun i j => .bl (decide (i < j))) (fI gLt) := ok_I0 fun i j d e _ _ => by cases e; exact .bl _
theorem ok_le {K : PySem.W.Frag} : Ok2 K (rI0 fun i j => .bl (decide (i ≤ j))) (fI gLe) := ok_I0 fun i j d e _ _ => by cases e; exact .bl _
theorem ok_gt {K : PySem.W.Frag} : Ok2 K (rI0 fun i j => .bl (decide (j < i))) (fI gGt) := ok_I0 fun i j d e _ _ => by cases e; exact .bl _
theorem ok_ge {K : PySem.W.Frag} : Ok2 K (rI0 fun i j => .bl (decide (j ≤ i))) (fI gGe) := ok_I0 fun i j d e _ _ => by cases e; exact .bl _
theorem se_lt (ha : SE X a ma) (hb : SE X b mb) : SE X (.Compare a [.Lt] [b] pos) (m2 (fI gLt) ma mb) := se_cmp op_lt ok_lt ha hb (nomark _)
theorem se_gt (ha : SE X a ma) (hb : SE X b mb) : SE X (.Compare a [.Gt] [b] pos) (m2 (fI gGt) ma mb) := se_cmp op_gt ok_gt ha hb (nomark _)
theorem sb_lt (ha : SE X a ma) (hb : SE X b mb) : SB X (.Compare a [.Lt] [b] pos) (bT (m2 (fI gLt) ma mb)) := sb_cmp op_lt ok_lt ha hb (nomark _)
theorem sb_le (ha : SE X a ma) (hb : SE X b mb) : SB X (.Compare a [.LtE] [b] pos) (bT (m2 (fI gLe) ma mb)) := sb_cmp op_le ok_le ha hb (nomark _)
theorem sb_gt (ha : SE X a ma) (hb : SE X b mb) : SB X (.Compare a [.Gt] [b] pos) (bT (m2 (fI gGt) ma mb)) := sb_cmp op_gt ok_gt ha hb (nomark _)
theorem sb_ge (ha : SE X a ma) (hb : SE X b mb) : SB X (.Compare a [.GtE] [b] pos) (bT (m2 (fI gGe) ma mb)) := sb_cmp op_ge ok_ge ha hb (nomark _)
def fNeg : R → Option R
  | .d (.int i) => some (.d (.int (-i)))
  | _ => none
theorem se_neg (ha : SE X a ma) : SE X (.UnaryOp .USub a pos) (m1 fNeg ma) := se_un un_neg (by
  intro sp fz H H0 sto v x z Q B ix e k
  unfold fNeg at e
  split at e
  · cases e
    cases ix
    exact ⟨_, rfl, k _ fz H .refl B.spl (.inl (.int _))⟩
  · cases e) ha
end
/-- a list that is looked at -/
def rdL : R → Option (List PyData)
  | .d (.list xs) => some xs
  | .f xs => some xs
  | .b xs => some xs
  | _ => none
/-- where it stands -/
theorem ImR.list {K : PySem.W.Frag} {sp : Option Addr} {fz : Fz} {H H0 : Hp} {v : V} {x : R} {xs : List PyData} (i : ImR K sp H0 fz H v x) (e : rdL x = some xs) : ∃ a vs, v = .ref a ∧ SqL K H a vs ∧ ImA K fz H vs xs := by
  unfold rdL at e
  split at e
  · cases e
    cases i with
    | lst h a => exact ⟨_, _, rfl, h.sq, a⟩
  · cases e
    obtain ⟨a, vs, e, h1, h2, _⟩ := i
    exact ⟨a, vs, e, .inl (.inl h1), h2⟩
  · cases e
    obtain ⟨a, vs, e, h1, h2, _⟩ := i
    exact ⟨a, vs, e, .inl (.inl h1), h2⟩
  · cases e
def rdQ : R → Option (List PyData)
  | .d (.tuple xs) => some xs
  | r => rdL r
theorem ImR.seq {K : PySem.W.Frag} {sp : Option Addr} {fz : Fz} {H H0 : Hp} {v : V} {x : R} {xs : List PyData} (i : ImR K sp H0 fz H v x) (e : rdQ x = some xs) : ∃ a vs, v = .ref a ∧ (SqL K H a vs ∨ SqT K H a vs) ∧ ImA K fz H vs xs := by
  unfold rdQ at e
  split at e
  · cases e
    cases i with
    | tup h a => exact ⟨_, _, rfl, .inr h.sq, a⟩
  · obtain ⟨a, vs, e1, h1, h2⟩ := i.list e
    exact ⟨a, vs, e1, .inl h1, h2⟩
theorem ImR.tup {K : PySem.W.Frag} {sp : Option Addr} {fz : Fz} {H H0 : Hp} {v : V} {xs : List PyData} (i : ImR K sp H0 fz H v (.d (.tuple xs))) : ∃ a vs, v = .ref a ∧ SqT K H a vs ∧ ImA K fz H vs xs := by
  cases i with
  | tup h a => exact ⟨_, _, rfl, h.sq, a⟩
theorem ImR.tupF {K : PySem.W.Frag} {sp : Option Addr} {fz : Fz} {H H0 : Hp} {v : V} {xs : List PyData} (i : ImR K sp H0 fz H v (.d (.tuple xs))) : ∃ a vs, v = .ref a ∧ FzT K H a vs ∧ ImA K fz H vs xs := by
  cases i with
  | tup h a => exact ⟨_, _, rfl, h, a⟩
/-- a new tuple of data -/
theorem new_tup {K : PySem.W.Frag} {sp : Option Addr} {fz : Fz} {H : Hp} {sto : Sto} {p : Addr} {vs : List V} {xs : List PyData} {o : Obj} (B : Bs sp fz H sto) (a : ImA K fz H vs xs) (hp : H p = none) (hd : o.dict = none) :
    Stp sp fz H fz (upd H p (.frz o (.tup vs))) ∧ SpL sp (upd H p (.frz o (.tup vs))) sto ∧ Im K fz (upd H p (.frz o (.tup vs))) (.ref p) (.tuple xs) := by
  have s : Stp sp fz H fz (upd H p (.frz o (.tup vs))) := .laid hp
  have e : some p ≠ sp := B.spl.ne hp (by intro z; cases z)
  exact ⟨s, B.spl.upd e, .tup (.inl ⟨o, upd_same, hd⟩) (a.stp s B)⟩
/-- a new list of data -/
theorem new_lst {K : PySem.W.Frag} {sp : Option Addr} {fz : Fz} {H : Hp} {sto : Sto} {p : Addr} {vs : List V} {xs : List PyData} (B : Bs sp fz H sto) (a : ImA K fz H vs xs) (hp : H p = none) :
    Stp sp fz H fz (upd H p (.lst vs)) ∧ SpL sp (upd H p (.lst vs)) sto ∧ ImR K sp H fz (upd H p (.lst vs)) (.ref p) (.f xs) := by
  have s : Stp sp fz H fz (upd H p (.lst vs)) := .laid hp
  have e : some p ≠ sp := B.spl.ne hp (by intro z; cases z)
  exact ⟨s, B.spl.upd e, ⟨p, vs, rfl, upd_same, a.stp s B, fun q => B.trk p q hp, e, hp⟩⟩
def fAdd : R → R → Option R
  | .d (.int i), .d (.int j) => some (.d (.int (i + j)))
  | .d (.str x), .d (.str y) => if x.length + y.length ≤ sizeLine then some (.d (.str (x ++ y))) else none
  | .d (.tuple xs), .d (.tuple ys) => if xs.length + ys.length ≤ sizeLine then some (.d (.tuple (xs ++ ys))) else none
  | .f xs, .f ys => if xs.length + ys.length ≤ sizeLine then some (.f (xs ++ ys)) else none
  | .f xs, .b ys => if xs.length + ys.length ≤ sizeLine then some (.f (xs ++ ys)) else none
  | .b xs, .f ys => if xs.length + ys.length ≤ sizeLine then some (.f (xs ++ ys)) else none
  | .b xs, .b ys => if xs.length + ys.length ≤ sizeLine then some (.f (xs ++ ys)) else none
  | _, _ => none
def rAdd (K : PySem.W.Frag) : R2 := fun x y H Q => rI0 (fun i j => .int (i + j)) x y H Q ∨ (∃ i j, x = .str i ∧ y = .str j ∧ i.length + j.length ≤ sizeLine ∧ Q (.str (i ++ j)) H) ∨ rCatS K x y H Q ∨ rCat x y H Q
/-- a tracked list (own, or just made) -/
def trL : R → Option (List PyData)
  | .f xs => some xs
  | .b xs => some xs
  | _ => none
theorem ImR.trk {K : PySem.W.Frag} {sp : Option Addr} {fz : Fz} {H H0 : Hp} {v : V} {x : R} {xs : List PyData} (i : ImR K sp H0 fz H v x) (e : trL x = some xs) : ∃ a vs, v = .ref a ∧ H a = some (.lst vs) ∧ ImA K fz H vs xs := by
  unfold trL at e
  split at e
  · cases e
    obtain ⟨a, vs, e, h1, h2, _⟩ := i
    exact ⟨a, vs, e, h1, h2⟩
  · cases e
    obtain ⟨a, vs, e, h1, h2, _⟩ := i
    exact ⟨a, vs, e, h1, h2⟩
  · cases e
theorem ok_cat {K : PySem.W.Frag} {sp : Option Addr} {fz : Fz} {H H0 : Hp} {sto : Sto} {v w : V} {x y : R} {xs ys : List PyData} {Q : VK} (B : Bs sp fz H sto) (ix : ImR K sp H0 fz H v x) (iy : ImR K sp H0 fz H w y) (ex : trL x = some xs) (ey : trL y = some ys) (hz : xs.length + ys.length ≤ sizeLine)
    (k : ∀ u fz' H', Stp sp fz H fz' H' → SpL sp H' sto → ImR K sp H fz' H' u (.f (xs ++ ys)) → Q u H') : rCat v w H Q := by
  obtain ⟨a, vs, rfl, h1, h2⟩ := ix.trk ex
  obtain ⟨b, ws, rfl, h3, h4⟩ := iy.trk ey
  refine ⟨a, b, vs, ws, rfl, rfl, h1, h3, by rw [h2.length, h4.length]; exact hz, fun p hp => ?_⟩
  obtain ⟨s, l, i⟩ := new_lst B (h2.append h4) hp
  exact k _ fz _ s l i
theorem ok_add {K : PySem.W.Frag} : Ok2 K (rAdd K) fAdd := by
  intro sp fz H H0 sto v w x y z Q B ix iy e k
  unfold fAdd at e
  split at e
  · cases e; cases ix; cases iy
    exact .inl ⟨_, _, rfl, rfl, k _ fz H .refl B.spl (.int _)⟩
  · split at e
    · rename_i hz
      cases e; cases ix; cases iy
      exact .inr (.inl ⟨_, _, rfl, rfl, hz, k _ fz H .refl B.spl (.str _)⟩)
    · cases e
  · split at e
    · rename_i xs ys hz
      cases e
      obtain ⟨a, vs, rfl, h1, h2⟩ := ix.tupF
      obtain ⟨b, ws, rfl, h3, h4⟩ := iy.tupF
      refine .inr (.inr (.inl ⟨a, b, vs, ws, rfl, rfl, h1.sq, h3.sq, by rw [h2.length, h4.length]; exact hz, fun q => ?_, fun _ q => ?_, fun _ _ p o hp ho => ?_⟩))
      · subst q
        have q2 : xs = [] := List.length_eq_zero_iff.mp h2.length.symm
        subst q2
        exact k _ fz H .refl B.spl (show Im K fz H _ _ from .tup h3 h4)
      · subst q
        have q2 : ys = [] := List.length_eq_zero_iff.mp h4.length.symm
        subst q2
        exact k _ fz H .refl B.spl (show Im K fz H _ _ from .tup h1 (by rw [List.append_nil]; exact h2))
      · obtain ⟨s, l, i⟩ := new_tup B (h2.append h4) hp ho
        exact k _ fz _ s l i
    · cases e
  · split at e
    · rename_i hz; cases e
      exact .inr (.inr (.inr (ok_cat B ix iy rfl rfl hz k)))
    · cases e
  · split at e
    · rename_i hz; cases e
      exact .inr (.inr (.inr (ok_cat B ix iy rfl rfl hz k)))
    · cases e
  · split at e
    · rename_i hz; cases e
      exact .inr (.inr (.inr (ok_cat B ix iy rfl rfl hz k)))
    · cases e
  · split at e
    · rename_i hz; cases e
      exact .inr (.inr (.inr (ok_cat B ix iy rfl rfl hz k)))
    · cases e
  · cases e
section
variable {X : Cx} {a b : Expr} {ma mb : Mx} {pos : Pos}
theorem se_add (ha : SE X a ma) (hb : SE X b mb) : SE X (.BinOp a .Add b pos) (m2 fAdd ma mb) := se_op (op_add.or (op_add_str.or (op_catS.or op_cat))) ok_add ha hb
end
def fMul : R → R → Option R
  | .d (.int i), .d (.int j) => if mulOk i j = true then some (.d (.int (i * j))) else none
  | .d (.tuple xs), .d (.int k) => if k = 1 then some (.d (.tuple xs)) else if xs ≠ [] ∧ 2 ≤ k ∧ k ≤ 1000 ∧ xs.length ≤ 1000 then some (.d (.tuple (List.replicate k.toNat xs).flatten)) else none
  | .f xs, .d (.int k) => if 0 ≤ k ∧ k < 2 ^ 63 ∧ xs.length * k.toNat ≤ sizeLine then some (.f (List.replicate k.toNat xs).flatten) else none
  | .b xs, .d (.int k) => if 0 ≤ k ∧ k < 2 ^ 63 ∧ xs.length * k.toNat ≤ sizeLine then some (.f (List.replicate k.toNat xs).flatten) else none
  | _, _ => none
theorem ImA.rep {K : PySem.W.Frag} {fz : Fz} {H : Hp} {vs : List V} {xs : List PyData} (h : ImA K fz H vs xs) : ∀ n : Nat, ImA K fz H (List.replicate n vs).flatten (List.replicate n xs).flatten
  | 0 => by simpa using ImA.nil
  | n + 1 => by
    rw [List.replicate_succ, List.replicate_succ, List.flatten_cons, List.flatten_cons]
    exact h.append (h.rep n)
theorem ok_rep {K : PySem.W.Frag} {sp : Option Addr} {fz : Fz} {H H0 : Hp} {sto : Sto} {v : V} {x : R} {xs : List PyData} {j : Int} {Q : VK} (B : Bs sp fz H sto) (ix : ImR K sp H0 fz H v x) (ex : trL x = some xs) (hz : 0 ≤ j ∧ j < 2 ^ 63 ∧ xs.length * j.toNat ≤ sizeLine)
    (k : ∀ u fz' H', Stp sp fz H fz' H' → SpL sp H' sto → ImR K sp H fz' H' u (.f (List.replicate j.toNat xs).flatten) → Q u H') : rRep v (.int j) H Q := by
  obtain ⟨a, vs, rfl, h1, h2⟩ := ix.trk ex
  refine ⟨a, j, vs, rfl, rfl, h1, by omega, hz.2.1, by rw [h2.length]; exact hz.2.2, fun p hp => ?_⟩
  obtain ⟨s, l, i⟩ := new_lst B (h2.rep j.toNat) hp
  exact k _ fz _ s l i
theorem ok_mul {K : PySem.W.Frag} : Ok2 K (fun x y H Q => rI CMulX (fun i j => .int (i * j)) x y H Q ∨ rRepS K x y H Q ∨ rRepT1 K x y H Q ∨ rRep x y H Q) fMul := by
  intro sp fz H H0 sto v w x y z Q B ix iy e k
  unfold fMul at e
  split at e
  · split at e
    · rename_i hz; cases e; cases ix; cases iy
      exact .inl ⟨_, _, rfl, rfl, (by unfold CMulX; have := Nat.le_of_ble_eq_true hz; omega), k _ fz H .refl B.spl (.int _)⟩
    · cases e
  · split at e
    · rename_i xs j hk
      subst hk
      cases e; cases iy
      obtain ⟨a, vs, rfl, h1, h2⟩ := ix.tupF
      exact .inr (.inr (.inl ⟨a, vs, rfl, rfl, h1.sq, k _ fz H .refl B.spl (show Im K fz H _ _ from .tup h1 h2)⟩))
    · split at e
      · rename_i xs j _ hz
        cases e; cases iy
        obtain ⟨a, vs, rfl, h1, h2⟩ := ix.tup
        refine .inr (.inl ⟨a, j, vs, rfl, rfl, h1, fun q => ?_, hz.2.1, hz.2.2.1, by rw [h2.length]; exact hz.2.2.2, fun p o hp ho => ?_⟩)
        · subst q; exact hz.1 (List.length_eq_zero_iff.mp h2.length.symm)
        · obtain ⟨s, l, i⟩ := new_tup B (h2.rep j.toNat) hp ho
          exact k _ fz _ s l i
      · cases e
  · split at e
    · rename_i hz; cases e; cases iy
      exact .inr (.inr (.inr (ok_rep B ix rfl hz k)))
    · cases e
  · split at e
    · rename_i hz; cases e; cases iy
      exact .inr (.inr (.inr (ok_rep B ix rfl hz k)))
    · cases e
  · cases e
section
variable {X : Cx} {a b : Expr} {ma mb : Mx} {pos : Pos}
theorem se_mul (ha : SE X a ma) (hb : SE X b mb) : SE X (.BinOp a .Mult b pos) (m2 fMul ma mb) := se_op (op_mulX.or (op_repS.or (op_repT1.or op_rep))) ok_mul ha hb
end
section
variable {X : Cx} {pins : List (Addr × Obj)} {σ : L2.St} {H : Hp} {s : Shared} {fz : Fz}
mutual
def noDict : PyData → Bool
  | .list xs => noDicts xs
  | .tuple xs => noDicts xs
  | .dict _ => false
  | _ => true
def noDicts : List PyData → Bool
  | [] => true
  | x :: xs => noDict x && noDicts xs
end
mutual
theorem Im.dp : ∀ {v : V} {d : PyData}, Im X.K fz H v d → noDict d = true → Dp X.K H v d
  | _, _, .non, _ => .non
  | _, _, .bl b, _ => .bl b
  | _, _, .int i, _ => .int i
  | _, _, .str x, _ => .str x
  | _, _, .lst h a, q => .lst h.sq (ImA.dp a (by simpa [noDict] using q))
  | _, _, .tup h a, q => .tup h.sq (ImA.dp a (by simpa [noDict] using q))
  | _, _, .dct _ _ _ _, q => by simp [noDict] at q
theorem ImA.dp : ∀ {v : List V} {d : List PyData}, ImA X.K fz H v d → noDicts d = true → DpAll X.K H v d
  | _, _, .nil, _ => .nil
  | _, _, .cons h t, q => by
    simp only [noDicts, Bool.and_eq_true] at q
    exact .cons (Im.dp h q.1) (ImA.dp t q.2)
end
/-- any datum that is looked at -/
def rdD : R → Option PyData
  | .d x => some x
  | .f xs => some (.list xs)
  | .b xs => some (.list xs)
  | _ => none
theorem ImR.dp {sp : Option Addr} {H0 : Hp} {v : V} {x : R} {d : PyData} (i : ImR X.K sp H0 fz H v x) (e : rdD x = some d) (hn : noDict d = true) : Dp X.K H v d := by
  cases x with
  | d x => cases e; exact Im.dp i hn
  | f xs =>
    cases e
    obtain ⟨a, vs, rfl, h1, h2, _⟩ := i
    exact .lst (.inl (.inl h1)) (ImA.dp h2 (by simpa [noDict] using hn))
  | b xs =>
    cases e
    obtain ⟨a, vs, rfl, h1, h2, _⟩ := i
    exact .lst (.inl (.inl h1)) (ImA.dp h2 (by simpa [noDict] using hn))
  | s => cases e
  | m _ => cases e
  | t _ => cases e
  | n _ => cases e
  | u _ => cases e
  | h l => cases e
end
/-- data that == may be asked of here -/
def eqOk (d : PyData) : Bool := noDict d && SeqAt.shaped d
def fEqD (neg : Bool) : R → R → Option R := fun x y => match rdD x, rdD y with
  | some d, some e => if eqOk d = true ∧ eqOk e = true then some (.d (.bool (if neg then !PyData.eqv d e else PyData.eqv d e))) else none
  | _, _ => none
def strOf : R → Option Str
  | .d (.str x) => some x
  | _ => none
/-- ==; of any two texts, or of two data without a dict that are not too deep -/
def fEq (neg : Bool) : R → R → Option R := fun x y => match strOf x, strOf y with
  | some a, some b => some (.d (.bool (if neg then !(a == b) else a == b)))
  | _, _ => fEqD neg x y
section
variable {X : Cx} {a b : Expr} {ma mb : Mx} {pos : Pos}
theorem strOf_some {x : R} {a : Str} (h : strOf x = some a) : x = .d (.str a) := by
  unfold strOf at h
  split at h
  · cases h; rfl
  · cases h
theorem fEq_some {neg : Bool} {x y z : R} (h : fEqD neg x y = some z) : ∃ d e, rdD x = some d ∧ rdD y = some e ∧ noDict d = true ∧ noDict e = true ∧ SeqAt.shaped d = true ∧ SeqAt.shaped e = true ∧ z = .d (.bool (if neg then !PyData.eqv d e else PyData.eqv d e)) := by
  unfold fEqD at h
  split at h
  · rename_i d e h1 h2
    split at h
    · rename_i hz
      cases h
      simp only [eqOk, Bool.and_eq_true] at hz
      exact ⟨d, e, h1, h2, hz.1.1, hz.2.1, hz.1.2, hz.2.2, rfl⟩
    · cases h
  · cases h
theorem ok_eq : Ok2 X.K (fun x y H Q => rEq x y H Q ∨ rEqD X.K x y H Q) (fEq false) := by
  intro sp fz H H0 sto v w x y z Q B ix iy h k
  unfold fEq at h
  split at h
  · rename_i a b ea eb
    cases strOf_some ea
    cases strOf_some eb
    cases h
    cases ix
    cases iy
    exact .inl ⟨rfl, k _ fz H .refl B.spl (by rw [dec_str]; exact .bl _)⟩
  · obtain ⟨d, e, h1, h2, n1, n2, s1, s2, rfl⟩ := fEq_some h
    exact .inr ⟨d, e, ix.dp h1 n1, iy.dp h2 n2, s1, s2, k _ fz H .refl B.spl (.bl _)⟩
theorem ok_ne : Ok2 X.K (fun x y H Q => rNe x y H Q ∨ rNeD X.K x y H Q) (fEq true) := by
  intro sp fz H H0 sto v w x y z Q B ix iy h k
  unfold fEq at h
  split at h
  · rename_i a b ea eb
    cases strOf_some ea
    cases strOf_some eb
    cases h
    cases ix
    cases iy
    exact .inl ⟨rfl, k _ fz H .refl B.spl (by rw [dec_str]; exact .bl _)⟩
  · obtain ⟨d, e, h1, h2, n1, n2, s1, s2, rfl⟩ := fEq_some h
    exact .inr ⟨d, e, ix.dp h1 n1, iy.dp h2 n2, s1, s2, k _ fz H .refl B.spl (.bl _)⟩
theorem se_eq {k : Nat} (hr : Room k X.A) (ha : SE X a ma) (hb : SE X b mb) : SE X (.Compare a [.Eq] [b] pos) (m2 (fEq false) ma mb) := se_cmp (op_eq.or (op_eqD hr.units)) ok_eq ha hb (nomark _)
theorem sb_eq {k : Nat} (hr : Room k X.A) (ha : SE X a ma) (hb : SE X b mb) : SB X (.Compare a [.Eq] [b] pos) (bT (m2 (fEq false) ma mb)) := sb_cmp (op_eq.or (op_eqD hr.units)) ok_eq ha hb (nomark _)
theorem sb_ne {k : Nat} (hr : Room k X.A) (ha : SE X a ma) (hb : SE X b mb) : SB X (.Compare a [.NotEq] [b] pos) (bT (m2 (fEq true) ma mb)) := sb_cmp (op_ne.or (op_neD hr.units)) ok_ne ha hb (nomark _)
end
/-- two comparisons of ints -/
def mChain (g1 g2 : Int → Int → Option PyData) (a b c : Mx) : Mx := bnd a fun x => bnd b fun y => bnd (fun _ => ret (fI g1 x y)) fun z => match z with
  | .d (.bool true) => bnd c fun w _ => ret (fI g2 y w)
  | .d (.bool false) => fun _ s => some (.d (.bool false), s)
  | _ => fun _ _ => none
theorem rd_chain {K : PySem.W.Frag} {r r' : R2} {g1 g2 : Int → Int → Option PyData} (h1 : Ok2 K r (fI g1)) (h2 : Ok2 K r' (fI g2)) {ma mb mc : Mx} {σ : L2.St} {H : Hp} {Q : VK} (h : rdE K (mChain g1 g2 ma mb mc) σ H Q) :
    tChain r r' (rdE K ma) (rdE K mb) (rdE K mc) σ H Q := by
  obtain ⟨C, fz, ρ, sto, z, sto', F, e, k⟩ := h
  obtain ⟨x, s1, ea, e1⟩ := bnd_some e
  obtain ⟨y, s2, eb, e2⟩ := bnd_some e1
  obtain ⟨z1, s3, ec, e3⟩ := bnd_some e2
  clear e e1 e2
  obtain ⟨ef, rfl⟩ := ret_some ec
  refine ⟨C, fz, ρ, sto, x, s1, F, ea, fun v fz1 H1 st1 l1 i1 => ?_⟩
  refine ⟨C, fz1, ρ, s1, y, s3, F.step st1 l1, eb, fun w fz2 H2 st2 l2 i2 => ?_⟩
  have B1 := F.bs.step st1 l1
  have B2 := B1.step st2 l2
  refine h1 C.sp fz2 H2 H s3 v w x y z1 _ B2 (i1.stp st2 B1) (i2.early st1) ef fun u fz3 H3 st3 l3 i3 => ?_
  have B3 := B2.step st3 l3
  split at e3
  · cases i3
    obtain ⟨y', s4, ed, e4⟩ := bnd_some e3
    obtain ⟨eg, rfl⟩ := ret_some e4
    refine ⟨true, rfl, ?_⟩
    refine ⟨C, fz3, ρ, s3, y', sto', ((F.step st1 l1).step st2 l2).step st3 l3, ed, fun w' fz4 H4 st4 l4 i4 => ?_⟩
    have B4 := B3.step st4 l4
    refine h2 C.sp fz4 H4 H sto' w w' y y' z _ B4 ((i2.early st1).stp (st3.trans st4) B2) (i4.early ((st1.trans st2).trans st3)) eg fun u fz5 H5 st5 l5 i5 => ?_
    exact k u fz5 H5 ((((st1.trans st2).trans st3).trans st4).trans st5) l5 (i5.early (((st1.trans st2).trans st3).trans st4))
  · cases i3
    cases e3
    exact ⟨false, rfl, k _ fz3 H3 ((st1.trans st2).trans st3) l3 (.bl _)⟩
  · cases e3
section
variable {X : Cx} {a b c : Expr} {ma mb mc : Mx} {pos : Pos}
theorem se_lelt (ha : SE X a ma) (hb : SE X b mb) (hc : SE X c mc) (hm : lastMarks [.LtE, .Lt] [b, c] = false := by rfl) : SE X (.Compare a [.LtE, .Lt] [b, c] pos) (mChain gLe gLt ma mb mc) := PE.imp (pe_chain op_le op_lt ha hb hc hm) fun _ _ _ h => rd_chain ok_le ok_lt h
theorem se_lele (ha : SE X a ma) (hb : SE X b mb) (hc : SE X c mc) (hm : lastMarks [.LtE, .LtE] [b, c] = false := by rfl) : SE X (.Compare a [.LtE, .LtE] [b, c] pos) (mChain gLe gLe ma mb mc) := PE.imp (pe_chain op_le op_le ha hb hc hm) fun _ _ _ h => rd_chain ok_le ok_le h
theorem sb_lele (ha : SE X a ma) (hb : SE X b mb) (hc : SE X c mc) (hm : lastMarks [.LtE, .LtE] [b, c] = false := by rfl) : SB X (.Compare a [.LtE, .LtE] [b, c] pos) (bT (mChain gLe gLe ma mb mc)) := PT.imp (pt_chain op_le op_le ha hb hc hm) fun σ H Q h => rd_chain (Q := fun x H' => ∃ k, x = .bl k ∧ Q k H') ok_le ok_le (rd_bT h)
end
end Dh
namespace Dh
open PySem PySem.Spec L2
variable [LawT]
def mAnd (a b : Mx) : Mx := bnd a fun x => match x with
  | .d (.bool true) => b
  | .d (.bool false) => fun _ s => some (.d (.bool false), s)
  | _ => fun _ _ => none
def mOr (a b : Mx) : Mx := bnd a fun x => match x with
  | .d (.bool false) => b
  | .d (.bool true) => fun _ s => some (.d (.bool true), s)
  | _ => fun _ _ => none
def fNot : R → Option R
  | .d (.bool k) => some (.d (.bool (!k)))
  | _ => none
def tAnd2 (a b : Mt) : Mt := bnd a fun x => match x with
  | true => b
  | false => fun _ s => some (false, s)
def tOr2 (a b : Mt) : Mt := bnd a fun x => match x with
  | false => b
  | true => fun _ s => some (true, s)
def tNot2 (a : Mt) : Mt := bnd a fun x _ s => some (!x, s)
def mIf (c : Mt) (a b : Mx) : Mx := bnd c fun x => match x with
  | true => a
  | false => b
section
variable {X : Cx} {a b c : Expr} {rest : List Expr} {ma mb : Mx} {ta tb tc : Mt} {pos : Pos}
theorem rd_and {K : PySem.W.Frag} {σ : L2.St} {H : Hp} {Q : VK} (h : rdE K (mAnd ma mb) σ H Q) : tAndV (rdE K ma) (rdE K mb) σ H Q := by
  obtain ⟨C, fz, ρ, sto, z, sto', F, e, k⟩ := h
  obtain ⟨x, s1, ea, e1⟩ := bnd_some e
  clear e
  refine ⟨C, fz, ρ, sto, x, s1, F, ea, fun v fz1 H1 st1 l1 i1 => ?_⟩
  split at e1
  · cases i1
    refine ⟨true, rfl, ?_⟩
    rw [if_pos rfl]
    exact ⟨C, fz1, ρ, s1, z, sto', F.step st1 l1, e1, fun u fz2 H2 st2 l2 i2 => k u fz2 H2 (st1.trans st2) l2 (i2.early st1)⟩
  · cases i1
    cases e1
    refine ⟨false, rfl, ?_⟩
    rw [if_neg Bool.false_ne_true]
    exact k _ fz1 H1 st1 l1 (.bl _)
  · cases e1
theorem se_one {op : BoolOp} (ha : SE X a ma) : SE X (.BoolOp op [a] pos) ma := pe_one ha
theorem se_and (ha : SE X a ma) (hb : SE X (.BoolOp .And (b :: rest) pos) mb) : SE X (.BoolOp .And (a :: b :: rest) pos) (mAnd ma mb) := PE.imp (pe_and ha hb) fun _ _ _ h => rd_and h
theorem rd_not {K : PySem.W.Frag} {σ : L2.St} {H : Hp} {Q : VK} (h : rdE K (m1 fNot ma) σ H Q) : tNotV (rdE K ma) σ H Q := by
  refine rd_one (r := fun x H Q => ∃ c, x = .bl c ∧ Q (.bl (!c)) H) ?_ h
  intro sp fz H H0 sto v x z Q B ix e k
  unfold fNot at e
  split at e
  · cases e
    cases ix
    exact ⟨_, rfl, k _ fz H .refl B.spl (.inl (.bl _))⟩
  · cases e
theorem se_not (ha : SE X a ma) : SE X (.UnaryOp .Not a pos) (m1 fNot ma) := PE.imp (pe_not ha) fun _ _ _ h => rd_not h
theorem rt_and {K : PySem.W.Frag} {σ : L2.St} {H : Hp} {Q : Bool → Hp → Prop} (h : rdT K (tAnd2 ta tb) σ H Q) : tAnd (rdT K ta) (rdT K tb) σ H Q := by
  obtain ⟨C, fz, ρ, sto, z, sto', F, e, k⟩ := h
  obtain ⟨x, s1, ea, e1⟩ := bnd_some e
  clear e
  refine ⟨C, fz, ρ, sto, x, s1, F, ea, fun fz1 H1 st1 l1 => ?_⟩
  cases x with
  | true =>
    rw [if_pos rfl]
    exact ⟨C, fz1, ρ, s1, z, sto', F.step st1 l1, e1, fun fz2 H2 st2 l2 => k fz2 H2 (st1.trans st2) l2⟩
  | false =>
    rw [if_neg Bool.false_ne_true]
    cases e1
    exact k fz1 H1 st1 l1
theorem rt_or {K : PySem.W.Frag} {σ : L2.St} {H : Hp} {Q : Bool → Hp → Prop} (h : rdT K (tOr2 ta tb) σ H Q) : tOr (rdT K ta) (rdT K tb) σ H Q := by
  obtain ⟨C, fz, ρ, sto, z, sto', F, e, k⟩ := h
  obtain ⟨x, s1, ea, e1⟩ := bnd_some e
  clear e
  refine ⟨C, fz, ρ, sto, x, s1, F, ea, fun fz1 H1 st1 l1 => ?_⟩
  cases x with
  | false =>
    rw [if_neg Bool.false_ne_true]
    exact ⟨C, fz1, ρ, s1, z, sto', F.step st1 l1, e1, fun fz2 H2 st2 l2 => k fz2 H2 (st1.trans st2) l2⟩
  | true =>
    rw [if_pos rfl]
    cases e1
    exact k fz1 H1 st1 l1
theorem rt_not {K : PySem.W.Frag} {σ : L2.St} {H : Hp} {Q : Bool → Hp → Prop} (h : rdT K (tNot2 ta) σ H Q) : tNot (rdT K ta) σ H Q := by
  obtain ⟨C, fz, ρ, sto, z, sto', F, e, k⟩ := h
  obtain ⟨x, s1, ea, e1⟩ := bnd_some e
  cases e1
  exact ⟨C, fz, ρ, sto, x, _, F, ea, fun fz1 H1 st1 l1 => k fz1 H1 st1 l1⟩
theorem sw_and1 (ha : SB X a ta) : SW X (.BoolOp .And [a] pos) ta := pw_and1 ha
theorem sw_or1 (ha : SB X a ta) : SW X (.BoolOp .Or [a] pos) ta := pw_or1 ha
theorem sw_and (ha : SB X a ta) (hb : SW X (.BoolOp .And (b :: rest) pos) tb) : SW X (.BoolOp .And (a :: b :: rest) pos) (tAnd2 ta tb) := PW.imp (pw_and ha hb) fun _ _ _ h => rt_and h
theorem sw_or (ha : SB X a ta) (hb : SW X (.BoolOp .Or (b :: rest) pos) tb) : SW X (.BoolOp .Or (a :: b :: rest) pos) (tOr2 ta tb) := PW.imp (pw_or ha hb) fun _ _ _ h => rt_or h
theorem sb_w {e : Expr} {t : Mt} (h : SW X e t) : SB X e t := PW.pt h
theorem sb_not (ha : SB X a ta) : SB X (.UnaryOp .Not a pos) (tNot2 ta) := PT.imp (pt_not ha) fun _ _ _ h => rt_not h
theorem rd_if {K : PySem.W.Frag} {σ : L2.St} {H : Hp} {Q : VK} (h : rdE K (mIf ta ma mb) σ H Q) : tIf (rdT K ta) (rdE K ma) (rdE K mb) σ H Q := by
  obtain ⟨C, fz, ρ, sto, z, sto', F, e, k⟩ := h
  obtain ⟨x, s1, ea, e1⟩ := bnd_some e
  clear e
  refine ⟨C, fz, ρ, sto, x, s1, F, ea, fun fz1 H1 st1 l1 => ?_⟩
  cases x with
  | true =>
    rw [if_pos rfl]
    exact ⟨C, fz1, ρ, s1, z, sto', F.step st1 l1, e1, fun u fz2 H2 st2 l2 i2 => k u fz2 H2 (st1.trans st2) l2 (i2.early st1)⟩
  | false =>
    rw [if_neg Bool.false_ne_true]
    exact ⟨C, fz1, ρ, s1, z, sto', F.step st1 l1, e1, fun u fz2 H2 st2 l2 i2 => k u fz2 H2 (st1.trans st2) l2 (i2.early st1)⟩
theorem se_if (hc : SB X c ta) (ha : SE X a ma) (hb : SE X b mb) : SE X (.IfExp c a b pos) (mIf ta ma mb) := PE.imp (pe_ifExp hc ha hb) fun _ _ _ h => rd_if h
end
/-- a datum to be kept (a list that was just made is frozen) -/
def toD : R → Option PyData
  | .d x => some x
  | .f xs => some (.list xs)
  | _ => none
def toDs : List R → Option (List PyData)
  | [] => some []
  | r :: rs => match toD r, toDs rs with
    | some x, some xs => some (x :: xs)
    | _, _ => none
section
variable {K : PySem.W.Frag} {sp : Option Addr} {fz fz1 : Fz} {H H1 : Hp} {sto : Sto}
/-- keeping one -/
theorem ImR.keep {v : V} {r : R} {x : PyData} (i : ImR K sp H fz1 H1 v r) (e : toD r = some x) (s : Stp sp fz H fz1 H1) (B : Bs sp fz1 H1 sto) :
    ∃ fz2 : Fz, Stp sp fz H fz2 H1 ∧ Bs sp fz2 H1 sto ∧ (∀ a, fz1 a → fz2 a) ∧ Im K fz2 H1 v x := by
  unfold toD at e
  split at e
  · cases e
    exact ⟨fz1, s, B, fun _ h => h, i⟩
  · cases e
    obtain ⟨a, vs, rfl, h1, h2, h3, h4, h5⟩ := i
    have s2 := s.freeze h5 h4 h1
    refine ⟨_, s2, ⟨B.spl, fun c ec q => ?_, fun b q z => ?_, B.tab⟩, fun b q => .inl q, .lst (.inl ⟨h1, .inr rfl⟩) (h2.fzm fun b q => .inl q)⟩
    · rcases q with q | q
      · exact B.nsp c ec q
      · exact h4 (by subst q; exact ec.symm)
    · rcases q with q | q
      · exact B.trk b q z
      · subst q; rw [h1] at z; cases z
  · cases e
theorem ImRs.keep : ∀ {vs : List V} {rs : List R} {xs : List PyData} {fz1 : Fz}, ImRs K sp H fz1 H1 vs rs → toDs rs = some xs → Stp sp fz H fz1 H1 → Bs sp fz1 H1 sto →
    ∀ fzA : Fz, Stp sp fz H fzA H1 → Bs sp fzA H1 sto → (∀ a, fz1 a → fzA a) → ∃ fz2 : Fz, Stp sp fz H fz2 H1 ∧ Bs sp fz2 H1 sto ∧ (∀ a, fzA a → fz2 a) ∧ ImA K fz2 H1 vs xs
  | _, _, _, _, .nil, e, s, B, fzA, sA, BA, g => by
    cases e
    exact ⟨fzA, sA, BA, fun _ h => h, .nil⟩
  | _, _, _, fz1, .cons (a := v) (b := r) h t, e, s, B, fzA, sA, BA, g => by
    unfold toDs at e
    split at e
    · rename_i x xs e1 e2
      cases e
      -- the head, frozen beside what is frozen already
      have : ∃ fzB : Fz, Stp sp fz H fzB H1 ∧ Bs sp fzB H1 sto ∧ (∀ a, fzA a → fzB a) ∧ Im K fzB H1 v x := by
        unfold toD at e1
        split at e1
        · cases e1
          exact ⟨fzA, sA, BA, fun _ h => h, Im.fzm g h⟩
        · cases e1
          obtain ⟨a, vs, rfl, h1, h2, h3, h4, h5⟩ := h
          refine ⟨_, sA.freeze h5 h4 h1, ⟨BA.spl, fun c ec q => ?_, fun b q z => ?_, BA.tab⟩, fun b q => .inl q, .lst (.inl ⟨h1, .inr rfl⟩) (h2.fzm fun b q => .inl (g b q))⟩
          · rcases q with q | q
            · exact BA.nsp c ec q
            · exact h4 (by subst q; exact ec.symm)
          · rcases q with q | q
            · exact BA.trk b q z
            · subst q; rw [h1] at z; cases z
        · cases e1
      obtain ⟨fzB, sB, BB, gB, iB⟩ := this
      obtain ⟨fz2, s2, B2, g2, i2⟩ := ImRs.keep t e2 s B fzB sB BB fun a q => gB a (g a q)
      exact ⟨fz2, s2, B2, fun a q => g2 a (gB a q), .cons (iB.fzm g2) i2⟩
    · cases e
end
def fTup (rs : List R) : Option R := match toDs rs with
  | some xs => if xs.length ≤ sizeLine then some (.d (.tuple xs)) else none
  | none => none
def fLst (rs : List R) : Option R := match toDs rs with
  | some xs => if xs.length ≤ sizeLine then some (.f xs) else none
  | none => none
section
variable {X : Cx} {es : List Expr} {m : Ma} {pos : Pos}
theorem se_tup {x1} (h : SA X es m) : SE X (.Tuple es x1 pos) (mA fTup m) := PE.imp (pe_tupS (x1 := x1) h) fun σ H Q q => by
  refine rd_args (r := fun xs H1 Q => xs.length ≤ sizeLine ∧ TpQ H1 xs Q) ?_ q
  intro sp fz fzS H H0 sto vs xs z Q s B i e k
  unfold fTup at e
  split at e
  · rename_i ds hd
    split at e
    · rename_i hz
      cases e
      obtain ⟨fz2, s2, B2, g2, a⟩ := ImRs.keep i hd s B fz s B fun _ h => h
      refine ⟨by rw [a.length]; exact hz, fun p o hp ho => ?_⟩
      obtain ⟨s3, l3, i3⟩ := new_tup B2 a hp ho
      exact k _ fz2 _ (s2.trans s3) l3 i3
    · cases e
  · cases e
theorem se_lst (h : SA X es m) : SE X (.List es pos) (mA fLst m) := PE.imp (pe_lst h) fun σ H Q q => by
  refine rd_args (r := fun xs H1 Q => xs.length ≤ sizeLine ∧ ∀ p, H1 p = none → Q (.ref p) (upd H1 p (.lst xs))) ?_ q
  intro sp fz fzS H H0 sto vs xs z Q s B i e k
  unfold fLst at e
  split at e
  · rename_i ds hd
    split at e
    · rename_i hz
      cases e
      obtain ⟨fz2, s2, B2, g2, a⟩ := ImRs.keep i hd s B fz s B fun _ h => h
      refine ⟨by rw [a.length]; exact hz, fun p hp => ?_⟩
      obtain ⟨s3, l3, i3⟩ := new_lst B2 a hp
      exact k _ fz2 _ (s2.trans s3) l3 (i3.early s2)
    · cases e
  · cases e
end
def fIx (sto : Sto) : R → R → Option R
  | .s, .d (.int i) => (atI sto i).map fun j => .d (.int j)
  | x, .d (.int i) => match rdQ x with
    | some xs => (atI xs i).map .d
    | none => none
  | _, _ => none
/-- an item: of the spring, too -/
def mIx (a b : Mx) : Mx := bnd a fun x => bnd b fun y _ s => match fIx s x y with
  | some z => some (z, s)
  | none => none
theorem atI_some {α : Type} {xs : List α} {i : Int} {x : α} (h : atI xs i = some x) : ∃ j, ixN xs.length i = some j ∧ xs[j]? = some x := by
  unfold atI at h
  cases q : ixN xs.length i with
  | none => rw [q] at h; cases h
  | some j => rw [q] at h; exact ⟨j, rfl, h⟩
theorem atI_im {K : PySem.W.Frag} {fz : Fz} {H : Hp} {vs : List V} {xs : List PyData} {i : Int} {x : PyData} (a : ImA K fz H vs xs) (h : atI xs i = some x) : ∃ w, atI vs i = some w ∧ Im K fz H w x := by
  obtain ⟨j, h1, h2⟩ := atI_some h
  obtain ⟨w, h3, h4⟩ := a.at j x h2
  refine ⟨w, ?_, h4⟩
  unfold atI
  rw [a.length, h1]
  exact h3
theorem atI_map {i : Int} {sto : Sto} {j : Int} (h : atI sto i = some j) : atI (sto.map V.int) i = some (.int j) := by
  obtain ⟨k, h1, h2⟩ := atI_some h
  unfold atI
  rw [List.length_map, h1]
  show (sto.map V.int)[k]? = _
  rw [List.getElem?_map, h2]
  rfl
def rIxQ (K : PySem.W.Frag) : R2 := fun x y H Q => rIxL K x y H Q ∨ rIxT K x y H Q
section
variable {X : Cx} {a b : Expr} {ma mb : Mx} {pos : Pos}
theorem fIx_ok {K : PySem.W.Frag} {sp : Option Addr} {fz : Fz} {H H0 : Hp} {sto : Sto} {v w : V} {x y z : R} {Q : VK} (B : Bs sp fz H sto) (ix : ImR K sp H0 fz H v x) (iy : ImR K sp H0 fz H w y) (e : fIx sto x y = some z) (k : ∀ u, ImR K sp H fz H u z → Q u H) : rIxQ K v w H Q := by
  unfold fIx at e
  split at e
  · rename_i i
    cases iy
    cases q : atI sto i with
    | none => rw [q] at e; cases e
    | some j =>
      rw [q] at e; cases e
      obtain ⟨a, ea, rfl⟩ := (show IsS sp v from ix)
      exact .inl ⟨a, _, i, _, rfl, rfl, .inl (.inl (B.spl a ea)), atI_map q, k _ (.int j)⟩
  · rename_i i _
    cases iy
    split at e
    · rename_i xs hx
      cases q : atI xs i with
      | none => rw [q] at e; cases e
      | some d =>
        rw [q] at e; cases e
        obtain ⟨a, vs, rfl, h, im⟩ := ix.seq hx
        obtain ⟨u, hu, iu⟩ := atI_im im q
        rcases h with h | h
        · exact .inl ⟨a, vs, i, u, rfl, rfl, h, hu, k _ iu⟩
        · exact .inr ⟨a, vs, i, u, rfl, rfl, h, hu, k _ iu⟩
    · cases e
  · cases e
theorem se_ix (ha : SE X a ma) (hb : SE X b mb) (hs : PlainIx b := by exact fun _ _ => rfl) : SE X (.Subscript a b pos) (mIx ma mb) := PE.imp (pe_ix (ix_list.or ix_tup) ha hb hs) fun σ H Q h => by
  obtain ⟨C, fz, ρ, sto, z, sto', F, e, k⟩ := h
  obtain ⟨x, s1, ea, e1⟩ := bnd_some e
  obtain ⟨y, s2, eb, e2⟩ := bnd_some e1
  clear e e1
  split at e2
  · rename_i z' ez
    cases e2
    refine ⟨C, fz, ρ, sto, x, s1, F, ea, fun v fz1 H1 st1 l1 i1 => ?_⟩
    refine ⟨C, fz1, ρ, s1, y, sto', F.step st1 l1, eb, fun w fz2 H2 st2 l2 i2 => ?_⟩
    have B1 := F.bs.step st1 l1
    exact fIx_ok (B1.step st2 l2) (i1.stp st2 B1) (i2.early st1) ez fun u iu => k u fz2 H2 (st1.trans st2) l2 (iu.early (st1.trans st2))
  · cases e2
end
end Dh
namespace Dh
open PySem PySem.Spec L2
variable [LawT]
inductive Out where
  | nx | bk | ct | rt (r : R)
abbrev Ms := Ev → Sto → Option (Out × Ev × Sto)
/-- what is no list and no dict -/
def Stay (o : HO) : Prop := (∀ xs, o ≠ .lst xs) ∧ (∀ kvs, o ≠ .dK kvs) ∧ ∀ a xs, o ≠ DTO a xs
/-- through a statement: what is frozen, and all that is no list and no dict, stands -/
structure Sts (sp : Option Addr) (fz : Fz) (H : Hp) (fz' : Fz) (H' : Hp) : Prop where
  mono : ∀ a, fz a → fz' a
  kept0 : ∀ a o, H a = some o → some a ≠ sp → (∀ ps, o ≠ .tbl ps) → (fz a ∨ Stay o) → H' a = some o
section
variable {K : PySem.W.Frag} {sp : Option Addr} {fz fz1 fz2 : Fz} {H H1 H2 : Hp} {sto : Sto}
theorem Sts.kept (s : Sts sp fz H fz1 H1) (a : Addr) (o : HO) (h : H a = some o) (n : some a ≠ sp) (c : fz a ∨ Stay o) (nt : ∀ ps, o ≠ .tbl ps := by intro _ z; cases z) : H1 a = some o := s.kept0 a o h n nt c
theorem Sts.refl : Sts sp fz H fz H := ⟨fun _ h => h, fun _ _ h _ _ _ => h⟩
theorem Sts.trans (s : Sts sp fz H fz1 H1) (t : Sts sp fz1 H1 fz2 H2) : Sts sp fz H fz2 H2 :=
  ⟨fun a h => t.mono a (s.mono a h), fun a o h n nt c => t.kept a o (s.kept a o h n c nt) n (c.imp (s.mono a) id) nt⟩
theorem Stp.sts (s : Stp sp fz H fz1 H1) : Sts sp fz H fz1 H1 := ⟨s.mono, fun a o h n nt _ => s.ext a o h n nt⟩
theorem SqT.sts {a : Addr} {xs : List V} (s : Sts sp fz H fz1 H1) (B : Bs sp fz H sto) (h : SqT K H a xs) : SqT K H1 a xs := by
  rcases h with (h | ⟨o, h⟩) | h
  · exact .inl (.inl (s.kept _ _ h (ne_spring B.spl h) (.inr ⟨(fun _ z => nomatch z), (fun _ z => nomatch z), (fun _ _ z => nomatch z)⟩)))
  · exact .inl (.inr ⟨o, s.kept _ _ h (B.spl.ne h (by intro z; cases z)) (.inr ⟨(fun _ z => nomatch z), (fun _ z => nomatch z), (fun _ _ z => nomatch z)⟩)⟩)
  · exact .inr h
theorem FzT.sts {a : Addr} {xs : List V} (s : Sts sp fz H fz1 H1) (B : Bs sp fz H sto) (h : FzT K H a xs) : FzT K H1 a xs := by
  rcases h with ⟨o, h, d⟩ | h
  · exact .inl ⟨o, s.kept _ _ h (B.spl.ne h (by intro z; cases z)) (.inr ⟨(fun _ z => nomatch z), (fun _ z => nomatch z), (fun _ _ z => nomatch z)⟩), d⟩
  · exact .inr h
theorem FzL.sts {a : Addr} {xs : List V} (s : Sts sp fz H fz1 H1) (B : Bs sp fz H sto) (h : FzL K fz H a xs) : FzL K fz1 H1 a xs := by
  rcases h with ⟨h, f⟩ | ⟨o, h⟩ | h
  · exact .inl ⟨s.kept _ _ h (by intro e; exact B.nsp _ e.symm f) (.inl f), s.mono _ f⟩
  · exact .inr (.inl ⟨o, s.kept _ _ h (B.spl.ne h (by intro z; cases z)) (.inr ⟨(fun _ z => nomatch z), (fun _ z => nomatch z), (fun _ _ z => nomatch z)⟩)⟩)
  · exact .inr (.inr h)
mutual
theorem Im.sts (s : Sts sp fz H fz1 H1) (B : Bs sp fz H sto) : ∀ {v : V} {d : PyData}, Im K fz H v d → Im K fz1 H1 v d
  | _, _, .non => .non
  | _, _, .bl b => .bl b
  | _, _, .int i => .int i
  | _, _, .str x => .str x
  | _, _, .lst h a => .lst (h.sts s B) (ImA.sts s B a)
  | _, _, .tup h a => .tup (FzT.sts s B h) (ImA.sts s B a)
  | _, _, .dct h f a b => .dct (s.kept _ _ h (by intro e; exact B.nsp _ e.symm f) (.inl f)) (s.mono _ f) (ImA.sts s B a) (ImA.sts s B b)
theorem ImA.sts (s : Sts sp fz H fz1 H1) (B : Bs sp fz H sto) : ∀ {v : List V} {d : List PyData}, ImA K fz H v d → ImA K fz1 H1 v d
  | _, _, .nil => .nil
  | _, _, .cons h t => .cons (Im.sts s B h) (ImA.sts s B t)
end
theorem TK.sts (s : Sts sp fz H fz1 H1) (B : Bs sp fz H sto) {xs : List (List Int × Addr × Value)} {acc : List (List Int × PyData)} (h : TK K fz H xs acc) : TK K fz1 H1 xs acc :=
  Paired.mapP h fun _ _ ⟨a, b, v, c, d⟩ => ⟨a, b.sts s B, v, c, Im.sts s B d⟩
theorem LamOk.sts (s : Sts sp fz H fz1 H1) (B : Bs sp fz H sto) {l : Lam} (h : LamOk K fz H l) : LamOk K fz1 H1 l :=
  ⟨s.kept _ _ h.1 (B.spl.ne h.1 (by intro z; unfold LamX.CodeO at z; cases z)) (.inr ⟨(fun _ z => by unfold LamX.CodeO at z; cases z), (fun _ z => by unfold LamX.CodeO at z; cases z), fun _ _ z => ntb_DTO.2 _ _ z.symm⟩) (codeO_ntb _ _), fun i x e => by
    obtain ⟨v, e1, im⟩ := h.2 i x e
    exact ⟨v, e1, Im.sts s B im⟩⟩
end
def Fin (K : PySem.W.Frag) (C : Cn) (D : Ends) (out : Out) (fz' : Fz) (σ' : L2.St) (H' : Hp) : Prop := match out with
  | .nx => D.nx σ' H'
  | .bk => D.bk σ' H'
  | .ct => D.ct σ' H'
  | .rt r => ∀ v, ImR K C.sp C.H0 fz' H' v r → D.rt v H'
def rdS (K : PySem.W.Frag) (m : Ms) : TS := fun D σ H => ∃ (C : Cn) (fz : Fz) (ρ : Ev) (sto : Sto) (out : Out) (ρ' : Ev) (sto' : Sto), Fm K C fz ρ sto σ H ∧ m ρ sto = some (out, ρ', sto') ∧
  ∀ fz' σ' H', Fm K C fz' ρ' sto' σ' H' → Sts C.sp fz H fz' H' → Fin K C D out fz' σ' H'
def SS (X : Cx) (st : Stmt) (m : Ms) : Prop := PS X st (rdS X.K m)
def SL (X : Cx) (st : List Stmt) (m : Ms) : Prop := PSs X st (rdS X.K m)
def mNil : Ms := fun ρ s => some (.nx, ρ, s)
def mSeq (a b : Ms) : Ms := fun ρ s => match a ρ s with
  | some (.nx, ρ1, s1) => b ρ1 s1
  | some r => some r
  | none => none
def mIfS (c : Mt) (a b : Ms) : Ms := fun ρ s => match c ρ s with
  | some (true, s1) => a ρ s1
  | some (false, s1) => b ρ s1
  | none => none
def mRet (a : Mx) : Ms := fun ρ s => match a ρ s with
  | some (.d x, s1) => some (.rt (.d x), ρ, s1)
  | some (.f xs, s1) => some (.rt (.f xs), ρ, s1)
  | _ => none
/-- return of a name -/
def mRetV (i : Nat) : Ms := fun ρ s => match ρ[i]? with
  | some (some (.d x)) => some (.rt (.d x), ρ, s)
  | some (some (.o xs)) => some (.rt (.f xs), ρ, s)
  | _ => none
def mNever : Ms := fun _ _ => none
def toCl : R → Option Cl
  | .d x => some (.d x)
  | .f xs => some (.o xs)
  | .s => some .s
  | .m acc => some (.m acc)
  | .t acc => some (.t acc)
  | _ => none
def mSet (i : Nat) (a : Mx) : Ms := fun ρ s => match a ρ s with
  | some (r, s1) => match toCl r with
    | some c => some (.nx, ρ.set i (some c), s1)
    | none => none
  | none => none
section
variable {K : PySem.W.Frag} {C : Cn} {fz fz1 : Fz} {ρ : Ev} {sto sto' : Sto} {σ : L2.St} {H H1 : Hp}
/-- what is owned was not there at the entry -/
theorem Fm.owned (F : Fm K C fz ρ sto σ H) {i : Nat} {xs : List PyData} (h : ρ[i]? = some (some (.o xs))) : ∃ a vs, σ[i]? = some (some (.ref a)) ∧ H a = some (.lst vs) ∧ ImA K fz H vs xs ∧ ¬ fz a ∧ some a ≠ C.sp ∧ C.H0 a = none := F.vars i _ h
/-- a slot gets a value -/
theorem Fm.put (F : Fm K C fz ρ sto σ H) (i : Nat) {v : V} {c : Cl} (hi : i < σ.length) (ok : CellOk K C fz H (σ.set i (some v)) i c)
    (ap : ∀ xs a, c = .o xs → v = .ref a → ∀ j ys, j ≠ i → ρ[j]? = some (some (.o ys)) → σ[j]? ≠ some (some (.ref a))) : Fm K C fz (ρ.set i (some c)) sto (σ.set i (some v)) H where
  len := by rw [List.length_set, List.length_set, F.len]
  st := F.st
  bs := F.bs
  vars := fun j c' h => by
    by_cases e : j = i
    · subst e
      rw [List.getElem?_set_self (by rw [F.len]; exact hi)] at h
      cases h
      exact ok
    · rw [List.getElem?_set_ne (Ne.symm e)] at h
      have q := F.vars j c' h
      have ge : (σ.set i (some v))[j]? = σ[j]? := List.getElem?_set_ne (Ne.symm e)
      cases c' with
      | d x => obtain ⟨u, e1, e2⟩ := q; exact ⟨u, ge.trans e1, e2⟩
      | o xs => obtain ⟨a, vs, e1, e2⟩ := q; exact ⟨a, vs, ge.trans e1, e2⟩
      | s => obtain ⟨a, ea, q⟩ := q; exact ⟨a, ea, ge.trans q⟩
      | m acc => obtain ⟨a, vs, e1, e2⟩ := q; exact ⟨a, vs, ge.trans e1, e2⟩
      | t acc => obtain ⟨a, vs, e1, e2⟩ := q; exact ⟨a, vs, ge.trans e1, e2⟩
      | h l => exact ⟨ge.trans q.1, q.2⟩
  sep := fun j k xs ys a hjk h1 h2 h3 h4 => by
    by_cases e : j = i
    · subst e
      rw [List.getElem?_set_self (by rw [F.len]; exact hi)] at h1
      rw [List.getElem?_set_ne hjk] at h2 h4
      rw [List.getElem?_set_self hi] at h3
      cases h1; cases h3
      exact ap xs a rfl rfl k ys (Ne.symm hjk) h2 h4
    · by_cases e2 : k = i
      · subst e2
        rw [List.getElem?_set_self (by rw [F.len]; exact hi)] at h2
        rw [List.getElem?_set_ne (Ne.symm hjk)] at h1 h3
        rw [List.getElem?_set_self hi] at h4
        cases h2; cases h4
        exact ap ys a rfl rfl j xs hjk h1 h3
      · rw [List.getElem?_set_ne (Ne.symm e)] at h1 h3
        rw [List.getElem?_set_ne (Ne.symm e2)] at h2 h4
        exact F.sep j k xs ys a hjk h1 h2 h3 h4
/-- a slot gets what an expression gave (seen from a heap H0 where F stood) -/
theorem Fm.give (F : Fm K C fz ρ sto σ H) (s : Stp C.sp fz H fz1 H1) (l : SpL C.sp H1 sto') {v : V} {r : R} {c : Cl} (i : ImR K C.sp H fz1 H1 v r) (e : toCl r = some c) {n : Nat} (hn : n < σ.length) : Fm K C fz1 (ρ.set n (some c)) sto' (σ.set n (some v)) H1 := by
  have F1 := F.step s l
  refine F1.put n hn ?_ ?_
  · have g : (σ.set n (some v))[n]? = some (some v) := List.getElem?_set_self hn
    cases r with
    | d x => cases e; exact ⟨v, g, i⟩
    | f xs =>
      cases e
      obtain ⟨a, vs, rfl, h1, h2, h3, h4, h5⟩ := i
      exact ⟨a, vs, g, h1, h2, h3, h4, F.st.back h4 h5⟩
    | b xs => cases e
    | s => cases e; obtain ⟨a, ea, rfl⟩ := (show IsS C.sp v from i); exact ⟨a, ea, g⟩
    | m acc =>
      cases e
      obtain ⟨a, vs, rfl, h1, h2, h3, h4, h5⟩ := i
      exact ⟨a, vs, g, h1, h2, h3, h4, F.st.back h4 h5⟩
    | t acc =>
      cases e
      obtain ⟨a, vs, rfl, h1, h2, h3, h4, h5⟩ := i
      exact ⟨a, vs, g, h1, h2, h3, h4, F.st.back h4 h5⟩
    | n acc => cases e
    | u acc => cases e
    | h l => cases e
  · intro xs a ec ev j ys hj h1 h2
    subst ec
    cases r with
    | d x => cases e
    | f zs =>
      cases e
      obtain ⟨b, vs, eb, h3, h4, h5, h6, h7⟩ := i
      rw [ev] at eb; cases eb
      obtain ⟨b, ws, q1, q2, _⟩ := F.owned h1
      rw [h2] at q1; cases q1
      rw [h7] at q2; cases q2
    | b zs => cases e
    | s => cases e
    | m _ => cases e
    | t _ => cases e
    | n _ => cases e
    | u _ => cases e
    | h l => cases e
end
section
variable {X : Cx} {st : Stmt} {rest : List Stmt} {e : Expr} {me : Mx} {ma mb : Ms} {tc : Mt} {pos : Pos}
theorem sl_nil : SL X [] mNil := PSs.imp pss_nil fun D σ H h => by
  obtain ⟨C, fz, ρ, sto, out, ρ', sto', F, e, k⟩ := h
  cases e
  exact k fz σ H F .refl
theorem rs_seq {K : PySem.W.Frag} {D : Ends} {σ : L2.St} {H : Hp} (h : rdS K (mSeq ma mb) D σ H) : tSeq (rdS K ma) (rdS K mb) D σ H := by
  obtain ⟨C, fz, ρ, sto, out, ρ', sto', F, e, k⟩ := h
  unfold mSeq at e
  split at e
  · rename_i ρ1 s1 e1
    refine ⟨C, fz, ρ, sto, .nx, ρ1, s1, F, e1, fun fz1 σ1 H1 F1 q1 => ?_⟩
    exact ⟨C, fz1, ρ1, s1, out, ρ', sto', F1, e, fun fz2 σ2 H2 F2 q2 => k fz2 σ2 H2 F2 (q1.trans q2)⟩
  · rename_i r hr e1
    cases e
    refine ⟨C, fz, ρ, sto, out, ρ', sto', F, e1, fun fz1 σ1 H1 F1 q1 => ?_⟩
    have q := k fz1 σ1 H1 F1 q1
    cases out with
    | nx => exact absurd rfl (hr ρ' sto')
    | bk => exact q
    | ct => exact q
    | rt r => exact q
  · cases e
theorem sl_cons (h1 : SS X st ma) (h2 : SL X rest mb) : SL X (st :: rest) (mSeq ma mb) := PSs.imp (pss_cons h1 h2) fun _ _ _ h => rs_seq h
theorem sl_one (h1 : SS X st ma) : SL X [st] ma := pss_one h1
theorem ss_never : SS X st mNever := PS.imp ps_never fun D σ H h => by
  obtain ⟨C, fz, ρ, sto, out, ρ', sto', F, e, k⟩ := h
  cases e
theorem ss_if {c : Expr} {a b : List Stmt} (hc : SB X c tc) (ha : SL X a ma) (hb : SL X b mb) : SS X (.If c a b pos) (mIfS tc ma mb) := PS.imp (ps_if hc ha hb) fun D σ H h => by
  obtain ⟨C, fz, ρ, sto, out, ρ', sto', F, e, k⟩ := h
  unfold mIfS at e
  split at e
  · rename_i s1 e1
    refine ⟨C, fz, ρ, sto, true, s1, F, e1, fun fz1 H1 st1 l1 => ?_⟩
    refine iteT ?_
    exact ⟨C, fz1, ρ, s1, out, ρ', sto', F.step st1 l1, e, fun fz2 σ2 H2 F2 q2 => k fz2 σ2 H2 F2 (st1.sts.trans q2)⟩
  · rename_i s1 e1
    refine ⟨C, fz, ρ, sto, false, s1, F, e1, fun fz1 H1 st1 l1 => ?_⟩
    refine iteF ?_
    exact ⟨C, fz1, ρ, s1, out, ρ', sto', F.step st1 l1, e, fun fz2 σ2 H2 F2 q2 => k fz2 σ2 H2 F2 (st1.sts.trans q2)⟩
  · cases e
theorem ss_ret (he : SE X e me) : SS X (.Return (some e) pos) (mRet me) := PS.imp (ps_ret he) fun D σ H h => by
  obtain ⟨C, fz, ρ, sto, out, ρ', sto', F, e, k⟩ := h
  unfold mRet at e
  split at e
  · rename_i x s1 e1
    cases e
    exact ⟨C, fz, ρ, sto, _, _, F, e1, fun v fz1 H1 st1 l1 i1 => k fz1 σ H1 (F.step st1 l1) st1.sts v (i1.early F.st)⟩
  · rename_i x s1 e1
    cases e
    exact ⟨C, fz, ρ, sto, _, _, F, e1, fun v fz1 H1 st1 l1 i1 => k fz1 σ H1 (F.step st1 l1) st1.sts v (i1.early F.st)⟩
  · cases e
theorem ss_retV {i : Nat} {x : Str} {p : Pos} (hN : X.N[i]? = some x := by rfl) (hv : Vis X.env.scope x := by first | exact Or.inl rfl | exact Or.inr (Or.inl rfl) | exact Or.inr (Or.inr rfl)) (hd : (x == ("__debug__" : Str)) = false := by decide)
    (hcd : (x == ("__classdict__" : Str)) = false := by decide) : SS X (.Return (some (.Name x p)) pos) (mRetV i) := PS.imp (ps_ret (pe_var hN hv hd hcd)) fun D σ H h => by
  obtain ⟨C, fz, ρ, sto, out, ρ', sto', F, e, k⟩ := h
  unfold mRetV at e
  split at e
  · rename_i x h1
    cases e
    obtain ⟨v, e1, e2⟩ := F.vars _ _ h1
    exact ⟨v, e1, k fz σ H F .refl v e2⟩
  · rename_i xs h1
    cases e
    obtain ⟨a, vs, e1, h2, h3, h4, h5, h6⟩ := F.owned h1
    exact ⟨_, e1, k fz σ H F .refl _ ⟨a, vs, rfl, h2, h3, h4, h5, h6⟩⟩
  · cases e
theorem PS.impI {X : Cx} {e : Stmt} {t t' : TS} (h : PS X e t) (q : ∀ D σ H, σ.length = X.N.length → t' D σ H → t D σ H) : PS X e t' := ⟨fun pins s σ H D I w => h.run pins s σ H D I (q _ _ _ I.len w)⟩
theorem rs_set {K : PySem.W.Frag} {i : Nat} {D : Ends} {σ : L2.St} {H : Hp} (hs : i < σ.length) (h : rdS K (mSet i me) D σ H) : tAsg (rdE K me) (gName i) D σ H := by
  obtain ⟨C, fz, ρ, sto, out, ρ', sto', F, e, k⟩ := h
  unfold mSet at e
  split at e
  · rename_i r s1 e1
    split at e
    · rename_i c ec
      cases e
      exact ⟨C, fz, ρ, sto, r, _, F, e1, fun v fz1 H1 st1 l1 i1 => k fz1 _ H1 (F.give st1 l1 i1 ec hs) st1.sts⟩
    · cases e
  · cases e
theorem lt_of_slot {i : Nat} {N : List Str} {x : Str} {σ : L2.St} (hi : N[i]? = some x) (hl : σ.length = N.length) : i < σ.length := by
  rw [hl]; exact (List.getElem?_eq_some_iff.mp hi).1
theorem ss_set {i : Nat} {x : Str} {p : Pos} (hN : X.N.Nodup) (hi : X.N[i]? = some x) (hx : Loc X.env.scope x) (he : SE X e me)
    (hs : swapsWith e (some (.Name x p)) pos.line X.env = pure false := by rfl) (hw : swappedStores [.Name x p] e X.env = pure none := by rfl)
    (hf : X.fn x = true ∨ X.env.scope.names.lookup x = some .local := by first | exact .inl rfl | exact .inr rfl) : SS X (.Assign [.Name x p] e pos) (mSet i me) :=
  PS.impI (ps_asg he (pg_name hN hi hx hf) hs hw) fun D σ H hl h => rs_set (lt_of_slot hi hl) h
def frz1 (ρ : Ev) (i : Nat) : Ev := match ρ[i]? with
  | some (some (.o xs)) => ρ.set i (some (.d (.list xs)))
  | _ => ρ
def frzs (ρ : Ev) : List Nat → Ev
  | [] => ρ
  | i :: r => frzs (frz1 ρ i) r
def mFrz (is : List Nat) (m : Ms) : Ms := fun ρ s => m (frzs ρ is) s
theorem Fm.frz1 {K : PySem.W.Frag} {C : Cn} {fz : Fz} {ρ : Ev} {sto : Sto} {σ : L2.St} {H : Hp} (F : Fm K C fz ρ sto σ H) (i : Nat) : ∃ fz2, Fm K C fz2 (Dh.frz1 ρ i) sto σ H ∧ Sts C.sp fz H fz2 H := by
  unfold Dh.frz1
  split
  · rename_i xs hx
    obtain ⟨a, vs, e1, h2, h3, h4, h5, h6⟩ := F.owned hx
    have hi : i < σ.length := (List.getElem?_eq_some_iff.mp e1).1
    refine ⟨fun b => fz b ∨ b = a, ⟨by rw [List.length_set, F.len], F.st.freeze h6 h5 h2, ⟨F.bs.spl, fun c ec q => ?_, fun b q z => ?_, F.bs.tab⟩, fun j c h => ?_, fun j k xs ys b hjk q1 q2 => ?_⟩, ⟨fun b q => .inl q, fun _ _ h _ _ _ => h⟩⟩
    · rcases q with q | q
      · exact F.bs.nsp c ec q
      · exact h5 (by subst q; exact ec.symm)
    · rcases q with q | q
      · exact F.bs.trk b q z
      · subst q; rw [h2] at z; cases z
    · by_cases ej : j = i
      · subst ej
        rw [List.getElem?_set_self (by rw [F.len]; exact hi)] at h
        cases h
        exact ⟨_, e1, .lst (.inl ⟨h2, .inr rfl⟩) (h3.fzm fun b q => .inl q)⟩
      · rw [List.getElem?_set_ne (Ne.symm ej)] at h
        have q := F.vars j c h
        cases c with
        | d x => obtain ⟨u, e1, e2⟩ := q; exact ⟨u, e1, e2.fzm fun b q => .inl q⟩
        | o ys =>
          obtain ⟨b, ws, g1, g2, g3, g4, g5, g6⟩ := q
          refine ⟨b, ws, g1, g2, g3.fzm fun b q => .inl q, fun z => ?_, g5, g6⟩
          rcases z with z | z
          · exact g4 z
          · subst z; exact F.sep j i ys xs _ ej h hx g1 e1
        | s => exact q
        | m acc =>
          obtain ⟨b, ws, g1, g2, g3, g4, g5, g6⟩ := q
          refine ⟨b, ws, g1, g2, ⟨g3.1, g3.2.fzm fun b q => .inl q⟩, fun z => ?_, g5, g6⟩
          rcases z with z | z
          · exact g4 z
          · subst z; rw [h2] at g2; cases g2
        | t acc =>
          obtain ⟨b, ws, g1, g2, g3, g4, g5, g6⟩ := q
          refine ⟨b, ws, g1, g2, g3.fzm fun b q => .inl q, fun z => ?_, g5, g6⟩
          rcases z with z | z
          · exact g4 z
          · subst z; rw [h2] at g2; cases g2
        | h l => exact ⟨q.1, q.2.fzm fun b q => .inl q⟩
    · have ej : j ≠ i := fun z => by
        subst z
        rw [List.getElem?_set_self (by rw [F.len]; exact hi)] at q1
        cases q1
      have ek : k ≠ i := fun z => by
        subst z
        rw [List.getElem?_set_self (by rw [F.len]; exact hi)] at q2
        cases q2
      rw [List.getElem?_set_ne (Ne.symm ej)] at q1
      rw [List.getElem?_set_ne (Ne.symm ek)] at q2
      exact F.sep j k xs ys b hjk q1 q2
  · exact ⟨fz, F, .refl⟩
theorem Fm.frzs {K : PySem.W.Frag} {C : Cn} {sto : Sto} {σ : L2.St} {H : Hp} : ∀ (is : List Nat) {fz : Fz} {ρ : Ev}, Fm K C fz ρ sto σ H → ∃ fz2, Fm K C fz2 (Dh.frzs ρ is) sto σ H ∧ Sts C.sp fz H fz2 H
  | [], fz, ρ, F => ⟨fz, F, .refl⟩
  | i :: r, fz, ρ, F => by
    obtain ⟨fz1, F1, s1⟩ := F.frz1 i
    obtain ⟨fz2, F2, s2⟩ := Fm.frzs r F1
    exact ⟨fz2, F2, s1.trans s2⟩
theorem ss_frz (is : List Nat) (h : SS X st ma) : SS X st (mFrz is ma) := PS.imp h fun D σ H h => by
  obtain ⟨C, fz, ρ, sto, out, ρ', sto', F, e, k⟩ := h
  obtain ⟨fz2, F2, s2⟩ := F.frzs is
  exact ⟨C, fz2, _, sto, out, ρ', sto', F2, e, fun fz3 σ3 H3 F3 s3 => k fz3 σ3 H3 F3 (s2.trans s3)⟩
end
end Dh
namespace Dh
open PySem PySem.Spec L2
variable [LawT]
section
variable {K : PySem.W.Frag} {C : Cn} {fz fz1 : Fz} {ρ : Ev} {sto sto' : Sto} {σ : L2.St} {H H1 : Hp}
/-- an own list is written -/
theorem Fm.write (F : Fm K C fz ρ sto σ H) {i : Nat} {xs ys : List PyData} {a : Addr} {ws : List V} (h : ρ[i]? = some (some (.o xs))) (ha : σ[i]? = some (some (.ref a))) (im : ImA K fz H ws ys) :
    Fm K C fz (ρ.set i (some (.o ys))) sto σ (upd H a (.lst ws)) ∧ Sts C.sp fz H fz (upd H a (.lst ws)) := by
  obtain ⟨b, vs, e1, h2, h3, h4, h5, h6⟩ := F.owned h
  rw [ha] at e1; cases e1
  have hi : i < ρ.length := (List.getElem?_eq_some_iff.mp h).1
  have S : Sts C.sp fz H fz (upd H a (.lst ws)) := ⟨fun _ q => q, fun b o q n _ c => by
    have : b ≠ a := fun z => by
      subst z
      rcases c with c | c
      · exact h4 c
      · rw [h2] at q; cases q; exact c.1 _ rfl
    rw [upd_ne this]; exact q⟩
  refine ⟨⟨by rw [List.length_set, F.len], F.st.own h6 h5 h2 .lst, ⟨?_, F.bs.nsp, fun b q z => ?_, Tabs.upd F.bs.tab h2 .lst⟩, fun j c q => ?_, fun j k us zs b hjk q1 q2 => ?_⟩, S⟩
  · exact F.bs.spl.upd h5
  · by_cases e : b = a
    · subst e; rw [upd_same] at z; cases z
    · rw [upd_ne e] at z; exact F.bs.trk b q z
  · by_cases ej : j = i
    · subst ej
      rw [List.getElem?_set_self hi] at q
      cases q
      exact ⟨a, ws, ha, upd_same, im.sts S F.bs, h4, h5, h6⟩
    · rw [List.getElem?_set_ne (Ne.symm ej)] at q
      have g := F.vars j c q
      cases c with
      | d x => obtain ⟨u, g1, g2⟩ := g; exact ⟨u, g1, g2.sts S F.bs⟩
      | o us =>
        obtain ⟨b, ts, g1, g2, g3, g4, g5, g6⟩ := g
        have : b ≠ a := fun z => by subst z; exact F.sep j i us xs _ ej q h g1 ha
        exact ⟨b, ts, g1, by rw [upd_ne this]; exact g2, g3.sts S F.bs, g4, g5, g6⟩
      | s => exact g
      | m acc =>
        obtain ⟨b, ts, g1, g2, g3, g4, g5, g6⟩ := g
        have : b ≠ a := fun z => by subst z; rw [h2] at g2; cases g2
        exact ⟨b, ts, g1, by rw [upd_ne this]; exact g2, ⟨g3.1, g3.2.sts S F.bs⟩, g4, g5, g6⟩
      | t acc =>
        obtain ⟨b, ts, g1, g2, g3, g4, g5, g6⟩ := g
        have : b ≠ a := fun z => by subst z; rw [h2] at g2; cases g2
        exact ⟨b, ts, g1, by rw [upd_ne this]; exact g2, g3.sts S F.bs, g4, g5, g6⟩
      | h l => exact ⟨g.1, g.2.sts S F.bs⟩
  · by_cases ej : j = i
    · subst ej
      rw [List.getElem?_set_ne hjk] at q2
      exact F.sep j k xs zs b hjk h q2
    · rw [List.getElem?_set_ne (Ne.symm ej)] at q1
      by_cases ek : k = i
      · subst ek
        exact F.sep j k us xs b hjk q1 h
      · rw [List.getElem?_set_ne (Ne.symm ek)] at q2
        exact F.sep j k us zs b hjk q1 q2
/-- the spring is written -/
theorem Fm.spring (F : Fm K C fz ρ sto σ H) (sto' : Sto) {p : Addr} (hp : C.sp = some p) : Fm K C fz ρ sto' σ (upd H p (.lst (sto'.map V.int))) ∧ Sts C.sp fz H fz (upd H p (.lst (sto'.map V.int))) := by
  have ne : ∀ b, some b ≠ C.sp → b ≠ p := fun b n e => n (by rw [e, hp])
  have S : Sts C.sp fz H fz (upd H p (.lst (sto'.map V.int))) := ⟨fun _ q => q, fun b o q n _ _ => by rw [upd_ne (ne b n)]; exact q⟩
  refine ⟨⟨F.len, F.st.spr hp (F.bs.spl _ hp) .lst .lst, ⟨fun b eb => ?_, F.bs.nsp, fun b q z => ?_, Tabs.upd F.bs.tab (F.bs.spl _ hp) .lst⟩, fun j c q => ?_, F.sep⟩, S⟩
  · rw [hp] at eb; cases eb; exact upd_same
  · by_cases e : b = p
    · subst e; rw [upd_same] at z; cases z
    · rw [upd_ne e] at z; exact F.bs.trk b q z
  · have g := F.vars j c q
    cases c with
    | d x => obtain ⟨u, g1, g2⟩ := g; exact ⟨u, g1, g2.sts S F.bs⟩
    | o us =>
      obtain ⟨b, ts, g1, g2, g3, g4, g5, g6⟩ := g
      exact ⟨b, ts, g1, by rw [upd_ne (ne b g5)]; exact g2, g3.sts S F.bs, g4, g5, g6⟩
    | s => exact g
    | m acc =>
      obtain ⟨b, ts, g1, g2, g3, g4, g5, g6⟩ := g
      exact ⟨b, ts, g1, by rw [upd_ne (ne b g5)]; exact g2, ⟨g3.1, g3.2.sts S F.bs⟩, g4, g5, g6⟩
    | t acc =>
      obtain ⟨b, ts, g1, g2, g3, g4, g5, g6⟩ := g
      exact ⟨b, ts, g1, by rw [upd_ne (ne b g5)]; exact g2, g3.sts S F.bs, g4, g5, g6⟩
    | h l => exact ⟨g.1, g.2.sts S F.bs⟩
/-- what was given is kept: the frame, with more frozen -/
theorem Fm.keep (F : Fm K C fz ρ sto σ H) (s : Stp C.sp fz H fz1 H1) (l : SpL C.sp H1 sto') {v : V} {r : R} {x : PyData} (i : ImR K C.sp H fz1 H1 v r) (e : toD r = some x) : ∃ fz2, Fm K C fz2 ρ sto' σ H1 ∧ Stp C.sp fz H fz2 H1 ∧ Im K fz2 H1 v x := by
  obtain ⟨fz2, s2, B2, g, im⟩ := i.keep e s (F.bs.step s l)
  exact ⟨fz2, F.step s2 l, s2, im⟩
end
def mApp (i : Nat) (a : Mx) : Ms := fun ρ s => match a ρ s with
  | some (r, s1) => match toD r, ρ[i]? with
    | some x, some (some (.o xs)) => if xs.length < sizeLine then some (.nx, ρ.set i (some (.o (xs ++ [x]))), s1) else none
    | _, _ => none
  | none => none
def mPut (i : Nat) (ix a : Mx) : Ms := fun ρ s => match a ρ s with
  | some (r, s1) => match ix ρ s1 with
    | some (.d (.int k), s2) => match ρ[i]? with
      | some (some (.o xs)) => match toD r, ixN xs.length k with
        | some x, some j => some (.nx, ρ.set i (some (.o (xs.set j x))), s2)
        | _, _ => none
      | some (some .s) => match r, ixN s2.length k with
        | .d (.int v), some j => some (.nx, ρ, s2.set j v)
        | _, _ => none
      | _ => none
    | _ => none
  | none => none
section
variable {X : Cx} {st : Stmt} {rest : List Stmt} {e : Expr} {me mi : Mx} {ma mb : Ms} {tc : Mt} {pos : Pos}
theorem ss_append {i : Nat} {x : Str} {p apos cpos : Pos} (he : SE X e me) (hN : X.N[i]? = some x := by rfl) (hv : Vis X.env.scope x := by first | exact Or.inl rfl | exact Or.inr (Or.inl rfl) | exact Or.inr (Or.inr rfl))
    (hse : starEach [e] X.env = (false, eval e X.env) :: starEach [] X.env := by rfl)
    (hfew : ((backTo cpos (starEach [e] X.env)).all (fun x => !x.1) && (backToKw cpos (keywordEach [] X.env)).all (fun x => x.1.isSome)
      && decide (([e] : List Expr).length + ([] : List Keyword).length + (if ([] : List Keyword).isEmpty then 0 else 1) < 30)) = true := by rfl)
    (hline : (apos.endLine == cpos.line) = true := by rfl)
    (hd : (x == ("__debug__" : Str)) = false := by decide) (hcd : (x == ("__classdict__" : Str)) = false := by decide) (hbase : attributeBase (.Name x p) "append" X.env (eval (.Name x p) X.env) = eval (.Name x p) X.env := by rfl)
    (hs : swapsWith (.Call (.Attribute (.Name x p) "append" apos) [e] [] cpos) none pos.line X.env = pure false := by rfl) : SS X (.Expr (.Call (.Attribute (.Name x p) "append" apos) [e] [] cpos) pos) (mApp i me) :=
  PS.imp (ps_expr (pe_bm PySem.F.plainAttrs_list PySem.F.slot_list_append PySem.F.type_list_append mt_append (pe_var hN hv hd hcd) (pa_cons he pa_nil hse) hbase hfew hline hse) hs) fun D σ H h => by
  obtain ⟨C, fz, ρ, sto, out, ρ', sto', F, e, k⟩ := h
  unfold mApp at e
  split at e
  · rename_i r s1 e1
    split at e
    · rename_i x xs er ex
      split at e
      · rename_i hz
        cases e
        obtain ⟨a, vs, ha, h2, h3, h4, h5, h6⟩ := F.owned ex
        refine ⟨_, ha, .inl ⟨rfl, vs, .inl (.inl h2)⟩, C, fz, ρ, sto, r, _, F, e1, fun v fz1 H1 st1 l1 i1 => ?_⟩
        obtain ⟨fz2, F2, st2, im⟩ := F.keep st1 l1 i1 er
        obtain ⟨a', vs', ha', q2, q3, q4, q5, q6⟩ := F2.owned ex
        rw [ha] at ha'; cases ha'
        refine ⟨a, vs', v, rfl, rfl, q2, by rw [q3.length]; exact hz, ?_⟩
        obtain ⟨F3, S3⟩ := F2.write (ys := xs ++ [x]) ex ha (q3.append (.cons im .nil))
        exact k fz2 σ _ F3 (st2.sts.trans S3)
      · cases e
    · cases e
  · cases e
/-- x[i] = e; hg is pg_sub (pv i) hix set_list -/
theorem ss_put {i : Nat} {tg : Expr} (he : SE X e me) (hg : PG X tg (gSub (tVar i) (rdE X.K mi) rSetL))
    (hs : swapsWithSole [tg] e pos.line X.env = pure false := by rfl) (hw : swappedStores [tg] e X.env = pure none := by rfl) (h1 : (assignEach [tg] X.env).map (·.2) = [assign tg X.env] := by rfl) : SS X (.Assign [tg] e pos) (mPut i mi me) :=
  PS.imp (ps_asg he hg hs hw h1) fun D σ H h => by
  obtain ⟨C, fz, ρ, sto, out, ρ', sto', F, e, k⟩ := h
  unfold mPut at e
  split at e
  · rename_i r s1 e1
    split at e
    · rename_i kk s2 e2
      refine ⟨C, fz, ρ, sto, r, s1, F, e1, fun v fz1 H1 st1 l1 i1 => ?_⟩
      have F1 := F.step st1 l1
      split at e
      · rename_i xs ex
        split at e
        · rename_i x j er ej
          cases e
          obtain ⟨a, vs, ha, h2, h3, h4, h5, h6⟩ := F.owned ex
          refine ⟨_, ha, C, fz1, ρ, s1, _, _, F1, e2, fun w fz2 H2 st2 l2 i2 => ?_⟩
          cases i2
          obtain ⟨fz3, F3, st3, im⟩ := F.keep (st1.trans st2) l2 (i1.stp st2 F1.bs) er
          obtain ⟨a', vs', ha', q2, q3, q4, q5, q6⟩ := F3.owned ex
          rw [ha] at ha'; cases ha'
          refine ⟨a, vs', kk, j, rfl, rfl, q2, by rw [q3.length]; exact ej, ?_⟩
          obtain ⟨F4, S4⟩ := F3.write (ys := xs.set j x) ex ha (q3.set j im)
          exact k fz3 σ _ F4 (st3.sts.trans S4)
        · cases e
      · rename_i ex
        split at e
        · rename_i v' j ej
          cases e
          obtain ⟨p, hp, hs⟩ := F.vars _ _ ex
          refine ⟨_, hs, C, fz1, ρ, s1, _, _, F1, e2, fun w fz2 H2 st2 l2 i2 => ?_⟩
          cases i2
          cases i1
          refine ⟨p, _, kk, j, rfl, rfl, l2 p hp, by rw [List.length_map]; exact ej, ?_⟩
          obtain ⟨F4, S4⟩ := (F1.step st2 l2).spring (s2.set j v') hp
          rw [← List.map_set]
          exact k fz2 σ _ F4 ((st1.trans st2).sts.trans S4)
        · cases e
      · cases e
    · cases e
  · cases e
end
abbrev Gx := PyData → Ev → Option Ev
def rdG (K : PySem.W.Frag) (is : List Nat) (g : Gx) : TG := fun v σ H Q => ∃ (C : Cn) (fz : Fz) (ρ : Ev) (sto : Sto) (x : PyData) (ρ' : Ev), Fm K C fz ρ sto σ H ∧ Im K fz H v x ∧ g x ρ = some ρ' ∧
  ∀ σ', σ'.length = σ.length → (∀ i, i ∉ is → σ'[i]? = σ[i]?) → Fm K C fz ρ' sto σ' H → Q σ' H
theorem PG.impI {X : Cx} {e : Expr} {t t' : TG} (h : PG X e t) (q : ∀ v σ H Q, σ.length = X.N.length → t' v σ H Q → t v σ H Q) : PG X e t' := ⟨fun pins s σ H v u Q I r w => h.run pins s σ H v u Q I r (q _ _ _ _ I.len w)⟩
theorem PGs.impI {X : Cx} {e : List Expr} {t t' : TGs} (h : PGs X e t) (q : ∀ v σ H Q, σ.length = X.N.length → t' v σ H Q → t v σ H Q) : PGs X e t' := ⟨fun pins s σ H v u Q I r w => h.run pins s σ H v u Q I r (q _ _ _ _ I.len w)⟩
def SG (X : Cx) (tg : Expr) (is : List Nat) (g : Gx) : Prop := PG X tg (rdG X.K is g)
abbrev Gxs := List PyData → Ev → Option Ev
def rdGs (K : PySem.W.Frag) (is : List Nat) (g : Gxs) : TGs := fun vs σ H Q => ∃ (C : Cn) (fz : Fz) (ρ : Ev) (sto : Sto) (xs : List PyData) (ρ' : Ev), Fm K C fz ρ sto σ H ∧ ImA K fz H vs xs ∧ g xs ρ = some ρ' ∧
  ∀ σ', σ'.length = σ.length → (∀ i, i ∉ is → σ'[i]? = σ[i]?) → Fm K C fz ρ' sto σ' H → Q σ' H
def SGs (X : Cx) (tg : List Expr) (is : List Nat) (g : Gxs) : Prop := PGs X tg (rdGs X.K is g)
def gN (i : Nat) : Gx := fun x ρ => some (ρ.set i (some (.d x)))
def gT (n : Nat) (g : Gxs) : Gx := fun x ρ => match x with
  | .tuple xs => if xs.length = n then g xs ρ else none
  | _ => none
def gsNil : Gxs := fun xs ρ => match xs with | [] => some ρ | _ => none
def gsCons (g : Gx) (r : Gxs) : Gxs := fun xs ρ => match xs with
  | x :: ys => match g x ρ with | some ρ1 => r ys ρ1 | none => none
  | [] => none
theorem Fm.name {K : PySem.W.Frag} {C : Cn} {fz : Fz} {ρ : Ev} {sto : Sto} {σ : L2.St} {H : Hp} (F : Fm K C fz ρ sto σ H) {v : V} {x : PyData} (im : Im K fz H v x) {i : Nat} (hi : i < σ.length) : Fm K C fz (ρ.set i (some (.d x))) sto (σ.set i (some v)) H :=
  F.put i hi ⟨v, List.getElem?_set_self hi, im⟩ fun xs a e => nomatch e
section
variable {X : Cx} {tg : Expr} {tgs : List Expr} {is js : List Nat} {g : Gx} {gs : Gxs} {pos : Pos}
theorem sg_name {i : Nat} {x : Str} (hN : X.N.Nodup) (hi : X.N[i]? = some x := by rfl) (hx : Loc X.env.scope x := by first | exact Or.inl rfl | exact Or.inr rfl)
    (hf : X.fn x = true ∨ X.env.scope.names.lookup x = some .local := by first | exact .inl rfl | exact .inr rfl) : SG X (.Name x pos) [i] (gN i) := PG.impI (pg_name hN hi hx hf) fun v σ H Q hl h => by
  obtain ⟨C, fz, ρ, sto, x, ρ', F, im, e, k⟩ := h
  cases e
  exact k _ (by rw [List.length_set]) (fun j hj => List.getElem?_set_ne fun z => hj (by rw [z]; exact List.mem_singleton.mpr rfl)) (F.name im (lt_of_slot hi hl))
theorem sgs_nil : SGs X [] [] gsNil := PGs.impI pgs_nil fun v σ H Q hl h => by
  obtain ⟨C, fz, ρ, sto, x, ρ', F, im, e, k⟩ := h
  cases im with
  | nil => cases e; exact ⟨rfl, k σ rfl (fun _ _ => rfl) F⟩
  | cons _ _ => cases e
theorem sgs_cons (h1 : SG X tg is g) (h2 : SGs X tgs js gs) (hs : (assignEach (tg :: tgs) X.env).map (·.2) = assign tg X.env :: (assignEach tgs X.env).map (·.2) := by rfl) : SGs X (tg :: tgs) (is ++ js) (gsCons g gs) := PGs.impI (pgs_cons h1 h2 hs) fun v σ H Q hl h => by
  obtain ⟨C, fz, ρ, sto, x, ρ', F, im, e, k⟩ := h
  cases im with
  | nil => cases e
  | cons a b =>
    unfold gsCons at e
    simp only at e
    split at e
    · rename_i ρ1 e1
      refine ⟨_, _, rfl, C, fz, ρ, sto, _, ρ1, F, a, e1, fun σ1 l1 o1 F1 => ?_⟩
      refine ⟨C, fz, ρ1, sto, _, ρ', F1, b, e, fun σ2 l2 o2 F2 => ?_⟩
      refine k σ2 (l2.trans l1) (fun i hi => ?_) F2
      rw [List.mem_append, not_or] at hi
      exact (o2 i hi.2).trans (o1 i hi.1)
    · cases e
theorem sg_tup {n k : Nat} (hc : X.calm = true) (h : SGs X tgs is gs) (hn : (assignEach tgs X.env).length = n := by rfl) (hst : (assignEach tgs X.env).findIdx? (·.1) = none := by rfl) : SG X (.Tuple tgs k pos) is (gT n gs) := PG.impI (pg_tup hc h hn hst) fun v σ H Q hl h => by
  obtain ⟨C, fz, ρ, sto, x, ρ', F, im, e, k⟩ := h
  unfold gT at e
  split at e
  · rename_i xs
    split at e
    · rename_i hz
      cases im with
      | tup hs ha => exact ⟨_, _, rfl, hs.sq, by rw [ha.length]; exact hz, C, fz, ρ, sto, xs, ρ', F, ha, e, k⟩
    · cases e
  · cases e
/-- target = value -/
def mAsg (g : Gx) (a : Mx) : Ms := fun ρ s => match a ρ s with
  | some (r, s1) => match toD r with
    | some x => match g x ρ with
      | some ρ1 => some (.nx, ρ1, s1)
      | none => none
    | none => none
  | none => none
theorem ss_asg {e : Expr} {me : Mx} (he : SE X e me) (hg : SG X tg is g) (hs : swapsWithSole [tg] e pos.line X.env = pure false := by rfl) (hw : swappedStores [tg] e X.env = pure none := by rfl) (h1 : (assignEach [tg] X.env).map (·.2) = [assign tg X.env] := by rfl) : SS X (.Assign [tg] e pos) (mAsg g me) := PS.imp (ps_asg he hg hs hw h1) fun D σ H h => by
  obtain ⟨C, fz, ρ, sto, out, ρ', sto', F, e, k⟩ := h
  unfold mAsg at e
  split at e
  · rename_i r s1 e1
    split at e
    · rename_i x ex
      split at e
      · rename_i ρ1 eg
        cases e
        refine ⟨C, fz, ρ, sto, r, _, F, e1, fun v fz1 H1 st1 l1 i1 => ?_⟩
        obtain ⟨fz2, F2, st2, im⟩ := F.keep st1 l1 i1 ex
        exact ⟨C, fz2, ρ, _, x, ρ', F2, im, eg, fun σ1 _ _ F3 => k fz2 σ1 H1 F3 st2.sts⟩
      · cases e
    · cases e
  · cases e
/-- a, b = e1, e2 (two names of the def) -/
def mPar (i j : Nat) (a : Ma) : Ms := fun ρ s => match a ρ s with
  | some ([r, q], s1) => match toCl r, toCl q with
    | some c, some d => match c, d with
      | .o _, .o _ => none
      | c, d => some (.nx, (ρ.set i (some c)).set j (some d), s1)
    | _, _ => none
  | _ => none
theorem ss_par {i j : Nat} {x y : Str} {a b : Expr} {m : Ma} {px py pt : Pos} {kt k2 pt2} (hc : X.calm = true) (hN : X.N.Nodup) (ha : SA X [a, b] m) (hi : X.N[i]? = some x := by rfl) (hj : X.N[j]? = some y := by rfl) (hij : i ≠ j := by decide)
    (hx : X.env.scope.names.lookup x = some .local := by rfl) (hy : X.env.scope.names.lookup y = some .local := by rfl)
    (hw : swappedStores [.Tuple [.Name x px, .Name y py] kt pt] (.Tuple [a, b] k2 pt2) X.env = pure (some [x, y]) := by rfl)
    (hs : swapsWithSole [.Tuple [.Name x px, .Name y py] kt pt] (.Tuple [a, b] k2 pt2) pos.line X.env = pure false := by rfl) :
    SS X (.Assign [.Tuple [.Name x px, .Name y py] kt pt] (.Tuple [a, b] k2 pt2) pos) (mPar i j m) := PS.impI (ps_par hc hN hi hj hij hx hy ha hw hs) fun D σ H hl h => by
  obtain ⟨C, fz, ρ, sto, out, ρ', sto', F, e, k⟩ := h
  unfold mPar at e
  split at e
  · rename_i r q s1 e1
    split at e
    · rename_i c d ec ed
      split at e
      · cases e
      · rename_i no
        cases e
        refine ⟨C, fz, ρ, sto, _, _, F, e1, fun vs fz1 H1 st1 l1 i1 => ?_⟩
        cases i1 with
        | cons iv t =>
          cases t with
          | cons iw t =>
            cases t
            rename_i v w
            refine ⟨v, w, rfl, ?_⟩
            have hi' := lt_of_slot hi hl
            have hj' := lt_of_slot hj hl
            have F1 := F.give st1 l1 iv ec hi'
            -- the second one, its address apart from the first one's
            refine k fz1 _ H1 (F1.put j (by rw [List.length_set]; exact hj') ?_ ?_) st1.sts
            · have g : ((σ.set i (some v)).set j (some w))[j]? = some (some w) := List.getElem?_set_self (by rw [List.length_set]; exact hj')
              cases q with
              | d x => cases ed; exact ⟨w, g, iw⟩
              | f xs =>
                cases ed
                obtain ⟨a, vs, rfl, h1, h2, h3, h4, h5⟩ := iw
                exact ⟨a, vs, g, h1, h2, h3, h4, F.st.back h4 h5⟩
              | b xs => cases ed
              | s => cases ed; obtain ⟨a, ea, rfl⟩ := (show IsS C.sp w from iw); exact ⟨a, ea, g⟩
              | m acc =>
                cases ed
                obtain ⟨a, vs, rfl, h1, h2, h3, h4, h5⟩ := iw
                exact ⟨a, vs, g, h1, h2, h3, h4, F.st.back h4 h5⟩
              | t acc =>
                cases ed
                obtain ⟨a, vs, rfl, h1, h2, h3, h4, h5⟩ := iw
                exact ⟨a, vs, g, h1, h2, h3, h4, F.st.back h4 h5⟩
              | n acc => cases ed
              | u acc => cases ed
              | h l => cases ed
            · intro xs a edx ew n ys hn h1 h2
              subst edx
              cases q with
              | d x => cases ed
              | b x => cases ed
              | s => cases ed
              | m _ => cases ed
              | t _ => cases ed
              | n _ => cases ed
              | u _ => cases ed
              | f zs =>
                cases ed
                obtain ⟨b, vs, eb, h3, h4, h5, h6, h7⟩ := iw
                rw [ew] at eb; cases eb
                by_cases en : n = i
                · subst en
                  rw [List.getElem?_set_self (by rw [F.len]; exact hi')] at h1
                  cases h1
                  exact no ys _ rfl rfl
                · rw [List.getElem?_set_ne (Ne.symm en)] at h1 h2
                  obtain ⟨b, ws, q1, q2, _⟩ := F.owned h1
                  rw [h2] at q1; cases q1
                  rw [h7] at q2; cases q2
              | h l => cases ed
    · cases e
  · cases e
end
end Dh
namespace Dh
open PySem PySem.Spec L2
variable [LawT]
abbrev Mi := Ev → Sto → Option (List PyData × Sto)
/-- J goes through the data xs, for as long as what is frozen stands -/
structure Goes (K : PySem.W.Frag) (sp : Option Addr) (fz : Fz) (H : Hp) (J : It) (xs : List PyData) : Prop where
  go : ∀ (i : Nat) fz1 H1 sto, i < xs.length → Sts sp fz H fz1 H1 → Bs sp fz1 H1 sto → J.go i H1
  stop : ∀ fz1 H1 sto, Sts sp fz H fz1 H1 → Bs sp fz1 H1 sto → J.stop xs.length H1
  yld : ∀ (i : Nat) (x : PyData) fz1 H1 sto v H2, xs[i]? = some x → Sts sp fz H fz1 H1 → Bs sp fz1 H1 sto → J.yld i H1 v H2 → Stp sp fz1 H1 fz1 H2 ∧ SpL sp H2 sto ∧ Im K fz1 H2 v x
def rdI (K : PySem.W.Frag) (m : Mi) : TI := fun σ H R => ∃ (C : Cn) (fz : Fz) (ρ : Ev) (sto : Sto) (xs : List PyData) (sto' : Sto), Fm K C fz ρ sto σ H ∧ m ρ sto = some (xs, sto') ∧
  ∀ J fz' H', Stp C.sp fz H fz' H' → SpL C.sp H' sto' → Goes K C.sp fz' H' J xs → R J H'
def SI (X : Cx) (tg iter : Expr) (m : Mi) : Prop := PI X tg iter (rdI X.K m)
theorem PI.imp {X : Cx} {tg e : Expr} {t t' : TI} (h : PI X tg e t) (q : ∀ σ H R, t' σ H R → t σ H R) : PI X tg e t' := ⟨fun pins s σ H R I w => h.run pins s σ H R I (q _ _ _ w)⟩
def forRun (g : Gx) (body : Ms) : List PyData → Ms
  | [] => fun ρ s => some (.nx, ρ, s)
  | x :: xs => fun ρ s => match g x ρ with
    | none => none
    | some ρ1 => match body ρ1 s with
      | some (.nx, ρ2, s2) => forRun g body xs ρ2 s2
      | some (.ct, ρ2, s2) => forRun g body xs ρ2 s2
      | some (.bk, ρ2, s2) => some (.nx, ρ2, s2)
      | some (.rt r, ρ2, s2) => some (.rt r, ρ2, s2)
      | none => none
def mFor (it : Mi) (g : Gx) (body : Ms) : Ms := fun ρ s => match it ρ s with
  | some (xs, s1) => forRun g body xs ρ s1
  | none => none
section
variable {X : Cx} {tg iter : Expr} {is : List Nat} {g : Gx} {mi : Mi} {body : List Stmt} {mb : Ms} {pos : Pos}
theorem rs_for {K : PySem.W.Frag} {D : Ends} {σ : L2.St} {H : Hp} (h : rdS K (mFor mi g mb) D σ H) : tFor (rdI K mi) (rdG K is g) (rdS K mb) D σ H := by
  obtain ⟨C, fz, ρ, sto, out, ρ', sto', F, e, k⟩ := h
  unfold mFor at e
  split at e
  · rename_i xs s1 e1
    refine ⟨C, fz, ρ, sto, xs, s1, F, e1, fun J fz1 H1 st1 l1 G => ?_⟩
    have F1 := F.step st1 l1
    let W : Nat → Nat → L2.St → Hp → Prop := fun i m σ' H' => m = xs.length - i ∧ i ≤ xs.length ∧ ∃ fz2 ρ2 s2, Fm K C fz2 ρ2 s2 σ' H' ∧ Sts C.sp fz1 H1 fz2 H' ∧ forRun g mb (xs.drop i) ρ2 s2 = some (out, ρ', sto')
    refine ⟨W, ⟨xs.length, by simp, Nat.zero_le _, fz1, ρ, s1, F1, .refl, e⟩, ?_⟩
    rintro i m σ2 H2 ⟨rfl, hi, fz2, ρ2, s2, F2, S2, e2⟩
    by_cases hlt : i < xs.length
    · have hx : xs[i]? = some xs[i] := List.getElem?_eq_getElem hlt
      rw [List.drop_eq_getElem_cons hlt] at e2
      unfold forRun at e2
      split at e2
      · cases e2
      · rename_i ρ3 e3
        refine .inr ⟨G.go i fz2 H2 s2 hlt S2 F2.bs, fun σ' H' => W (i + 1) (xs.length - (i + 1)) σ' H', fun σ' H' w => ⟨xs.length - (i + 1), by omega, w⟩, fun v H3 y => ?_⟩
        obtain ⟨st3, l3, im⟩ := G.yld i _ fz2 H2 s2 v H3 hx S2 F2.bs y
        refine ⟨C, fz2, ρ2, s2, xs[i], ρ3, F2.step st3 l3, im, e3, fun σ4 hl4 ho4 F4 => ?_⟩
        have S3 := S2.trans st3.sts
        split at e2
        · rename_i ρ5 s5 e5
          refine ⟨C, fz2, ρ3, s2, .nx, ρ5, s5, F4, e5, fun fz6 σ6 H6 F6 S6 => ?_⟩
          exact ⟨rfl, hlt, fz6, ρ5, s5, F6, S3.trans S6, e2⟩
        · rename_i ρ5 s5 e5
          refine ⟨C, fz2, ρ3, s2, .ct, ρ5, s5, F4, e5, fun fz6 σ6 H6 F6 S6 => ?_⟩
          exact ⟨rfl, hlt, fz6, ρ5, s5, F6, S3.trans S6, e2⟩
        · rename_i ρ5 s5 e5
          cases e2
          refine ⟨C, fz2, ρ3, s2, .bk, ρ', sto', F4, e5, fun fz6 σ6 H6 F6 S6 => ?_⟩
          exact k fz6 σ6 H6 F6 (st1.sts.trans (S3.trans S6))
        · rename_i r ρ5 s5 e5
          cases e2
          refine ⟨C, fz2, ρ3, s2, .rt r, ρ', sto', F4, e5, fun fz6 σ6 H6 F6 S6 => ?_⟩
          exact k fz6 σ6 H6 F6 (st1.sts.trans (S3.trans S6))
        · cases e2
    · have ei : i = xs.length := by omega
      subst ei
      rw [List.drop_length] at e2
      cases e2
      exact .inl ⟨G.stop fz2 H2 _ S2 F2.bs, k fz2 σ2 H2 F2 (st1.sts.trans S2)⟩
  · cases e
theorem ss_for (hp : PassesOwn (model X.prog X.w) X.A X.env X.xe) (hc : X.calm = true) (hi : SI X tg iter mi) (hg : SG X tg is g) (hb : SL X body mb) (hs : ∀ x, foldedSetIterable iter X.env x = pure x := by intro _; rfl) :
    SS X (.For tg iter body [] pos) (mFor mi g mb) := PS.imp (ps_for hp hc hi hg hb hs) fun _ _ _ h => rs_for h
end
def whRun (c : Mt) (body : Ms) : Nat → Ms
  | 0 => fun _ _ => none
  | n + 1 => fun ρ s => match c ρ s with
    | none => none
    | some (false, s1) => some (.nx, ρ, s1)
    | some (true, s1) => match body ρ s1 with
      | some (.nx, ρ2, s2) => whRun c body n ρ2 s2
      | some (.ct, ρ2, s2) => whRun c body n ρ2 s2
      | some (.bk, ρ2, s2) => some (.nx, ρ2, s2)
      | some (.rt r, ρ2, s2) => some (.rt r, ρ2, s2)
      | none => none
theorem whRun_eq {c : Mt} {body : Ms} {n : Nat} {ρ : Ev} {s : Sto} : whRun c body (n + 1) ρ s = (match c ρ s with
    | none => none
    | some (false, s1) => some (.nx, ρ, s1)
    | some (true, s1) => match body ρ s1 with
      | some (.nx, ρ2, s2) => whRun c body n ρ2 s2
      | some (.ct, ρ2, s2) => whRun c body n ρ2 s2
      | some (.bk, ρ2, s2) => some (.nx, ρ2, s2)
      | some (.rt r, ρ2, s2) => some (.rt r, ρ2, s2)
      | none => none) := rfl
theorem whRun_succ {c : Mt} {body : Ms} : ∀ {n : Nat} {ρ : Ev} {s : Sto} {r : Out × Ev × Sto}, whRun c body n ρ s = some r → whRun c body (n + 1) ρ s = some r
  | 0, _, _, _, h => by cases h
  | n + 1, ρ, s, r, h => by
    rw [whRun_eq] at h
    rw [whRun_eq]
    cases hc : c ρ s with
    | none => rw [hc] at h; cases h
    | some p =>
      obtain ⟨k, s1⟩ := p
      rw [hc] at h
      cases k with
      | false => exact h
      | true =>
        cases hb : body ρ s1 with
        | none => simp only [hb] at h; cases h
        | some q =>
          obtain ⟨out, ρ2, s2⟩ := q
          simp only [hb] at h ⊢
          cases out with
          | nx => exact whRun_succ h
          | ct => exact whRun_succ h
          | bk => exact h
          | rt r' => exact h
theorem whRun_le {c : Mt} {body : Ms} {n m : Nat} (h : n ≤ m) {ρ : Ev} {s : Sto} {r : Out × Ev × Sto} (e : whRun c body n ρ s = some r) : whRun c body m ρ s = some r := by
  induction h with
  | refl => exact e
  | step _ ih => exact whRun_succ ih
open Classical in
noncomputable def mWhile (c : Mt) (body : Ms) : Ms := fun ρ s => if h : ∃ (n : Nat) (r : Out × Ev × Sto), whRun c body n ρ s = some r then some (choose (choose_spec h)) else none
theorem mWhile_of {c : Mt} {body : Ms} {n : Nat} {ρ : Ev} {s : Sto} {r : Out × Ev × Sto} (e : whRun c body n ρ s = some r) : mWhile c body ρ s = some r := by
  have h : ∃ (n : Nat) (r : Out × Ev × Sto), whRun c body n ρ s = some r := ⟨n, r, e⟩
  unfold mWhile
  rw [dif_pos h]
  have q := Classical.choose_spec (Classical.choose_spec h)
  have a := whRun_le (Nat.le_max_left n (Classical.choose h)) e
  have b := whRun_le (Nat.le_max_right n (Classical.choose h)) q
  rw [a] at b
  exact b.symm
theorem mWhile_some {c : Mt} {body : Ms} {ρ : Ev} {s : Sto} {r : Out × Ev × Sto} (h : mWhile c body ρ s = some r) : ∃ n, whRun c body n ρ s = some r := by
  unfold mWhile at h
  split at h
  · rename_i q
    have p := Classical.choose_spec (Classical.choose_spec q)
    cases h
    exact ⟨_, p⟩
  · cases h
section
variable {X : Cx} {c : Expr} {tc : Mt} {body : List Stmt} {mb : Ms} {pos : Pos}
theorem rs_while {K : PySem.W.Frag} {D : Ends} {σ : L2.St} {H : Hp} (h : rdS K (mWhile tc mb) D σ H) : tWhile (rdT K tc) (rdS K mb) D σ H := by
  obtain ⟨C, fz, ρ, sto, out, ρ', sto', F, e, k⟩ := h
  obtain ⟨n, e⟩ := mWhile_some e
  let W : Nat → L2.St → Hp → Prop := fun m σ' H' => ∃ fz2 ρ2 s2, Fm K C fz2 ρ2 s2 σ' H' ∧ Sts C.sp fz H fz2 H' ∧ whRun tc mb m ρ2 s2 = some (out, ρ', sto')
  refine ⟨W, ⟨n, fz, ρ, sto, F, .refl, e⟩, ?_⟩
  rintro m σ2 H2 ⟨fz2, ρ2, s2, F2, S2, e2⟩
  cases m with
  | zero => cases e2
  | succ m =>
    unfold whRun at e2
    split at e2
    · cases e2
    · rename_i s3 e3
      cases e2
      exact ⟨C, fz2, ρ', s2, false, _, F2, e3, fun fz4 H4 st4 l4 => k fz4 σ2 H4 (F2.step st4 l4) (S2.trans st4.sts)⟩
    · rename_i s3 e3
      refine ⟨C, fz2, ρ2, s2, true, s3, F2, e3, fun fz4 H4 st4 l4 => ?_⟩
      have F4 := F2.step st4 l4
      have S4 := S2.trans st4.sts
      show ∃ N : L2.St → Hp → Prop, (∀ σ' H', N σ' H' → ∃ m', m' < m + 1 ∧ W m' σ' H') ∧ _
      refine ⟨fun σ' H' => W m σ' H', fun σ' H' w => ⟨m, Nat.lt_succ_self m, w⟩, ?_⟩
      split at e2
      · rename_i ρ5 s5 e5
        exact ⟨C, fz4, ρ2, s3, .nx, ρ5, s5, F4, e5, fun fz6 σ6 H6 F6 S6 => ⟨fz6, ρ5, s5, F6, S4.trans S6, e2⟩⟩
      · rename_i ρ5 s5 e5
        exact ⟨C, fz4, ρ2, s3, .ct, ρ5, s5, F4, e5, fun fz6 σ6 H6 F6 S6 => ⟨fz6, ρ5, s5, F6, S4.trans S6, e2⟩⟩
      · rename_i ρ5 s5 e5
        cases e2
        exact ⟨C, fz4, ρ2, s3, .bk, ρ', sto', F4, e5, fun fz6 σ6 H6 F6 S6 => k fz6 σ6 H6 F6 (S4.trans S6)⟩
      · rename_i r ρ5 s5 e5
        cases e2
        exact ⟨C, fz4, ρ2, s3, .rt r, ρ', sto', F4, e5, fun fz6 σ6 H6 F6 S6 => k fz6 σ6 H6 F6 (S4.trans S6)⟩
      · cases e2
theorem ss_while (hp : PassesOwn (model X.prog X.w) X.A X.env X.xe) (hc : SB X c tc) (hb : SL X body mb) : SS X (.While c body [] pos) (mWhile tc mb) := PS.imp (ps_while hp hc hb) fun _ _ _ h => rs_while h
end
def wipeE (ρ : Ev) : List Nat → Ev
  | [] => ρ
  | v :: vs => (wipeE ρ vs).set v none
theorem wipeE_length (ρ : Ev) : ∀ vs : List Nat, (wipeE ρ vs).length = ρ.length
  | [] => rfl
  | v :: vs => by unfold wipeE; rw [List.length_set, wipeE_length ρ vs]
theorem wipeE_some {ρ : Ev} {i : Nat} {c : Cl} : ∀ {vs : List Nat}, (wipeE ρ vs)[i]? = some (some c) → ρ[i]? = some (some c) ∧ i ∉ vs
  | [], h => ⟨h, by simp⟩
  | v :: vs, h => by
    unfold wipeE at h
    by_cases e : i = v
    · subst e
      by_cases hi : i < (wipeE ρ vs).length
      · rw [List.getElem?_set_self hi] at h; cases h
      · rw [List.getElem?_eq_none (by rw [List.length_set]; omega)] at h; cases h
    · rw [List.getElem?_set_ne (Ne.symm e)] at h
      obtain ⟨h1, h2⟩ := wipeE_some h
      exact ⟨h1, by simp [e, h2]⟩
section
variable {K : PySem.W.Frag} {C : Cn} {fz fz1 : Fz} {ρ : Ev} {sto sto' : Sto} {σ : L2.St} {H H1 : Hp}
theorem Fm.wipe (F : Fm K C fz ρ sto σ H) (vs : List Nat) : Fm K C fz (wipeE ρ vs) sto (L2.wipe σ vs) H where
  len := by rw [wipeE_length, wipe_length, F.len]
  st := F.st
  bs := F.bs
  vars := fun i c h => by
    obtain ⟨h1, h2⟩ := wipeE_some h
    have q := F.vars i c h1
    cases c with
    | d x => obtain ⟨u, e1, e2⟩ := q; exact ⟨u, (wipe_out h2).trans e1, e2⟩
    | o xs => obtain ⟨a, vs, e1, e2⟩ := q; exact ⟨a, vs, (wipe_out h2).trans e1, e2⟩
    | s => obtain ⟨a, ea, q⟩ := q; exact ⟨a, ea, (wipe_out h2).trans q⟩
    | m acc => obtain ⟨a, vs, e1, e2⟩ := q; exact ⟨a, vs, (wipe_out h2).trans e1, e2⟩
    | t acc => obtain ⟨a, vs, e1, e2⟩ := q; exact ⟨a, vs, (wipe_out h2).trans e1, e2⟩
    | h l => exact ⟨(wipe_out h2).trans q.1, q.2⟩
  sep := fun i j xs ys a hij h1 h2 h3 h4 => by
    obtain ⟨g1, n1⟩ := wipeE_some h1
    obtain ⟨g2, n2⟩ := wipeE_some h2
    rw [wipe_out n1] at h3
    rw [wipe_out n2] at h4
    exact F.sep i j xs ys a hij g1 g2 h3 h4
/-- a list that nobody owns is written -/
theorem Fm.side (F : Fm K C fz ρ sto σ H) {D : Addr} {ws : List V} (hD : ∃ us, H D = some (.lst us)) (nf : ¬ fz D) (ns : some D ≠ C.sp) (n0 : C.H0 D = none) (no : ∀ (i : Nat) (xs : List PyData), ρ[i]? = some (some (Cl.o xs)) → σ[i]? ≠ some (some (V.ref D))) :
    Fm K C fz ρ sto σ (upd H D (.lst ws)) ∧ Sts C.sp fz H fz (upd H D (.lst ws)) := by
  obtain ⟨us, hD⟩ := hD
  have S : Sts C.sp fz H fz (upd H D (.lst ws)) := ⟨fun _ q => q, fun b o q n _ c => by
    have : b ≠ D := fun z => by
      subst z
      rcases c with c | c
      · exact nf c
      · rw [hD] at q; cases q; exact c.1 _ rfl
    rw [upd_ne this]; exact q⟩
  refine ⟨⟨F.len, F.st.own n0 ns hD .lst, ⟨?_, F.bs.nsp, fun b q z => ?_, Tabs.upd F.bs.tab hD .lst⟩, fun j c q => ?_, F.sep⟩, S⟩
  · exact F.bs.spl.upd ns
  · by_cases e : b = D
    · subst e; rw [upd_same] at z; cases z
    · rw [upd_ne e] at z; exact F.bs.trk b q z
  · have g := F.vars j c q
    cases c with
    | d x => obtain ⟨u, g1, g2⟩ := g; exact ⟨u, g1, g2.sts S F.bs⟩
    | o us =>
      obtain ⟨b, ts, g1, g2, g3, g4, g5, g6⟩ := g
      have : b ≠ D := fun z => by subst z; exact no j us q g1
      exact ⟨b, ts, g1, by rw [upd_ne this]; exact g2, g3.sts S F.bs, g4, g5, g6⟩
    | s => exact g
    | m acc =>
      obtain ⟨b, ts, g1, g2, g3, g4, g5, g6⟩ := g
      have : b ≠ D := fun z => by subst z; rw [hD] at g2; cases g2
      exact ⟨b, ts, g1, by rw [upd_ne this]; exact g2, ⟨g3.1, g3.2.sts S F.bs⟩, g4, g5, g6⟩
    | t acc =>
      obtain ⟨b, ts, g1, g2, g3, g4, g5, g6⟩ := g
      have : b ≠ D := fun z => by subst z; rw [hD] at g2; cases g2
      exact ⟨b, ts, g1, by rw [upd_ne this]; exact g2, g3.sts S F.bs, g4, g5, g6⟩
    | h l => exact ⟨g.1, g.2.sts S F.bs⟩
end
def lcRun (vs : List Nat) (g : Gx) (t : Mt) (e : Mx) : List PyData → Ev → Sto → Option (List PyData × Sto)
  | [] => fun _ s => some ([], s)
  | x :: xs => fun ρ s => match g x (wipeE ρ vs) with
    | none => none
    | some ρ1 => match t ρ1 s with
      | none => none
      | some (false, s1) => lcRun vs g t e xs ρ s1
      | some (true, s1) => match e ρ1 s1 with
        | none => none
        | some (r, s2) => match toD r, lcRun vs g t e xs ρ s2 with
          | some y, some (ys, s3) => some (y :: ys, s3)
          | _, _ => none
def mLc (it : Mi) (vs : List Nat) (g : Gx) (t : Mt) (e : Mx) : Mx := fun ρ s => match it ρ s with
  | some (xs, s1) => match lcRun vs g t e xs ρ s1 with
    | some (ys, s2) => if ys.length ≤ sizeLine then some (.f ys, s2) else none
    | none => none
  | none => none
def mYes : Mt := fun _ s => some (true, s)
theorem wipe_agree {σ σ2 : L2.St} {vs is : List Nat} (hl : σ2.length = (wipe σ vs).length) (ho : ∀ i, i ∉ is → σ2[i]? = (wipe σ vs)[i]?) (hs : ∀ i, i ∈ is → i ∈ vs) : wipe σ2 vs = wipe σ vs := by
  have key : ∀ (τ : L2.St) (ws : List Nat) (i : Nat), (wipe τ ws)[i]? = if i ∈ ws then (if i < τ.length then some none else none) else τ[i]? := by
    intro τ ws
    induction ws with
    | nil => intro i; simp [wipe]
    | cons w ws ih =>
      intro i
      unfold wipe
      by_cases e : i = w
      · subst e
        by_cases hi : i < τ.length
        · rw [List.getElem?_set_self (by rw [wipe_length]; exact hi)]; simp [hi]
        · rw [List.getElem?_eq_none (by rw [List.length_set, wipe_length]; omega)]; simp [hi]
      · rw [List.getElem?_set_ne (Ne.symm e), ih i]
        simp [e]
  have hl' : σ2.length = σ.length := by rw [hl, wipe_length]
  apply List.ext_getElem?
  intro i
  rw [key σ2 vs i, key σ vs i, hl']
  by_cases hi : i ∈ vs
  · simp [hi]
  · simp only [hi, if_false]
    rw [ho i fun z => hi (hs i z), key σ vs i]
    simp [hi]
section
variable {K : PySem.W.Frag} {mi : Mi} {g : Gx} {is vs : List Nat} {mt : Mt} {me : Mx}
theorem rd_lc (hs : ∀ i, i ∈ is → i ∈ vs) {σ : L2.St} {H : Hp} {Q : VK} (h : rdE K (mLc mi vs g mt me) σ H Q) : tLc (rdI K mi) (rdG K is g) (rdT K mt) (rdE K me) vs σ H Q := by
  obtain ⟨C, fz, ρ, sto, z, sto', F, e, k⟩ := h
  unfold mLc at e
  split at e
  · rename_i xs s1 e1
    split at e
    · rename_i ys s2 e2
      split at e
      · rename_i hz
        cases e
        refine ⟨C, fz, ρ, sto, xs, s1, F, e1, fun J fz1 H1 st1 l1 G => ?_⟩
        have F1 := F.step st1 l1
        intro D hD
        have nD : some D ≠ C.sp := l1.ne hD (by intro z; cases z)
        have n0 : C.H0 D = none := F1.st.back nD hD
        have nfz : ¬ fz1 D := fun z => F1.bs.trk D z hD
        have noD : ∀ (i : Nat) (us : List PyData), ρ[i]? = some (some (Cl.o us)) → σ[i]? ≠ some (some (V.ref D)) := fun i us q1 q2 => by
          obtain ⟨a, ws, g1, g2, _⟩ := F1.owned q1
          rw [q2] at g1; cases g1
          rw [hD] at g2; cases g2
        let W : Nat → Nat → Hp → Prop := fun i m H' => m = xs.length - i ∧ i ≤ xs.length ∧ ∃ (fz2 : Fz) (s3 : Sto) (acc : List V) (ya yb : List PyData), Fm K C fz2 ρ s3 σ H' ∧ Stp C.sp fz1 H1 fz2 H' ∧ H' D = some (.lst acc) ∧ ImA K fz2 H' acc ya ∧ ¬ fz2 D ∧
          lcRun vs g mt me (xs.drop i) ρ s3 = some (yb, sto') ∧ ys = ya ++ yb
        have st2 : Stp C.sp fz1 H1 fz1 (upd H1 D (.lst [])) := .laid hD
        have l2 : SpL C.sp (upd H1 D (.lst [])) s1 := l1.upd nD
        refine ⟨W, ⟨xs.length, by simp, Nat.zero_le _, fz1, s1, [], [], ys, F1.step st2 l2, st2, upd_same, .nil, nfz, e2, rfl⟩, ?_⟩
        rintro i m H2 ⟨rfl, hi, fz2, s3, acc, ya, yb, F2, S2, hD2, im2, nf2, e3, ey⟩
        by_cases hlt : i < xs.length
        · have hx : xs[i]? = some xs[i] := List.getElem?_eq_getElem hlt
          rw [List.drop_eq_getElem_cons hlt] at e3
          unfold lcRun at e3
          split at e3
          · cases e3
          · rename_i ρ4 e4
            refine .inr ⟨G.go i fz2 H2 s3 hlt S2.sts F2.bs, fun H' => W (i + 1) (xs.length - (i + 1)) H', fun H' w => ⟨xs.length - (i + 1), by omega, w⟩, fun v H3 y => ?_⟩
            obtain ⟨st3, l3, im⟩ := G.yld i _ fz2 H2 s3 v H3 hx S2.sts F2.bs y
            have F3 := F2.step st3 l3
            refine ⟨C, fz2, wipeE ρ vs, s3, xs[i], ρ4, F3.wipe vs, im, e4, fun σ4 hl4 ho4 F4 => ?_⟩
            refine ⟨wipe_agree hl4 ho4 hs, ?_⟩
            have hD3 : H3 D = some (.lst acc) := st3.ext _ _ hD2 nD
            split at e3
            · cases e3
            · rename_i s5 e5
              refine ⟨C, fz2, ρ4, s3, false, s5, F4, e5, fun fz6 H6 st6 l6 => ?_⟩
              refine iteF ?_
              have F6 := F3.step st6 l6
              refine ⟨rfl, hlt, fz6, s5, acc, ya, yb, F6, (S2.trans st3).trans st6, st6.ext _ _ hD3 nD, (im2.stp st3 F2.bs).stp st6 F3.bs, fun z => ?_, e3, ey⟩
              rcases st6.new D z with z | ⟨_, z⟩
              · exact nf2 z
              · rw [hD3] at z; cases z
            · rename_i s5 e5
              refine ⟨C, fz2, ρ4, s3, true, s5, F4, e5, fun fz6 H6 st6 l6 => ?_⟩
              refine iteT ?_
              have F6 := F3.step st6 l6
              have F46 := F4.step st6 l6
              have hD6 : H6 D = some (.lst acc) := st6.ext _ _ hD3 nD
              split at e3
              · cases e3
              · rename_i r s7 e7
                split at e3
                · rename_i y ys' s8 ey' e8
                  cases e3
                  refine ⟨C, fz6, ρ4, s5, r, s7, F46, e7, fun w fz8 H8 st8 l8 i8 => ?_⟩
                  obtain ⟨fz9, F9, st9, im9⟩ := F6.keep st8 l8 i8 ey'
                  have hD8 : H8 D = some (.lst acc) := st8.ext _ _ hD6 nD
                  have nf9 : ¬ fz9 D := fun z => by
                    rcases st9.new D z with z | ⟨_, z⟩
                    · rcases st6.new D z with z | ⟨_, z⟩
                      · exact nf2 z
                      · rw [hD3] at z; cases z
                    · rw [hD6] at z; cases z
                  have ia : ImA K fz9 H8 acc ya := ((im2.stp st3 F2.bs).stp st6 F3.bs).stp st9 F6.bs
                  have il : acc.length = ya.length := ia.length
                  refine ⟨acc, hD8, ?_, rfl, hlt, fz9, s7, acc ++ [w], ya ++ [y], ys', ?_⟩
                  · rw [il]
                    have := congrArg List.length ey
                    rw [List.length_append, List.length_cons] at this
                    omega
                  · obtain ⟨F10, S10⟩ := F9.side (ws := acc ++ [w]) ⟨acc, hD8⟩ nf9 nD n0 noD
                    have st10 : Stp C.sp fz1 H1 fz9 (upd H8 D (.lst (acc ++ [w]))) := by
                      have q := (((S2.trans st3).trans st6).trans st9)
                      exact q.own hD nD hD8 .lst
                    exact ⟨F10, st10, upd_same, (ia.append (.cons im9 .nil)).sts S10 F9.bs, nf9, e8, by rw [ey, List.append_assoc]; rfl⟩
                · cases e3
        · have ei : i = xs.length := by omega
          subst ei
          rw [List.drop_length] at e3
          cases e3
          refine .inl ⟨G.stop fz2 H2 _ S2.sts F2.bs, ?_⟩
          refine k _ fz2 H2 (st1.trans S2) F2.bs.spl ⟨D, acc, rfl, hD2, ?_, nf2, nD, st1.back nD hD⟩
          rw [ey, List.append_nil]
          exact im2
      · cases e
    · cases e
  · cases e
end
section
variable {X : Cx} {elt tg iter : Expr} {ifs : List Expr} {scope : Scope} {own : List (Str × Nat)} {pos : Pos} {is : List Nat} {mi : Mi} {g : Gx} {mt : Mt} {me : Mx}
def STs (X : Cx) (ifs : List Expr) (t : Mt) : Prop := PTs X ifs (rdT X.K t)
theorem sts_nil : STs X [] mYes := ⟨fun pins s σ H Q I w => pts_nil.run pins s σ H Q I (by
  obtain ⟨C, fz, ρ, sto, r, sto', F, e, k⟩ := w
  cases e
  exact k fz H .refl F.bs.spl)⟩
theorem sts_one {c : Expr} {t : Mt} (h : SB X c t) : STs X [c] t := pts_one h
theorem se_lc (hc : X.calm = true) (hN : X.N.Nodup) (hi : SI X tg iter mi) (ok : BlkOk X.N X.env.scope scope own) (hs : ∀ i, i ∈ is → i ∈ own.map (·.2))
    (hg : ∀ (s : Shared) (H : Hp) (C : Addr) (cl : List (Str × Addr)) (fp : List Addr), SG (X.blk s H scope (compEnvC scope cl C X.env) fp) tg is g) (ht : ∀ (s : Shared) (H : Hp) (C : Addr) (cl : List (Str × Addr)) (fp : List Addr), STs (X.blk s H scope (compEnvC scope cl C X.env) fp) ifs mt)
    (he : ∀ (s : Shared) (H : Hp) (C : Addr) (cl : List (Str × Addr)) (fp : List Addr), SE (X.blk s H scope (compEnvC scope cl C X.env) fp) elt me) (hf : ∀ x, foldedSetIterable iter X.env x = pure x := by intro _; rfl) :
    SE X (.ListComp elt [⟨tg, iter, ifs, 0⟩] scope pos) (mLc mi (own.map (·.2)) g mt me) := PE.imp (pe_lc (g := rdG X.K is g) (tt := rdT X.K mt) (te := rdE X.K me) hc hN hi ok hg ht he hf) fun _ _ _ h => rd_lc hs h
/-- name = [..] -/
theorem ss_setLc {i : Nat} {y : Str} {py spos : Pos} (hc : X.calm = true) (hN : X.N.Nodup) (hy : X.N[i]? = some y) (hyl : X.env.scope.names.lookup y = some .local)
    (hsw : swapsWith (.ListComp elt [⟨tg, iter, ifs, 0⟩] scope pos) (some (.Name y py)) spos.line X.env = pure true) (hi : SI X tg iter mi) (ok : BlkOk X.N X.env.scope scope own) (hs : ∀ i, i ∈ is → i ∈ own.map (·.2))
    (hg : ∀ (s : Shared) (H : Hp) (C : Addr) (cl : List (Str × Addr)) (fp : List Addr), SG (X.blk s H scope (compEnvC scope cl C X.env) fp) tg is g) (ht : ∀ (s : Shared) (H : Hp) (C : Addr) (cl : List (Str × Addr)) (fp : List Addr), STs (X.blk s H scope (compEnvC scope cl C X.env) fp) ifs mt)
    (he : ∀ (s : Shared) (H : Hp) (C : Addr) (cl : List (Str × Addr)) (fp : List Addr), SE (X.blk s H scope (compEnvC scope cl C X.env) fp) elt me) (hf : ∀ x, foldedSetIterable iter X.env x = pure x := by intro _; rfl) :
    SS X (.Assign [.Name y py] (.ListComp elt [⟨tg, iter, ifs, 0⟩] scope pos) spos) (mSet i (mLc mi (own.map (·.2)) g mt me)) :=
  PS.impI (ps_setLc (g := rdG X.K is g) (tt := rdT X.K mt) (te := rdE X.K me) hc hN hy hyl hsw hi ok hg ht he hf) fun D σ H hl h => by
    obtain ⟨C, fz, ρ, sto, out, ρ', sto', F, e, k⟩ := h
    have : rdE X.K (mLc mi (own.map (·.2)) g mt me) σ H (fun x H1 => gName i x σ H1 D.nx) := by
      unfold mSet at e
      split at e
      · rename_i r s1 e1
        split at e
        · rename_i c ec
          cases e
          exact ⟨C, fz, ρ, sto, r, _, F, e1, fun v fz1 H1 st1 l1 i1 => k fz1 _ H1 (F.give st1 l1 i1 ec (lt_of_slot hy hl)) st1.sts⟩
        · cases e
      · cases e
    exact rd_lc hs this
end
end Dh
namespace Dh
open PySem PySem.Spec L2 RZ
variable [LawT]
section
variable {K : PySem.W.Frag} {sp : Option Addr} {fz fz1 : Fz} {H H1 : Hp} {sto : Sto}
theorem Goes.of {J : It} {n : Nat} {G : Hp → Prop} {Y : Nat → Hp → V → Hp → Prop} {xs : List PyData} (w : Walk J n G Y) (hn : xs.length = n) (hg : ∀ fz1 H1 sto, Sts sp fz H fz1 H1 → Bs sp fz1 H1 sto → G H1)
    (hy : ∀ (i : Nat) (x : PyData) fz1 H1 sto v H2, xs[i]? = some x → Sts sp fz H fz1 H1 → Bs sp fz1 H1 sto → Y i H1 v H2 → Stp sp fz1 H1 fz1 H2 ∧ SpL sp H2 sto ∧ Im K fz1 H2 v x) : Goes K sp fz H J xs where
  go := fun i fz1 H1 sto hi s B => w.goes i H1 (by rw [← hn]; exact hi) (hg fz1 H1 sto s B)
  stop := fun fz1 H1 sto s B => by rw [hn]; exact w.stops H1 (hg fz1 H1 sto s B)
  yld := fun i x fz1 H1 sto v H2 hx s B y => hy i x fz1 H1 sto v H2 hx s B (w.yields i H1 v H2 (by rw [← hn]; exact (List.getElem?_eq_some_iff.mp hx).1) (hg fz1 H1 sto s B) y)
theorem goes_list {a : Addr} {vs : List V} {xs : List PyData} (h : FzL K fz H a vs) (im : ImA K fz H vs xs) (B0 : Bs sp fz H sto) : Goes K sp fz H (Itl K a) xs :=
  .of (walk_list (xs := vs)) im.length.symm (fun fz1 H1 sto s B => (h.sts s B0).sq) fun i x fz1 H1 sto v H2 hx s B y => by
    obtain ⟨rfl, e⟩ := y
    obtain ⟨w, hw, iw⟩ := im.at i x hx
    rw [e] at hw; cases hw
    exact ⟨.refl, B.spl, iw.sts s B0⟩
theorem goes_tup {a : Addr} {vs : List V} {xs : List PyData} (h : SqT K H a vs) (im : ImA K fz H vs xs) (B0 : Bs sp fz H sto) : Goes K sp fz H (Itt K a) xs :=
  .of (walk_tup (xs := vs)) im.length.symm (fun fz1 H1 sto s B => SqT.sts s B0 h) fun i x fz1 H1 sto v H2 hx s B y => by
    obtain ⟨rfl, e⟩ := y
    obtain ⟨w, hw, iw⟩ := im.at i x hx
    rw [e] at hw; cases hw
    exact ⟨.refl, B.spl, iw.sts s B0⟩
def rangeL (lo : Int) (n : Nat) : List PyData := (List.range n).map fun i => PyData.int (lo + (i : Nat))
theorem goes_range {lo : Int} {n : Nat} : Goes K sp fz H (Itr lo n) (rangeL lo n) :=
  .of walk_range (by unfold rangeL; rw [List.length_map, List.length_range]) (fun _ _ _ _ _ => trivial) fun i x fz1 H1 sto v H2 hx s B y => by
    obtain ⟨rfl, rfl⟩ := y
    unfold rangeL at hx
    rw [List.getElem?_map] at hx
    cases q : (List.range n)[i]? with
    | none => rw [q] at hx; cases hx
    | some j =>
      rw [q] at hx
      cases hx
      have : j = i := by
        obtain ⟨h1, h2⟩ := List.getElem?_eq_some_iff.mp q
        rw [List.getElem_range] at h2
        exact h2.symm
      subst this
      exact ⟨.refl, B.spl, .int _⟩
def pairs (xs ys : List PyData) : List PyData := (xs.zip ys).map fun p => PyData.tuple [p.1, p.2]
theorem pairs_at {xs ys : List PyData} {i : Nat} {z : PyData} (h : (pairs xs ys)[i]? = some z) : ∃ x y, xs[i]? = some x ∧ ys[i]? = some y ∧ z = .tuple [x, y] := by
  unfold pairs at h
  rw [List.getElem?_map] at h
  cases q : (xs.zip ys)[i]? with
  | none => rw [q] at h; cases h
  | some p =>
    rw [q] at h; cases h
    rw [List.getElem?_zip_eq_some] at q
    exact ⟨p.1, p.2, q.1, q.2, rfl⟩
/-- a new pair -/
theorem pair_new {H2 : Hp} {v w : V} {x y : PyData} {T : Addr} {o : Obj} (B : Bs sp fz H sto) (i1 : Im K fz H v x) (i2 : Im K fz H w y) (hT : H T = none) (hd : o.dict = none) (e : H2 = upd H T (.frz o (.tup [v, w]))) : Stp sp fz H fz H2 ∧ SpL sp H2 sto ∧ Im K fz H2 (.ref T) (.tuple [x, y]) := by
  subst e
  exact new_tup B (.cons i1 (.cons i2 .nil)) hT hd
end
section
variable {X : Cx} {tg l : Expr} {ml : Mx} {pos : Pos}
theorem pi_seq {tl : TE} (hl : PE X l tl) : PI X tg l (fun σ H R => tl σ H fun x H1 => ∃ a, x = .ref a ∧ (((∃ xs, SqL X.K H1 a xs) ∧ R (Itl X.K a) H1) ∨ ((∃ xs, SqT X.K H1 a xs) ∧ R (Itt X.K a) H1))) := ⟨fun pins s σ H R I h => by
  refine thn (hl.run pins s σ H _ I h) ?_
  rintro v s1 ⟨x, H1, I1, r1, a, rfl, q⟩
  cases r1
  have fr : ∀ b ∈ [s1.heap.objs.size], FpOk X pins H1 b := fun b hb => by
    rw [List.mem_singleton] at hb
    subst hb
    exact I1.fpOk (Nat.le_refl _) (I1.hok.fresh (Nat.le_refl _))
  rcases q with ⟨⟨xs, hq⟩, q⟩ | ⟨⟨xs, hq⟩, q⟩
  · obtain ⟨its, _, p, _⟩ := I1.list hq
    exact wpAny_pyIter_list p.isList ⟨_, _, _, _, H1, rfl, I1.kept (t' := s1.toks) (fun b o e => Heap.get?_push_of_some _ e), turn_list a _, ⟨_, Heap.get?_push_size _ rfl, rfl, rfl⟩, fr, q⟩
  · obtain ⟨its, _, p, _⟩ := I1.tuple hq
    exact wpAny_pyIter_tuple (show s1.heap.IsTuple a its.toArray from p) ⟨_, _, _, _, H1, rfl, I1.kept (t' := s1.toks) (fun b o e => Heap.get?_push_of_some _ e), turn_tuple a _, ⟨_, Heap.get?_push_size _ rfl, rfl, rfl⟩, fr, q⟩⟩
/-- the items of a list that stays, of one just made, of a tuple -/
def itemsOf : R → Option (List PyData)
  | .d (.list xs) => some xs
  | .d (.tuple xs) => some xs
  | .f xs => some xs
  | _ => none
def mSeqI (a : Mx) : Mi := bnd a fun x _ => ret (itemsOf x)
theorem si_seq (hl : SE X l ml) : SI X tg l (mSeqI ml) := PI.imp (pi_seq hl) fun σ H R h => by
  obtain ⟨C, fz, ρ, sto, xs, sto', F, e, k⟩ := h
  obtain ⟨x, s1, ea, e1⟩ := bnd_some e
  obtain ⟨ef, rfl⟩ := ret_some e1
  clear e e1
  refine ⟨C, fz, ρ, sto, x, _, F, ea, fun v fz1 H1 st1 l1 i1 => ?_⟩
  have B1 := F.bs.step st1 l1
  unfold itemsOf at ef
  split at ef
  · cases ef
    cases i1 with
    | lst h im => exact ⟨_, rfl, .inl ⟨⟨_, h.sq⟩, k _ fz1 H1 st1 l1 (goes_list h im B1)⟩⟩
  · cases ef
    cases i1 with
    | tup h im => exact ⟨_, rfl, .inr ⟨⟨_, h.sq⟩, k _ fz1 H1 st1 l1 (goes_tup h.sq im B1)⟩⟩
  · cases ef
    obtain ⟨a, vs, rfl, h1, h2, h3, h4, h5⟩ := i1
    have st2 := st1.freeze h5 h4 h1
    exact ⟨a, rfl, .inl ⟨⟨vs, .inl (.inl h1)⟩, k _ _ H1 st2 l1 (goes_list (.inl ⟨h1, .inr rfl⟩) (h2.fzm fun b q => .inl q) (F.bs.step st2 l1))⟩⟩
  · cases ef
def range1 : List R → Option (List PyData)
  | [.d (.int j)] => if -(2 ^ 62) ≤ j ∧ j < 2 ^ 62 then some (rangeL 0 j.toNat) else none
  | _ => none
def mArgI (f : List R → Option (List PyData)) (a : Ma) : Mi := bnd a fun x _ => ret (f x)
variable {a b : Expr} {m : Ma} {p : Pos}
theorem si_range1 (ha : SA X [a] m) (hm : X.mg "range" = none) (hg : Gl X "range" := by rfl) (hs : starEach [a] X.env = [(false, eval a X.env)] := by rfl) : SI X tg (.Call (.Name "range" p) [a] [] pos) (mArgI range1 m) := PI.imp (pi_range1 hg hm ha hs) fun σ H R h => by
  obtain ⟨C, fz, ρ, sto, xs, sto', F, e, k⟩ := h
  obtain ⟨x, s1, ea, e1⟩ := bnd_some e
  obtain ⟨ef, rfl⟩ := ret_some e1
  clear e e1
  refine ⟨C, fz, ρ, sto, x, _, F, ea, fun v fz1 H1 st1 l1 i1 => ?_⟩
  unfold range1 at ef
  split at ef
  · split at ef
    · rename_i hz
      cases ef
      cases i1 with
      | cons i1 t =>
        cases t; cases i1
        exact ⟨_, rfl, hz.1, hz.2, k _ fz1 H1 st1 l1 goes_range⟩
    · cases ef
  · cases ef
end
end Dh
namespace Dh
open PySem PySem.Spec L2 PySem.W
variable [LawT]
/-- a def's promise, called where no repr is under way -/
structure FnG (P : Program) (w : World) (K : PySem.W.Frag) (mg : Str → Option Value) (base : Heap) (k : Nat) (f : Addr) (fd : FuncData) (ps : List Str) (sp : Sp) : Prop where
  len : ∀ vs H Q E, sp vs H Q E → vs.length = ps.length
  run : ∀ (A : Around) (outer : List Env) (s : Shared) (H : Hp) (args : Args) (us : List Value) (vs : List V) (Q : VK), Room k A → A.guards = some [] → Env0 P w K mg base A outer s H → BindsTo s fd args (ps.zip us) → Vals vs us → sp vs H Q E0 →
    codeAny (model P w) A (.call (.ref f) args) (CR CX0 outer P w H s Q E0) s
theorem FnG.mono {P : Program} {w : World} {K : PySem.W.Frag} {mg : Str → Option Value} {base : Heap} {j k : Nat} {f : Addr} {fd : FuncData} {ps : List Str} {sp : Sp} (F : FnG P w K mg base j f fd ps sp) (h : j ≤ k) : FnG P w K mg base k f fd ps sp :=
  ⟨F.len, fun A outer s H args us vs Q hr => F.run A outer s H args us vs Q (hr.mono h)⟩
def ArgOk (K : PySem.W.Frag) (fz : Fz) (sp : Option Addr) (H : Hp) (v : V) : Cl → Prop
  | .d x => Im K fz H v x
  | .s => IsS sp v
  | .o _ => False
  | .m _ => False
  | .t _ => False
  | .h l => v = .ref l.f ∧ LamOk K fz H l
abbrev Fx := List Cl → Sto → Option (R × Sto)
/-- the promise of a def that computes g -/
def spOf (K : PySem.W.Frag) (n : Nat) (g : Fx) : Sp := fun vs H Q _ => ∃ (sp : Option Addr) (fz : Fz) (cs : List Cl) (sto : Sto) (r : R) (sto' : Sto), cs.length = n ∧ Paired (ArgOk K fz sp H) vs cs ∧ Bs sp fz H sto ∧ g cs sto = some (r, sto') ∧
  ∀ v fz' H', Stp sp fz H fz' H' → SpL sp H' sto' → ImR K sp H fz' H' v r → Q v H'
/-- a body as a function of its arguments; n slots -/
def run (n : Nat) (m : Ms) : Fx := fun cs s => match m (cs.map some ++ List.replicate (n - cs.length) none) s with
  | some (.rt r, _, s') => some (r, s')
  | some (.nx, _, s') => some (.d .none, s')
  | _ => none
theorem start_cells (N : List Str) (cs : List Cl) (vs : List V) (h : vs.length = cs.length) : (cs.map some ++ List.replicate (N.length - cs.length) (none : Option Cl)).length = (L2.start N vs).length := by
  unfold L2.start
  simp only [List.length_append, List.length_map, List.length_replicate, h]
theorem pLen {α β : Type} {R : α → β → Prop} : ∀ {l₁ : List α} {l₂ : List β}, Paired R l₁ l₂ → l₁.length = l₂.length
  | _, _, .nil => rfl
  | _, _, .cons _ t => by rw [List.length_cons, List.length_cons, pLen t]
theorem pAt {α β : Type} {R : α → β → Prop} : ∀ {l₁ : List α} {l₂ : List β}, Paired R l₁ l₂ → ∀ (i : Nat) (b : β), l₂[i]? = some b → ∃ a, l₁[i]? = some a ∧ R a b
  | _, _, .nil, i, b, h => by simp at h
  | _, _, .cons r t, 0, b, h => by simp at h; subst h; exact ⟨_, rfl, r⟩
  | _, _, .cons r t, i + 1, b, h => by
    simp only [List.getElem?_cons_succ] at h ⊢
    exact pAt t i b h
section
variable {P : Program} {w : World} {K : PySem.W.Frag} {mg : Str → Option Value} {base : Heap}
/-- the frame at a def's entry -/
theorem fm_start {N : List Str} {sp : Option Addr} {fz : Fz} {cs : List Cl} {sto : Sto} {vs : List V} {H : Hp} (a : Paired (ArgOk K fz sp H) vs cs) (B : Bs sp fz H sto) : Fm K ⟨sp, fz, H⟩ fz (cs.map some ++ List.replicate (N.length - cs.length) none) sto (L2.start N vs) H := by
  have key : ∀ (i : Nat) (c : Cl), (cs.map some ++ List.replicate (N.length - cs.length) (none : Option Cl))[i]? = some (some c) → cs[i]? = some c ∧ ∃ v, (L2.start N vs)[i]? = some (some v) ∧ ArgOk K fz sp H v c := by
    intro i c h
    by_cases hi : i < cs.length
    · rw [List.getElem?_append_left (by rw [List.length_map]; exact hi), List.getElem?_map] at h
      cases q : cs[i]? with
      | none => rw [q] at h; cases h
      | some d =>
        rw [q] at h
        cases h
        obtain ⟨v, hv, r⟩ := pAt a i c q
        refine ⟨rfl, v, ?_, r⟩
        unfold L2.start
        rw [List.getElem?_append_left (by rw [List.length_map, (pLen a)]; exact hi), List.getElem?_map, hv]
        rfl
    · rw [List.getElem?_append_right (by rw [List.length_map]; omega), List.getElem?_replicate] at h
      split at h <;> cases h
  refine ⟨start_cells N cs vs (pLen a), .refl, B, fun i c h => ?_, fun i j xs ys b hij h1 h2 => ?_⟩
  · obtain ⟨_, v, hv, r⟩ := key i c h
    cases c with
    | d x => exact ⟨v, hv, r⟩
    | o xs => exact False.elim r
    | s => obtain ⟨a, ea, rfl⟩ := (show IsS sp v from r); exact ⟨a, ea, hv⟩
    | m acc => exact False.elim r
    | t acc => exact False.elim r
    | h l => obtain ⟨ev, r2⟩ := (show v = .ref l.f ∧ LamOk K fz H l from r); exact ⟨by rw [← ev]; exact hv, r2⟩
  · obtain ⟨_, v, hv, r⟩ := key i _ h1
    exact False.elim r
/-- A DEF: its body as the function m -/
theorem fnG_of {x qual : Str} {st : Stmt} {f : Addr} {fd : FuncData} {N ps : List Str} {k : Nat} {m : Ms} (F : Fun K x qual st f fd) (S : FnScope N ps (defScope st))
    (hb : ∀ (cdv : Value) (A : Around) (outer : List Env) (s : Shared) (H : Hp) (E : XK), Room k (A.deeper (PyProof.Rows.envOfC qual (defScope st) s.heap.objs.size f cdv)) → A.guards = some [] → SL (cxOf CX0 P w K mg base N qual (defScope st) f cdv A outer s H E).nox (defBody st) m) :
    FnG P w K mg base (k + 1) f fd ps (spOf K ps.length (run N.length m)) := by
  obtain ⟨oc, od, kV, doc, pm, an, cdv, ct, osl, rfl, lk, hcd⟩ := F.ex
  have hlen : ∀ vs H Q E, spOf K ps.length (run N.length m) vs H Q E → vs.length = ps.length := by
    rintro vs H Q E ⟨sp, fz, cs, sto, r, sto', hl, a, _⟩
    rw [(pLen a), hl]
  refine ⟨hlen, fun A outer s H args us vs Q hr hg e0 bd rv hsp => ?_⟩
  have hl : vs.length = ps.length := hlen vs H Q E0 hsp
  have hK : K.In s.heap := e0.mod.kin.keeps fun b o q => (e0.bs b o q).1
  have hkind : ∀ y ∈ ps.zip us, (defScope st).names.lookup y.1 = some .local ∨ ((defScope st).names.lookup y.1 = some .cell ∧ ((cellsFrom (s.heap.objs.size + 1) (defScope st).names []).lookup y.1).isSome = true) := by
    rintro ⟨n, v⟩ hy
    rcases S.par n (List.of_mem_zip hy).1 with q | q
    · left; exact q
    · right; exact ⟨q, PySem.W.cellsFrom_some _ _ _ (.inl q)⟩
  have lim := e0.mod.nolimit.keeps fun b o q => (e0.bs b o q).1
  refine codeAny_call_function hr.depth (hK _ _ lk) rfl S.co S.gen rfl (PySem.W.codeRec_of hK hcd) (bd _ _ _ _ (wpAny_newFunctionEnv_cells S.kind hkind ?_))
  rintro env rfl s1 hx
  refine ⟨lim.keeps hx.toInCall.keep, codeAny_func ?_⟩
  obtain ⟨sp, fz, cs, sto, r, sto', hc, a, B, e, q⟩ := hsp
  have I0 := inv_start (CX := CX0) (P := P) (K := K) (mg := mg) (base := base) (E := E0) S hr.hd e0 hl rv hx
  have hbody := (hb cdv A outer s H E0 (hr.deeper _) hg).nox
  have F0 : Fm K ⟨sp, fz, H⟩ fz (cs.map some ++ List.replicate (N.length - cs.length) none) sto (L2.start N vs) H := fm_start a B
  have hrd : rdS K m { nx := fun _ H' => Q .non H', rt := Q } (L2.start N vs) H := by
    unfold run at e
    split at e
    · rename_i r' ρ' s' em
      cases e
      exact ⟨⟨sp, fz, H⟩, fz, _, sto, .rt r, ρ', sto', F0, em, fun fz' σ' H' F' S' v i => q v fz' H' F'.st F'.bs.spl i⟩
    · rename_i ρ' s' em
      cases e
      exact ⟨⟨sp, fz, H⟩, fz, _, sto, .nx, ρ', sto', F0, em, fun fz' σ' H' F' S' => q .non fz' H' F'.st F'.bs.spl .non⟩
    · cases e
  refine wpAny_mono (hbody.run [] s1 (L2.start N vs) H _ I0 hrd) (fun fl s' hs => ?_) fun _ _ z => z
  cases fl with
  | ret u =>
    obtain ⟨v, σ', H', J, rv', qv⟩ := hs
    exact ⟨v, H', J.os, J.bare, J.base, J.hok, rv', qv⟩
  | next =>
    obtain ⟨σ', H', J, qv⟩ := hs
    exact ⟨.non, H', J.os, J.bare, J.base, J.hok, rfl, qv⟩
  | brk => obtain ⟨_, _, _, z⟩ := hs; exact z.elim
  | cont => obtain ⟨_, _, _, z⟩ := hs; exact z.elim
end
def toArg : R → Option Cl
  | .d x => some (.d x)
  | .f xs => some (.d (.list xs))
  | .s => some .s
  | _ => none
def toArgs : List R → Option (List Cl)
  | [] => some []
  | r :: rs => match toArg r, toArgs rs with
    | some x, some xs => some (x :: xs)
    | _, _ => none
/-- a call; π: where each parameter's value stands among the written ones -/
def mCall (g : Fx) (a : Ma) : Mx := bnd a fun rs _ s => match toArgs rs with
  | some cs => g cs s
  | none => none
section
variable {K : PySem.W.Frag} {sp : Option Addr} {fz fz1 : Fz} {H H1 : Hp} {sto : Sto}
theorem ArgOk.fzm {v : V} {c : Cl} (h : ArgOk K fz sp H v c) (g : ∀ a, fz a → fz1 a) : ArgOk K fz1 sp H v c := by
  cases c with
  | d x => exact Im.fzm g h
  | o x => exact h
  | s => exact h
  | m x => exact h
  | t x => exact h
  | h l => exact ⟨h.1, h.2.fzm g⟩
theorem ImRs.args : ∀ {vs : List V} {rs : List R} {cs : List Cl} {fz1 : Fz}, ImRs K sp H fz1 H1 vs rs → toArgs rs = some cs → ∀ fzA : Fz, Stp sp fz H fzA H1 → Bs sp fzA H1 sto → (∀ a, fz1 a → fzA a) →
    ∃ fz2 : Fz, Stp sp fz H fz2 H1 ∧ Bs sp fz2 H1 sto ∧ (∀ a, fzA a → fz2 a) ∧ Paired (ArgOk K fz2 sp H1) vs cs
  | _, _, _, _, .nil, e, fzA, sA, BA, g => by
    cases e
    exact ⟨fzA, sA, BA, fun _ h => h, .nil⟩
  | _, _, _, fz1, .cons (a := v) (b := r) h t, e, fzA, sA, BA, g => by
    unfold toArgs at e
    split at e
    · rename_i x xs e1 e2
      cases e
      have : ∃ fzB : Fz, Stp sp fz H fzB H1 ∧ Bs sp fzB H1 sto ∧ (∀ a, fzA a → fzB a) ∧ ArgOk K fzB sp H1 v x := by
        unfold toArg at e1
        split at e1
        · cases e1
          exact ⟨fzA, sA, BA, fun _ h => h, Im.fzm g h⟩
        · cases e1
          obtain ⟨a, vs, rfl, h1, h2, h3, h4, h5⟩ := h
          refine ⟨_, sA.freeze h5 h4 h1, ⟨BA.spl, fun c ec q => ?_, fun b q z => ?_, BA.tab⟩, fun b q => .inl q, .lst (.inl ⟨h1, .inr rfl⟩) (h2.fzm fun b q => .inl (g b q))⟩
          · rcases q with q | q
            · exact BA.nsp c ec q
            · exact h4 (by subst q; exact ec.symm)
          · rcases q with q | q
            · exact BA.trk b q z
            · subst q; rw [h1] at z; cases z
        · cases e1
          exact ⟨fzA, sA, BA, fun _ h => h, h⟩
        · cases e1
      obtain ⟨fzB, sB, BB, gB, iB⟩ := this
      obtain ⟨fz2, s2, B2, g2, i2⟩ := ImRs.args t e2 fzB sB BB fun a q => gB a (g a q)
      exact ⟨fz2, s2, B2, fun a q => g2 a (gB a q), .cons (iB.fzm g2) i2⟩
    · cases e
end
section
variable {X : Cx} {k : Nat} {f : Addr} {fd : FuncData} {ps : List Str} {x : Str} {p pos : Pos} {e : Expr} {es : List Expr} {m : Ma} {g : Fx}
theorem run_fnG {sp : Sp} {pins : List (Addr × Obj)} {σ : L2.St} {H : Hp} {s : Shared} {Q : VK} {us : List Value} {vs : List V} {args : Args} (F : FnG X.prog X.w X.K X.mg X.base k f fd ps sp) (hr : Room k X.A) (hg : X.A.guards = some [])
    (I : Inv X pins σ H s) (hb : BindsTo s fd args (ps.zip us)) (r : Vals vs us) (h : sp vs H Q E0) : codeAny (model X.prog X.w) X.A (.call (.ref f) args) (fun r s' => match r with | .ok (.ret u) => EP X pins σ Q u s' | .ok _ => False | .error e => X.xe e s') s := by
  refine codeAny_mono (F.run X.A X.stack s H args us vs Q hr hg I.env0 hb r h) fun res s' hq => ?_
  match res, hq with
  | .error e, hq => exact False.elim hq
  | .ok (.ret u), hq => exact I.after hq
  | .ok .next, hq => exact False.elim hq
  | .ok .brk, hq => exact False.elim hq
  | .ok .cont, hq => exact False.elim hq
def tCallG (sp : Sp) (t : TA) : TE := fun σ H Q => t σ H fun vs H1 => sp vs H1 Q E0
theorem pe_callG {sp : Sp} {t : TA} (F : FnG X.prog X.w X.K X.mg X.base k f fd ps sp) (hr : Room k X.A) (hgd : X.A.guards = some []) (hm : X.mg x = some (.ref f)) (hk : PySem.W.keepIn X.K (.ref f) = true) (hb : Binds X.K fd ps []) (ha : PA X (e :: es) t) (hg : Gl X x)
    (hdb : (x == ("__debug__" : Str)) = false := by decide) (he : starEach (e :: es) X.env = (false, eval e X.env) :: starEach es X.env := by rfl) (hpl : (backTo pos (starEach es X.env)).any (·.1) = false := by rfl) :
    PE X (.Call (.Name x p) (e :: es) [] pos) (tCallG sp t) := ⟨fun pins s σ H Q I h => by
  refine wpAny_Call_Name_kw (ld_glob I hg hm (PySem.W.callWith_K (h₀ := X.base) I.ok.mod.kin hk (thn (ha.run pos pins s σ H _ I h) ?_) he hpl) hdb)
  rintro us s1 ⟨vs, H1, I1, r, q⟩
  have hl : (us ++ []).length = ps.length := by rw [List.append_nil, ← r.length]; exact F.len _ _ _ _ q
  have b := hb s1 us I1.kIn hl
  rw [List.append_nil] at b
  refine ⟨I1.kIn, wpAny_call (codeAny_mono (run_fnG F hr hgd I1 b r q) fun res s' hq => ?_)⟩
  match res, hq with
  | .error e, hq => exact hq
  | .ok (.ret u), hq => exact hq
  | .ok .next, hq => exact False.elim hq
  | .ok .brk, hq => exact False.elim hq
  | .ok .cont, hq => exact False.elim hq⟩
theorem rd_call {K : PySem.W.Frag} {n : Nat} {σ : L2.St} {H : Hp} {Q : VK} (hn : ∀ cs s r, g cs s = some r → cs.length = n) (h : rdE K (mCall g m) σ H Q) : tCallG (spOf K n g) (rdA K m) σ H Q := by
  obtain ⟨C, fz, ρ, sto, z, sto', F, e, k⟩ := h
  obtain ⟨rs, s1, ea, e1⟩ := bnd_some e
  clear e
  split at e1
  · rename_i cs ec
    refine ⟨C, fz, ρ, sto, rs, s1, F, ea, fun vs fz1 H1 st1 l1 i1 => ?_⟩
    obtain ⟨fz2, st2, B2, _, a⟩ := ImRs.args i1 ec fz1 st1 (F.bs.step st1 l1) fun _ h => h
    exact ⟨C.sp, fz2, cs, s1, z, sto', hn cs s1 _ e1, a, B2, e1, fun v fz3 H3 st3 l3 i3 => k v fz3 H3 (st2.trans st3) l3 (i3.early st2)⟩
  · cases e1
/-- a def of n parameters -/
def run' (n l : Nat) (m : Ms) : Fx := fun cs s => if cs.length = n then run l m cs s else none
theorem run'_len {n l : Nat} {m : Ms} : ∀ cs s r, run' n l m cs s = some r → cs.length = n := fun cs s r h => by
  unfold run' at h
  split at h
  · assumption
  · cases h
theorem spOf_run' {K : PySem.W.Frag} {n l : Nat} {m : Ms} {vs : List V} {H : Hp} {Q : VK} {E : XK} (h : spOf K n (run' n l m) vs H Q E) : spOf K n (run l m) vs H Q E := by
  obtain ⟨sp, fz, cs, sto, r, sto', hl, a, B, e, q⟩ := h
  unfold run' at e
  rw [if_pos hl] at e
  exact ⟨sp, fz, cs, sto, r, sto', hl, a, B, e, q⟩
theorem FnG.imp {P : Program} {w : World} {K : PySem.W.Frag} {mg : Str → Option Value} {base : Heap} {j : Nat} {f : Addr} {fd : FuncData} {ps : List Str} {sp sp' : Sp} (F : FnG P w K mg base j f fd ps sp) (h : ∀ vs H Q E, sp' vs H Q E → sp vs H Q E) : FnG P w K mg base j f fd ps sp' :=
  ⟨fun vs H Q E q => F.len vs H Q E (h _ _ _ _ q), fun A outer s H args us vs Q hr hg e0 bd rv q => F.run A outer s H args us vs Q hr hg e0 bd rv (h _ _ _ _ q)⟩
theorem se_call {n l : Nat} {mb : Ms} (F : FnG X.prog X.w X.K X.mg X.base k f fd ps (spOf X.K n (run' n l mb))) (hr : Room k X.A) (hgd : X.A.guards = some []) (hm : X.mg x = some (.ref f)) (hk : PySem.W.keepIn X.K (.ref f) = true) (hb : Binds X.K fd ps []) (ha : SA X (e :: es) m) (hg : Gl X x := by rfl)
    (hdb : (x == ("__debug__" : Str)) = false := by decide) (he : starEach (e :: es) X.env = (false, eval e X.env) :: starEach es X.env := by rfl) (hpl : (backTo pos (starEach es X.env)).any (·.1) = false := by rfl) :
    SE X (.Call (.Name x p) (e :: es) [] pos) (mCall (run' n l mb) m) := PE.imp (pe_callG F hr hgd hm hk hb ha hg hdb he hpl) fun _ _ _ h => rd_call run'_len h
end
end Dh
namespace Dh
open PySem PySem.Spec L2
variable [LawT]
section
variable {X : Cx} {x : Str} {p pos : Pos} {e : Expr} {es : List Expr} {m : Ma} {id T : String} {r : List V → Hp → VK → Prop} {f : List R → Option R}
theorem se_bi (hc : CallR X (.builtin id) r) (hf : OkA X.K r f) (ha : SA X (e :: es) m) (hm : X.mg x = none) (hv : bootBuiltins x = some (.builtin id)) (hg : Gl X x := by rfl) (hn : x ≠ "__name__" := by decide) (hdb : (x == ("__debug__" : Str)) = false := by decide)
    (he : starEach (e :: es) X.env = (false, eval e X.env) :: starEach es X.env := by rfl) (hpl : (backTo pos (starEach es X.env)).any (·.1) = false := by rfl) : SE X (.Call (.Name x p) (e :: es) [] pos) (mA f m) :=
  PE.imp (pe_callB hc hg hm hv ha hn hdb he hpl) fun _ _ _ h => rd_args hf h
theorem se_ty (hc : CallR X (.type T) r) (hf : OkA X.K r f) (ha : SA X (e :: es) m) (hm : X.mg x = none) (hv : bootBuiltins x = some (.type T)) (hg : Gl X x := by rfl) (hn : x ≠ "__name__" := by decide) (hdb : (x == ("__debug__" : Str)) = false := by decide)
    (he : starEach (e :: es) X.env = (false, eval e X.env) :: starEach es X.env := by rfl) (hpl : (backTo pos (starEach es X.env)).any (·.1) = false := by rfl) : SE X (.Call (.Name x p) (e :: es) [] pos) (mA f m) :=
  PE.imp (pe_callTy hc hg hm hv ha hn hdb he hpl) fun _ _ _ h => rd_args hf h
theorem se_bf (hc : CallR X (.builtin id) r) (hf : OkA X.K r f) (ha : SA X (e :: es) m) (hm : X.mg x = some (.builtin id)) (hg : Gl X x := by rfl) (hdb : (x == ("__debug__" : Str)) = false := by decide)
    (he : starEach (e :: es) X.env = (false, eval e X.env) :: starEach es X.env := by rfl) (hpl : (backTo pos (starEach es X.env)).any (·.1) = false := by rfl) : SE X (.Call (.Name x p) (e :: es) [] pos) (mA f m) :=
  PE.imp (pe_callBfun hc hg hm ha hdb he hpl) fun _ _ _ h => rd_args hf h
end
def fLen : List R → Option R
  | [x] => (rdQ x).map fun xs => .d (.int xs.length)
  | _ => none
def fTupOf : List R → Option R
  | [.d (.tuple xs)] => some (.d (.tuple xs))
  | [x] => (rdL x).map fun xs => .d (.tuple xs)
  | _ => none
def fLstOf : List R → Option R
  | [x] => (rdQ x).map fun xs => .f xs
  | _ => none
def boolsOf : List PyData → Option (List Bool)
  | [] => some []
  | .bool b :: r => (boolsOf r).map (b :: ·)
  | _ => none
def intsOf : List PyData → Option (List Int)
  | [] => some []
  | .int b :: r => (intsOf r).map (b :: ·)
  | _ => none
def fAll : List R → Option R
  | [x] => match rdL x with | some xs => (boolsOf xs).map fun bs => .d (.bool (bs.all id)) | none => none
  | _ => none
def fSum : List R → Option R
  | [x] => match rdL x with | some xs => (intsOf xs).map fun ns => .d (.int ns.sum) | none => none
  | _ => none
def fAbs : List R → Option R
  | [.d (.int i)] => some (.d (.int (if i < 0 then -i else i)))
  | _ => none
def fInt : List R → Option R
  | [.d (.int i)] => some (.d (.int i))
  | [.d (.bool k)] => some (.d (.int (if k then 1 else 0)))
  | _ => none
def fGcd : List R → Option R
  | [.d (.int i), .d (.int j)] => some (.d (.int ((Nat.gcd i.natAbs j.natAbs : Nat) : Int)))
  | _ => none
def fDivmod : List R → Option R
  | [.d (.int i), .d (.int j)] => if 0 < j ∧ Builtin.divisionGoesByPylong i j = false then some (.d (.tuple [.int (i / j), .int (i % j)])) else none
  | _ => none
def fMax2 : List R → Option R
  | [.d (.int m), .d (.int n)] => some (.d (.int (if n > m then n else m)))
  | _ => none
def fMin2 : List R → Option R
  | [.d (.int m), .d (.int n)] => some (.d (.int (if n < m then n else m)))
  | _ => none
section
variable {K : PySem.W.Frag} {fz : Fz} {H : Hp}
theorem boolsOf_im : ∀ {vs : List V} {xs : List PyData} {bs : List Bool}, ImA K fz H vs xs → boolsOf xs = some bs → vs = bs.map V.bl
  | _, _, _, .nil, e => by cases e; rfl
  | _, d :: ds, _, .cons h t, e => by
    cases d with
    | bool b =>
      simp only [boolsOf] at e
      cases q2 : boolsOf ds with
      | none => rw [q2] at e; cases e
      | some bs => rw [q2] at e; cases e; cases h; rw [boolsOf_im t q2]; rfl
    | _ => simp [boolsOf] at e
theorem intsOf_im : ∀ {vs : List V} {xs : List PyData} {bs : List Int}, ImA K fz H vs xs → intsOf xs = some bs → vs = bs.map V.int
  | _, _, _, .nil, e => by cases e; rfl
  | _, d :: ds, _, .cons h t, e => by
    cases d with
    | int b =>
      simp only [intsOf] at e
      cases q2 : intsOf ds with
      | none => rw [q2] at e; cases e
      | some bs => rw [q2] at e; cases e; cases h; rw [intsOf_im t q2]; rfl
    | _ => simp [intsOf] at e
end
section
variable {X : Cx} {x : Str} {p pos : Pos} {e : Expr} {es : List Expr} {m : Ma}
theorem ok_len : OkA X.K (fun xs H Q => ∃ p ys, xs = [.ref p] ∧ (SqL X.K H p ys ∨ SqT X.K H p ys) ∧ Q (.int ys.length) H) fLen := by
  intro sp fz fzS H H0 sto vs xs z Q s B i e k
  unfold fLen at e
  split at e
  · rename_i r
    cases q : rdQ r with
    | none => rw [q] at e; cases e
    | some ds =>
      rw [q] at e; cases e
      cases i with
      | cons i t =>
        cases t
        obtain ⟨a, ws, rfl, h, im⟩ := i.seq q
        refine ⟨a, ws, rfl, h, k _ fz H s B.spl ?_⟩
        rw [im.length]
        exact .int _
  · cases e
theorem ok_tupOf : OkA X.K (fun xs H Q => ∃ p ys, xs = [.ref p] ∧ ((SqL X.K H p ys ∧ TpQ H ys Q) ∨ (SqT X.K H p ys ∧ Q (.ref p) H))) fTupOf := by
  intro sp fz fzS H H0 sto vs xs z Q s B i e k
  unfold fTupOf at e
  split at e
  · cases e
    cases i with
    | cons i t =>
      cases t
      cases i with
      | tup h im => exact ⟨_, _, rfl, .inr ⟨h.sq, k _ fz H s B.spl (show Im _ _ _ _ _ from .tup h im)⟩⟩
  · rename_i r _
    cases q : rdL r with
    | none => rw [q] at e; cases e
    | some ds =>
      rw [q] at e; cases e
      cases i with
      | cons i t =>
        cases t
        obtain ⟨a, ws, rfl, h, im⟩ := i.list q
        refine ⟨a, ws, rfl, .inl ⟨h, fun l o hl ho => ?_⟩⟩
        obtain ⟨s3, l3, i3⟩ := new_tup B im hl ho
        exact k _ fz _ (s.trans s3) l3 i3
  · cases e
theorem ok_lstOf : OkA X.K (fun xs H Q => ∃ p ys, xs = [.ref p] ∧ (SqL X.K H p ys ∨ SqT X.K H p ys) ∧ ∀ l, H l = none → Q (.ref l) (upd H l (.lst ys))) fLstOf := by
  intro sp fz fzS H H0 sto vs xs z Q s B i e k
  unfold fLstOf at e
  split at e
  · rename_i r
    cases q : rdQ r with
    | none => rw [q] at e; cases e
    | some ds =>
      rw [q] at e; cases e
      cases i with
      | cons i t =>
        cases t
        obtain ⟨a, ws, rfl, h, im⟩ := i.seq q
        refine ⟨a, ws, rfl, h, fun l hl => ?_⟩
        obtain ⟨s3, l3, i3⟩ := new_lst B im hl
        exact k _ fz _ (s.trans s3) l3 (i3.early s)
  · cases e
theorem ok_all : OkA X.K (rAll X.K) fAll := by
  intro sp fz fzS H H0 sto vs xs z Q s B i e k
  unfold fAll at e
  split at e
  · rename_i r
    split at e
    · rename_i ds q
      cases q2 : boolsOf ds with
      | none => rw [q2] at e; cases e
      | some bs =>
        rw [q2] at e; cases e
        cases i with
        | cons i t =>
          cases t
          obtain ⟨a, ws, rfl, h, im⟩ := i.list q
          rw [boolsOf_im im q2] at h
          exact ⟨a, bs, rfl, h, k _ fz H s B.spl (.bl _)⟩
    · cases e
  · cases e
theorem ok_sum : OkA X.K (rSum X.K) fSum := by
  intro sp fz fzS H H0 sto vs xs z Q s B i e k
  unfold fSum at e
  split at e
  · rename_i r
    split at e
    · rename_i ds q
      cases q2 : intsOf ds with
      | none => rw [q2] at e; cases e
      | some bs =>
        rw [q2] at e; cases e
        cases i with
        | cons i t =>
          cases t
          obtain ⟨a, ws, rfl, h, im⟩ := i.list q
          rw [intsOf_im im q2] at h
          exact ⟨a, bs, rfl, h, k _ fz H s B.spl (.int _)⟩
    · cases e
  · cases e
theorem ok_abs : OkA X.K (fun xs H Q => ∃ i, xs = [.int i] ∧ Q (.int (if i < 0 then -i else i)) H) fAbs := by
  intro sp fz fzS H H0 sto vs xs z Q s B i e k
  unfold fAbs at e
  split at e
  · cases e
    cases i with
    | cons i t => cases t; cases i; exact ⟨_, rfl, k _ fz H s B.spl (.int _)⟩
  · cases e
theorem ok_int : OkA X.K (fun xs H Q => (∃ i, xs = [.int i] ∧ Q (.int i) H) ∨ ∃ k, xs = [.bl k] ∧ Q (.int (if k then 1 else 0)) H) fInt := by
  intro sp fz fzS H H0 sto vs xs z Q s B i e k
  unfold fInt at e
  split at e
  · cases e
    cases i with
    | cons i t => cases t; cases i; exact .inl ⟨_, rfl, k _ fz H s B.spl (.int _)⟩
  · cases e
    cases i with
    | cons i t => cases t; cases i; exact .inr ⟨_, rfl, k _ fz H s B.spl (.int _)⟩
  · cases e
theorem ok_gcd : OkA X.K rGcd fGcd := by
  intro sp fz fzS H H0 sto vs xs z Q s B i e k
  unfold fGcd at e
  split at e
  · cases e
    cases i with
    | cons i t =>
      cases t with
      | cons j t => cases t; cases i; cases j; exact ⟨_, _, rfl, k _ fz H s B.spl (.int _)⟩
  · cases e
theorem ok_max2 : OkA X.K (fun xs H Q => ∃ i j, xs = [.int i, .int j] ∧ Q (.int (if j > i then j else i)) H) fMax2 := by
  intro sp fz fzS H H0 sto vs xs z Q s B i e k
  unfold fMax2 at e
  split at e
  · cases e
    cases i with
    | cons i t =>
      cases t with
      | cons j t => cases t; cases i; cases j; exact ⟨_, _, rfl, k _ fz H s B.spl (.int _)⟩
  · cases e
theorem ok_min2 : OkA X.K (fun xs H Q => ∃ i j, xs = [.int i, .int j] ∧ Q (.int (if j < i then j else i)) H) fMin2 := by
  intro sp fz fzS H H0 sto vs xs z Q s B i e k
  unfold fMin2 at e
  split at e
  · cases e
    cases i with
    | cons i t =>
      cases t with
      | cons j t => cases t; cases i; cases j; exact ⟨_, _, rfl, k _ fz H s B.spl (.int _)⟩
  · cases e
theorem ok_divmod : OkA X.K (fun xs H Q => ∃ i j, xs = [.int i, .int j] ∧ CDivP i j ∧ TpQ H [.int (i / j), .int (i % j)] Q) fDivmod := by
  intro sp fz fzS H H0 sto vs xs z Q s B i e k
  unfold fDivmod at e
  split at e
  · split at e
    · rename_i hz
      cases e
      cases i with
      | cons i t =>
        cases t with
        | cons j t =>
          cases t; cases i; cases j
          refine ⟨_, _, rfl, hz, fun q o hq ho => ?_⟩
          obtain ⟨s3, l3, i3⟩ := new_tup (K := X.K) B (.cons (.int _) (.cons (.int _) .nil)) hq ho
          exact k _ fz _ (s.trans s3) l3 i3
    · cases e
  · cases e
theorem se_len (ha : SA X (e :: es) m) (hm : X.mg "len" = none) (hg : Gl X "len" := by rfl) (he : starEach (e :: es) X.env = (false, eval e X.env) :: starEach es X.env := by rfl) (hpl : (backTo pos (starEach es X.env)).any (·.1) = false := by rfl) : SE X (.Call (.Name "len" p) (e :: es) [] pos) (mA fLen m) :=
  se_bi call_len_seq ok_len ha hm PySem.boot_len hg (by decide) (by decide) he hpl
theorem se_all (hc : X.calm = true) (ha : SA X (e :: es) m) (hm : X.mg "all" = none) (hg : Gl X "all" := by rfl) (he : starEach (e :: es) X.env = (false, eval e X.env) :: starEach es X.env := by rfl) (hpl : (backTo pos (starEach es X.env)).any (·.1) = false := by rfl) : SE X (.Call (.Name "all" p) (e :: es) [] pos) (mA fAll m) :=
  se_bi (cr_all hc) ok_all ha hm (by decide +kernel) hg (by decide) (by decide) he hpl
theorem se_sum (hc : X.calm = true) (ha : SA X (e :: es) m) (hm : X.mg "sum" = none) (hg : Gl X "sum" := by rfl) (he : starEach (e :: es) X.env = (false, eval e X.env) :: starEach es X.env := by rfl) (hpl : (backTo pos (starEach es X.env)).any (·.1) = false := by rfl) : SE X (.Call (.Name "sum" p) (e :: es) [] pos) (mA fSum m) :=
  se_bi (cr_sum hc) ok_sum ha hm (by decide +kernel) hg (by decide) (by decide) he hpl
theorem se_abs (ha : SA X (e :: es) m) (hm : X.mg "abs" = none) (hg : Gl X "abs" := by rfl) (he : starEach (e :: es) X.env = (false, eval e X.env) :: starEach es X.env := by rfl) (hpl : (backTo pos (starEach es X.env)).any (·.1) = false := by rfl) : SE X (.Call (.Name "abs" p) (e :: es) [] pos) (mA fAbs m) :=
  se_bi call_abs ok_abs ha hm (by decide +kernel) hg (by decide) (by decide) he hpl
theorem se_divmod (ha : SA X (e :: es) m) (hm : X.mg "divmod" = none) (hg : Gl X "divmod" := by rfl) (he : starEach (e :: es) X.env = (false, eval e X.env) :: starEach es X.env := by rfl) (hpl : (backTo pos (starEach es X.env)).any (·.1) = false := by rfl) : SE X (.Call (.Name "divmod" p) (e :: es) [] pos) (mA fDivmod m) :=
  se_bi call_divmodS ok_divmod ha hm (by decide +kernel) hg (by decide) (by decide) he hpl
theorem se_max2 (hc : X.calm = true) (ha : SA X (e :: es) m) (hm : X.mg "max" = none) (hg : Gl X "max" := by rfl) (he : starEach (e :: es) X.env = (false, eval e X.env) :: starEach es X.env := by rfl) (hpl : (backTo pos (starEach es X.env)).any (·.1) = false := by rfl) : SE X (.Call (.Name "max" p) (e :: es) [] pos) (mA fMax2 m) :=
  se_bi (call_max2 hc) ok_max2 ha hm (by decide +kernel) hg (by decide) (by decide) he hpl
theorem se_min2 (hc : X.calm = true) (ha : SA X (e :: es) m) (hm : X.mg "min" = none) (hg : Gl X "min" := by rfl) (he : starEach (e :: es) X.env = (false, eval e X.env) :: starEach es X.env := by rfl) (hpl : (backTo pos (starEach es X.env)).any (·.1) = false := by rfl) : SE X (.Call (.Name "min" p) (e :: es) [] pos) (mA fMin2 m) :=
  se_bi (call_min2 hc) ok_min2 ha hm (by decide +kernel) hg (by decide) (by decide) he hpl
theorem se_tuple (ha : SA X (e :: es) m) (hm : X.mg "tuple" = none) (hg : Gl X "tuple" := by rfl) (he : starEach (e :: es) X.env = (false, eval e X.env) :: starEach es X.env := by rfl) (hpl : (backTo pos (starEach es X.env)).any (·.1) = false := by rfl) : SE X (.Call (.Name "tuple" p) (e :: es) [] pos) (mA fTupOf m) :=
  se_ty call_tuple_ofS ok_tupOf ha hm (by decide +kernel) hg (by decide) (by decide) he hpl
theorem se_list (ha : SA X (e :: es) m) (hm : X.mg "list" = none) (hg : Gl X "list" := by rfl) (he : starEach (e :: es) X.env = (false, eval e X.env) :: starEach es X.env := by rfl) (hpl : (backTo pos (starEach es X.env)).any (·.1) = false := by rfl) : SE X (.Call (.Name "list" p) (e :: es) [] pos) (mA fLstOf m) :=
  se_ty call_list_of ok_lstOf ha hm (by decide +kernel) hg (by decide) (by decide) he hpl
theorem se_toint (ha : SA X (e :: es) m) (hm : X.mg "int" = none) (hg : Gl X "int" := by rfl) (he : starEach (e :: es) X.env = (false, eval e X.env) :: starEach es X.env := by rfl) (hpl : (backTo pos (starEach es X.env)).any (·.1) = false := by rfl) : SE X (.Call (.Name "int" p) (e :: es) [] pos) (mA fInt m) :=
  se_ty call_int1 ok_int ha hm (by decide +kernel) hg (by decide) (by decide) he hpl
theorem se_gcd (ha : SA X (e :: es) m) (hm : X.mg "gcd" = some (.builtin "math.gcd")) (hg : Gl X "gcd" := by rfl) (he : starEach (e :: es) X.env = (false, eval e X.env) :: starEach es X.env := by rfl) (hpl : (backTo pos (starEach es X.env)).any (·.1) = false := by rfl) : SE X (.Call (.Name "gcd" p) (e :: es) [] pos) (mA fGcd m) :=
  se_bf cr_gcd ok_gcd ha hm hg (by decide) he hpl
end
mutual
theorem noDict_has : ∀ d : PyData, noDict d = true → d.hasDict = false
  | .none, _ => rfl
  | .bool _, _ => rfl
  | .int _, _ => rfl
  | .str _, _ => rfl
  | .list xs, h => by simp only [PyData.hasDict]; exact noDicts_has xs (by simpa [noDict] using h)
  | .tuple xs, h => by simp only [PyData.hasDict]; exact noDicts_has xs (by simpa [noDict] using h)
  | .dict _, h => by simp [noDict] at h
theorem noDicts_has : ∀ d : List PyData, noDicts d = true → PyData.hasDictAll d = false
  | [], _ => by simp [PyData.hasDictAll]
  | x :: xs, h => by
    simp only [noDicts, Bool.and_eq_true] at h
    simp only [PyData.hasDictAll, noDict_has x h.1, noDicts_has xs h.2, Bool.or_self]
end
def isSeq : PyData → Bool
  | .list _ => true
  | .tuple _ => true
  | _ => false
def reprOk (d : PyData) : Bool := isSeq d && noDict d && d.showable && decide (d.depth ≤ 60) && decide (d.shown.length ≤ sizeLine)
def fRepr : List R → Option R
  | [x] => match rdD x with
    | some d => if reprOk d = true then some (.d (.str d.shown)) else none
    | none => none
  | _ => none
section
variable {X : Cx} {p pos : Pos} {e : Expr} {es : List Expr} {m : Ma} {k : Nat}
def rRepr (K : PySem.W.Frag) : List V → Hp → VK → Prop := fun xs H Q => ∃ a d, xs = [.ref a] ∧ Dp K H (.ref a) d ∧ reprOk d = true ∧ Q (.str d.shown) H
theorem call_reprD (hr : Room k X.A) (hg : X.A.guards = some []) : CallR X (.builtin "repr") (rRepr X.K) := by
  intro pins s σ H vs us Q I r h
  obtain ⟨a, d, rfl, hd, ok, q⟩ := h
  simp only [reprOk, Bool.and_eq_true, decide_eq_true_eq] at ok
  obtain ⟨⟨⟨⟨_, nd⟩, sh⟩, dp⟩, sz⟩ := ok
  cases r with
  | cons r t =>
    cases t
    cases r
    obtain ⟨as, rd⟩ := Dp.reads I d _ _ hd rfl
    have hu := hr.units
    exact repr_of_reads' rd sh (PyData.noDict_hsm (noDict_has d nd)) hg (by omega) (fun b o e => e) (fun h' u tk kk => ⟨.str d.shown, H, I.kept (t' := tk) kk, ⟨_, rfl⟩, q⟩) sz
theorem ok_repr : OkA X.K (rRepr X.K) fRepr := by
  intro sp fz fzS H H0 sto vs xs z Q s B i e k
  unfold fRepr at e
  split at e
  · rename_i r
    split at e
    · rename_i d q
      split at e
      · rename_i ok
        cases e
        cases i with
        | cons i t =>
          cases t
          have ok2 := ok
          simp only [reprOk, Bool.and_eq_true, decide_eq_true_eq] at ok2
          obtain ⟨⟨⟨⟨sq, nd⟩, _⟩, _⟩, _⟩ := ok2
          have dp := i.dp q nd
          have : ∃ a, ‹V› = .ref a := by
            cases dp <;> first | exact ⟨_, rfl⟩ | (simp [isSeq] at sq)
          obtain ⟨a, rfl⟩ := this
          exact ⟨a, d, rfl, dp, ok, k _ fz H s B.spl (.str _)⟩
      · cases e
    · cases e
  · cases e
end
def tyName : PyData → String
  | .none => "NoneType"
  | .bool _ => "bool"
  | .int _ => "int"
  | .str _ => "str"
  | .list _ => "list"
  | .tuple _ => "tuple"
  | .dict _ => "dict"
def isN (T S : String) : Bool := S == T || (T == "int" && S == "bool")
def isA (T : String) (d : PyData) : Bool := isN T (tyName d)
def fIsi (T : String) (x : R) : Option R := (rdD x).map fun d => .d (.bool (isA T d))
section
variable {K : PySem.W.Frag} {sp : Option Addr} {fz : Fz} {H H0 : Hp} {v : V} {x : R} {d : PyData}
theorem ImR.ty (i : ImR K sp H0 fz H v x) (e : rdD x = some d) : TyX K H v (.type (tyName d)) := by
  cases x with
  | d y =>
    cases e
    cases i with
    | non => exact .base .non
    | bl b => exact .base (.bl b)
    | int b => exact .base (.int b)
    | str b => exact .base (.str b)
    | lst h _ =>
      rcases h with ⟨h, _⟩ | ⟨o, h⟩ | ⟨o, its, n, h, c, _⟩
      · exact .base (.lst h)
      · exact .base (.frz h)
      · exact .kList h c
    | tup h _ =>
      rcases h with ⟨o, h, _⟩ | ⟨o, its, n, h, c, _⟩
      · exact .fTuple h
      · exact .kTuple h c
    | dct h _ _ _ => exact .base (.dK h)
  | f xs => cases e; obtain ⟨a, vs, rfl, h, _⟩ := i; exact .base (.lst h)
  | b xs => cases e; obtain ⟨a, vs, rfl, h, _⟩ := i; exact .base (.lst h)
  | s => cases e
  | m _ => cases e
  | t _ => cases e
  | n _ => cases e
  | u _ => cases e
  | h l => cases e
end
/-- the built-in classes that are asked for -/
def known (T : String) : Bool := ["int", "bool", "tuple", "str", "list", "dict"].contains T
theorem kit_names : ∀ S ∈ ["NoneType", "bool", "int", "str", "list", "tuple", "dict"], ∀ T ∈ ["int", "bool", "tuple", "str", "list", "dict"], kitB S T = some (isN T S) := by decide +kernel
theorem tyName_mem (d : PyData) : tyName d ∈ ["NoneType", "bool", "int", "str", "list", "tuple", "dict"] := by cases d <;> simp [tyName]
theorem kit_known {K : PySem.W.Frag} {T : String} (h : known T = true) (d : PyData) : PySem.W.kitOne K (.type (tyName d)) (.type T) = some (isA T d) :=
  kit_ty (kit_names _ (tyName_mem d) T (by simpa [known] using h))
section
variable {X : Cx} {p p2 pos : Pos} {e : Expr} {T : String} {x : Str} {me : Mx}
theorem se_isi (hT : known T = true) (he : SE X e me) (hm : X.mg "isinstance" = none) (hm2 : X.mg x = none) (hv : bootBuiltins x = some (.type T)) (hg : Gl X "isinstance" := by rfl) (hg2 : Gl X x := by rfl) (hn2 : x ≠ "__name__" := by decide) (hd2 : (x == ("__debug__" : Str)) = false := by decide)
    (h1 : starEach [e, .Name x p2] X.env = (false, eval e X.env) :: starEach [.Name x p2] X.env := by rfl) (hpl : (backTo pos (starEach [.Name x p2] X.env)).any (·.1) = false := by rfl) : SE X (.Call (.Name "isinstance" p) [e, .Name x p2] [] pos) (m1 (fIsi T) me) :=
  PE.imp (pe_callB call_isi hg hm (by decide +kernel) (pa_cons he (pa_cons (pe_bltn (v := .ty T) hg2 hm2 hv rfl hn2 hd2) pa_nil) h1) (by decide) (by decide) h1 hpl) fun σ H Q h => by
    refine rd_one (r := fun v H Q => rIsi X.K [v, .ty T] H Q) ?_ h
    intro sp fz H H0 sto v x z Q B ix e k
    unfold fIsi at e
    cases q : rdD x with
    | none => rw [q] at e; cases e
    | some d =>
      rw [q] at e; cases e
      exact ⟨v, .ty T, _, _, _, rfl, .ty T, ix.ty q, kit_known hT d, k _ fz H .refl B.spl (.inl (.bl _))⟩
end
abbrev Mo := Ev → Sto → Option (Option Int × Sto)
def rdO (K : PySem.W.Frag) (m : Mo) : TO := fun σ H Q => ∃ (C : Cn) (fz : Fz) (ρ : Ev) (sto : Sto) (r : Option Int) (sto' : Sto), Fm K C fz ρ sto σ H ∧ m ρ sto = some (r, sto') ∧ ∀ fz' H', Stp C.sp fz H fz' H' → SpL C.sp H' sto' → Q r H'
def SO (X : Cx) (e : Option Expr) (m : Mo) : Prop := PO X e (rdO X.K m)
def moNone : Mo := fun _ s => some (none, s)
def moSome (a : Mx) : Mo := bnd a fun x _ => ret (match x with | .d (.int i) => some (some i) | _ => none)
theorem PO.imp {X : Cx} {e : Option Expr} {t t' : TO} (h : PO X e t) (q : ∀ σ H Q, t' σ H Q → t σ H Q) : PO X e t' := ⟨fun pins s σ H Q I w => h.run pins s σ H Q I (q _ _ _ w)⟩
def cutD (xs : List PyData) (lo hi : Option Int) : List PyData := (xs.drop (HT.sIx xs.length 0 lo)).take (HT.sIx xs.length xs.length hi - HT.sIx xs.length 0 lo)
theorem ImA.cut {K : PySem.W.Frag} {fz : Fz} {H : Hp} {vs : List V} {xs : List PyData} (h : ImA K fz H vs xs) (lo hi : Option Int) : ImA K fz H (cutV vs lo hi) (cutD xs lo hi) := by
  unfold cutV cutD
  rw [h.length]
  exact (h.drop _).take _
def fSl (x : R) (lo hi : Option Int) : Option R := match x with
  | .d (.tuple xs) => some (.d (.tuple (cutD xs lo hi)))
  | x => (rdL x).map fun xs => .f (cutD xs lo hi)
def mSl (a : Mx) (l h : Mo) : Mx := bnd a fun x => bnd l fun lo => bnd h fun hi _ => ret (fSl x lo hi)
section
variable {X : Cx} {e : Expr} {a b : Option Expr} {me : Mx} {ma mb : Mo} {p2 pos : Pos}
theorem so_none : SO X none moNone := PO.imp po_none fun σ H Q h => by
  obtain ⟨C, fz, ρ, sto, r, sto', F, e, k⟩ := h
  cases e
  exact k fz H .refl F.bs.spl
theorem so_some (he : SE X e me) : SO X (some e) (moSome me) := PO.imp (po_some he) fun σ H Q h => by
  obtain ⟨C, fz, ρ, sto, r, sto', F, e, k⟩ := h
  obtain ⟨x, s1, ea, e1⟩ := bnd_some e
  obtain ⟨ef, rfl⟩ := ret_some e1
  clear e e1
  refine ⟨C, fz, ρ, sto, x, _, F, ea, fun v fz1 H1 st1 l1 i1 => ?_⟩
  split at ef
  · cases ef; cases i1
    exact ⟨_, rfl, k fz1 H1 st1 l1⟩
  · cases ef
theorem cut_whole {xs : List PyData} {lo hi : Option Int} (h : HT.sIx xs.length 0 lo = 0 ∧ HT.sIx xs.length xs.length hi = xs.length) : cutD xs lo hi = xs := by
  unfold cutD
  rw [h.1, h.2, List.drop_zero, Nat.sub_zero, List.take_length]
theorem se_sl (he : SE X e me) (ha : SO X a ma) (hb : SO X b mb) : SE X (.Subscript e (.Slice a b none p2) pos) (mSl me ma mb) := PE.imp (pe_slice (sl_list.or sl_tupS) he ha hb) fun σ H Q h => by
  obtain ⟨C, fz, ρ, sto, z, sto', F, e, k⟩ := h
  obtain ⟨x, s1, ea, e1⟩ := bnd_some e
  obtain ⟨lo, s2, eb, e2⟩ := bnd_some e1
  obtain ⟨hi, s3, ec, e3⟩ := bnd_some e2
  obtain ⟨ef, rfl⟩ := ret_some e3
  clear e e1 e2 e3
  refine ⟨C, fz, ρ, sto, x, s1, F, ea, fun v fz1 H1 st1 l1 i1 => ?_⟩
  have F1 := F.step st1 l1
  refine ⟨C, fz1, ρ, s1, lo, s2, F1, eb, fun fz2 H2 st2 l2 => ?_⟩
  have F2 := F1.step st2 l2
  refine ⟨C, fz2, ρ, s2, hi, _, F2, ec, fun fz3 H3 st3 l3 => ?_⟩
  have F3 := F2.step st3 l3
  have st := (st1.trans st2).trans st3
  have i3 := (i1.stp st2 F1.bs).stp st3 F2.bs
  unfold fSl at ef
  split at ef
  · cases ef
    obtain ⟨q, vs, rfl, h1, h2⟩ := i3.tup
    refine .inr ⟨q, vs, rfl, h1, fun hw => ?_, fun _ p o hp ho => ?_⟩
    · rw [h2.length] at hw
      refine k _ fz3 H3 st l3 ?_
      rw [cut_whole hw]
      exact i3
    · obtain ⟨s4, l4, i4⟩ := new_tup F3.bs (h2.cut lo hi) hp ho
      exact k _ fz3 _ (st.trans s4) l4 i4
  · rename_i x' _
    cases q : rdL x with
    | none => rw [q] at ef; cases ef
    | some xs =>
      rw [q] at ef; cases ef
      obtain ⟨q, vs, rfl, h1, h2⟩ := i3.list q
      refine .inl ⟨q, vs, rfl, h1, fun p hp => ?_⟩
      obtain ⟨s4, l4, i4⟩ := new_lst F3.bs (h2.cut lo hi) hp
      exact k _ fz3 _ (st.trans s4) l4 (i4.early st)
end
end Dh
namespace Dh
open PySem PySem.Spec L2 PySem.W
variable [LawT]
/-- the values of the parameters, by the places of the keywords -/
def perm {α : Type} (d : α) (π : List Nat) (xs : List α) : List α := π.map fun i => xs.getD i d
def KB0 (K : PySem.W.Frag) (fd : FuncData) (ps ks : List Str) (π : List Nat) : Prop := ∀ (s : Shared) (ws : List Value), K.In s.heap → ws.length = ks.length → BindsTo s fd ⟨[], ks.zip ws⟩ (ps.zip (perm Value.none π ws))
def mCallK (g : Fx) (π : List Nat) (n : Nat) (a : Ma) : Mx := bnd a fun rs _ s => match toArgs rs with
  | some cs => if cs.length = n then g (perm (.d .none) π cs) s else none
  | none => none
theorem perm_vals {π : List Nat} {vs : List V} {us : List Value} (r : Vals vs us) : Vals (perm V.non π vs) (perm Value.none π us) := by
  induction π with
  | nil => exact .nil
  | cons i π ih =>
    refine .cons ?_ ih
    show RelV (vs.getD i V.non) (us.getD i Value.none)
    rw [List.getD_eq_getElem?_getD, List.getD_eq_getElem?_getD]
    cases q : vs[i]? with
    | none =>
      have h1 := Vals.none_of r q
      rw [h1]
      rfl
    | some v =>
      obtain ⟨u, hu, ru⟩ := r.get q
      rw [hu]
      exact ru
theorem perm_args {K : PySem.W.Frag} {fz : Fz} {sp : Option Addr} {H : Hp} {π : List Nat} {vs : List V} {cs : List Cl} (r : Paired (ArgOk K fz sp H) vs cs) : Paired (ArgOk K fz sp H) (perm V.non π vs) (perm (.d .none) π cs) := by
  induction π with
  | nil => exact .nil
  | cons i π ih =>
    refine .cons ?_ ih
    show ArgOk K fz sp H (vs.getD i V.non) (cs.getD i (.d .none))
    rw [List.getD_eq_getElem?_getD, List.getD_eq_getElem?_getD]
    cases q : cs[i]? with
    | none =>
      have : vs[i]? = none := List.getElem?_eq_none_iff.mpr (by rw [pLen r]; exact List.getElem?_eq_none_iff.mp q)
      rw [this]
      exact .non
    | some c =>
      obtain ⟨v, hv, rv⟩ := pAt r i c q
      rw [hv]
      exact rv
def SK (X : Cx) (kws : List Keyword) (m : Ma) : Prop := PK X kws (rdA X.K m)
theorem PK.imp {X : Cx} {e : List Keyword} {t t' : TA} (h : PK X e t) (q : ∀ σ H Q, t' σ H Q → t σ H Q) : PK X e t' := ⟨fun p pins s σ H Q I w => h.run p pins s σ H Q I (q _ _ _ w)⟩
section
variable {X : Cx} {k : Nat} {f : Addr} {fd : FuncData} {ps ks : List Str} {π : List Nat} {x : Str} {p pos kpos : Pos} {e : Expr} {kws : List Keyword} {m mr : Ma} {me : Mx} {g : Fx} {nm : Option Str}
theorem sk_nil : SK X [] maNil := PK.imp pk_nil fun σ H Q h => by
  obtain ⟨C, fz, ρ, sto, r, sto', F, e, k⟩ := h
  cases e
  exact k [] fz H .refl F.bs.spl .nil
theorem sk_cons (he : SE X e me) (hr : SK X kws mr) : SK X (⟨nm, e, kpos⟩ :: kws) (maCons me mr) := PK.imp (pk_cons he hr) fun σ H Q h => by
  obtain ⟨C, fz, ρ, sto, r, sto', F, e, k⟩ := h
  obtain ⟨x, s1, ea, e1⟩ := bnd_some e
  obtain ⟨xs, s2, eb, e2⟩ := bnd_some e1
  clear e e1
  cases e2
  refine ⟨C, fz, ρ, sto, x, s1, F, ea, fun v fz1 H1 st1 l1 i1 => ?_⟩
  refine ⟨C, fz1, ρ, s1, xs, sto', F.step st1 l1, eb, fun vs fz2 H2 st2 l2 i2 => ?_⟩
  exact k (v :: vs) fz2 H2 (st1.trans st2) l2 (.cons (i1.stp st2 (F.bs.step st1 l1)) (i2.early st1))
def tCallK0 (sp : Sp) (π : List Nat) (n : Nat) (t : TA) : TE := fun σ H Q => t σ H fun vs H1 => vs.length = n ∧ sp (perm V.non π vs) H1 Q E0
theorem pe_callK0 {sp : Sp} {t : TA} (F : FnG X.prog X.w X.K X.mg X.base k f fd ps sp) (hr : Room k X.A) (hgd : X.A.guards = some []) (hm : X.mg x = some (.ref f)) (hk : PySem.W.keepIn X.K (.ref f) = true) (hb : KB0 X.K fd ps ks π) (ha : PK X kws t) (hg : Gl X x)
    (hall : (backToKw pos (keywordEach kws X.env)).all (·.1.isSome) = true := by rfl) (hks : (backToKw pos (keywordEach kws X.env)).filterMap (·.1) = ks := by rfl)
    (hdb : (x == ("__debug__" : Str)) = false := by decide) (hpl : ((backTo pos (starEach [] X.env)).any (·.1) || (backToKw pos (keywordEach kws X.env)).any (·.1.isNone)) = false := by rfl) :
    PE X (.Call (.Name x p) [] kws pos) (tCallK0 sp π ks.length t) := ⟨fun pins s σ H Q I h => by
  refine wpAny_Call_Name_kw (ld_glob I hg hm (PySem.W.callWith_KW0 (h₀ := X.base) I.ok.mod.kin hk hall (thn (ha.run pos pins s σ H _ I h) ?_) hpl) hdb)
  rintro us s1 ⟨vs, H1, I1, r, hl, q⟩
  rw [hks]
  have b := hb s1 us I1.kIn (by rw [← r.length]; exact hl)
  refine ⟨I1.kIn, wpAny_call (codeAny_mono (run_fnG F hr hgd I1 b (perm_vals r) q) fun res s' hq => ?_)⟩
  match res, hq with
  | .error e, hq => exact hq
  | .ok (.ret u), hq => exact hq
  | .ok .next, hq => exact False.elim hq
  | .ok .brk, hq => exact False.elim hq
  | .ok .cont, hq => exact False.elim hq⟩
theorem se_callK {n l : Nat} {mb : Ms} (F : FnG X.prog X.w X.K X.mg X.base k f fd ps (spOf X.K n (run' n l mb))) (hr : Room k X.A) (hgd : X.A.guards = some []) (hm : X.mg x = some (.ref f)) (hk : PySem.W.keepIn X.K (.ref f) = true) (hb : KB0 X.K fd ps ks π) (ha : SK X kws m) (hg : Gl X x := by rfl)
    (hall : (backToKw pos (keywordEach kws X.env)).all (·.1.isSome) = true := by rfl) (hks : (backToKw pos (keywordEach kws X.env)).filterMap (·.1) = ks := by rfl)
    (hdb : (x == ("__debug__" : Str)) = false := by decide) (hpl : ((backTo pos (starEach [] X.env)).any (·.1) || (backToKw pos (keywordEach kws X.env)).any (·.1.isNone)) = false := by rfl) :
    SE X (.Call (.Name x p) [] kws pos) (mCallK (run' n l mb) π ks.length m) := PE.imp (pe_callK0 F hr hgd hm hk hb ha hg hall hks hdb hpl) fun σ H Q h => by
  obtain ⟨C, fz, ρ, sto, z, sto', F, e, k⟩ := h
  obtain ⟨rs, s1, ea, e1⟩ := bnd_some e
  clear e
  split at e1
  · rename_i cs ec
    split at e1
    · rename_i hn
      refine ⟨C, fz, ρ, sto, rs, s1, F, ea, fun vs fz1 H1 st1 l1 i1 => ?_⟩
      obtain ⟨fz2, st2, B2, _, a⟩ := ImRs.args i1 ec fz1 st1 (F.bs.step st1 l1) fun _ h => h
      exact ⟨(pLen a).trans hn, C.sp, fz2, _, s1, z, sto', run'_len _ s1 _ e1, perm_args a, B2, e1, fun v fz3 H3 st3 l3 i3 => k v fz3 H3 (st2.trans st3) l3 (i3.early st2)⟩
    · cases e1
  · cases e1
end
def mPair (i : Nat) (ix : Mx) (j : Nat) (a : Mx) : Ms := fun ρ s => match a ρ s with
  | some (.d (.tuple [.int q, y]), s1) => match ix ρ s1, ρ[i]? with
    | some (.d (.int k), s2), some (some .s) => match ixN s2.length k with
      | some n => some (.nx, ρ.set j (some (.d y)), s2.set n q)
      | none => none
    | _, _ => none
  | _ => none
section
variable {X : Cx} {i j : Nat} {y : Str} {e : Expr} {tgs : Expr} {me mi : Mx} {py pos tpos : Pos} {kk : Nat}
/-- hg is pg_sub (pv i) hix set_list -/
theorem ss_pair (hc : X.calm = true) (hN : X.N.Nodup) (he : SE X e me) (hg : PG X tgs (gSub (tVar i) (rdE X.K mi) rSetL)) (hj : X.N[j]? = some y := by rfl) (hy : Loc X.env.scope y := by first | exact Or.inl rfl | exact Or.inr rfl)
    (hf : X.fn y = true ∨ X.env.scope.names.lookup y = some .local := by first | exact .inl rfl | exact .inr rfl)
    (h1 : (assignEach (tgs :: [.Name y py]) X.env).map (·.2) = assign tgs X.env :: (assignEach [.Name y py] X.env).map (·.2) := by rfl) (h2 : (assignEach (.Name y py :: []) X.env).map (·.2) = assign (.Name y py) X.env :: (assignEach [] X.env).map (·.2) := by rfl)
    (hn : (assignEach [tgs, .Name y py] X.env).length = 2 := by rfl) (hst : (assignEach [tgs, .Name y py] X.env).findIdx? (·.1) = none := by rfl)
    (hs : swapsWithSole [.Tuple [tgs, .Name y py] kk tpos] e pos.line X.env = pure false := by rfl) (hw : swappedStores [.Tuple [tgs, .Name y py] kk tpos] e X.env = pure none := by rfl)
    (h3 : (assignEach [.Tuple [tgs, .Name y py] kk tpos] X.env).map (·.2) = [assign (.Tuple [tgs, .Name y py] kk tpos) X.env] := by rfl) :
    SS X (.Assign [.Tuple [tgs, .Name y py] kk tpos] e pos) (mPair i mi j me) :=
  PS.impI (ps_asg he (pg_tup hc (pgs_cons hg (pgs_cons (pg_name hN hj hy hf) pgs_nil h2) h1) hn hst) hs hw h3) fun D σ H hl h => by
    obtain ⟨C, fz, ρ, sto, out, ρ', sto', F, e, k⟩ := h
    unfold mPair at e
    split at e
    · rename_i q yy s1 e1
      split at e
      · rename_i kk' s2 e2 ei
        split at e
        · rename_i n en
          cases e
          refine ⟨C, fz, ρ, sto, _, s1, F, e1, fun v fz1 H1 st1 l1 i1 => ?_⟩
          cases i1 with
          | tup ht ha =>
            rename_i a xs
            cases ha with
            | cons hq ha =>
              cases ha with
              | cons hyv ha =>
                cases ha
                cases hq
                have F1 := F.step st1 l1
                refine ⟨a, _, rfl, ht.sq, rfl, _, _, rfl, ?_⟩
                obtain ⟨p, hp, hs⟩ := F1.vars _ _ ei
                refine ⟨_, hs, C, fz1, ρ, s1, _, _, F1, e2, fun w fz2 H2 st2 l2 i2 => ?_⟩
                cases i2
                refine ⟨p, _, kk', n, rfl, rfl, l2 p hp, by rw [List.length_map]; exact en, ?_⟩
                have F2 := F1.step st2 l2
                obtain ⟨F4, S4⟩ := F2.spring (s2.set n q) hp
                refine ⟨_, _, rfl, rfl, ?_⟩
                rw [← List.map_set]
                exact k fz2 _ _ (F4.name ((hyv.stp st2 F1.bs).sts S4 F2.bs) (lt_of_slot hj hl)) ((st1.trans st2).sts.trans S4)
        · cases e
      · cases e
    · cases e
end
end Dh
namespace Dh
open PySem PySem.Spec L2
variable [LawT]
section
variable {K : PySem.W.Frag} {sp : Option Addr} {fz fz1 : Fz} {H H1 : Hp} {sto : Sto}
def numbered (xs : List PyData) : List PyData := xs.zipIdx.map fun p => PyData.tuple [.int (p.2 : Nat), p.1]
end
def enum1 : List R → Option (List PyData)
  | [x] => (itemsOf x).map numbered
  | _ => none
end Dh
namespace Dh
open PySem PySem.Spec PyProof.Rows L2 PySem.W
variable [LawT]
def mBrk : Ms := fun ρ s => some (.bk, ρ, s)
def mCnt : Ms := fun ρ s => some (.ct, ρ, s)
def mRetN : Ms := fun ρ s => some (.rt (.d .none), ρ, s)
/-- an expression for what it does alone -/
def mDrop (a : Mx) : Ms := fun ρ s => match a ρ s with
  | some (_, s1) => some (.nx, ρ, s1)
  | none => none
section
variable {X : Cx} {e : Expr} {me : Mx} {pos : Pos}
theorem ss_drop (he : SE X e me) (hs : swapsWith e none pos.line X.env = pure false := by rfl) : SS X (.Expr e pos) (mDrop me) := PS.imp (ps_expr he hs) fun D σ H h => by
  obtain ⟨C, fz, ρ, sto, out, ρ', sto', F, e, k⟩ := h
  unfold mDrop at e
  split at e
  · rename_i r s1 e1
    cases e
    exact ⟨C, fz, ρ, sto, r, _, F, e1, fun v fz1 H1 st1 l1 i1 => k fz1 σ H1 (F.step st1 l1) st1.sts⟩
  · cases e
theorem se_dict0 : SE X (.Dict [] [] pos) (mKon (.dict [])) := PE.imp pe_dnewK fun σ H Q h => by
  obtain ⟨C, fz, ρ, sto, r, sto', F, e, k⟩ := h
  cases e
  intro p hp
  have n : some p ≠ C.sp := F.bs.spl.ne hp (by intro z; cases z)
  exact k _ _ _ (Stp.frz hp n) (F.bs.spl.upd n) (.dct upd_same (.inr rfl) .nil .nil)
/-- x, y, z = a, b, c -/
def mPar3 (i j l : Nat) (a : Ma) : Ms := fun ρ s => match a ρ s with
  | some ([r, q, u], s1) => match toCl r, toCl q, toCl u with
    | some (.d c), some (.d d), some f => some (.nx, ((ρ.set i (some (.d c))).set j (some (.d d))).set l (some f), s1)
    | some (.d c), some (.o d), some (.d f) => some (.nx, ((ρ.set i (some (.d c))).set j (some (.o d))).set l (some (.d f)), s1)
    | _, _, _ => none
  | _ => none
end
section
variable {K : PySem.W.Frag} {C : Cn} {fz fz1 : Fz} {ρ : Ev} {sto sto' : Sto} {σ : L2.St} {H H1 : Hp}
theorem toCl_d {r : R} {c : PyData} (h : toCl r = some (.d c)) : r = .d c := by
  cases r with
  | d x => cases h; rfl
  | f x => cases h
  | b x => cases h
  | s => cases h
  | m x => cases h
  | t x => cases h
  | n x => cases h
  | u x => cases h
  | h l => cases h
/-- a value given beside others: what was given first is a datum -/
theorem Fm.give2 (F : Fm K C fz ρ sto σ H) (s : Stp C.sp fz H fz1 H1) (l : SpL C.sp H1 sto') {v w : V} {x : PyData} {r : R} {c : Cl} (iv : Im K fz1 H1 v x) (iw : ImR K C.sp H fz1 H1 w r) (e : toCl r = some c) {i j : Nat} (hi : i < σ.length) (hj : j < σ.length) :
    Fm K C fz1 ((ρ.set i (some (.d x))).set j (some c)) sto' ((σ.set i (some v)).set j (some w)) H1 := by
  have F1 := (F.step s l).name iv hi
  refine F1.put j (by rw [List.length_set]; exact hj) ?_ ?_
  · have g : ((σ.set i (some v)).set j (some w))[j]? = some (some w) := List.getElem?_set_self (by rw [List.length_set]; exact hj)
    cases r with
    | d x => cases e; exact ⟨w, g, iw⟩
    | f xs =>
      cases e
      obtain ⟨a, vs, rfl, h1, h2, h3, h4, h5⟩ := iw
      exact ⟨a, vs, g, h1, h2, h3, h4, F.st.back h4 h5⟩
    | b xs => cases e
    | s => cases e; obtain ⟨a, ea, rfl⟩ := (show IsS C.sp w from iw); exact ⟨a, ea, g⟩
    | m acc =>
      cases e
      obtain ⟨a, vs, rfl, h1, h2, h3, h4, h5⟩ := iw
      exact ⟨a, vs, g, h1, h2, h3, h4, F.st.back h4 h5⟩
    | t acc =>
      cases e
      obtain ⟨a, vs, rfl, h1, h2, h3, h4, h5⟩ := iw
      exact ⟨a, vs, g, h1, h2, h3, h4, F.st.back h4 h5⟩
    | n acc => cases e
    | u acc => cases e
    | h l => cases e
  · intro xs a ec ew n ys hn h1 h2
    subst ec
    cases r with
    | d x => cases e
    | b x => cases e
    | s => cases e
    | m x => cases e
    | t x => cases e
    | n x => cases e
    | u x => cases e
    | f zs =>
      cases e
      obtain ⟨b, vs, eb, h3, h4, h5, h6, h7⟩ := iw
      rw [ew] at eb; cases eb
      by_cases en : n = i
      · subst en
        rw [List.getElem?_set_self (by rw [F.len]; exact hi)] at h1
        cases h1
      · rw [List.getElem?_set_ne (Ne.symm en)] at h1 h2
        obtain ⟨b, ws, q1, q2, _⟩ := F.owned h1
        rw [h2] at q1; cases q1
        rw [h7] at q2; cases q2
    | h l => cases e
end
section
variable {X : Cx} {i j l : Nat} {x y z : Str} {a b c : Expr} {m : Ma} {px py pz pt pos : Pos} {kt k2 pt2}
theorem ss_par3 (hc : X.calm = true) (hN : X.N.Nodup) (ha : SA X [a, b, c] m) (hi : X.N[i]? = some x := by rfl) (hj : X.N[j]? = some y := by rfl) (hl : X.N[l]? = some z := by rfl) (hij : i ≠ j := by decide) (hil : i ≠ l := by decide) (hjl : j ≠ l := by decide)
    (hx : X.env.scope.names.lookup x = some .local := by rfl) (hy : X.env.scope.names.lookup y = some .local := by rfl) (hz : X.env.scope.names.lookup z = some .local := by rfl)
    (hw : swappedStores [.Tuple [.Name x px, .Name y py, .Name z pz] kt pt] (.Tuple [a, b, c] k2 pt2) X.env = pure (some [x, y, z]) := by rfl)
    (hs : swapsWithSole [.Tuple [.Name x px, .Name y py, .Name z pz] kt pt] (.Tuple [a, b, c] k2 pt2) pos.line X.env = pure false := by rfl) :
    SS X (.Assign [.Tuple [.Name x px, .Name y py, .Name z pz] kt pt] (.Tuple [a, b, c] k2 pt2) pos) (mPar3 i j l m) := PS.impI (ps_par3 hc hN hi hj hl hij hil hjl hx hy hz ha hw hs) fun D σ H hlen h => by
  obtain ⟨C, fz, ρ, sto, out, ρ', sto', F, e, k⟩ := h
  have hi' := lt_of_slot hi hlen
  have hj' := lt_of_slot hj hlen
  have hl' := lt_of_slot hl hlen
  unfold mPar3 at e
  split at e
  · rename_i r q u s1 e1
    split at e
    · rename_i c1 d1 f1 ec ed ef
      cases e
      refine ⟨C, fz, ρ, sto, _, _, F, e1, fun vs fz1 H1 st1 l1 i1 => ?_⟩
      cases i1 with
      | cons iv t =>
        cases t with
        | cons iw t =>
          cases t with
          | cons iu t =>
            cases t
            rw [toCl_d ec] at iv
            rw [toCl_d ed] at iw
            rename_i v w uu
            refine ⟨v, w, uu, rfl, ?_⟩
            -- the first is a datum: put it ahead, then the other two
            have F1 := F.give2 st1 l1 iw iu ef hj' hl'
            have F2 := F1.name iv (i := i) (by simp only [List.length_set]; exact hi')
            have r1 : (((σ.set j (some w)).set l (some uu)).set i (some v)) = (((σ.set i (some v)).set j (some w)).set l (some uu)) := by
              rw [List.set_comm _ _ (Ne.symm hil), List.set_comm _ _ (Ne.symm hij)]
            have r2 : (((ρ.set j (some (Cl.d d1))).set l (some f1)).set i (some (Cl.d c1))) = (((ρ.set i (some (Cl.d c1))).set j (some (Cl.d d1))).set l (some f1)) := by
              rw [List.set_comm _ _ (Ne.symm hil), List.set_comm _ _ (Ne.symm hij)]
            rw [r1, r2] at F2
            exact k fz1 _ H1 F2 st1.sts
    · rename_i c1 d1 f1 ec ed ef
      cases e
      refine ⟨C, fz, ρ, sto, _, _, F, e1, fun vs fz1 H1 st1 l1 i1 => ?_⟩
      cases i1 with
      | cons iv t =>
        cases t with
        | cons iw t =>
          cases t with
          | cons iu t =>
            cases t
            rw [toCl_d ec] at iv
            rw [toCl_d ef] at iu
            rename_i v w uu
            refine ⟨v, w, uu, rfl, ?_⟩
            have F1 := F.give2 st1 l1 iv iw ed hi' hj'
            have F2 := F1.name iu (i := l) (by simp only [List.length_set]; exact hl')
            exact k fz1 _ H1 F2 st1.sts
    · cases e
  · cases e
end
/-- a call of what is promised, whatever function it is -/
theorem se_callR {X : Cx} {k k2 : Nat} {f : Addr} {fd : FuncData} {ps : List Str} {x : Str} {p pos : Pos} {e : Expr} {es : List Expr} {m : Ma} {n : Nat} {g : Fx} (F : FnG X.prog X.w X.K X.mg X.base k f fd ps (spOf X.K n g)) (hr : Room k2 X.A) (hgd : X.A.guards = some []) (hm : X.mg x = some (.ref f)) (hk : PySem.W.keepIn X.K (.ref f) = true) (hb : Binds X.K fd ps []) (ha : SA X (e :: es) m)
    (hkk : k ≤ k2 := by omega) (hn : ∀ cs s r, g cs s = some r → cs.length = n := by assumption) (hg : Gl X x := by rfl)
    (hdb : (x == ("__debug__" : Str)) = false := by decide) (he : starEach (e :: es) X.env = (false, eval e X.env) :: starEach es X.env := by rfl) (hpl : (backTo pos (starEach es X.env)).any (·.1) = false := by rfl) :
    SE X (.Call (.Name x p) (e :: es) [] pos) (mCall g m) := PE.imp (pe_callG F (hr.mono hkk) hgd hm hk hb ha hg hdb he hpl) fun _ _ _ h => rd_call hn h
end Dh
namespace Dh
open PySem PySem.Spec L2 PySem.W PyProof.Rows
variable [LawT]
def stoOf : List PyData → Option Sto
  | [] => some []
  | .int i :: r => (stoOf r).map (i :: ·)
  | _ :: _ => none
def onlyD : List R → Option (List Cl)
  | [] => some []
  | .d x :: r => (onlyD r).map (.d x :: ·)
  | _ :: _ => none
/-- g(new list, data..): the list is g's spring -/
def mCallN (g : Fx) (a : Ma) : Mx := bnd a fun rs _ s => match rs with
  | .f xs :: r => match stoOf xs, onlyD r with
    | some s0, some cs => match g (.s :: cs) s0 with
      | some (.d x, _) => some (.d x, s)
      | some (.f x, _) => some (.f x, s)
      | _ => none
    | _, _ => none
  | _ => none
section
variable {K : PySem.W.Frag} {sp : Option Addr} {fz fz1 : Fz} {H H1 : Hp} {sto : Sto}
theorem ints_vals : ∀ {vs : List V} {xs : List PyData} {s0 : Sto}, ImA K fz H vs xs → stoOf xs = some s0 → vs = s0.map V.int
  | _, _, _, .nil, e => by cases e; rfl
  | _, _, _, .cons (d := d) h t, e => by
    cases d with
    | int i =>
      cases h
      unfold stoOf at e
      obtain ⟨s1, e1, rfl⟩ := Option.map_eq_some_iff.mp e
      rw [List.map_cons, ints_vals t e1]
    | none => cases e
    | bool _ => cases e
    | str _ => cases e
    | list _ => cases e
    | tuple _ => cases e
    | dict _ => cases e
theorem onlyD_args {q : Option Addr} : ∀ {vs : List V} {rs : List R} {cs : List Cl}, ImRs K sp H fz1 H1 vs rs → onlyD rs = some cs → Paired (ArgOk K fz1 q H1) vs cs
  | _, _, _, .nil, e => by cases e; exact .nil
  | _, _, _, .cons (b := r) h t, e => by
    cases r with
    | d x =>
      unfold onlyD at e
      obtain ⟨c1, e1, rfl⟩ := Option.map_eq_some_iff.mp e
      exact .cons h (onlyD_args t e1)
    | f _ => cases e
    | b _ => cases e
    | s => cases e
    | m _ => cases e
    | t _ => cases e
    | n _ => cases e
    | u _ => cases e
    | h l => cases e
end
theorem rd_callN {K : PySem.W.Frag} {n : Nat} {g : Fx} {m : Ma} {σ : L2.St} {H : Hp} {Q : VK} (hn : ∀ cs s r, g cs s = some r → cs.length = n) (h : rdE K (mCallN g m) σ H Q) : tCallG (spOf K n g) (rdA K m) σ H Q := by
  obtain ⟨C, fz, ρ, sto, z, sto', F, e, k⟩ := h
  obtain ⟨rs, s1, ea, e1⟩ := bnd_some e
  clear e
  refine ⟨C, fz, ρ, sto, rs, s1, F, ea, fun vs fz1 H1 st1 l1 i1 => ?_⟩
  have B1 : Bs C.sp fz1 H1 s1 := F.bs.step st1 l1
  cases i1 with
  | nil => cases e1
  | @cons v r0 ws rs h t =>
    cases r0 with
    | f xs =>
      dsimp only at e1
      split at e1
      · rename_i s0 cs e2 e3
        obtain ⟨p, us, rfl, h1, h2, h3, h4, h5⟩ := h
        have eus := ints_vals h2 e2
        subst eus
        have args : Paired (ArgOk K fz1 (some p) H1) (V.ref p :: ws) (Cl.s :: cs) := .cons ⟨p, rfl, rfl⟩ (onlyD_args t e3)
        have B2 : Bs (some p) fz1 H1 s0 := ⟨fun a ea => by cases ea; exact h1, fun a ea => by cases ea; exact h3, B1.trk, B1.tab⟩
        have back : ∀ {fz2 : Fz} {H2 : Hp}, Stp (some p) fz1 H1 fz2 H2 → Stp C.sp fz1 H1 fz2 H2 → True := fun _ _ => trivial
        have st2 : ∀ {fz2 : Fz} {H2 : Hp}, Stp (some p) fz1 H1 fz2 H2 → Stp C.sp fz H fz2 H2 ∧ SpL C.sp H2 s1 := fun {fz2 H2} t2 => by
          have np : ∀ a, a ≠ p → some a ≠ some p := fun a n z => n (Option.some.inj z)
          have lz : ∀ a, C.sp = some a → H2 a = H1 a := fun a ea => by
            rw [l1 a ea]
            exact t2.ext a _ (l1 a ea) (np a fun z => h4 (by rw [← z, ea]))
          refine ⟨⟨fun a q => t2.mono a (st1.mono a q), fun a o q n nt => ?_, fun a ps q n => ?_, fun a q => ?_, fun t a q => t2.trk (st1.trk t) a q, fun _ a ea => ⟨_, (lz a ea).trans (l1 a ea), .lst⟩, fun q z => t2.tab (fun a ea => by cases ea; exact ⟨_, h1, .lst⟩) (st1.tab q z)⟩, fun a ea => (lz a ea).trans (l1 a ea)⟩
          · exact t2.ext a o (st1.ext a o q n nt) (np a (ne_of_none q h5)) nt
          · obtain ⟨ps', e⟩ := st1.tb a ps q n
            exact t2.tb a ps' e (np a (ne_of_none q h5))
          · rcases t2.new a q with q | ⟨_, q⟩
            · exact st1.new a q
            · have n : some a ≠ C.sp := l1.ne q (by intro z; cases z)
              exact .inr ⟨n, st1.back n q⟩
        split at e1
        · rename_i x s2 eg
          cases e1
          exact ⟨some p, fz1, _, s0, .d x, s2, hn _ _ _ eg, args, B2, eg, fun v fz3 H3 st3 l3 i3 => k v fz3 H3 (st2 st3).1 (st2 st3).2 i3⟩
        · rename_i x s2 eg
          cases e1
          refine ⟨some p, fz1, _, s0, .f x, s2, hn _ _ _ eg, args, B2, eg, fun v fz3 H3 st3 l3 i3 => k v fz3 H3 (st2 st3).1 (st2 st3).2 ?_⟩
          obtain ⟨a, us, rfl, g1, g2, g3, g4, g5⟩ := i3
          have n : some a ≠ C.sp := l1.ne g5 (by intro z; cases z)
          exact ⟨a, us, rfl, g1, g2, g3, n, st1.back n g5⟩
        · cases e1
      · cases e1
    | d _ => cases e1
    | b _ => cases e1
    | s => cases e1
    | m _ => cases e1
    | t _ => cases e1
    | n _ => cases e1
    | u _ => cases e1
    | h l => cases e1
section
variable {X : Cx} {k k2 : Nat} {f : Addr} {fd : FuncData} {ps : List Str} {x : Str} {p pos : Pos} {e : Expr} {es : List Expr} {m : Ma} {n : Nat} {g : Fx}
theorem se_callN (F : FnG X.prog X.w X.K X.mg X.base k f fd ps (spOf X.K n g)) (hr : Room k2 X.A) (hgd : X.A.guards = some []) (hm : X.mg x = some (.ref f)) (hk : PySem.W.keepIn X.K (.ref f) = true) (hb : Binds X.K fd ps []) (ha : SA X (e :: es) m)
    (hkk : k ≤ k2 := by omega) (hn : ∀ cs s r, g cs s = some r → cs.length = n := by first | exact run'_len | assumption) (hg : Gl X x := by rfl)
    (hdb : (x == ("__debug__" : Str)) = false := by decide) (he : starEach (e :: es) X.env = (false, eval e X.env) :: starEach es X.env := by rfl) (hpl : (backTo pos (starEach es X.env)).any (·.1) = false := by rfl) :
    SE X (.Call (.Name x p) (e :: es) [] pos) (mCallN g m) := PE.imp (pe_callG F (hr.mono hkk) hgd hm hk hb ha hg hdb he hpl) fun _ _ _ h => rd_callN hn h
end
end Dh
namespace Dh
open PySem PySem.Spec L2 PySem.W PyProof.Rows
end Dh
namespace Dh
open PySem PySem.Spec L2 PySem.W PyProof.Rows
/-- a scalar, as the text has it -/
def scaB (u : Value) (d : PyData) : Bool := match d, u with
  | .int i, .int j _ => decide (i = j)
  | .str x, .str y _ => decide (x = y)
  | .bool a, .bool b => a == b
  | .none, .none => true
  | _, _ => false
def scaV : PyData → V
  | .int i => .int i
  | .str x => .str x
  | .bool a => .bl a
  | _ => .non
theorem scaB_ok {u : Value} {d : PyData} (h : scaB u d = true) : RelV (scaV d) u ∧ ∀ (K : PySem.W.Frag) (fz : Fz) (H : Hp), Im K fz H (scaV d) d := by
  unfold scaB at h
  split at h
  · have := of_decide_eq_true h; subst this; exact ⟨⟨_, rfl⟩, fun _ _ _ => .int _⟩
  · have := of_decide_eq_true h; subst this; exact ⟨⟨_, rfl⟩, fun _ _ _ => .str _⟩
  · have := eq_of_beq h; subst this; exact ⟨rfl, fun _ _ _ => .bl _⟩
  · exact ⟨rfl, fun _ _ _ => .non⟩
  · cases h
def scasB : List Value → List PyData → Bool
  | [], [] => true
  | u :: us, d :: ds => scaB u d && scasB us ds
  | _, _ => false
theorem scasB_ok : ∀ {us : List Value} {ds : List PyData}, scasB us ds = true → Vals (ds.map scaV) us ∧ ∀ (K : PySem.W.Frag) (fz : Fz) (H : Hp), ImA K fz H (ds.map scaV) ds
  | [], [], _ => ⟨.nil, fun _ _ _ => .nil⟩
  | [], _ :: _, h => by cases h
  | _ :: _, [], h => by cases h
  | u :: us, d :: ds, h => by
    obtain ⟨h1, h2⟩ := Bool.and_eq_true_iff.mp (show (scaB u d && scasB us ds) = true from h)
    obtain ⟨a1, a2⟩ := scaB_ok h1
    obtain ⟨b1, b2⟩ := scasB_ok h2
    exact ⟨.cons a1 b1, fun K fz H => .cons (a2 K fz H) (b2 K fz H)⟩
/-- a constant of the text: a scalar, or a tuple of scalars -/
def conB (K : PySem.W.Frag) (x : Str) (d : PyData) : Bool := match PySem.W.nsIn K mainGlobals x with
  | some (some u) => (match d, u with
    | .tuple ds, .ref a => (match K.lookup a with
      | some ⟨.type c, none, .seq its _, _⟩ => decide (c = "tuple") && (decide (its.size ≤ sizeLine) && scasB its.toList ds)
      | _ => false)
    | d, u => scaB u d)
  | _ => false
theorem conB_ok {K : PySem.W.Frag} {h : Heap} {mg : Str → Option Value} (X : K.In h) (G : h.Ns mainGlobals mg) {x : Str} {d : PyData} (c : conB K x d = true) : GlK K mg x d := by
  unfold conB at c
  cases e : PySem.W.nsIn K mainGlobals x with
  | none => rw [e] at c; cases c
  | some o =>
    rw [e] at c
    cases o with
    | none => cases c
    | some u =>
      have hm := PySem.W.mg_of X G e
      dsimp only at c
      split at c
      · rename_i ds a
        cases q : K.lookup a with
        | none => rw [q] at c; cases c
        | some o =>
          obtain ⟨oc, od, dt, osl⟩ := o
          rw [q] at c
          cases oc with
          | type t =>
            cases od with
            | none =>
              cases dt with
              | seq its n =>
                obtain ⟨h1, h2⟩ := Bool.and_eq_true_iff.mp (show (decide (t = "tuple") && (decide (its.size ≤ sizeLine) && scasB its.toList ds)) = true from c)
                obtain ⟨h3, h4⟩ := Bool.and_eq_true_iff.mp h2
                obtain ⟨b1, b2⟩ := scasB_ok h4
                exact ⟨⟨.ref a, _, hm, rfl, fun fz H => .tup (.inr ⟨_, its, n, q, congrArg Value.type (of_decide_eq_true h1), rfl, rfl, of_decide_eq_true h3, b1⟩) (b2 K fz H)⟩⟩
              | _ => cases c
            | some _ => cases dt <;> cases c
          | _ => cases od <;> cases dt <;> cases c
      · obtain ⟨a1, a2⟩ := scaB_ok c
        exact ⟨⟨scaV d, _, hm, a1, fun fz H => a2 K fz H⟩⟩
/-- a name that stands for a built-in -/
def bltB (K : PySem.W.Frag) (x : Str) (b : String) : Bool := He.eqO (PySem.W.nsIn K mainGlobals x) (some (some (.builtin b)))
theorem bltB_ok {K : PySem.W.Frag} {h : Heap} {mg : Str → Option Value} (X : K.In h) (G : h.Ns mainGlobals mg) {x : Str} {b : String} (c : bltB K x b = true) : mg x = some (.builtin b) := PySem.W.mg_of X G (He.eqO_ok c)
/-- sys has no limit of its own for texts of numbers -/
def digB (K : PySem.W.Frag) : Bool := He.eqO (PySem.W.nsIn K cStatics "sys.int_max_str_digits") (some none)
/-- the constants and the built-ins under other names -/
def cksB (K : PySem.W.Frag) (cs : List (Str × PyData)) (bs : List (Str × String)) : Bool := ((cs.all fun c => conB K c.1 c.2) && bs.all fun b => bltB K b.1 b.2) && digB K
/-- the head's look: functions, facts, constants -/
abbrev AlM : Type := Bool × He.Al
def obsM (cs : List (Str × PyData)) (bs : List (Str × String)) (fa : List He.Fa) (fn : List He.FnD) (K : PySem.W.Frag) : AlM := (cksB K cs bs, He.obsE fa fn K)
structure SaysM (cs : List (Str × PyData)) (bs : List (Str × String)) (fa : List He.Fa) (fn : List He.FnD) (K : PySem.W.Frag) : Prop where
  ck : cksB K cs bs = true
  sy : He.SaysE fa fn K
section
variable {cs : List (Str × PyData)} {bs : List (Str × String)} {fa : List He.Fa} {fn : List He.FnD} {K : PySem.W.Frag} {h : Heap} {mg : Str → Option Value}
theorem SaysM.con (c : SaysM cs bs fa fn K) (X : K.In h) (G : h.Ns mainGlobals mg) (i : Nat) {x : Str} {d : PyData} (e : cs[i]? = some (x, d) := by rfl) : GlK K mg x d :=
  conB_ok X G (List.all_eq_true.mp (Bool.and_eq_true_iff.mp (Bool.and_eq_true_iff.mp (show (((cs.all fun c => conB K c.1 c.2) && bs.all fun b => bltB K b.1 b.2) && digB K) = true from c.ck)).1).1 _ (List.mem_of_getElem? e))
theorem SaysM.blt (c : SaysM cs bs fa fn K) (X : K.In h) (G : h.Ns mainGlobals mg) (i : Nat) {x : Str} {b : String} (e : bs[i]? = some (x, b) := by rfl) : mg x = some (.builtin b) :=
  bltB_ok X G (List.all_eq_true.mp (Bool.and_eq_true_iff.mp (Bool.and_eq_true_iff.mp (show (((cs.all fun c => conB K c.1 c.2) && bs.all fun b => bltB K b.1 b.2) && digB K) = true from c.ck)).1).2 _ (List.mem_of_getElem? e))
/-- the function that stands at a name -/
def fdAt (K : PySem.W.Frag) (x : Str) : FuncData := match K.lookup (He.ga K x) with
  | some ⟨_, _, .func fd, _⟩ => fd
  | _ => PySem.W.fnOf x x ⟨[], [], none, [], [], none, []⟩ [] ⟨.function, [], false, false, []⟩ .none .none .none .none none .none .none
def fnD (x : Str) (st : Stmt) : He.FnD := ⟨(x, none), x, x, defArgs st, defBody st, defScope st⟩
theorem SaysM.func (c : SaysM cs bs fa fn K) (i j : Nat) {x : Str} {st : Stmt} (e : fn[i]? = some (fnD x st) := by rfl) (ek : fa[j]? = some (.keep x) := by rfl) : Fun K x x st (He.ga K x) (fdAt K x) := by
  obtain ⟨oc, od, osl, kV, doc, pm, an, cdv, ct, h1, h2⟩ := c.sy.def_ i e
  have kp := He.keep_ok (c.sy.fact j ek)
  have h3 : K.lookup (He.ga K x) = some ⟨oc, od, .func (PySem.W.fnOf x x (defArgs st) (defBody st) (defScope st) .none kV doc pm an cdv ct), osl⟩ := h1
  have e2 : fdAt K x = PySem.W.fnOf x x (defArgs st) (defBody st) (defScope st) .none kV doc pm an cdv ct := by
    unfold fdAt
    rw [h3]
  rw [e2]
  exact fun_mk h3 h2 kp
end
end Dh
namespace Dh
open PySem PySem.Spec L2 PySem.W
variable [LawT]
section
variable {α β : Type} {ρ : Ev} {s : Sto} {i j k : Nat} {a b : Mx} {ta tb : Mt} {as : Ma} {x y : R} {d e : PyData} {ma mb : Ms}
@[simp] theorem ev_bnd {a : Ev → Sto → Option (α × Sto)} {f : α → Ev → Sto → Option (β × Sto)} : bnd a f ρ s = (match a ρ s with | some (x, s1) => f x ρ s1 | none => none) := rfl
@[simp] theorem ev_ret {x : Option α} : ret x s = (match x with | some y => some (y, s) | none => none) := rfl
@[simp] theorem ev_m1 {f : R → Option R} : m1 f a ρ s = (match a ρ s with | some (x, s1) => ret (f x) s1 | none => none) := by
  unfold m1 bnd
  rcases a ρ s with _ | ⟨_, _⟩ <;> rfl
@[simp] theorem ev_m2 {f : R → R → Option R} : m2 f a b ρ s = (match a ρ s with | some (x, s1) => (match b ρ s1 with | some (y, s2) => ret (f x y) s2 | none => none) | none => none) := by
  unfold m2 bnd
  rcases a ρ s with _ | ⟨_, s1⟩
  · rfl
  · dsimp only
    rcases b ρ s1 with _ | ⟨_, _⟩ <;> rfl
@[simp] theorem ev_mA {f : List R → Option R} : mA f as ρ s = (match as ρ s with | some (x, s1) => ret (f x) s1 | none => none) := by
  unfold mA bnd
  rcases as ρ s with _ | ⟨_, _⟩ <;> rfl
@[simp] theorem ev_maNil : maNil ρ s = some ([], s) := rfl
@[simp] theorem ev_maCons : maCons a as ρ s = (match a ρ s with | some (x, s1) => (match as ρ s1 with | some (xs, s2) => some (x :: xs, s2) | none => none) | none => none) := by
  unfold maCons bnd
  rcases a ρ s with _ | ⟨_, s1⟩
  · rfl
  · dsimp only
    rcases as ρ s1 with _ | ⟨_, _⟩ <;> rfl
@[simp] theorem ev_mVar : mVar i ρ s = (match ρ[i]? with | some (some c) => some (rdCl c, s) | _ => none) := rfl
@[simp] theorem ev_mKon : mKon d ρ s = some (.d d, s) := rfl
@[simp] theorem ev_rdCl_d : rdCl (.d d) = .d d := rfl
@[simp] theorem ev_rdCl_s : rdCl .s = .s := rfl
@[simp] theorem ev_rdCl_o {xs : List PyData} : rdCl (.o xs) = .b xs := rfl
@[simp] theorem ev_bT : bT a ρ s = (match a ρ s with | some (.d (.bool k), s1) => some (k, s1) | _ => none) := by
  unfold bT bnd
  cases a ρ s with
  | none => rfl
  | some p =>
    obtain ⟨x, s1⟩ := p
    cases x with
    | d z => cases z <;> rfl
    | f _ => rfl
    | b _ => rfl
    | s => rfl
    | m _ => rfl
    | t _ => rfl
    | n _ => rfl
    | u _ => rfl
    | h _ => rfl
@[simp] theorem ev_fI {g : Int → Int → Option PyData} {i j : Int} : fI g (.d (.int i)) (.d (.int j)) = (g i j).map .d := rfl
@[simp] theorem ev_gMns {i j : Int} : gMns i j = some (.int (i - j)) := rfl
@[simp] theorem ev_gLt {i j : Int} : gLt i j = some (.bool (decide (i < j))) := rfl
@[simp] theorem ev_gLe {i j : Int} : gLe i j = some (.bool (decide (i ≤ j))) := rfl
@[simp] theorem ev_gGt {i j : Int} : gGt i j = some (.bool (decide (j < i))) := rfl
@[simp] theorem ev_gGe {i j : Int} : gGe i j = some (.bool (decide (j ≤ i))) := rfl
@[simp] theorem ev_fNeg {i : Int} : fNeg (.d (.int i)) = some (.d (.int (-i))) := rfl
@[simp] theorem ev_fNot {k : Bool} : fNot (.d (.bool k)) = some (.d (.bool (!k))) := rfl
@[simp] theorem ev_rdL1 {xs : List PyData} : rdL (.d (.list xs)) = some xs := rfl
@[simp] theorem ev_rdL2 {xs : List PyData} : rdL (.f xs) = some xs := rfl
@[simp] theorem ev_rdL3 {xs : List PyData} : rdL (.b xs) = some xs := rfl
@[simp] theorem ev_rdQ1 {xs : List PyData} : rdQ (.d (.list xs)) = some xs := rfl
@[simp] theorem ev_rdQ2 {xs : List PyData} : rdQ (.f xs) = some xs := rfl
@[simp] theorem ev_rdQ3 {xs : List PyData} : rdQ (.b xs) = some xs := rfl
@[simp] theorem ev_rdQ4 {xs : List PyData} : rdQ (.d (.tuple xs)) = some xs := rfl
@[simp] theorem ev_rdD1 : rdD (.d d) = some d := rfl
@[simp] theorem ev_rdD2 {xs : List PyData} : rdD (.f xs) = some (.list xs) := rfl
@[simp] theorem ev_rdD3 {xs : List PyData} : rdD (.b xs) = some (.list xs) := rfl
@[simp] theorem ev_toD1 : toD (.d d) = some d := rfl
@[simp] theorem ev_toD2 {xs : List PyData} : toD (.f xs) = some (.list xs) := rfl
@[simp] theorem ev_toDs0 : toDs [] = some [] := rfl
@[simp] theorem ev_toDs1 {rs : List R} : toDs (x :: rs) = (match toD x, toDs rs with | some x, some xs => some (x :: xs) | _, _ => none) := rfl
@[simp] theorem ev_toCl1 : toCl (.d d) = some (.d d) := rfl
@[simp] theorem ev_toCl2 {xs : List PyData} : toCl (.f xs) = some (.o xs) := rfl
@[simp] theorem ev_toCl3 : toCl .s = some .s := rfl
@[simp] theorem ev_toArg1 : toArg (.d d) = some (.d d) := rfl
@[simp] theorem ev_toArg2 {xs : List PyData} : toArg (.f xs) = some (.d (.list xs)) := rfl
@[simp] theorem ev_toArg3 : toArg .s = some .s := rfl
@[simp] theorem ev_toArgs0 : toArgs [] = some [] := rfl
@[simp] theorem ev_toArgs1 {rs : List R} : toArgs (x :: rs) = (match toArg x, toArgs rs with | some x, some xs => some (x :: xs) | _, _ => none) := rfl
@[simp] theorem ev_mCall {g : Fx} : mCall g as ρ s = (match as ρ s with | some (rs, s1) => (match toArgs rs with | some cs => g cs s1 | none => none) | none => none) := by
  unfold mCall bnd
  rcases as ρ s with _ | ⟨_, _⟩ <;> rfl
@[simp] theorem ev_tAnd2 : tAnd2 ta tb ρ s = (match ta ρ s with | some (true, s1) => tb ρ s1 | some (false, s1) => some (false, s1) | none => none) := by
  unfold tAnd2 bnd
  rcases ta ρ s with _ | ⟨_ | _, _⟩ <;> rfl
@[simp] theorem ev_tOr2 : tOr2 ta tb ρ s = (match ta ρ s with | some (false, s1) => tb ρ s1 | some (true, s1) => some (true, s1) | none => none) := by
  unfold tOr2 bnd
  rcases ta ρ s with _ | ⟨_ | _, _⟩ <;> rfl
@[simp] theorem ev_tNot2 : tNot2 ta ρ s = (match ta ρ s with | some (k, s1) => some (!k, s1) | none => none) := by
  unfold tNot2 bnd
  rcases ta ρ s with _ | ⟨_, _⟩ <;> rfl
@[simp] theorem ev_mIf : mIf ta a b ρ s = (match ta ρ s with | some (true, s1) => a ρ s1 | some (false, s1) => b ρ s1 | none => none) := by
  unfold mIf bnd
  rcases ta ρ s with _ | ⟨_ | _, _⟩ <;> rfl
@[simp] theorem ev_mAnd : mAnd a b ρ s = (match a ρ s with | some (.d (.bool true), s1) => b ρ s1 | some (.d (.bool false), s1) => some (.d (.bool false), s1) | _ => none) := by
  unfold mAnd bnd
  cases a ρ s with
  | none => rfl
  | some p =>
    obtain ⟨x, s1⟩ := p
    cases x with
    | d z =>
      cases z with
      | bool k => cases k <;> rfl
      | _ => rfl
    | f _ => rfl
    | b _ => rfl
    | s => rfl
    | m _ => rfl
    | t _ => rfl
    | n _ => rfl
    | u _ => rfl
    | h _ => rfl
@[simp] theorem ev_mOr : mOr a b ρ s = (match a ρ s with | some (.d (.bool false), s1) => b ρ s1 | some (.d (.bool true), s1) => some (.d (.bool true), s1) | _ => none) := by
  unfold mOr bnd
  cases a ρ s with
  | none => rfl
  | some p =>
    obtain ⟨x, s1⟩ := p
    cases x with
    | d z =>
      cases z with
      | bool k => cases k <;> rfl
      | _ => rfl
    | f _ => rfl
    | b _ => rfl
    | s => rfl
    | m _ => rfl
    | t _ => rfl
    | n _ => rfl
    | u _ => rfl
    | h _ => rfl
@[simp] theorem ev_mSeq : mSeq ma mb ρ s = (match ma ρ s with | some (.nx, ρ1, s1) => mb ρ1 s1 | some r => some r | none => none) := rfl
@[simp] theorem ev_mNil : mNil ρ s = some (.nx, ρ, s) := rfl
@[simp] theorem ev_mIfS : mIfS ta ma mb ρ s = (match ta ρ s with | some (true, s1) => ma ρ s1 | some (false, s1) => mb ρ s1 | none => none) := rfl
@[simp] theorem ev_mRet : mRet a ρ s = (match a ρ s with | some (.d x, s1) => some (.rt (.d x), ρ, s1) | some (.f xs, s1) => some (.rt (.f xs), ρ, s1) | _ => none) := rfl
@[simp] theorem ev_mRetV : mRetV i ρ s = (match ρ[i]? with | some (some (.d x)) => some (.rt (.d x), ρ, s) | some (some (.o xs)) => some (.rt (.f xs), ρ, s) | _ => none) := rfl
@[simp] theorem ev_mSet : mSet i a ρ s = (match a ρ s with | some (r, s1) => (match toCl r with | some c => some (.nx, ρ.set i (some c), s1) | none => none) | none => none) := rfl
@[simp] theorem ev_mYes : mYes ρ s = some (true, s) := rfl
@[simp] theorem ev_mFor {it : Mi} {g : Gx} : mFor it g ma ρ s = (match it ρ s with | some (xs, s1) => forRun g ma xs ρ s1 | none => none) := rfl
@[simp] theorem ev_mSeqI : mSeqI a ρ s = (match a ρ s with | some (x, s1) => ret (itemsOf x) s1 | none => none) := by
  unfold mSeqI bnd
  rcases a ρ s with _ | ⟨_, _⟩ <;> rfl
@[simp] theorem ev_mArgI {f : List R → Option (List PyData)} : mArgI f as ρ s = (match as ρ s with | some (x, s1) => ret (f x) s1 | none => none) := by
  unfold mArgI bnd
  rcases as ρ s with _ | ⟨_, _⟩ <;> rfl
@[simp] theorem ev_items1 {xs : List PyData} : itemsOf (.d (.list xs)) = some xs := rfl
@[simp] theorem ev_items2 {xs : List PyData} : itemsOf (.d (.tuple xs)) = some xs := rfl
@[simp] theorem ev_items3 {xs : List PyData} : itemsOf (.f xs) = some xs := rfl
@[simp] theorem ev_gN : gN i d ρ = some (ρ.set i (some (.d d))) := rfl
@[simp] theorem ev_gT {n : Nat} {g : Gxs} {xs : List PyData} : gT n g (.tuple xs) ρ = if xs.length = n then g xs ρ else none := rfl
@[simp] theorem ev_gsNil : gsNil [] ρ = some ρ := rfl
@[simp] theorem ev_gsCons {g : Gx} {r : Gxs} {xs : List PyData} : gsCons g r (d :: xs) ρ = (match g d ρ with | some ρ1 => r xs ρ1 | none => none) := rfl
@[simp] theorem ev_mIx : mIx a b ρ s = (match a ρ s with | some (x, s1) => (match b ρ s1 with | some (y, s2) => (match fIx s2 x y with | some z => some (z, s2) | none => none) | none => none) | none => none) := by
  unfold mIx bnd
  rcases a ρ s with _ | ⟨_, s1⟩
  · rfl
  · dsimp only
    rcases b ρ s1 with _ | ⟨_, _⟩ <;> rfl
@[simp] theorem ev_fIxT {xs : List PyData} {i : Int} : fIx s (.d (.tuple xs)) (.d (.int i)) = (atI xs i).map R.d := by
  show (match rdQ (.d (.tuple xs)) with | some xs => (atI xs i).map R.d | none => none) = _
  rfl
@[simp] theorem ev_fIxL {xs : List PyData} {i : Int} : fIx s (.d (.list xs)) (.d (.int i)) = (atI xs i).map R.d := rfl
@[simp] theorem ev_fIxB {xs : List PyData} {i : Int} : fIx s (.b xs) (.d (.int i)) = (atI xs i).map R.d := rfl
@[simp] theorem ev_fIxF {xs : List PyData} {i : Int} : fIx s (.f xs) (.d (.int i)) = (atI xs i).map R.d := rfl
@[simp] theorem ev_fIxS {i : Int} : fIx s .s (.d (.int i)) = (atI s i).map fun j => .d (.int j) := rfl
@[simp] theorem ev_atI0 {x : α} {xs : List α} : atI (x :: xs) 0 = some x := by
  unfold atI ixN
  simp
@[simp] theorem ev_atI1 {x y : α} {xs : List α} : atI (x :: y :: xs) 1 = some y := by
  have h : (1 : Int) < (xs.length : Int) + 1 + 1 := by omega
  unfold atI ixN
  simp [h]
@[simp] theorem ev_atI2 {x y z : α} {xs : List α} : atI (x :: y :: z :: xs) 2 = some z := by
  have h : (2 : Int) < (xs.length : Int) + 1 + 1 + 1 := by omega
  unfold atI ixN
  simp [h]
@[simp] theorem ev_fLen : fLen [x] = (rdQ x).map fun xs => .d (.int xs.length) := rfl
@[simp] theorem ev_fIsi {T : String} : fIsi T x = (rdD x).map fun d => .d (.bool (isA T d)) := rfl
@[simp] theorem ev_fTup {rs : List R} : fTup rs = (match toDs rs with | some xs => if xs.length ≤ sizeLine then some (.d (.tuple xs)) else none | none => none) := rfl
@[simp] theorem ev_fLst {rs : List R} : fLst rs = (match toDs rs with | some xs => if xs.length ≤ sizeLine then some (.f xs) else none | none => none) := rfl
@[simp] theorem ev_fGcd {i j : Int} : fGcd [.d (.int i), .d (.int j)] = some (.d (.int ((Nat.gcd i.natAbs j.natAbs : Nat) : Int))) := rfl
@[simp] theorem ev_fAbs {i : Int} : fAbs [.d (.int i)] = some (.d (.int (if i < 0 then -i else i))) := rfl
@[simp] theorem ev_fInt {i : Int} : fInt [.d (.int i)] = some (.d (.int i)) := rfl
@[simp] theorem ev_fTupOf1 {xs : List PyData} : fTupOf [.f xs] = some (.d (.tuple xs)) := rfl
@[simp] theorem ev_fTupOf2 {xs : List PyData} : fTupOf [.b xs] = some (.d (.tuple xs)) := rfl
@[simp] theorem ev_fTupOf3 {xs : List PyData} : fTupOf [.d (.list xs)] = some (.d (.tuple xs)) := rfl
@[simp] theorem ev_fTupOf4 {xs : List PyData} : fTupOf [.d (.tuple xs)] = some (.d (.tuple xs)) := rfl
@[simp] theorem ev_fAddI {i j : Int} : fAdd (.d (.int i)) (.d (.int j)) = some (.d (.int (i + j))) := rfl
@[simp] theorem ev_fAddT {xs ys : List PyData} : fAdd (.d (.tuple xs)) (.d (.tuple ys)) = if xs.length + ys.length ≤ sizeLine then some (.d (.tuple (xs ++ ys))) else none := rfl
@[simp] theorem ev_fMulI {i j : Int} : fMul (.d (.int i)) (.d (.int j)) = if mulOk i j = true then some (.d (.int (i * j))) else none := rfl
@[simp] theorem ev_mCnt : mCnt ρ s = some (.ct, ρ, s) := rfl
@[simp] theorem ev_mRetN : mRetN ρ s = some (.rt (.d .none), ρ, s) := rfl
@[simp] theorem ev_forNil {g : Gx} : forRun g ma [] ρ s = some (.nx, ρ, s) := rfl
@[simp] theorem ev_lcNil {vs : List Nat} {g : Gx} : lcRun vs g ta a [] ρ s = some ([], s) := rfl
@[simp] theorem ev_mFrz {is : List Nat} : mFrz is ma ρ s = ma (frzs ρ is) s := rfl
@[simp] theorem ev_wipe0 : wipeE ρ [] = ρ := rfl
@[simp] theorem ev_wipe1 {v : Nat} {vs : List Nat} : wipeE ρ (v :: vs) = (wipeE ρ vs).set v none := rfl
@[simp] theorem ev_isA_int_int {i : Int} : isA "int" (.int i) = true := rfl
@[simp] theorem ev_isA_int_bool {k : Bool} : isA "int" (.bool k) = true := rfl
@[simp] theorem ev_isA_int_none : isA "int" .none = false := rfl
@[simp] theorem ev_isA_int_str {x : Str} : isA "int" (.str x) = false := rfl
@[simp] theorem ev_isA_int_list {xs : List PyData} : isA "int" (.list xs) = false := rfl
@[simp] theorem ev_isA_int_tuple {xs : List PyData} : isA "int" (.tuple xs) = false := rfl
@[simp] theorem ev_isA_int_dict {xs : List (PyData × PyData)} : isA "int" (.dict xs) = false := rfl
@[simp] theorem ev_isA_bool_int {i : Int} : isA "bool" (.int i) = false := rfl
@[simp] theorem ev_isA_bool_bool {k : Bool} : isA "bool" (.bool k) = true := rfl
@[simp] theorem ev_isA_bool_none : isA "bool" .none = false := rfl
@[simp] theorem ev_isA_bool_str {x : Str} : isA "bool" (.str x) = false := rfl
@[simp] theorem ev_isA_bool_list {xs : List PyData} : isA "bool" (.list xs) = false := rfl
@[simp] theorem ev_isA_bool_tuple {xs : List PyData} : isA "bool" (.tuple xs) = false := rfl
@[simp] theorem ev_isA_bool_dict {xs : List (PyData × PyData)} : isA "bool" (.dict xs) = false := rfl
@[simp] theorem ev_isA_tuple_int {i : Int} : isA "tuple" (.int i) = false := rfl
@[simp] theorem ev_isA_tuple_bool {k : Bool} : isA "tuple" (.bool k) = false := rfl
@[simp] theorem ev_isA_tuple_none : isA "tuple" .none = false := rfl
@[simp] theorem ev_isA_tuple_str {x : Str} : isA "tuple" (.str x) = false := rfl
@[simp] theorem ev_isA_tuple_list {xs : List PyData} : isA "tuple" (.list xs) = false := rfl
@[simp] theorem ev_isA_tuple_tuple {xs : List PyData} : isA "tuple" (.tuple xs) = true := rfl
@[simp] theorem ev_isA_tuple_dict {xs : List (PyData × PyData)} : isA "tuple" (.dict xs) = false := rfl
end
end Dh
namespace Dh
open PySem PySem.Spec L2
end Dh
namespace Dh
open PySem PySem.Spec L2
variable [LawT]
def lcRun2 (vs vs1 : List Nat) (g : Gx) (t : Mt) (it1 : Mi) (g1 : Gx) (t1 : Mt) (e : Mx) : List PyData → Ev → Sto → Option (List PyData × Sto)
  | [] => fun _ s => some ([], s)
  | x :: xs => fun ρ s => match g x (wipeE ρ vs) with
    | none => none
    | some ρ1 => match t ρ1 s with
      | none => none
      | some (false, s1) => lcRun2 vs vs1 g t it1 g1 t1 e xs ρ s1
      | some (true, s1) => match it1 ρ1 s1 with
        | none => none
        | some (zs, s2) => match lcRun vs1 g1 t1 e zs ρ1 s2 with
          | none => none
          | some (ys, s3) => match lcRun2 vs vs1 g t it1 g1 t1 e xs ρ s3 with
            | none => none
            | some (ys', s4) => some (ys ++ ys', s4)
def mLc2 (it : Mi) (vs : List Nat) (g : Gx) (t : Mt) (it1 : Mi) (vs1 : List Nat) (g1 : Gx) (t1 : Mt) (e : Mx) : Mx := fun ρ s => match it ρ s with
  | some (xs, s1) => match lcRun2 vs vs1 g t it1 g1 t1 e xs ρ s1 with
    | some (ys, s2) => if ys.length ≤ sizeLine then some (.f ys, s2) else none
    | none => none
  | none => none
end Dh
namespace Dh
open PySem PySem.Spec L2
variable [LawT]
def fIn (neg : Bool) : R → R → Option R := fun x y => match rdD x, y with
  | some d, .d (.tuple ds) => if eqOk d = true ∧ eqOk (.tuple ds) = true then some (.d (.bool (if neg then !(ds.any fun z => PyData.eqv z d) else ds.any fun z => PyData.eqv z d))) else none
  | some d, y => match rdL y with
    | some ds => if eqOk d = true ∧ eqOk (.list ds) = true then some (.d (.bool (if neg then !(ds.any fun z => PyData.eqv z d) else ds.any fun z => PyData.eqv z d))) else none
    | none => none
  | _, _ => none
def rInT (K : PySem.W.Frag) (neg : Bool) : R2 := fun x y H Q => ∃ d ds, Dp K H x d ∧ Dp K H y (.tuple ds) ∧ SeqAt.shaped d = true ∧ SeqAt.shaped (.tuple ds) = true ∧ Q (.bl (if neg then !(ds.any fun z => PyData.eqv z d) else ds.any fun z => PyData.eqv z d)) H
section
variable {X : Cx}
theorem op_inT (hu : X.A.units + 65 < cLine) : OpR X (compareOp .In) (rInT X.K false) := by
  intro pins s σ H x y v u Q I rx ry h
  obtain ⟨d, ds, hd, he, sd, se, q⟩ := h
  obtain ⟨as, r1⟩ := Dp.reads I d x v hd rx
  obtain ⟨bs, r2⟩ := Dp.reads I (.tuple ds) y u he ry
  exact SeqAt.in_tuple_reads r2 r1 (SeqAt.canLay_of_shaped se) (SeqAt.canLay_of_shaped sd) (by have h1 := SeqAt.depth_of_shaped sd; have h2 := Nat.min_le_right (PyData.depthAll ds) d.depth; omega) ⟨.bl _, H, I, rfl, q⟩
theorem op_notInT (hu : X.A.units + 65 < cLine) : OpR X (compareOp .NotIn) (rInT X.K true) := by
  intro pins s σ H x y v u Q I rx ry h
  obtain ⟨d, ds, hd, he, sd, se, q⟩ := h
  obtain ⟨as, r1⟩ := Dp.reads I d x v hd rx
  obtain ⟨bs, r2⟩ := Dp.reads I (.tuple ds) y u he ry
  exact SeqAt.notIn_tuple_reads r2 r1 (SeqAt.canLay_of_shaped se) (SeqAt.canLay_of_shaped sd) (by have h1 := SeqAt.depth_of_shaped sd; have h2 := Nat.min_le_right (PyData.depthAll ds) d.depth; omega) ⟨.bl _, H, I, rfl, q⟩
def rInB (K : PySem.W.Frag) (neg : Bool) : R2 := fun x y H Q => (if neg then rNotInD K x y H Q else rInD K x y H Q) ∨ rInT K neg x y H Q
theorem op_inB (hu : X.A.units + 65 < cLine) : OpR X (compareOp .In) (rInB X.K false) := (op_inD hu).or (op_inT hu)
theorem op_notInB (hu : X.A.units + 65 < cLine) : OpR X (compareOp .NotIn) (rInB X.K true) := (op_notInD hu).or (op_notInT hu)
theorem eqOk_of2 {d : PyData} (h : eqOk d = true) : noDict d = true ∧ SeqAt.shaped d = true := by
  simpa [eqOk] using h
theorem rdL_rdD {y : R} {ds : List PyData} (h : rdL y = some ds) : rdD y = some (.list ds) := by
  unfold rdL at h
  split at h <;> first | (cases h; rfl) | cases h
theorem ok_in (neg : Bool) : Ok2 X.K (rInB X.K neg) (fIn neg) := by
  intro sp fz H H0 sto v w x y z Q B ix iy h k
  unfold fIn at h
  split at h
  · rename_i d ds hd
    split at h
    · rename_i hz
      cases h
      have a := eqOk_of2 hz.1
      have b := eqOk_of2 hz.2
      exact .inr ⟨d, ds, ix.dp hd a.1, iy.dp rfl b.1, a.2, b.2, k _ fz H .refl B.spl (.bl _)⟩
    · cases h
  · rename_i d hd _
    split at h
    · rename_i ds hl
      split at h
      · rename_i hz
        cases h
        have a := eqOk_of2 hz.1
        have b := eqOk_of2 hz.2
        cases neg with
        | true => exact .inl ⟨d, ds, ix.dp hd a.1, iy.dp (rdL_rdD hl) b.1, a.2, b.2, k _ fz H .refl B.spl (.bl _)⟩
        | false => exact .inl ⟨d, ds, ix.dp hd a.1, iy.dp (rdL_rdD hl) b.1, a.2, b.2, k _ fz H .refl B.spl (.bl _)⟩
      · cases h
    · cases h
  · cases h
theorem units65 {A : Around} {k : Nat} (hr : Room k A) : A.units + 65 < cLine := by
  have := hr.un
  omega
variable {a b : Expr} {ma mb : Mx} {pos : Pos}
theorem se_in {k : Nat} (hr : Room k X.A) (ha : SE X a ma) (hb : SE X b mb) (hm : behindInMarks .In b = false := by rfl) : SE X (.Compare a [.In] [b] pos) (m2 (fIn false) ma mb) := se_cmp (op_inB (units65 hr)) (ok_in false) ha hb hm
theorem sb_in {k : Nat} (hr : Room k X.A) (ha : SE X a ma) (hb : SE X b mb) (hm : behindInMarks .In b = false := by rfl) : SB X (.Compare a [.In] [b] pos) (bT (m2 (fIn false) ma mb)) := sb_cmp (op_inB (units65 hr)) (ok_in false) ha hb hm
theorem sb_notin {k : Nat} (hr : Room k X.A) (ha : SE X a ma) (hb : SE X b mb) (hm : behindInMarks .NotIn b = false := by rfl) : SB X (.Compare a [.NotIn] [b] pos) (bT (m2 (fIn true) ma mb)) := sb_cmp (op_notInB (units65 hr)) (ok_in true) ha hb hm
end
end Dh
namespace Dh
open PySem PySem.Spec L2
variable [LawT]
def putP (acc : List (Key × PyData)) (k : Key) (d : PyData) : List (Key × PyData) :=
  if (acc.any fun p => decide (p.1 = k)) = true then acc.map (fun p => if p.1 = k then (p.1, d) else p) else acc ++ [(k, d)]
def valP (acc : List (Key × PyData)) (k : Key) : Option PyData := (acc.find? fun p => decide (p.1 = k)).map (·.2)
def keyP : R → Option Key
  | .d (.int i) => some (.inl i)
  | .d (.str x) => some (.inr x)
  | _ => none
def kP : Key → PyData
  | .inl i => .int i
  | .inr x => .str x
def dOf (acc : List (Key × PyData)) : PyData := .dict (acc.map fun p => (kP p.1, p.2))
section
variable {K : PySem.W.Frag} {C : Cn} {sp : Option Addr} {fz fz1 : Fz} {ρ : Ev} {sto sto' : Sto} {σ : L2.St} {H H0 H1 : Hp}
theorem ImK.cons_inv {p : Key × V} {kvs : List (Key × V)} {acc : List (Key × PyData)} (h : ImK K fz H (p :: kvs) acc) : ∃ d acc', acc = (p.1, d) :: acc' ∧ Im K fz H p.2 d ∧ ImK K fz H kvs acc' := by
  obtain ⟨h1, h2⟩ := h
  cases acc with
  | nil => cases h1
  | cons q acc =>
    rw [List.map_cons, List.map_cons] at h1 h2
    cases h2 with
    | cons a b =>
      have e := List.cons.inj h1
      exact ⟨q.2, acc, by rw [e.1], a, e.2, b⟩
theorem ImK.any {k : Key} : ∀ {kvs : List (Key × V)} {acc : List (Key × PyData)}, ImK K fz H kvs acc → (kvs.any fun p => decide (p.1 = k)) = acc.any fun p => decide (p.1 = k)
  | [], acc, h => by
    have : acc = [] := List.map_eq_nil_iff.mp h.1.symm
    subst this; rfl
  | p :: kvs, acc, h => by
    obtain ⟨d, acc', rfl, _, h2⟩ := h.cons_inv
    rw [List.any_cons, List.any_cons, h2.any]
theorem ImK.over {k : Key} {v : V} {d : PyData} (i : Im K fz H v d) : ∀ {kvs : List (Key × V)} {acc : List (Key × PyData)}, ImK K fz H kvs acc → ImK K fz H (kvs.map fun kv => if kv.1 = k then (kv.1, v) else kv) (acc.map fun p => if p.1 = k then (p.1, d) else p)
  | [], acc, h => by
    have : acc = [] := List.map_eq_nil_iff.mp h.1.symm
    subst this; exact ⟨rfl, .nil⟩
  | p :: kvs, acc, h => by
    obtain ⟨e, acc', rfl, h1, h2⟩ := h.cons_inv
    obtain ⟨g1, g2⟩ := ImK.over i h2
    by_cases q : p.1 = k
    · refine ⟨?_, ?_⟩
      · simp only [List.map_cons, if_pos q]
        rw [g1]
      · simp only [List.map_cons, if_pos q]
        exact .cons i g2
    · refine ⟨?_, ?_⟩
      · simp only [List.map_cons, if_neg q]
        rw [g1]
      · simp only [List.map_cons, if_neg q]
        exact .cons h1 g2
theorem ImK.put {k : Key} {v : V} {d : PyData} {kvs : List (Key × V)} {acc : List (Key × PyData)} (h : ImK K fz H kvs acc) (i : Im K fz H v d) : ImK K fz H (putK kvs k v) (putP acc k d) := by
  unfold putK putP
  rw [h.any]
  split
  · exact ImK.over i h
  · refine ⟨?_, ?_⟩
    · rw [List.map_append, List.map_append, h.1]; rfl
    · rw [List.map_append, List.map_append]
      exact h.2.append (.cons i .nil)
theorem ImK.val {k : Key} : ∀ {kvs : List (Key × V)} {acc : List (Key × PyData)}, ImK K fz H kvs acc → (∀ v, valV kvs k = some v → ∃ d, valP acc k = some d ∧ Im K fz H v d) ∧ (valV kvs k = none → valP acc k = none)
  | [], acc, h => by
    have : acc = [] := List.map_eq_nil_iff.mp h.1.symm
    subst this; exact ⟨(fun v e => by cases e), fun _ => rfl⟩
  | p :: kvs, acc, h => by
    obtain ⟨d, acc', rfl, i, h2⟩ := h.cons_inv
    obtain ⟨g1, g2⟩ := h2.val (k := k)
    by_cases q : p.1 = k
    · refine ⟨fun v e => ?_, fun e => ?_⟩
      · rw [valV_pos q] at e
        cases e
        exact ⟨d, by simp [valP, q], i⟩
      · rw [valV_pos q] at e; cases e
    · refine ⟨fun v e => ?_, fun e => ?_⟩
      · rw [valV_neg q] at e
        obtain ⟨d', e1, e2⟩ := g1 v e
        exact ⟨d', by rw [← e1]; simp [valP, q], e2⟩
      · rw [valV_neg q] at e
        rw [← g2 e]
        simp [valP, q]
theorem ImK.stp (s : Stp sp fz H fz1 H1) (B : Bs sp fz H sto) {kvs : List (Key × V)} {acc : List (Key × PyData)} (h : ImK K fz H kvs acc) : ImK K fz1 H1 kvs acc := ⟨h.1, h.2.stp s B⟩
theorem ImK.sts (s : Sts sp fz H fz1 H1) (B : Bs sp fz H sto) {kvs : List (Key × V)} {acc : List (Key × PyData)} (h : ImK K fz H kvs acc) : ImK K fz1 H1 kvs acc := ⟨h.1, h.2.sts s B⟩
theorem ImK.len {kvs : List (Key × V)} {acc : List (Key × PyData)} (h : ImK K fz H kvs acc) : kvs.length = acc.length := by
  have := congrArg List.length h.1
  rwa [List.length_map, List.length_map] at this
end
def dcRun (vs : List Nat) (g : Gx) (t : Mt) (ek ev : Mx) : List PyData → List (Key × PyData) → Ev → Sto → Option (List (Key × PyData) × Sto)
  | [], acc => fun _ s => some (acc, s)
  | x :: xs, acc => fun ρ s => match g x (wipeE ρ vs) with
    | none => none
    | some ρ1 => match t ρ1 s with
      | none => none
      | some (false, s1) => dcRun vs g t ek ev xs acc ρ s1
      | some (true, s1) => match ek ρ1 s1 with
        | none => none
        | some (rk, s2) => match ev ρ1 s2 with
          | none => none
          | some (rv, s3) => match keyP rk, toD rv with
            | some k, some y => if acc.length < sizeLine then dcRun vs g t ek ev xs (putP acc k y) ρ s3 else none
            | _, _ => none
def mDc (it : Mi) (vs : List Nat) (g : Gx) (t : Mt) (ek ev : Mx) : Mx := fun ρ s => match it ρ s with
  | some (xs, s1) => match dcRun vs g t ek ev xs [] ρ s1 with
    | some (acc, s2) => some (.d (dOf acc), s2)
    | none => none
  | none => none
theorem keyP_im {K : PySem.W.Frag} {sp : Option Addr} {fz : Fz} {H H0 : Hp} {v : V} {r : R} {k : Key} (i : ImR K sp H0 fz H v r) (e : keyP r = some k) : v = kV k := by
  unfold keyP at e
  split at e
  · cases e; cases i; rfl
  · cases e; cases i; rfl
  · cases e
def kEq (q : PyData) (k : Key) : Bool := match q, k with
  | .int i, .inl j => decide (i = j)
  | .str i, .inr j => decide (i = j)
  | _, _ => false
def m3 (f : R → R → R → Option R) (a b c : Mx) : Mx := bnd a fun x => bnd b fun y => bnd c fun z _ => ret (f x y z)
def mSwap (i : Nat) (ix1 ix2 : Mx) (a : Mx) : Ms := fun ρ s => match a ρ s with
  | some (.d (.tuple [x, y]), s1) => match ix1 ρ s1, ρ[i]? with
    | some (.d (.int k1), s2), some (some (.o xs)) => match ixN xs.length k1 with
      | some j1 => match ix2 (ρ.set i (some (.o (xs.set j1 x)))) s2 with
        | some (.d (.int k2), s3) => match ixN xs.length k2 with
          | some j2 => some (.nx, (ρ.set i (some (.o (xs.set j1 x)))).set i (some (.o ((xs.set j1 x).set j2 y))), s3)
          | none => none
        | _ => none
      | none => none
    | _, _ => none
  | _ => none
end Dh
namespace Dh
open PySem PySem.Spec L2 PySem.W PyProof.Rows
variable [LawT]
/-- a list, a tuple -/
inductive Sk where
  | l | t
def Sk.Sq (k : Sk) (K : PySem.W.Frag) (H : Hp) (a : Addr) (xs : List V) : Prop := match k with
  | .l => SqL K H a xs
  | .t => SqT K H a xs
def Sk.Is (k : Sk) (h : Heap) (a : Addr) (its : Array Value) : Prop := match k with
  | .l => h.IsList a its
  | .t => h.IsTuple a its
def Sk.Ir (k : Sk) (h : Heap) (it a : Addr) (i : Nat) : Prop := match k with
  | .l => h.IsListIter it a i
  | .t => h.IsTupleIter it a i
def Sk.ob (k : Sk) (a : Addr) : Obj := match k with
  | .l => { cls := .type "list_iterator", data := .fields #[.ref a, .int 0 0] }
  | .t => { cls := .type "tuple_iterator", data := .fields #[.ref a, .int 0 0] }
section
variable {X : Cx} {pins : List (Addr × Obj)} {σ : L2.St} {H : Hp} {s : Shared} {k : Sk} {a : Addr} {xs ys : List V}
theorem Sk.read (I : Inv X pins σ H s) (h : k.Sq X.K H a xs) : ∃ its : List Value, Vals xs its ∧ k.Is s.heap a its.toArray := by
  cases k with
  | l => obtain ⟨its, rv, p, _⟩ := I.list h; exact ⟨its, rv, p.isList⟩
  | t => obtain ⟨its, rv, p, _⟩ := I.tuple h; exact ⟨its, rv, (show s.heap.IsTuple a its.toArray from p)⟩
theorem Sk.inj (I : Inv X pins σ H s) (h : k.Sq X.K H a xs) (h2 : k.Sq X.K H a ys) : xs = ys := by
  cases k with
  | l => exact I.list_inj h h2
  | t => exact I.tuple_inj h h2
theorem Sk.lt {h : Heap} {its : Array Value} (p : k.Is h a its) : a < h.objs.size := by
  cases k with
  | l => obtain ⟨o, ho, _⟩ := id p; exact Heap.lt_size ho
  | t => obtain ⟨o, ho, _⟩ := id p; exact Heap.lt_size ho
theorem Sk.ir0 {h : Heap} {it : Addr} (e : h.get? it = some (k.ob a)) : k.Ir h it a 0 := by
  cases k with
  | l => exact ⟨_, e, rfl, rfl⟩
  | t => exact ⟨_, e, rfl, rfl⟩
theorem Sk.ir_obj {h : Heap} {it : Addr} {i : Nat} (e : k.Ir h it a i) : ∃ o, h.get? it = some o ∧ ∀ v, o.data ≠ .cell v := by
  cases k with
  | l => obtain ⟨o, e1, _, d⟩ := e; exact ⟨o, e1, fun v q => by rw [d] at q; cases q⟩
  | t => obtain ⟨o, e1, _, d⟩ := e; exact ⟨o, e1, fun v q => by rw [d] at q; cases q⟩
theorem Sk.ir_at {h h' : Heap} {it : Addr} {i : Nat} (e : k.Ir h it a i) (q : ∀ o, h.get? it = some o → h'.get? it = some o) : k.Ir h' it a i := by
  cases k with
  | l => exact Heap.IsListIter.at e fun o => q o
  | t => exact Heap.IsTupleIter.at e fun o => q o
theorem Sk.ir_lt {h : Heap} {it : Addr} {i : Nat} (e : k.Ir h it a i) : it < h.objs.size := by
  obtain ⟨o, e1, _⟩ := k.ir_obj e
  exact Heap.lt_size e1
theorem Sk.ne {h : Heap} {it : Addr} {i : Nat} {its : Array Value} (e : k.Ir h it a i) (p : k.Is h a its) : a ≠ it := fun q => by
  subst q
  cases k with
  | l => obtain ⟨o1, g1, c1, _⟩ := e; obtain ⟨o2, g2, c2, _⟩ := p; rw [g1] at g2; cases g2; rw [c1] at c2; simp at c2
  | t => obtain ⟨o1, g1, c1, _⟩ := e; obtain ⟨o2, g2, c2, _⟩ := p; rw [g1] at g2; cases g2; rw [c1] at c2; simp at c2
theorem Sk.begins (k : Sk) (a : Addr) (its : Array Value) : Begins (.ref a) (k.ob a) fun h => k.Is h a its := by
  cases k with
  | l => exact begins_list a its
  | t => exact begins_tuple a its
theorem Sk.draws {prog : Program} {w : World} {A : Around} (hh : A.handled = none) (k : Sk) (it : Addr) (hne : a ≠ it) (its : Array Value) :
    Draws prog w A it [it, a] its.size (fun i v => its[i]? = some v) (fun i h => k.Ir h it a i ∧ k.Is h a its) := by
  cases k with
  | l => exact Draws.list hh it a hne its
  | t => exact Draws.tuple hh it a hne its
end
/-- both as they stand at each turn, the items in new pairs -/
def Iz2 (K : PySem.W.Frag) (k1 k2 : Sk) (a b : Addr) : It :=
  ⟨fun i H => ∃ (xs ys : List V) (x y : V), k1.Sq K H a xs ∧ k2.Sq K H b ys ∧ xs[i]? = some x ∧ ys[i]? = some y,
    fun i H v H' => ∃ T o x y, v = .ref T ∧ H T = none ∧ o.dict = none ∧ H' = upd H T (.frz o (.tup [x, y])) ∧ (∀ xs, k1.Sq K H a xs → xs[i]? = some x) ∧ ∀ ys, k2.Sq K H b ys → ys[i]? = some y,
    fun i H => ∃ xs ys : List V, k1.Sq K H a xs ∧ k2.Sq K H b ys ∧ i ≤ xs.length ∧ i ≤ ys.length ∧ (xs.length = i ∨ ys.length = i)⟩
theorem turn_z2 {P : Program} {w : World} {K : PySem.W.Frag} {elts : List Expr} {kk : Nat} {tpos : Pos} {k1 k2 : Sk} {a b z TI TO i1 i2 : Addr} (S : ZipSep2 z TI TO i1 i2 [i1, a] [i2, b]) :
    Turn P w K (.Tuple elts kk tpos) (Iz2 K k1 k2 a b) [z, TI, TO, i1, i2] z (fun i h => IsZip h z TI TO .none ∧ IsTupOf2 h TI (.ref i1) (.ref i2) ∧ (∃ x y, IsTupOf2 h TO x y) ∧ k1.Ir h i1 a i ∧ k2.Ir h i2 b i) where
  mem := by simp
  obj := fun i h st c hc => by
    obtain ⟨hz, hTI, ⟨x, y, hTO⟩, h1, h2⟩ := st
    have e' : c = z ∨ c = TI ∨ c = TO ∨ c = i1 ∨ c = i2 := by simpa using hc
    rcases e' with q | q | q | q | q
    · rw [q]; exact ⟨_, hz, fun v q => nomatch q⟩
    · rw [q]; exact ⟨_, hTI, fun v q => nomatch q⟩
    · rw [q]; exact ⟨_, hTO, fun v q => nomatch q⟩
    · rw [q]; exact k1.ir_obj h1
    · rw [q]; exact k2.ir_obj h2
  keep := fun i h h' st k => by
    obtain ⟨hz, hTI, ⟨x, y, hTO⟩, h1, h2⟩ := st
    exact ⟨k z (by simp) _ hz, k TI (by simp) _ hTI, ⟨x, y, k TO (by simp) _ hTO⟩, k1.ir_at h1 fun o q => k i1 (by simp) o q, k2.ir_at h2 fun o q => k i2 (by simp) o q⟩
  item := by
    intro X hP hw hK hc i pins s σ H E I hf st hg
    subst hP hw hK
    obtain ⟨hz, hTI, ⟨x0, y0, hTO⟩, h1, h2⟩ := st
    obtain ⟨xs, ys, x, y, hqx, hqy, hx, hy⟩ := hg
    obtain ⟨its, rv, p⟩ := k1.read I hqx
    obtain ⟨its2, rv2, p2⟩ := k2.read I hqy
    obtain ⟨u, hu, ru⟩ := rv.get hx
    obtain ⟨u2, hu2, ru2⟩ := rv2.get hy
    have hzl : z < s.heap.objs.size := Heap.lt_size hz
    have hh := I.ok.hd hc
    have na := k1.ne h1 p
    have nb := k2.ne h2 p2
    have l1 : i < its.toArray.size := by have := (List.getElem?_eq_some_iff.mp hu).1; simpa using this
    have l2 : i < its2.toArray.size := by have := (List.getElem?_eq_some_iff.mp hu2).1; simpa using this
    refine wpAny_pyNext_zipD2_item S (k1.draws (A := X.A.in1) hh i1 na its.toArray) (k2.draws (A := X.A.in1) hh i2 nb its2.toArray) hz hTI hTO ⟨h1, p⟩ ⟨h2, p2⟩ l1 l2 fun x1 x2 h' tk e1 e2 z' TO' h1' h2' hT hsz hk => ?_
    have eu : x1 = u := by
      have q : its[i]? = some x1 := by simpa using e1
      rw [hu] at q; cases q; rfl
    have eu2 : x2 = u2 := by
      have q : its2[i]? = some x2 := by simpa using e2
      rw [hu2] at q; cases q; rfl
    subst eu eu2
    refine ⟨_, rfl, wpAny_letOwnedTupleGo_zip (s := { s with heap := h', toks := tk }) z' fun h'' z'' sb => ?_⟩
    have hT2 : h''.get? s.heap.objs.size = some { cls := .type "tuple", data := .seq #[x1, x2] } := (sb.2 _ (Nat.ne_of_gt hzl)).trans hT
    have new : ObjOk X.prog X.w (upd H s.heap.objs.size (.frz { cls := .type "tuple", data := .seq #[x1, x2] } (.tup [x, y]))) h'' s.heap.objs.size (.frz { cls := .type "tuple", data := .seq #[x1, x2] } (.tup [x, y])) :=
      obj_tup (its := [x1, x2]) hT2 (by show 2 ≤ sizeLine; decide) (.cons ru (.cons ru2 .nil))
    have I1 : Inv X pins σ (upd H s.heap.objs.size (.frz { cls := .type "tuple", data := .seq #[x1, x2] } (.tup [x, y]))) { s with heap := h'', toks := tk } :=
      I.turnedNew (t' := tk) (ch := [z, TI, TO, i1, i2]) (fun c o hb q => (sb.2 c (fun q' => hb (by simp [q']))).trans (hk c o (fun q' => hb (by simp [q'])) (fun q' => hb (by simp [q'])) (fun q' => hb (by simp [q'])) (fun q' => hb (by simp [q'])) q)) hf (Nat.le_refl _) new
    refine ⟨.ref s.heap.objs.size, _, I1, rfl, ⟨_, _, x, y, rfl, I.hok.fresh (Nat.le_refl _), rfl, rfl, fun l hl => by rw [k1.inj I hl hqx]; exact hx, fun l hl => by rw [k2.inj I hl hqy]; exact hy⟩, ⟨z'', ?_, ⟨x1, x2, ?_⟩, ?_, ?_⟩, fun c hcm => ?_⟩
    · exact (sb.2 _ S.TIz).trans (hk _ _ S.TIz S.TITO S.TIi1 S.TIi2 hTI)
    · exact (sb.2 _ S.TOz).trans TO'
    · exact k1.ir_at h1'.1 fun o q => (sb.2 _ S.zi1.symm).trans q
    · exact k2.ir_at h2'.1 fun o q => (sb.2 _ S.zi2.symm).trans q
    · have hlt : c < s.heap.objs.size := by
        have e' : c = z ∨ c = TI ∨ c = TO ∨ c = i1 ∨ c = i2 := by simpa using hcm
        rcases e' with q | q | q | q | q
        · rw [q]; exact hzl
        · rw [q]; exact Heap.lt_size hTI
        · rw [q]; exact Heap.lt_size hTO
        · rw [q]; exact k1.ir_lt h1
        · rw [q]; exact k2.ir_lt h2
      rw [upd_ne (Nat.ne_of_lt hlt)]
      exact (hf c hcm).1
  done := by
    intro X hP hw hK hc i pins s σ H E I hf st hg
    subst hP hw hK
    obtain ⟨hz, hTI, ⟨x0, y0, hTO⟩, h1, h2⟩ := st
    obtain ⟨xs, ys, hqx, hqy, le1, le2, hend⟩ := hg
    obtain ⟨its, rv, p⟩ := k1.read I hqx
    obtain ⟨its2, rv2, p2⟩ := k2.read I hqy
    have l1 := rv.length
    have l2 := rv2.length
    have hh := I.ok.hd hc
    have na := k1.ne h1 p
    have nb := k2.ne h2 p2
    refine wpAny_pyNext_zipD2_end S (k1.draws (A := X.A.in1) hh i1 na its.toArray) (k2.draws (A := X.A.in1) hh i2 nb its2.toArray) hz hTI hTO ⟨h1, p⟩ ⟨h2, p2⟩ (by simp; omega) (by simp; omega) (by simp; omega) fun h' tk hk => ⟨rfl, I.turnedL (t' := tk) (ch := [z, TI, TO, i1, i2]) (fun c o hb q =>
      hk c o (fun q' => hb (by simp [q'])) (fun q' => hb (by simp [q'])) (fun q' => hb (by simp [q'])) (fun q' => hb (by simp [q'])) q) hf⟩
  self := fun A i s Q E st h => wpAny_pyIter_zip st.1 h
def iZ2 (K : PySem.W.Frag) (ta : TA) : TI := fun σ H R => ta σ H fun vs H1 => ∃ k1 k2 a b xs ys, vs = [.ref a, .ref b] ∧ Sk.Sq k1 K H1 a xs ∧ Sk.Sq k2 K H1 b ys ∧ R (Iz2 K k1 k2 a b) H1
section
variable {X : Cx} {e e2 e3 : Expr} {ta : TA} {p pos tpos : Pos} {elts : List Expr} {kk : Nat}
theorem pi_z2 (hg : Gl X "zip") (hm : X.mg "zip" = none) (ha : PA X [e, e2] ta)
    (hs : starEach [e, e2] X.env = (false, eval e X.env) :: starEach [e2] X.env := by rfl) (hpl : (backTo pos (starEach [e2] X.env)).any (·.1) = false := by rfl) :
    PI X (.Tuple elts kk tpos) (.Call (.Name "zip" p) [e, e2] [] pos) (iZ2 X.K ta) := by
  refine ⟨fun pins s σ H R I h => ?_⟩
  refine Call_ (ld_blt I hg hm PyProof.Rows.boot_zip (PyProof.Rows.callWith_type1 (thn (ha.run pos pins s σ H _ I h) fun us s1 ⟨vs, H1, I1, r1, q1⟩ => ?_) hs hpl))
  obtain ⟨k1, k2, a, b, xs, ys, ex, hqx, hqy, q⟩ := q1
  subst ex
  cases r1 with
  | cons r rr =>
    cases rr with
    | cons r' rr =>
      cases rr
      cases r
      cases r'
      obtain ⟨its, rv, p1⟩ := k1.read I1 hqx
      obtain ⟨its2, rv2, p2⟩ := k2.read I1 hqy
      refine zip_begins2 (k1.begins a its.toArray) (k2.begins b its2.toArray) p1 p2 fun h' hz hTI hTO g1 g2 hsz hk => wpAny_pyIter_zip hz ?_
      have I2 : Inv X pins σ H1 { s1 with heap := h' } := I1.kept (t' := s1.toks) hk
      refine ⟨s1.heap.objs.size + 4, [s1.heap.objs.size + 4, s1.heap.objs.size + 2, s1.heap.objs.size + 3, s1.heap.objs.size, s1.heap.objs.size + 1], _, _, H1, rfl, I2,
        turn_z2 (zip_sep2 (fp1 := [a]) (fp2 := [b]) (by simp; exact k1.lt p1) (by simp; exact k2.lt p2)), ⟨hz, hTI, ⟨_, _, hTO⟩, k1.ir0 g1, k2.ir0 g2⟩, fun c hcm => ?_, q⟩
      have e' : c = s1.heap.objs.size + 4 ∨ c = s1.heap.objs.size + 2 ∨ c = s1.heap.objs.size + 3 ∨ c = s1.heap.objs.size ∨ c = s1.heap.objs.size + 1 := by simpa using hcm
      have hle : s1.heap.objs.size ≤ c := by rcases e' with z | z | z | z | z <;> (rw [z]; first | exact Nat.le_refl _ | exact Nat.le_add_right _ _)
      exact I1.fpOk hle (I1.hok.fresh hle)
end
def seqOf : PyData → Option (List PyData)
  | .list xs => some xs
  | .tuple xs => some xs
  | _ => none
def trip (xs ys zs : List PyData) : List PyData := (xs.zip (ys.zip zs)).map fun p => PyData.tuple [p.1, p.2.1, p.2.2]
def zipQ2 (rs : List R) : Option (List PyData) := match toDs rs with
  | some [x, y] => match seqOf x, seqOf y with
    | some xs, some ys => some (pairs xs ys)
    | _, _ => none
  | _ => none
def zipQ3 (rs : List R) : Option (List PyData) := match toDs rs with
  | some [x, y, z] => match seqOf x, seqOf y, seqOf z with
    | some xs, some ys, some zs => some (trip xs ys zs)
    | _, _, _ => none
  | _ => none
section
variable {K : PySem.W.Frag} {sp : Option Addr} {fz : Fz} {H : Hp} {sto : Sto}
/-- a list or a tuple that stays -/
inductive FzQ (K : PySem.W.Frag) (fz : Fz) (H : Hp) : Sk → Addr → List V → Prop
  | l {a xs} : FzL K fz H a xs → FzQ K fz H .l a xs
  | t {a xs} : FzT K H a xs → FzQ K fz H .t a xs
theorem FzQ.sq {k : Sk} {a : Addr} {xs : List V} (h : FzQ K fz H k a xs) : k.Sq K H a xs := by
  cases h with
  | l h => exact h.sq
  | t h => exact h.sq
theorem FzQ.sts {fz1 : Fz} {H1 : Hp} {k : Sk} {a : Addr} {xs : List V} (s : Sts sp fz H fz1 H1) (B : Bs sp fz H sto) (h : FzQ K fz H k a xs) : FzQ K fz1 H1 k a xs := by
  cases h with
  | l h => exact .l (FzL.sts s B h)
  | t h => exact .t (FzT.sts s B h)
theorem Im.seqOf {v : V} {x : PyData} {xs : List PyData} (i : Im K fz H v x) (e : Dh.seqOf x = some xs) : ∃ k a vs, v = .ref a ∧ FzQ K fz H k a vs ∧ ImA K fz H vs xs := by
  unfold Dh.seqOf at e
  split at e
  · cases e
    cases i with
    | lst h a => exact ⟨.l, _, _, rfl, .l h, a⟩
  · cases e
    cases i with
    | tup h a => exact ⟨.t, _, _, rfl, .t h, a⟩
  · cases e
theorem goes_z2 {k1 k2 : Sk} {a b : Addr} {vs ws : List V} {xs ys : List PyData} (h1 : FzQ K fz H k1 a vs) (h2 : FzQ K fz H k2 b ws) (m1 : ImA K fz H vs xs) (m2 : ImA K fz H ws ys) (B0 : Bs sp fz H sto) : Goes K sp fz H (Iz2 K k1 k2 a b) (pairs xs ys) := by
  have len : (pairs xs ys).length = min vs.length ws.length := by unfold pairs; rw [List.length_map, List.length_zip, m1.length, m2.length]
  refine ⟨fun i fz1 H1 sto hi s B => ?_, fun fz1 H1 sto s B => ?_, fun i x fz1 H1 sto v H2 hx s B y => ?_⟩
  · rw [len] at hi
    have a1 : i < vs.length := by omega
    have a2 : i < ws.length := by omega
    exact ⟨vs, ws, vs[i], ws[i], (h1.sts s B0).sq, (h2.sts s B0).sq, List.getElem?_eq_getElem a1, List.getElem?_eq_getElem a2⟩
  · exact ⟨vs, ws, (h1.sts s B0).sq, (h2.sts s B0).sq, by rw [len]; omega, by rw [len]; omega, by rw [len]; omega⟩
  · obtain ⟨T, o, v1, v2, rfl, hT, hd, e, g1, g2⟩ := y
    obtain ⟨x1, x2, q1, q2, rfl⟩ := pairs_at hx
    obtain ⟨u1, p1, i1⟩ := m1.at i x1 q1
    obtain ⟨u2, p2, i2⟩ := m2.at i x2 q2
    rw [g1 vs (h1.sts s B0).sq] at p1; cases p1
    rw [g2 ws (h2.sts s B0).sq] at p2; cases p2
    exact pair_new B (i1.sts s B0) (i2.sts s B0) hT hd e
end
section
variable {X : Cx} {a b c : Expr} {m : Ma} {p pos tpos : Pos} {elts : List Expr} {kk : Nat}
theorem si_z2 (ha : SA X [a, b] m) (hm : X.mg "zip" = none) (hg : Gl X "zip" := by rfl) (hs : starEach [a, b] X.env = (false, eval a X.env) :: starEach [b] X.env := by rfl) (hpl : (backTo pos (starEach [b] X.env)).any (·.1) = false := by rfl) :
    SI X (.Tuple elts kk tpos) (.Call (.Name "zip" p) [a, b] [] pos) (mArgI zipQ2 m) := PI.imp (pi_z2 hg hm ha hs hpl) fun σ H R h => by
  obtain ⟨C, fz, ρ, sto, xs, sto', F, e, k⟩ := h
  obtain ⟨x, s1, ea, e1⟩ := bnd_some e
  obtain ⟨ef, rfl⟩ := ret_some e1
  clear e e1
  refine ⟨C, fz, ρ, sto, x, _, F, ea, fun v fz1 H1 st1 l1 i1 => ?_⟩
  have B1 := F.bs.step st1 l1
  unfold zipQ2 at ef
  split at ef
  · rename_i y1 y2 hds
    obtain ⟨fz2, st2, B2, g, im⟩ := ImRs.keep i1 hds st1 B1 fz1 st1 B1 fun _ h => h
    split at ef
    · rename_i q1 q2
      cases ef
      cases im with
      | cons j1 t1 =>
        cases t1 with
        | cons j2 t2 =>
          cases t2
          obtain ⟨k1, a1, v1, rfl, f1, m1⟩ := j1.seqOf q1
          obtain ⟨k2, a2, v2, rfl, f2, m2⟩ := j2.seqOf q2
          exact ⟨k1, k2, a1, a2, v1, v2, rfl, f1.sq, f2.sq, k _ fz2 H1 st2 l1 (goes_z2 f1 f2 m1 m2 B2)⟩
    · cases ef
  · cases ef
end
end Dh
namespace Dh
open PySem PySem.Spec PyProof.Rows L2 PySem.W
variable [LawT]
/-- fresh lists are not one another -/
def Dst (vs : List V) (rs : List R) : Prop := ∀ (i j : Nat) (a : Addr) (xs ys : List PyData), i < j → vs[i]? = some (.ref a) → rs[i]? = some (.f xs) → rs[j]? = some (.f ys) → vs[j]? ≠ some (.ref a)
def rdA2 (K : PySem.W.Frag) (m : Ma) : TA := fun σ H Q => ∃ (C : Cn) (fz : Fz) (ρ : Ev) (sto : Sto) (r : List R) (sto' : Sto), Fm K C fz ρ sto σ H ∧ m ρ sto = some (r, sto') ∧
  ∀ vs fz' H', Stp C.sp fz H fz' H' → SpL C.sp H' sto' → ImRs K C.sp H fz' H' vs r → Dst vs r → Q vs H'
def SA2 (X : Cx) (es : List Expr) (m : Ma) : Prop := PA X es (rdA2 X.K m)
theorem ImRs.at {K : PySem.W.Frag} {sp : Option Addr} {fz1 : Fz} {H H1 : Hp} : ∀ {vs : List V} {rs : List R}, ImRs K sp H fz1 H1 vs rs → ∀ (i : Nat) (r : R), rs[i]? = some r → ∃ v, vs[i]? = some v ∧ ImR K sp H fz1 H1 v r
  | _, _, .nil, i, x, h => by simp at h
  | _, _, .cons h t, 0, x, e => by
    simp only [List.getElem?_cons_zero, Option.some.injEq] at e
    subst e
    exact ⟨_, rfl, h⟩
  | _, _, .cons h t, i + 1, x, e => by
    simp only [List.getElem?_cons_succ] at e ⊢
    exact ImRs.at t i x e
section
variable {X : Cx} {e : Expr} {es : List Expr} {me : Mx} {mr : Ma}
theorem sa2_nil : SA2 X [] maNil := PA.imp pa_nil fun σ H Q h => by
  obtain ⟨C, fz, ρ, sto, r, sto', F, e, k⟩ := h
  cases e
  exact k [] fz H .refl F.bs.spl .nil fun i j a xs ys _ h => by simp at h
theorem sa2_cons (he : SE X e me) (hr : SA2 X es mr) (hs : starEach (e :: es) X.env = (false, eval e X.env) :: starEach es X.env := by rfl) : SA2 X (e :: es) (maCons me mr) := PA.imp (pa_cons he hr hs) fun σ H Q h => by
  obtain ⟨C, fz, ρ, sto, r, sto', F, e, k⟩ := h
  obtain ⟨x, s1, ea, e⟩ := bnd_some e
  obtain ⟨xs, s2, eb, e⟩ := bnd_some e
  cases e
  refine ⟨C, fz, ρ, sto, x, s1, F, ea, fun v fz1 H1 st1 l1 i1 => ?_⟩
  refine ⟨C, fz1, ρ, s1, xs, sto', F.step st1 l1, eb, fun vs fz2 H2 st2 l2 i2 d2 => ?_⟩
  refine k (v :: vs) fz2 H2 (st1.trans st2) l2 (.cons (i1.stp st2 (F.bs.step st1 l1)) (i2.early st1)) fun i j a ys zs hij h1 h2 h3 h4 => ?_
  cases j with
  | zero => omega
  | succ j =>
    rw [List.getElem?_cons_succ] at h3 h4
    cases i with
    | zero =>
      rw [List.getElem?_cons_zero] at h1 h2
      cases h1
      cases h2
      obtain ⟨b, ws, eb, g1, _⟩ := i1
      cases eb
      obtain ⟨w, g2, g3⟩ := i2.at j _ h3
      rw [g2] at h4
      cases h4
      obtain ⟨b, ws, eb, _, _, _, _, g4⟩ := g3
      cases eb
      rw [g1] at g4
      cases g4
    | succ i =>
      rw [List.getElem?_cons_succ] at h1 h2
      exact d2 i j a ys zs (by omega) h1 h2 h3 h4
end
end Dh
namespace Dh
open PySem PySem.Spec PyProof.Rows L2 PySem.W
variable [LawT]
def mPar2f (i j : Nat) (a : Ma) : Ms := fun ρ s => match a ρ s with
  | some ([.f c, .f d], s1) => some (.nx, (ρ.set i (some (.o c))).set j (some (.o d)), s1)
  | _ => none
section
variable {X : Cx} {i j : Nat} {x y : Str} {a b : Expr} {m : Ma} {px py pt pos : Pos} {kt k2 pt2}
theorem ss_par2f (hc : X.calm = true) (hN : X.N.Nodup) (ha : SA2 X [a, b] m) (hi : X.N[i]? = some x := by rfl) (hj : X.N[j]? = some y := by rfl) (hij : i ≠ j := by decide)
    (hx : X.env.scope.names.lookup x = some .local := by rfl) (hy : X.env.scope.names.lookup y = some .local := by rfl)
    (hw : swappedStores [.Tuple [.Name x px, .Name y py] kt pt] (.Tuple [a, b] k2 pt2) X.env = pure (some [x, y]) := by rfl)
    (hs : swapsWithSole [.Tuple [.Name x px, .Name y py] kt pt] (.Tuple [a, b] k2 pt2) pos.line X.env = pure false := by rfl) :
    SS X (.Assign [.Tuple [.Name x px, .Name y py] kt pt] (.Tuple [a, b] k2 pt2) pos) (mPar2f i j m) := PS.impI (ps_par hc hN hi hj hij hx hy ha hw hs) fun D σ H hl h => by
  obtain ⟨C, fz, ρ, sto, out, ρ', sto', F, e, k⟩ := h
  have hi' := lt_of_slot hi hl
  have hj' := lt_of_slot hj hl
  unfold mPar2f at e
  split at e
  · rename_i c1 d1 s1 e1
    cases e
    refine ⟨C, fz, ρ, sto, _, _, F, e1, fun vs fz1 H1 st1 l1 i1 dd => ?_⟩
    cases i1 with
    | cons iv t =>
      cases t with
      | cons iw t =>
        cases t
        rename_i v w
        refine ⟨v, w, rfl, ?_⟩
        have F1 := F.give st1 l1 iv (c := .o c1) rfl hi'
        obtain ⟨p, vs1, rfl, a1, a2, a3, a4, a5⟩ := iv
        obtain ⟨q, vs2, rfl, b1, b2, b3, b4, b5⟩ := iw
        have npq : q ≠ p := fun e => dd 0 1 p c1 d1 (by decide) rfl rfl rfl (by rw [e]; rfl)
        refine k fz1 _ H1 (F1.put j (by rw [List.length_set]; exact hj') ⟨q, vs2, List.getElem?_set_self (by rw [List.length_set]; exact hj'), b1, b2, b3, b4, F.st.back b4 b5⟩ ?_) st1.sts
        intro xs a ec ev n ys hn g1 g2
        cases ev
        by_cases en : n = i
        · subst en
          rw [List.getElem?_set_self hi'] at g2
          cases g2
          exact npq rfl
        · rw [List.getElem?_set_ne (Ne.symm en)] at g1 g2
          obtain ⟨b, ws, q1, q2, _⟩ := F.owned g1
          rw [g2] at q1; cases q1
          rw [b5] at q2; cases q2
  · cases e
end
end Dh
namespace Dh
open PySem PySem.Spec PyProof.Rows L2 PySem.W
variable [LawT]
/-- three values given at once: data, fresh lists -/
def mPar3g (i j l : Nat) (a : Ma) : Ms := fun ρ s => match a ρ s with
  | some ([r, q, u], s1) => match toCl r, toCl q, toCl u with
    | some c, some d, some f => some (.nx, ((ρ.set i (some c)).set j (some d)).set l (some f), s1)
    | _, _, _ => none
  | _ => none
section
variable {K : PySem.W.Frag} {C : Cn} {fz fz1 : Fz} {ρ ρ1 : Ev} {sto sto' : Sto} {σ σ1 : L2.St} {H H1 : Hp}
/-- one more value put, new lists apart from those put before -/
theorem Fm.more (F : Fm K C fz ρ sto σ H) (F1 : Fm K C fz1 ρ1 sto' σ1 H1) {w : V} {q : R} {d : Cl} (iw : ImR K C.sp H fz1 H1 w q) (ed : toCl q = some d) {j : Nat} (hj : j < σ1.length)
    (old : ∀ n ys a, n ≠ j → ρ1[n]? = some (some (.o ys)) → σ1[n]? = some (some (.ref a)) → (ρ[n]? = some (some (.o ys)) ∧ σ[n]? = some (some (.ref a))) ∨ ∀ xs, q = .f xs → w ≠ .ref a) :
    Fm K C fz1 (ρ1.set j (some d)) sto' (σ1.set j (some w)) H1 := by
  refine F1.put j hj ?_ ?_
  · have g : (σ1.set j (some w))[j]? = some (some w) := List.getElem?_set_self hj
    cases q with
    | d x => cases ed; exact ⟨w, g, iw⟩
    | f xs =>
      cases ed
      obtain ⟨a, vs, rfl, h1, h2, h3, h4, h5⟩ := iw
      exact ⟨a, vs, g, h1, h2, h3, h4, F.st.back h4 h5⟩
    | b xs => cases ed
    | s => cases ed; obtain ⟨a, ea, rfl⟩ := (show IsS C.sp w from iw); exact ⟨a, ea, g⟩
    | m acc =>
      cases ed
      obtain ⟨a, vs, rfl, h1, h2, h3, h4, h5⟩ := iw
      exact ⟨a, vs, g, h1, h2, h3, h4, F.st.back h4 h5⟩
    | t acc =>
      cases ed
      obtain ⟨a, vs, rfl, h1, h2, h3, h4, h5⟩ := iw
      exact ⟨a, vs, g, h1, h2, h3, h4, F.st.back h4 h5⟩
    | n acc => cases ed
    | u acc => cases ed
    | h l => cases ed
  · intro xs a ec ev n ys hn h1 h2
    subst ec
    cases q with
    | d x => cases ed
    | b zs => cases ed
    | s => cases ed
    | m _ => cases ed
    | t _ => cases ed
    | n _ => cases ed
    | u _ => cases ed
    | f zs =>
      cases ed
      rcases old n ys a hn h1 h2 with ⟨g1, g2⟩ | g
      · obtain ⟨b, vs, eb, h3, h4, h5, h6, h7⟩ := iw
        rw [ev] at eb; cases eb
        obtain ⟨b, ws, q1, q2, _⟩ := F.owned g1
        rw [g2] at q1; cases q1
        rw [h7] at q2; cases q2
      · exact g _ rfl ev
    | h l => cases ed
end
section
variable {X : Cx} {i j l : Nat} {x y z : Str} {a b c : Expr} {m : Ma} {px py pz pt pos : Pos} {kt k2 pt2}
theorem ss_par3g (hc : X.calm = true) (hN : X.N.Nodup) (ha : SA2 X [a, b, c] m) (hi : X.N[i]? = some x := by rfl) (hj : X.N[j]? = some y := by rfl) (hl : X.N[l]? = some z := by rfl) (hij : i ≠ j := by decide) (hil : i ≠ l := by decide) (hjl : j ≠ l := by decide)
    (hx : X.env.scope.names.lookup x = some .local := by rfl) (hy : X.env.scope.names.lookup y = some .local := by rfl) (hz : X.env.scope.names.lookup z = some .local := by rfl)
    (hw : swappedStores [.Tuple [.Name x px, .Name y py, .Name z pz] kt pt] (.Tuple [a, b, c] k2 pt2) X.env = pure (some [x, y, z]) := by rfl)
    (hs : swapsWithSole [.Tuple [.Name x px, .Name y py, .Name z pz] kt pt] (.Tuple [a, b, c] k2 pt2) pos.line X.env = pure false := by rfl) :
    SS X (.Assign [.Tuple [.Name x px, .Name y py, .Name z pz] kt pt] (.Tuple [a, b, c] k2 pt2) pos) (mPar3g i j l m) := PS.impI (ps_par3 hc hN hi hj hl hij hil hjl hx hy hz ha hw hs) fun D σ H hlen h => by
  obtain ⟨C, fz, ρ, sto, out, ρ', sto', F, e, k⟩ := h
  have hi' := lt_of_slot hi hlen
  have hj' := lt_of_slot hj hlen
  have hl' := lt_of_slot hl hlen
  unfold mPar3g at e
  split at e
  · rename_i r q u s1 e1
    split at e
    · rename_i c1 d1 f1 ec ed ef
      cases e
      refine ⟨C, fz, ρ, sto, _, _, F, e1, fun vs fz1 H1 st1 l1 i1 dd => ?_⟩
      cases i1 with
      | cons iv t =>
        cases t with
        | cons iw t =>
          cases t with
          | cons iu t =>
            cases t
            rename_i v w uu
            refine ⟨v, w, uu, rfl, ?_⟩
            have fr : ∀ {r' : R} {ys : List PyData}, toCl r' = some (.o ys) → r' = .f ys := fun {r'} {ys} e => by
              cases r' with
              | d x => cases e
              | f zs => cases e; rfl
              | b zs => cases e
              | s => cases e
              | m _ => cases e
              | t _ => cases e
              | n _ => cases e
              | u _ => cases e
              | h l => cases e
            have hρ : ρ.length = σ.length := F.len
            have F1 := F.give st1 l1 iv ec hi'
            have F2 := F.more F1 iw ed (j := j) (by rw [List.length_set]; exact hj') fun n ys a hn g1 g2 => by
              by_cases en : n = i
              · subst en
                right
                intro xs eq ew
                rw [List.getElem?_set_self (by rw [hρ]; exact hi')] at g1
                rw [List.getElem?_set_self hi'] at g2
                cases g1
                cases g2
                exact dd 0 1 a ys xs (by decide) rfl (by rw [fr ec]; rfl) (by rw [eq]; rfl) (by rw [ew]; rfl)
              · rw [List.getElem?_set_ne (Ne.symm en)] at g1 g2
                exact .inl ⟨g1, g2⟩
            have F3 := F.more F2 iu ef (j := l) (by rw [List.length_set, List.length_set]; exact hl') fun n ys a hn g1 g2 => by
              by_cases ej : n = j
              · subst ej
                right
                intro xs eq ew
                rw [List.getElem?_set_self (by rw [List.length_set, hρ]; exact hj')] at g1
                rw [List.getElem?_set_self (by rw [List.length_set]; exact hj')] at g2
                cases g1
                cases g2
                exact dd 1 2 a ys xs (by decide) rfl (by rw [fr ed]; rfl) (by rw [eq]; rfl) (by rw [ew]; rfl)
              · rw [List.getElem?_set_ne (Ne.symm ej)] at g1 g2
                by_cases en : n = i
                · subst en
                  right
                  intro xs eq ew
                  rw [List.getElem?_set_self (by rw [hρ]; exact hi')] at g1
                  rw [List.getElem?_set_self hi'] at g2
                  cases g1
                  cases g2
                  exact dd 0 2 a ys xs (by decide) rfl (by rw [fr ec]; rfl) (by rw [eq]; rfl) (by rw [ew]; rfl)
                · rw [List.getElem?_set_ne (Ne.symm en)] at g1 g2
                  exact .inl ⟨g1, g2⟩
            exact k fz1 _ H1 F3 st1.sts
    · cases e
  · cases e
end
end Dh
namespace Dh
open PySem PySem.Spec PyProof.Rows L2 PySem.W
variable [LawT]
def mPar2g (i j : Nat) (a : Ma) : Ms := fun ρ s => match a ρ s with
  | some ([r, q], s1) => match toCl r, toCl q with
    | some c, some d => some (.nx, (ρ.set i (some c)).set j (some d), s1)
    | _, _ => none
  | _ => none
end Dh
namespace Dh
open PySem PySem.Spec PyProof.Rows L2
variable [LawT]
def fEqE (neg : Bool) : R → R → Option R
  | .d (.tuple xs), .d (.tuple []) => some (.d (.bool (if neg then !xs.isEmpty else xs.isEmpty)))
  | _, _ => none
def rEqE (K : PySem.W.Frag) (neg : Bool) : R2 := fun x y H Q => ∃ (a b : Addr) (xs : List V), x = .ref a ∧ y = .ref b ∧ SqT K H a xs ∧ SqT K H b [] ∧ Q (.bl (if neg then !xs.isEmpty else xs.isEmpty)) H
section
variable {X : Cx} {pos : Pos} {a b : Expr} {ma mb : Mx}
theorem op_eqE (hu : X.A.units < cLine) : OpR X (compareOp .Eq) (rEqE X.K false) := by
  intro pins s σ H x y v u Q I rx ry h
  obtain ⟨a, b, xs, rfl, rfl, ha, hb, q⟩ := h
  cases (show v = Value.ref a from rx)
  cases (show u = Value.ref b from ry)
  obtain ⟨us, r1, p1, _⟩ := I.tuple ha
  obtain ⟨ws, r2, p2, _⟩ := I.tuple hb
  cases r2
  refine SeqAt.RcAt.tuples (e := fun _ => true) p1 p2 hu (fun j _ h2 => absurd h2 (Nat.not_lt_zero j)) _ _ _ _ ?_
  refine ⟨.bl xs.isEmpty, H, I, ?_, q⟩
  show RelV (.bl xs.isEmpty) (Value.bool _)
  have e : ((List.range (min us.toArray.size (#[] : Array Value).size)).all (fun _ => true) && us.toArray.size == (#[] : Array Value).size) = xs.isEmpty := by
    cases r1 with
    | nil => rfl
    | cons _ _ => simp
  rw [show (List.toArray ([] : List Value)) = #[] from rfl, e]
  rfl
theorem ok_eqE (neg : Bool) : Ok2 X.K (rEqE X.K neg) (fEqE neg) := by
  intro sp fz H H0 sto v w x y z Q B ix iy h k
  unfold fEqE at h
  split at h
  · rename_i ds
    cases h
    cases ix with
    | tup h1 a1 =>
      cases iy with
      | tup h2 a2 =>
        cases a2
        rename_i a xs b
        have e : xs.isEmpty = ds.isEmpty := by cases a1 <;> rfl
        refine ⟨a, b, xs, rfl, rfl, h1.sq, h2.sq, ?_⟩
        rw [e]
        exact k _ fz H .refl B.spl (.bl _)
  · cases h
theorem sb_eqE {k : Nat} (hr : Room k X.A) (ha : SE X a ma) (hb : SE X b mb) : SB X (.Compare a [.Eq] [b] pos) (bT (m2 (fEqE false) ma mb)) := sb_cmp (op_eqE (by have := hr.units; omega)) (ok_eqE false) ha hb (nomark _)
end
end Dh
namespace Dh
open PySem PySem.Spec PyProof.Rows L2
variable [LawT]
def fEqN (neg : Bool) : R → R → Option R := fun x y => match rdL x, rdL y with
  | some xs, some [] => some (.d (.bool (if neg then !xs.isEmpty else xs.isEmpty)))
  | _, _ => none
def rEqN (K : PySem.W.Frag) (neg : Bool) : R2 := fun x y H Q => ∃ (a b : Addr) (xs : List V), x = .ref a ∧ y = .ref b ∧ SqL K H a xs ∧ SqL K H b [] ∧ Q (.bl (if neg then !xs.isEmpty else xs.isEmpty)) H
section
variable {X : Cx} {pos : Pos} {a b : Expr} {ma mb : Mx}
theorem op_eqN (hu : X.A.units < cLine) : OpR X (compareOp .Eq) (rEqN X.K false) := by
  intro pins s σ H x y v u Q I rx ry h
  obtain ⟨a, b, xs, rfl, rfl, ha, hb, q⟩ := h
  cases (show v = Value.ref a from rx)
  cases (show u = Value.ref b from ry)
  obtain ⟨us, r1, p1, _⟩ := I.list ha
  obtain ⟨ws, r2, p2, _⟩ := I.list hb
  cases r2
  cases r1 with
  | nil =>
    refine SeqAt.RcAt.lists (e := fun _ => true) p1.isList p2.isList rfl hu (fun j h1 _ => absurd h1 (Nat.not_lt_zero j)) _ _ _ _ ?_
    exact ⟨.bl true, H, I, rfl, q⟩
  | cons r t =>
    refine SeqAt.RcAt.lists_lengths p1.isList p2.isList (by simp) hu _ _ _ _ ?_
    exact ⟨.bl false, H, I, rfl, q⟩
theorem op_neN (hu : X.A.units < cLine) : OpR X (compareOp .NotEq) (rEqN X.K true) := by
  intro pins s σ H x y v u Q I rx ry h
  obtain ⟨a, b, xs, rfl, rfl, ha, hb, q⟩ := h
  cases (show v = Value.ref a from rx)
  cases (show u = Value.ref b from ry)
  obtain ⟨us, r1, p1, _⟩ := I.list ha
  obtain ⟨ws, r2, p2, _⟩ := I.list hb
  cases r2
  cases r1 with
  | nil =>
    refine SeqAt.RcNeAt.lists (e := fun _ => true) p1.isList p2.isList rfl hu (fun j h1 _ => absurd h1 (Nat.not_lt_zero j)) _ _ _ _ ?_
    exact ⟨.bl false, H, I, rfl, q⟩
  | cons r t =>
    refine SeqAt.RcNeAt.lists_lengths p1.isList p2.isList (by simp) hu _ _ _ _ ?_
    exact ⟨.bl true, H, I, rfl, q⟩
theorem ok_eqN (neg : Bool) : Ok2 X.K (rEqN X.K neg) (fEqN neg) := by
  intro sp fz H H0 sto v w x y z Q B ix iy h k
  unfold fEqN at h
  split at h
  · rename_i ds e1 e2
    cases h
    obtain ⟨a, xs, rfl, h1, a1⟩ := ix.list e1
    obtain ⟨b, ys, rfl, h2, a2⟩ := iy.list e2
    cases a2
    have e : xs.isEmpty = ds.isEmpty := by cases a1 <;> rfl
    refine ⟨a, b, xs, rfl, rfl, h1, h2, ?_⟩
    rw [e]
    exact k _ fz H .refl B.spl (.bl _)
  · cases h
theorem se_eqN {k : Nat} (hr : Room k X.A) (ha : SE X a ma) (hb : SE X b mb) : SE X (.Compare a [.Eq] [b] pos) (m2 (fEqN false) ma mb) := se_cmp (op_eqN (by have := hr.units; omega)) (ok_eqN false) ha hb (nomark _)
theorem sb_neN {k : Nat} (hr : Room k X.A) (ha : SE X a ma) (hb : SE X b mb) : SB X (.Compare a [.NotEq] [b] pos) (bT (m2 (fEqN true) ma mb)) := sb_cmp (op_neN (by have := hr.units; omega)) (ok_eqN true) ha hb (nomark _)
end
@[simp] theorem fEqN_ff {xs : List PyData} {neg : Bool} : fEqN neg (.f xs) (.f []) = some (.d (.bool (if neg then !xs.isEmpty else xs.isEmpty))) := rfl
@[simp] theorem fEqN_bf {xs : List PyData} {neg : Bool} : fEqN neg (.b xs) (.f []) = some (.d (.bool (if neg then !xs.isEmpty else xs.isEmpty))) := rfl
@[simp] theorem fEqN_df {xs : List PyData} {neg : Bool} : fEqN neg (.d (.list xs)) (.f []) = some (.d (.bool (if neg then !xs.isEmpty else xs.isEmpty))) := rfl
end Dh
namespace Dh
open PySem PySem.Spec PyProof.Rows L2
variable [LawT]
def mTIf (c : Mt) (a b : Mt) : Mt := bnd c fun x => match x with
  | true => a
  | false => b
def tIfT (t : TT) (ta tb : TT) : TT := fun σ H Q => t σ H fun c H1 => if c = true then ta σ H1 Q else tb σ H1 Q
section
variable {X : Cx} {pos : Pos} {c a b : Expr} {tc ta tb : Mt}
theorem pt_ifT {xc xa xb : TT} (hc : PT X c xc) (ha : PT X a xa) (hb : PT X b xb) : PT X (.IfExp c a b pos) (tIfT xc xa xb) := by
  refine ⟨fun pins s σ H Q I h => ?_⟩
  refine isTrue_IfExp (thn (hc.run pins s σ H _ I h) fun d s1 ⟨H1, I1, q1⟩ => ?_)
  cases d with
  | true =>
    rw [if_pos rfl]
    exact ha.run pins s1 σ H1 Q I1 q1
  | false =>
    rw [if_neg Bool.false_ne_true]
    exact hb.run pins s1 σ H1 Q I1 q1
theorem rt_if {K : PySem.W.Frag} {σ : L2.St} {H : Hp} {Q : Bool → Hp → Prop} (h : rdT K (mTIf tc ta tb) σ H Q) : tIfT (rdT K tc) (rdT K ta) (rdT K tb) σ H Q := by
  obtain ⟨C, fz, ρ, sto, z, sto', F, e, k⟩ := h
  obtain ⟨x, s1, ea, e1⟩ := bnd_some e
  clear e
  refine ⟨C, fz, ρ, sto, x, s1, F, ea, fun fz1 H1 st1 l1 => ?_⟩
  cases x with
  | true =>
    rw [if_pos rfl]
    exact ⟨C, fz1, ρ, s1, z, sto', F.step st1 l1, e1, fun fz2 H2 st2 l2 => k fz2 H2 (st1.trans st2) l2⟩
  | false =>
    rw [if_neg Bool.false_ne_true]
    exact ⟨C, fz1, ρ, s1, z, sto', F.step st1 l1, e1, fun fz2 H2 st2 l2 => k fz2 H2 (st1.trans st2) l2⟩
theorem sb_if (hc : SB X c tc) (ha : SB X a ta) (hb : SB X b tb) : SB X (.IfExp c a b pos) (mTIf tc ta tb) := PT.imp (pt_ifT hc ha hb) fun _ _ _ h => rt_if h
end
end Dh
namespace Dh
open PySem PySem.Spec PyProof.Rows L2
variable [LawT]
def boolT (b : Bool) : Str := if b then "True" else "False"
def fReprT : List R → Option R
  | [.d (.bool b)] => some (.d (.str (boolT b)))
  | _ => none
def rReprT (K : PySem.W.Frag) : List V → Hp → VK → Prop := fun xs H Q => ∃ b, xs = [V.bl b] ∧ Q (.str (boolT b)) H
section
variable {X : Cx} {p pos : Pos} {e : Expr} {es : List Expr} {m : Ma}
theorem call_reprT : CallR X (.builtin "repr") (rReprT X.K) := by
  intro pins s σ H vs us Q I r h
  obtain ⟨b, rfl, q⟩ := h
  cases r with
  | cons r t =>
    cases t
    cases r
    exact PySem.P.repr_of_bool ⟨.str _, H, I.tok _, ⟨_, rfl⟩, q⟩
theorem ok_reprT : OkA X.K (rReprT X.K) fReprT := by
  intro sp fz fzS H H0 sto vs xs z Q s B i e k
  unfold fReprT at e
  split at e
  · cases e
    cases i with
    | cons i t =>
      cases t
      cases i
      exact ⟨_, rfl, k _ fz H s B.spl (.str _)⟩
  · cases e
end
@[simp] theorem fReprT_b {b : Bool} : fReprT [.d (.bool b)] = some (.d (.str (boolT b))) := rfl
end Dh
namespace Dh
open PySem PySem.Spec L2
variable [LawT]
section
variable {K : PySem.W.Frag} {C : Cn} {sp : Option Addr} {fz fz1 : Fz} {ρ : Ev} {sto sto' : Sto} {σ : L2.St} {H H0 H1 : Hp}
/-- all dicts but the one in slot i are forgotten -/
def frgM (ρ : Ev) : Ev := ρ.map fun c => match c with
  | some (.m _) => none
  | c => c
end
def mSetDc (i : Nat) (it : Mi) (vs : List Nat) (g : Gx) (t : Mt) (ek ev : Mx) : Ms := fun ρ s => match it ρ s with
  | some (xs, s1) => match dcRun vs g t ek ev xs [] ρ s1 with
    | some (acc, s2) => some (.nx, ρ.set i (some (.m acc)), s2)
    | none => none
  | none => none
def fInM (neg : Bool) : R → R → Option R := fun x y => match keyP x, y with
  | some k, .n acc => some (.d (.bool (if neg then !(valP acc k).isSome else (valP acc k).isSome)))
  | some k, .d (.dict ds) => some (.d (.bool (if neg then !((ds.find? fun p => kEq p.1 k).map (·.2)).isSome else ((ds.find? fun p => kEq p.1 k).map (·.2)).isSome)))
  | _, _ => none
theorem ImK.isSome {K : PySem.W.Frag} {fz : Fz} {H : Hp} {kvs : List (Key × V)} {acc : List (Key × PyData)} {k : Key} (im : ImK K fz H kvs acc) : (valV kvs k).isSome = (valP acc k).isSome := by
  obtain ⟨g1, g2⟩ := im.val (k := k)
  cases q : valV kvs k with
  | none => rw [g2 q]; rfl
  | some v =>
    obtain ⟨d, e, _⟩ := g1 v q
    rw [e]; rfl
section
variable {X : Cx} {a b e : Expr} {ma mb m : Mx} {pos p : Pos} {kk : Nat}
def fIxM : R → R → Option R := fun x y => match x, keyP y with
  | .n acc, some k => (valP acc k).map .d
  | .d (.dict ds), some k => ((ds.find? fun p => kEq p.1 k).map (·.2)).map .d
  | _, _ => none
end
def fLenM : List R → Option R
  | [.n acc] => some (.d (.int acc.length))
  | [.d (.dict ds)] => some (.d (.int ds.length))
  | _ => none
def mPutM (i : Nat) (ix a : Mx) : Ms := fun ρ s => match a ρ s with
  | some (r, s1) => match ix ρ s1 with
    | some (rk, s2) => match ρ[i]?, keyP rk, toD r with
      | some (some (.m acc)), some k, some x => if acc.length < sizeLine then some (.nx, (frgM ρ).set i (some (.m (putP acc k x))), s2) else none
      | _, _, _ => none
    | none => none
  | none => none
def toArgD : R → Option Cl
  | .n acc => some (.d (dOf acc))
  | r => toArg r
def toArgDs : List R → Option (List Cl)
  | [] => some []
  | r :: rs => match toArgD r, toArgDs rs with
    | some x, some xs => some (x :: xs)
    | _, _ => none
def flatD : PyData → Bool
  | .int _ => true
  | .bool _ => true
  | .none => true
  | .str _ => true
  | _ => false
def mCallD (g : Fx) (a : Ma) : Mx := bnd a fun rs _ s => match toArgDs rs with
  | some cs => match g cs s with
    | some (.d x, s') => if flatD x = true then some (.d x, s') else none
    | _ => none
  | none => none
section
variable {K : PySem.W.Frag} {sp : Option Addr} {fz fz1 : Fz} {H H1 H2 : Hp} {sto : Sto}
theorem bs_more {a : Addr} {o : HO} (B : Bs sp fz H1 sto) (h1 : H1 a = some o) (n : some a ≠ sp) : Bs sp (fun b => fz b ∨ b = a) H1 sto := ⟨B.spl, fun c ec q => by
  rcases q with q | q
  · exact B.nsp c ec q
  · exact n (by subst q; exact ec.symm), (fun b q z => by
  rcases q with q | q
  · exact B.trk b q z
  · subst q; rw [h1] at z; cases z), B.tab⟩
end
end Dh
namespace Dh
open PySem PySem.Spec PyProof.Rows L2 PySem.W
variable [LawT]
section
variable {X : Cx} {i j l : Nat} {x y z : Str} {a b c : Expr} {m : Ma} {px py pz pt pos : Pos} {kt k2 pt2}
theorem ss_par3t (hc : X.calm = true) (hN : X.N.Nodup) (ha : SA2 X [a, b, c] m) (hi : X.N[i]? = some x := by rfl) (hj : X.N[j]? = some y := by rfl) (hl : X.N[l]? = some z := by rfl) (hij : i ≠ j := by decide) (hil : i ≠ l := by decide) (hjl : j ≠ l := by decide)
    (hx : Loc X.env.scope x := by first | exact Or.inl rfl | exact Or.inr rfl) (hy : Loc X.env.scope y := by first | exact Or.inl rfl | exact Or.inr rfl) (hz : Loc X.env.scope z := by first | exact Or.inl rfl | exact Or.inr rfl)
    (fx : X.fn x = true ∨ X.env.scope.names.lookup x = some .local := by first | exact .inl rfl | exact .inr rfl) (fy : X.fn y = true ∨ X.env.scope.names.lookup y = some .local := by first | exact .inl rfl | exact .inr rfl) (fz' : X.fn z = true ∨ X.env.scope.names.lookup z = some .local := by first | exact .inl rfl | exact .inr rfl)
    (hs : swapsWithSole [.Tuple [.Name x px, .Name y py, .Name z pz] kt pt] (.Tuple [a, b, c] k2 pt2) pos.line X.env = pure false := by rfl)
    (hw : swappedStores [.Tuple [.Name x px, .Name y py, .Name z pz] kt pt] (.Tuple [a, b, c] k2 pt2) X.env = pure none := by rfl)
    (h1 : (assignEach [.Tuple [.Name x px, .Name y py, .Name z pz] kt pt] X.env).map (·.2) = [assign (.Tuple [.Name x px, .Name y py, .Name z pz] kt pt) X.env] := by rfl)
    (hn : (assignEach [.Name x px, .Name y py, .Name z pz] X.env).length = 3 := by rfl) (hst : (assignEach [.Name x px, .Name y py, .Name z pz] X.env).findIdx? (·.1) = none := by rfl)
    (s1 : (assignEach [.Name x px, .Name y py, .Name z pz] X.env).map (·.2) = assign (.Name x px) X.env :: (assignEach [.Name y py, .Name z pz] X.env).map (·.2) := by rfl)
    (s2 : (assignEach [.Name y py, .Name z pz] X.env).map (·.2) = assign (.Name y py) X.env :: (assignEach [.Name z pz] X.env).map (·.2) := by rfl)
    (s3 : (assignEach [.Name z pz] X.env).map (·.2) = assign (.Name z pz) X.env :: (assignEach [] X.env).map (·.2) := by rfl) :
    SS X (.Assign [.Tuple [.Name x px, .Name y py, .Name z pz] kt pt] (.Tuple [a, b, c] k2 pt2) pos) (mPar3g i j l m) :=
  PS.impI (ps_asg (pe_tup ha) (pg_tup hc (pgs_cons (pg_name hN hi hx fx) (pgs_cons (pg_name hN hj hy fy) (pgs_cons (pg_name hN hl hz fz') pgs_nil s3) s2) s1) hn hst) hs hw h1) fun D σ H hlen h => by
  obtain ⟨C, fz, ρ, sto, out, ρ', sto', F, e, k⟩ := h
  have hi' := lt_of_slot hi hlen
  have hj' := lt_of_slot hj hlen
  have hl' := lt_of_slot hl hlen
  unfold mPar3g at e
  split at e
  · rename_i r q u s1 e1
    split at e
    · rename_i c1 d1 f1 ec ed ef
      cases e
      refine ⟨C, fz, ρ, sto, _, _, F, e1, fun vs fz1 H1 st1 l1 i1 dd => ?_⟩
      cases i1 with
      | cons iv t =>
        cases t with
        | cons iw t =>
          cases t with
          | cons iu t =>
            cases t
            rename_i v w uu
            refine ⟨(show 3 ≤ sizeLine by decide), fun p hp => ⟨p, [v, w, uu], rfl, .inl (.inl upd_same), rfl, v, [w, uu], rfl, w, [uu], rfl, uu, [], rfl, rfl, ?_⟩⟩
            have B1 := F.bs.step st1 l1
            have lay : Stp C.sp fz1 H1 fz1 (upd H1 p (.tup [v, w, uu])) := .laid hp
            have ep : some p ≠ C.sp := l1.ne hp (by intro z; cases z)
            have l2 := (SpL.upd (o := .tup [v, w, uu]) l1 ep)
            have st2 := st1.trans lay
            have iv2 := iv.stp lay B1
            have iw2 := iw.stp lay B1
            have iu2 := iu.stp lay B1
            have fr : ∀ {r' : R} {ys : List PyData}, toCl r' = some (.o ys) → r' = .f ys := fun {r'} {ys} e => by
              cases r' with
              | d x => cases e
              | f zs => cases e; rfl
              | b zs => cases e
              | s => cases e
              | m _ => cases e
              | t _ => cases e
              | n _ => cases e
              | u _ => cases e
              | h l => cases e
            have hρ : ρ.length = σ.length := F.len
            have F1 := F.give st2 l2 iv2 ec hi'
            have F2 := F.more F1 iw2 ed (j := j) (by rw [List.length_set]; exact hj') fun n ys a hn g1 g2 => by
              by_cases en : n = i
              · subst en
                right
                intro xs eq ew
                rw [List.getElem?_set_self (by rw [hρ]; exact hi')] at g1
                rw [List.getElem?_set_self hi'] at g2
                cases g1
                cases g2
                exact dd 0 1 a ys xs (by decide) rfl (by rw [fr ec]; rfl) (by rw [eq]; rfl) (by rw [ew]; rfl)
              · rw [List.getElem?_set_ne (Ne.symm en)] at g1 g2
                exact .inl ⟨g1, g2⟩
            have F3 := F.more F2 iu2 ef (j := l) (by rw [List.length_set, List.length_set]; exact hl') fun n ys a hn g1 g2 => by
              by_cases ej : n = j
              · subst ej
                right
                intro xs eq ew
                rw [List.getElem?_set_self (by rw [List.length_set, hρ]; exact hj')] at g1
                rw [List.getElem?_set_self (by rw [List.length_set]; exact hj')] at g2
                cases g1
                cases g2
                exact dd 1 2 a ys xs (by decide) rfl (by rw [fr ed]; rfl) (by rw [eq]; rfl) (by rw [ew]; rfl)
              · rw [List.getElem?_set_ne (Ne.symm ej)] at g1 g2
                by_cases en : n = i
                · subst en
                  right
                  intro xs eq ew
                  rw [List.getElem?_set_self (by rw [hρ]; exact hi')] at g1
                  rw [List.getElem?_set_self hi'] at g2
                  cases g1
                  cases g2
                  exact dd 0 2 a ys xs (by decide) rfl (by rw [fr ec]; rfl) (by rw [eq]; rfl) (by rw [ew]; rfl)
                · rw [List.getElem?_set_ne (Ne.symm en)] at g1 g2
                  exact .inl ⟨g1, g2⟩
            exact k fz1 _ _ F3 st2.sts
    · cases e
  · cases e
end
end Dh
namespace Dh
open PySem PySem.Spec L2 RZ PyProof.Rows
variable [LawT]
/-- the items of an own list that is looked at -/
def itemsB : R → Option (List PyData)
  | .b xs => some xs
  | _ => none
def mSeqB (a : Mx) : Mi := bnd a fun x _ => ret (itemsB x)
end Dh
namespace Dh
open PySem PySem.Spec PyProof.Rows L2 PySem.W
variable [LawT]
mutual
/-- no list, no dict within -/
def flatT : PyData → Bool
  | .none => true
  | .bool _ => true
  | .int _ => true
  | .str _ => true
  | .tuple xs => flatTs xs
  | .list _ => false
  | .dict _ => false
def flatTs : List PyData → Bool
  | [] => true
  | x :: xs => flatT x && flatTs xs
end
section
variable {K : PySem.W.Frag} {fz fz1 : Fz} {H : Hp}
mutual
theorem Im.flatT : ∀ {x : PyData} {v : V}, Im K fz H v x → Dh.flatT x = true → Im K fz1 H v x
  | .none, _, .non, _ => .non
  | .bool _, _, .bl b, _ => .bl b
  | .int _, _, .int i, _ => .int i
  | .str _, _, .str x, _ => .str x
  | .tuple xs, _, .tup h im, q => .tup h (ImA.flatT im (by simpa [Dh.flatT] using q))
  | .list _, _, _, q => by simp [Dh.flatT] at q
  | .dict _, _, _, q => by simp [Dh.flatT] at q
theorem ImA.flatT : ∀ {xs : List PyData} {vs : List V}, ImA K fz H vs xs → flatTs xs = true → ImA K fz1 H vs xs
  | [], _, .nil, _ => .nil
  | x :: xs, _, .cons h t, q => by
    simp only [flatTs, Bool.and_eq_true] at q
    exact .cons (Im.flatT h q.1) (ImA.flatT t q.2)
end
end
def toArgB : R → Option Cl
  | .b xs => some (.d (.list xs))
  | r => toArg r
def toArgBs : List R → Option (List Cl)
  | [] => some []
  | r :: rs => match toArgB r, toArgBs rs with
    | some x, some xs => some (x :: xs)
    | _, _ => none
def mCallB (g : Fx) (a : Ma) : Mx := bnd a fun rs _ s => match toArgBs rs with
  | some cs => match g cs s with
    | some (.d x, s') => if flatT x = true then some (.d x, s') else none
    | _ => none
  | none => none
section
variable {K : PySem.W.Frag} {sp : Option Addr} {fz fz1 : Fz} {H H1 H2 : Hp} {sto : Sto}
theorem ImRs.argsB : ∀ {vs : List V} {rs : List R} {cs : List Cl}, ImRs K sp H fz1 H1 vs rs → toArgBs rs = some cs → ∀ fzA : Fz, Bs sp fzA H1 sto → (∀ a, fz1 a → fzA a) →
    ∃ fz2 : Fz, Bs sp fz2 H1 sto ∧ (∀ a, fzA a → fz2 a) ∧ Paired (ArgOk K fz2 sp H1) vs cs
  | _, _, _, .nil, e, fzA, BA, g => by
    cases e
    exact ⟨fzA, BA, fun _ h => h, .nil⟩
  | _, _, _, .cons (a := v) (b := r) h t, e, fzA, BA, g => by
    unfold toArgBs at e
    split at e
    · rename_i x xs e1 e2
      cases e
      have : ∃ fzB : Fz, Bs sp fzB H1 sto ∧ (∀ a, fzA a → fzB a) ∧ ArgOk K fzB sp H1 v x := by
        cases r with
        | b ys =>
          cases e1
          obtain ⟨a, vs, rfl, h1, h2, h3⟩ := h
          exact ⟨_, bs_more BA h1 h3, fun b q => .inl q, .lst (.inl ⟨h1, .inr rfl⟩) (h2.fzm fun b q => .inl (g b q))⟩
        | d y => cases e1; exact ⟨fzA, BA, fun _ h => h, Im.fzm g h⟩
        | f ys =>
          cases e1
          obtain ⟨a, vs, rfl, h1, h2, h3, h4, h5⟩ := h
          exact ⟨_, bs_more BA h1 h4, fun b q => .inl q, .lst (.inl ⟨h1, .inr rfl⟩) (h2.fzm fun b q => .inl (g b q))⟩
        | s => cases e1; exact ⟨fzA, BA, fun _ h => h, h⟩
        | m acc => cases e1
        | t acc => cases e1
        | n acc => cases e1
        | u acc => cases e1
        | h l => cases e1
      obtain ⟨fzB, BB, gB, iB⟩ := this
      obtain ⟨fz2, B2, g2, i2⟩ := ImRs.argsB t e2 fzB BB fun a q => gB a (g a q)
      exact ⟨fz2, B2, fun a q => g2 a (gB a q), .cons (iB.fzm g2) i2⟩
    · cases e
end
section
variable {X : Cx} {k : Nat} {f : Addr} {fd : FuncData} {ps : List Str} {x : Str} {p pos : Pos} {e : Expr} {es : List Expr} {m : Ma} {g : Fx}
theorem rd_callB {K : PySem.W.Frag} {n : Nat} {σ : L2.St} {H : Hp} {Q : VK} (hn : ∀ cs s r, g cs s = some r → cs.length = n) (h : rdE K (mCallB g m) σ H Q) : tCallG (spOf K n g) (rdA K m) σ H Q := by
  obtain ⟨C, fz, ρ, sto, z, sto', F, e, k⟩ := h
  obtain ⟨rs, s1, ea, e1⟩ := bnd_some e
  clear e
  split at e1
  · rename_i cs ec
    split at e1
    · rename_i x s' eg
      split at e1
      · rename_i hf
        cases e1
        refine ⟨C, fz, ρ, sto, rs, s1, F, ea, fun vs fz1 H1 st1 l1 i1 => ?_⟩
        have B1 := F.bs.step st1 l1
        obtain ⟨fz2, B2, gB, a⟩ := ImRs.argsB i1 ec fz1 B1 fun _ h => h
        refine ⟨C.sp, fz2, cs, s1, _, sto', hn cs s1 _ eg, a, B2, eg, fun v fz3 H3 st3 l3 i3 => ?_⟩
        have st4 : Stp C.sp fz1 H1 fz1 H3 := st3.seen gB B2.trk
        exact k v fz1 H3 (st1.trans st4) l3 (Im.flatT (show Im K fz3 H3 v x from i3) hf)
      · cases e1
    · cases e1
  · cases e1
theorem se_callB {n l : Nat} {mb : Ms} (F : FnG X.prog X.w X.K X.mg X.base k f fd ps (spOf X.K n (run' n l mb))) (hr : Room k X.A) (hgd : X.A.guards = some []) (hm : X.mg x = some (.ref f)) (hk : PySem.W.keepIn X.K (.ref f) = true) (hb : Binds X.K fd ps []) (ha : SA X (e :: es) m) (hg : Gl X x := by rfl)
    (hdb : (x == ("__debug__" : Str)) = false := by decide) (he : starEach (e :: es) X.env = (false, eval e X.env) :: starEach es X.env := by rfl) (hpl : (backTo pos (starEach es X.env)).any (·.1) = false := by rfl) :
    SE X (.Call (.Name x p) (e :: es) [] pos) (mCallB (run' n l mb) m) := PE.imp (pe_callG F hr hgd hm hk hb ha hg hdb he hpl) fun _ _ _ h => rd_callB run'_len h
end
end Dh
namespace Dh
open PySem PySem.Spec PyProof.Rows L2 PySem.W RZ
variable [LawT]
section
variable {X : Cx} {pins : List (Addr × Obj)} {σ : L2.St} {H : Hp} {s : Shared} {a b : Addr} {fz : Fz}
/-- what stands at a key -/
def valT (acc : List (List Int × PyData)) (k : List Int) : Option PyData := (acc.find? fun p => decide (p.1 = k)).map (·.2)
def putT (acc : List (List Int × PyData)) (k : List Int) (x : PyData) : List (List Int × PyData) := if (acc.any fun p => decide (p.1 = k)) = true then acc.map fun p => if p.1 = k then (p.1, x) else p else acc ++ [(k, x)]
end
end Dh
namespace Dh
open PySem PySem.Spec PyProof.Rows L2 PySem.W RZ
variable [LawT]
section
variable {K : PySem.W.Frag} {C : Cn} {sp : Option Addr} {fz fz1 : Fz} {ρ : Ev} {sto sto' : Sto} {σ : L2.St} {H H0 H1 : Hp} {xs : List (List Int × Addr × Value)} {acc : List (List Int × PyData)}
theorem TK.len (h : TK K fz H xs acc) : acc.length = xs.length := Paired.length h
theorem TK.val (h : TK K fz H xs acc) (k : List Int) : (∀ d, valT acc k = some d → ∃ b u v, atKey xs k = some (b, u) ∧ RelV v u ∧ Im K fz H v d) ∧ (valT acc k = none → atKey xs k = none) := by
  unfold TK at h
  induction h with
  | nil => exact ⟨fun d e => by simp [valT] at e, fun _ => by simp [atKey]⟩
  | @cons p q ps qs hq t ih =>
    obtain ⟨h1, _, v, h2, h3⟩ := hq
    by_cases e : p.1 = k
    · have e' : q.1 = k := h1.symm.trans e
      have b : atKey (q :: qs) k = some q.2 := by simp [atKey, List.find?_cons, e']
      have c : valT (p :: ps) k = some p.2 := by simp [valT, List.find?_cons, e]
      rw [b, c]
      exact ⟨fun d e => by cases e; exact ⟨q.2.1, q.2.2, v, rfl, h2, h3⟩, fun z => by cases z⟩
    · have e' : ¬ q.1 = k := fun z => e (h1.trans z)
      have b : atKey (q :: qs) k = atKey qs k := by simp [atKey, List.find?_cons, e']
      have c : valT (p :: ps) k = valT ps k := by simp [valT, List.find?_cons, e]
      rw [b, c]
      exact ih
theorem paired_snoc {α β : Type} {F : α → β → Prop} : ∀ {l : List α} {m : List β} {x : α} {y : β}, Paired F l m → F x y → Paired F (l ++ [x]) (m ++ [y])
  | _, _, _, _, .nil, h => .cons h .nil
  | _, _, _, _, .cons r t, h => .cons r (paired_snoc t h)
theorem TK.put (h : TK K fz H xs acc) {k : List Int} {b : Addr} {u : Value} {v : V} {x : PyData} (hb : FzT K H b (k.map V.int)) (rv : RelV v u) (im : Im K fz H v x) : TK K fz H (storedH xs k b u) (putT acc k x) := by
  have e : (acc.any fun p => decide (p.1 = k)) = (atKey xs k).isSome := by
    unfold TK at h
    clear hb rv im
    induction h with
    | nil => simp [atKey]
    | @cons p q ps qs hq t ih =>
      by_cases e : p.1 = k
      · have e' : q.1 = k := hq.1.symm.trans e
        simp [atKey, List.find?_cons, e, e']
      · have e' : ¬ q.1 = k := fun z => e (hq.1.trans z)
        have b : atKey (q :: qs) k = atKey qs k := by simp [atKey, List.find?_cons, e']
        rw [b, ← ih]
        simp [e]
  unfold putT storedH
  rw [e]
  by_cases q : (atKey xs k).isSome = true
  · rw [if_pos q, if_pos q]
    clear e q
    unfold TK at h ⊢
    induction h with
    | nil => exact .nil
    | @cons p q ps qs hq t ih =>
      refine .cons ?_ ih
      obtain ⟨h1, h2, w, h3, h4⟩ := hq
      by_cases e : p.1 = k
      · have e' : q.1 = k := h1.symm.trans e
        dsimp only
        rw [if_pos e]
        unfold putAt
        rw [if_pos e']
        exact ⟨h1, h2, v, rv, im⟩
      · have e' : ¬ q.1 = k := fun z => e (h1.trans z)
        dsimp only
        rw [if_neg e]
        unfold putAt
        rw [if_neg e']
        exact ⟨h1, h2, w, h3, h4⟩
  · rw [if_neg q, if_neg q]
    exact paired_snoc h ⟨rfl, hb, v, rv, im⟩
end
end Dh
namespace Dh
open PySem PySem.Spec PyProof.Rows L2 PySem.W RZ
end Dh
namespace Dh
open PySem PySem.Spec PyProof.Rows L2
variable [LawT]
section
variable {X : Cx}
theorem pairs_ofT {pins : List (Addr × Obj)} {σ : L2.St} {H : Hp} {s : Shared} (I : Inv X pins σ H s) : ∀ {ps : List Addr} {kvs : List (Key × V)}, Paired (fun p kv => SqT X.K H p [kV kv.1, kv.2]) ps kvs →
    ∃ (prs : List (Key × Value)) (us : List (Value × Value)), KV kvs prs ∧ prs.length = ps.length ∧ us.length = ps.length ∧ ∀ (j : Nat) (u : Value × Value), us[j]? = some u → ∃ b k, ps[j]? = some b ∧ prs[j]? = some (k, u.2) ∧ IsTup s.heap b #[u.1, u.2] ∧ keyIs k u.1 = true
  | _, _, .nil => ⟨[], [], .nil, rfl, rfl, fun j q e => by simp at e⟩
  | _, _, .cons (a := p) (b := kv) h t => by
    obtain ⟨prs, us, r, hl, hu, hp⟩ := pairs_ofT I t
    obtain ⟨its, rv, ht, _⟩ := I.tuple h
    obtain ⟨u, y, ei, ru, ry⟩ := vals2 rv
    subst ei
    refine ⟨(kv.1, y) :: prs, (u, y) :: us, .cons ⟨rfl, ry⟩ r, by rw [List.length_cons, List.length_cons, hl], by rw [List.length_cons, List.length_cons, hu], fun j q e => ?_⟩
    cases j with
    | zero =>
      have e' : (u, y) = q := Option.some.inj e
      subst e'
      exact ⟨p, kv.1, rfl, rfl, ht, kV_is (P := X.prog) (w := X.w) ru⟩
    | succ j =>
      obtain ⟨b, k, e1, e2, e3, e4⟩ := hp j q (by simpa using e)
      exact ⟨b, k, by simpa using e1, by simpa using e2, e3, e4⟩
theorem tup_plain {pins : List (Addr × Obj)} {σ : L2.St} {H : Hp} {s : Shared} (I : Inv X pins σ H s) {a : Addr} {xs : List V} (h : FzT X.K H a xs) : ∃ its : List Value, Vals xs its ∧ PlainSeq "tuple" s.heap a its.toArray ∧ xs.length ≤ sizeLine := by
  rcases h with ⟨o, e, hd⟩ | ⟨o, its, n, e1, e2, e3, e4, e5, e6⟩
  · obtain ⟨g1, g2, its, r, o', g3, g4, n, g5⟩ := I.hok a _ e
    rw [g1] at g3
    cases g3
    exact ⟨its, r, ⟨o, n, g1, g4, hd, g5⟩, g2⟩
  · refine ⟨its.toList, e6, ⟨o, n, I.kIn a o e1, e2, e3, by simpa using e4⟩, ?_⟩
    have := e6.length
    simp only [Array.length_toList] at this
    omega
def rDictP (K : PySem.W.Frag) : List V → Hp → VK → Prop := fun xs H Q => ∃ (a : Addr) (ps : List Addr) (kvs : List (Key × V)), xs = [.ref a] ∧ FzT K H a (ps.map V.ref) ∧ Paired (fun p kv => SqT K H p [kV kv.1, kv.2]) ps kvs ∧
    ∀ p, H p = none → Q (.ref p) (upd H p (.dK (mergeK [] kvs)))
theorem call_dictPT (hcalm : X.calm = true) : CallR X (.type "dict") (rDictP X.K) := by
  intro pins s σ H xs us Q I r q
  obtain ⟨a, ps, kvs, ex, hq, hp, q⟩ := q
  subst ex
  obtain ⟨u, eu, rx⟩ := vals1 r
  subst eu
  cases rx
  obtain ⟨its, rv, pl, hz⟩ := tup_plain I hq
  have ei := refs_at rv
  subst ei
  rw [List.length_map] at hz
  obtain ⟨prs, us, rel, hl, hu, hpr⟩ := pairs_ofT I hp
  refine PySem.call_dict_pairs (knd := mixKind X.prog X.w) (kvs := prs) (PairArg.tuple a (ps.map Value.ref).toArray (fun j => ps.getD j 0) us) (I.ok.hd hcalm) ⟨pl, by simp [hu], fun j k v hj => ?_⟩ ⟨by rw [hl, hu], fun i key v hi => ?_⟩ (by rw [hu]; exact hz) fun h' tk hd' k => ?_
  · obtain ⟨b, k', e1, e2, e3, e4⟩ := hpr j _ hj
    have eg : ps.getD j 0 = b := by rw [List.getD_eq_getElem?_getD, e1]; rfl
    dsimp only
    rw [eg]
    exact ⟨by simp [e1], .inl e3⟩
  · obtain ⟨b, k', e1, e2, e3, e4⟩ := hpr i _ hi
    exact ⟨k', e2, e4⟩
  · have hm : (s.heap.objs.size == sysModules) = false := beq_eq_false_iff_ne.mpr (Nat.ne_of_gt I.big)
    have hlen : (mergeK [] kvs).length ≤ sizeLine := by
      refine Nat.le_trans (length_mergeK kvs []) ?_
      rw [List.length_nil, Nat.zero_add, rel.length, hl]
      exact hz
    exact ⟨.ref s.heap.objs.size, upd H s.heap.objs.size (.dK (mergeK [] kvs)), I.laid (t' := tk) (fun b o e => k b o (by simp) e) (Nat.le_refl _) (show ObjOk X.prog X.w _ _ _ (.dK (mergeK [] kvs)) from ⟨hlen, hm, merged [] prs, KV.merge rel .nil, hd'⟩), rfl, q _ (I.hok.fresh (Nat.le_refl _))⟩
end
def pairP : PyData → Option (Key × PyData)
  | .tuple [k, v] => (keyP (.d k)).map fun k => (k, v)
  | _ => none
def pairsP : List PyData → Option (List (Key × PyData))
  | [] => some []
  | x :: xs => match pairP x, pairsP xs with
    | some p, some ps => some (p :: ps)
    | _, _ => none
def fDictP : List R → Option R
  | [.d (.tuple xs)] => (pairsP xs).map fun ps => .m (ps.foldl (fun acc p => putP acc p.1 p.2) [])
  | _ => none
section
variable {K : PySem.W.Frag} {sp : Option Addr} {fz : Fz} {H : Hp}
theorem pairsP_im : ∀ {xs : List PyData} {vs : List V} {ps : List (Key × PyData)}, ImA K fz H vs xs → pairsP xs = some ps → ∃ (as : List Addr) (kvs : List (Key × V)), vs = as.map V.ref ∧ Paired (fun p kv => SqT K H p [kV kv.1, kv.2]) as kvs ∧ ImK K fz H kvs ps
  | _, _, _, .nil, e => by
    cases e
    exact ⟨[], [], rfl, .nil, rfl, .nil⟩
  | x :: xs, _, _, .cons i t, e => by
    unfold pairsP at e
    split at e
    · rename_i p ps' e1 e2
      cases e
      obtain ⟨as, kvs, rfl, h1, h2, h3⟩ := pairsP_im t e2
      unfold pairP at e1
      split at e1
      · rename_i k v
        obtain ⟨k', ek, rfl⟩ := Option.map_eq_some_iff.mp e1
        cases i with
        | tup h im =>
          rename_i a ws
          cases im with
          | cons j1 t1 =>
            cases t1 with
            | cons j2 t2 =>
              cases t2
              rename_i w1 w2
              have ev := keyP_im (K := K) (fz := fz) (H := H) (show ImR K none H fz H w1 (.d k) from j1) ek
              subst ev
              exact ⟨a :: as, (k', w2) :: kvs, rfl, .cons h.sq h1, by rw [List.map_cons, List.map_cons, h2], .cons j2 h3⟩
      · cases e1
    · cases e
theorem merge_im : ∀ (kvs : List (Key × V)) {ps : List (Key × PyData)} {ws : List (Key × V)} {acc : List (Key × PyData)}, ImK K fz H kvs ps → ImK K fz H ws acc → ImK K fz H (mergeK ws kvs) (ps.foldl (fun acc p => putP acc p.1 p.2) acc)
  | [], ps, _, _, h, g => by
    have : ps = [] := List.map_eq_nil_iff.mp h.1.symm
    subst this
    exact g
  | p :: kvs, ps, ws, acc, h, g => by
    obtain ⟨d, ps', rfl, i, h2⟩ := h.cons_inv
    show ImK K fz H (mergeK (putK ws p.1 p.2) kvs) (ps'.foldl (fun acc p => putP acc p.1 p.2) (putP acc p.1 d))
    exact merge_im kvs h2 (g.put i)
end
section
variable {X : Cx} {p pos : Pos} {e : Expr} {es : List Expr} {m : Ma}
theorem ok_dictP : OkA X.K (rDictP X.K) fDictP := by
  intro sp fz fzS H H0 sto vs xs z Q s B i e k
  unfold fDictP at e
  split at e
  · rename_i ds
    obtain ⟨ps, ep, rfl⟩ := Option.map_eq_some_iff.mp e
    cases i with
    | cons i t =>
      cases t
      cases i with
      | tup h im =>
        rename_i a ws
        obtain ⟨as, kvs, rfl, h1, h2⟩ := pairsP_im im ep
        refine ⟨a, as, kvs, rfl, h, h1, fun q hq => ?_⟩
        have hf : ¬ fz q := fun z => B.trk _ z hq
        have n : some q ≠ sp := B.spl.ne hq (by intro z; cases z)
        have st : Stp sp fz H fz (upd H q (.dK (mergeK [] kvs))) := .laid hq
        have im2 : ImK X.K fz (upd H q (.dK (mergeK [] kvs))) (mergeK [] kvs) (ps.foldl (fun acc p => putP acc p.1 p.2) []) := (merge_im _ h2 ⟨rfl, .nil⟩).stp st B
        exact k _ fz _ (s.trans st) (B.spl.upd n) ⟨q, mergeK [] kvs, rfl, upd_same, im2, hf, n, s.back n hq⟩
  · cases e
theorem se_dictP (hc : X.calm = true) (ha : SA X (e :: es) m) (hm : X.mg "dict" = none) (hg : Gl X "dict" := by rfl) (he : starEach (e :: es) X.env = (false, eval e X.env) :: starEach es X.env := by rfl) (hpl : (backTo pos (starEach es X.env)).any (·.1) = false := by rfl) : SE X (.Call (.Name "dict" p) (e :: es) [] pos) (mA fDictP m) :=
  se_ty (call_dictPT hc) ok_dictP ha hm (by decide +kernel) hg (by decide) (by decide) he hpl
end
def noneT : Str := "None"
def fReprN : List R → Option R
  | [.d .none] => some (.d (.str noneT))
  | xs => fRepr xs
theorem fReprN_of {x : R} {z : R} (h : fRepr [x] = some z) : fReprN [x] = some z := by
  unfold fReprN
  split
  · rename_i e
    cases e
    exact absurd (show (none : Option R) = some z from h) (by intro q; cases q)
  · exact h
def rReprN (K : PySem.W.Frag) : List V → Hp → VK → Prop := fun xs H Q => (xs = [V.non] ∧ Q (.str noneT) H) ∨ rRepr K xs H Q
section
variable {X : Cx} {p pos : Pos} {e : Expr} {es : List Expr} {m : Ma} {k : Nat}
theorem call_reprN (hr : Room k X.A) (hg : X.A.guards = some []) : CallR X (.builtin "repr") (rReprN X.K) := by
  intro pins s σ H vs us Q I r h
  rcases h with ⟨rfl, q⟩ | h
  · cases r with
    | cons r t =>
      cases t
      cases r
      exact PySem.P.repr_of_none ⟨.str _, H, I.tok _, ⟨_, rfl⟩, q⟩
  · exact call_reprD hr hg pins s σ H vs us Q I r h
theorem ok_reprN : OkA X.K (rReprN X.K) fReprN := by
  intro sp fz fzS H H0 sto vs xs z Q s B i e k
  unfold fReprN at e
  split at e
  · cases e
    cases i with
    | cons i t =>
      cases t
      cases i
      exact .inl ⟨rfl, k _ fz H s B.spl (.str _)⟩
  · exact .inr (ok_repr sp fz fzS H H0 sto vs _ z Q s B i e k)
end
def fIdxL : R → R → Option R := fun x y => match rdL x, y with
  | some ds, .d (.int g) => match intsOf ds with
    | some ns => (ns.findIdx? fun n => n == g).map fun j => .d (.int (j : Nat))
    | none => none
  | _, _ => none
@[simp] theorem fIdxL_f {ds : List PyData} {g : Int} : fIdxL (.f ds) (.d (.int g)) = match intsOf ds with | some ns => (ns.findIdx? fun n => n == g).map fun j => .d (.int (j : Nat)) | none => none := rfl
end Dh
namespace Dh
open PySem PySem.Spec PyProof.Rows L2
variable [LawT]
def starR (x : R) (xs : List R) : Option (List R) := match x with
  | .d (.tuple ys) => some (ys.map R.d ++ xs)
  | _ => none
def maStar (a : Mx) (r : Ma) : Ma := bnd a fun x => bnd r fun xs _ s => (starR x xs).map fun zs => (zs, s)
def fCnt : R → R → Option R := fun x y => match rdL x, y with
  | some ds, .d (.int g) => match intsOf ds with
    | some ns => some (.d (.int (ns.count g : Nat)))
    | none => none
  | _, _ => none
@[simp] theorem fCnt_f {ds : List PyData} {g : Int} : fCnt (.f ds) (.d (.int g)) = match intsOf ds with | some ns => some (.d (.int (ns.count g : Nat))) | none => none := rfl
@[simp] theorem fCnt_b {ds : List PyData} {g : Int} : fCnt (.b ds) (.d (.int g)) = match intsOf ds with | some ns => some (.d (.int (ns.count g : Nat))) | none => none := rfl
end Dh
namespace Dh
open PySem PySem.Spec L2 PyProof.Rows
variable [LawT]
/-- no other own dict -/
def oneM (ρ : Ev) (i : Nat) : Bool := (List.range ρ.length).all fun j => j == i || (match ρ[j]? with | some (some (.m _)) => false | _ => true)
section
variable {sp : Option Addr} {fz fz1 : Fz} {H H1 : Hp}
/-- an object that was lent out is given back -/
theorem Stp.lend {a : Addr} {o u : HO} (h1 : H a = some o) (n : some a ≠ sp) (nt : NTb o) (nt' : NTb u) (s : Stp sp fz (upd H a u) fz1 H1) : Stp sp fz H fz1 (upd H1 a o) where
  mono := s.mono
  ext0 := fun b x hb nb ht => by
    by_cases eb : b = a
    · subst eb
      rw [h1] at hb
      cases hb
      exact upd_same
    · rw [upd_ne eb]
      exact s.ext b x (by rw [upd_ne eb]; exact hb) nb ht
  tb := fun b ps hb nb => by
    have eb : b ≠ a := fun z => by
      rw [z, h1] at hb
      exact nt.1 ps (Option.some.inj hb)
    rw [upd_ne eb]
    exact s.tb b ps (by rw [upd_ne eb]; exact hb) nb
  new := fun b hb => by
    rcases s.new b hb with q | ⟨q1, q2⟩
    · exact .inl q
    · have nb : b ≠ a := fun z => by rw [z, upd_same] at q2; cases q2
      rw [upd_ne nb] at q2
      exact .inr ⟨q1, q2⟩
  trk := fun t b hb z => by
    by_cases eb : b = a
    · subst eb; rw [upd_same] at z; cases z
    · rw [upd_ne eb] at z
      exact s.trk (fun c hc => by
        by_cases ec : c = a
        · subst ec; rw [upd_same]; simp
        · rw [upd_ne ec]; exact t c hc) b hb z
  sps := fun q b z => by
    have eb : b ≠ a := fun y => n (by rw [z, y])
    have q2 : SpSt sp (upd H a u) := fun c y => by
      have ec : c ≠ a := fun x => n (by rw [y, x])
      rw [upd_ne ec]
      exact q c y
    obtain ⟨x, e1, e2⟩ := s.sps q2 b z
    exact ⟨x, by rw [upd_ne eb]; exact e1, e2⟩
  tab := fun q t => by
    have q2 : SpSt sp (upd H a u) := fun c y => by
      have ec : c ≠ a := fun x => n (by rw [y, x])
      rw [upd_ne ec]
      exact q c y
    exact Tabs.upd (s.tab q2 (Tabs.upd t h1 nt)) (s.ext a u upd_same n nt'.1) nt'
end
section
variable {K : PySem.W.Frag} {C : Cn} {fz : Fz} {ρ : Ev} {sto : Sto} {σ : L2.St} {H : Hp}
theorem Fm.lockD (F : Fm K C fz ρ sto σ H) {i : Nat} {acc : List (Key × PyData)} (hi : ρ[i]? = some (some (.m acc))) (one : oneM ρ i = true) : ∃ a kvs, σ[i]? = some (some (.ref a)) ∧ H a = some (.dK kvs) ∧ ImK K fz H kvs acc ∧ ¬ fz a ∧ some a ≠ C.sp ∧ C.H0 a = none ∧
    ∀ od, Fm K C fz (ρ.set i none) sto σ (upd H a (.frz od (.dK kvs))) := by
  obtain ⟨a, kvs, e, h1, h2, h3, h4, h5⟩ := F.vars i _ hi
  refine ⟨a, kvs, e, h1, h2, h3, h4, h5, fun od => ?_⟩
  have S : Sts C.sp fz H fz (upd H a (.frz od (.dK kvs))) := ⟨fun _ q => q, fun b o q n _ c => by
    have : b ≠ a := fun z => by
      subst z
      rcases c with c | c
      · exact h3 c
      · rw [h1] at q; cases q; exact c.2.1 _ rfl
    rw [upd_ne this]; exact q⟩
  have set_ : ∀ {j : Nat} {c : Cl}, (ρ.set i none)[j]? = some (some c) → j ≠ i ∧ ρ[j]? = some (some c) := fun {j c} q => by
    by_cases ej : j = i
    · subst ej
      have hl := (List.getElem?_eq_some_iff.mp hi).1
      rw [List.getElem?_set_self hl] at q
      cases q
    · rw [List.getElem?_set_ne (Ne.symm ej)] at q
      exact ⟨ej, q⟩
  refine ⟨by rw [List.length_set]; exact F.len, F.st.own h5 h4 h1 .dK, ⟨?_, F.bs.nsp, fun b q z => ?_, Tabs.upd F.bs.tab h1 .dK⟩, fun j c q => ?_, fun j k xs ys b hjk q1 q2 => F.sep j k xs ys b hjk (set_ q1).2 (set_ q2).2⟩
  · exact F.bs.spl.upd h4
  · by_cases ee : b = a
    · subst ee; rw [upd_same] at z; cases z
    · rw [upd_ne ee] at z; exact F.bs.trk b q z
  · obtain ⟨nj, q⟩ := set_ q
    have g := F.vars j c q
    cases c with
    | d x => obtain ⟨u, g1, g2⟩ := g; exact ⟨u, g1, g2.sts S F.bs⟩
    | o us =>
      obtain ⟨b, ts, g1, g2, g3, g4, g5, g6⟩ := g
      have : b ≠ a := fun z => by subst z; rw [h1] at g2; cases g2
      exact ⟨b, ts, g1, by rw [upd_ne this]; exact g2, g3.sts S F.bs, g4, g5, g6⟩
    | s => exact g
    | m acc2 =>
      exfalso
      unfold oneM at one
      have hl := (List.getElem?_eq_some_iff.mp q).1
      have := List.all_eq_true.mp one j (List.mem_range.mpr hl)
      rw [q] at this
      simp [nj] at this
    | t acc2 =>
      obtain ⟨b, ts, g1, g2, g3, g4, g5, g6⟩ := g
      have : b ≠ a := fun z => by subst z; rw [h1] at g2; cases g2
      exact ⟨b, ts, g1, by rw [upd_ne this]; exact g2, g3.sts S F.bs, g4, g5, g6⟩
    | h l => exact ⟨g.1, g.2.sts S F.bs⟩
end
section
variable {K : PySem.W.Frag} {fz : Fz} {H : Hp} {a : Addr} {od : Obj} {kvs : List (Key × V)}
mutual
theorem Im.unl (h : H a = some (.frz od (.dK kvs))) : ∀ {v : V} {d : PyData}, noDict d = true → Im K fz H v d → Im K fz (upd H a (.dK kvs)) v d
  | _, _, _, .non => .non
  | _, _, _, .bl b => .bl b
  | _, _, _, .int i => .int i
  | _, _, _, .str x => .str x
  | _, _, q, .lst (a := b) g r => .lst (by
      rcases g with ⟨g, f⟩ | ⟨o, g⟩ | g
      · exact .inl ⟨by rw [upd_ne (fun z => by rw [z, h] at g; cases g)]; exact g, f⟩
      · exact .inr (.inl ⟨o, by rw [upd_ne (fun z => by rw [z, h] at g; cases g)]; exact g⟩)
      · exact .inr (.inr g)) (ImA.unl h (by simpa [noDict] using q) r)
  | _, _, q, .tup (a := b) g r => .tup (by
      rcases g with ⟨o, g, f⟩ | g
      · exact .inl ⟨o, by rw [upd_ne (fun z => by rw [z, h] at g; cases g)]; exact g, f⟩
      · exact .inr g) (ImA.unl h (by simpa [noDict] using q) r)
  | _, _, q, .dct _ _ _ _ => by simp [noDict] at q
theorem ImA.unl (h : H a = some (.frz od (.dK kvs))) : ∀ {v : List V} {d : List PyData}, noDicts d = true → ImA K fz H v d → ImA K fz (upd H a (.dK kvs)) v d
  | _, _, _, .nil => .nil
  | _, _, q, .cons i t => by
    have q' := q
    simp only [noDicts, Bool.and_eq_true] at q'
    exact .cons (Im.unl h q'.1 i) (ImA.unl h q'.2 t)
end
end
def mLcK (i : Nat) (vs : List Nat) (g : Gx) (t : Mt) (e : Mx) : Mx := fun ρ s => match ρ[i]? with
  | some (some (.m acc)) => if oneM ρ i = true then match lcRun vs g t e (acc.map fun p => kP p.1) (ρ.set i none) s with
      | some (ys, s2) => if ys.length ≤ sizeLine ∧ noDicts ys = true then some (.f ys, s2) else none
      | none => none
    else none
  | _ => none
def wK (i : Nat) : TI := fun σ H R => ∃ (a : Addr) (o : Obj) (kvs : List (Key × V)), σ[i]? = some (some (.ref a)) ∧ H a = some (.frz o (.dK kvs)) ∧ R (Itk a o kvs) H
theorem im_kP {K : PySem.W.Frag} {fz : Fz} {H : Hp} (k : Key) : Im K fz H (kV k) (kP k) := by
  cases k with
  | inl i => exact .int i
  | inr x => exact .str x
section
variable {X : Cx} {elt tg : Expr} {ifs : List Expr} {scope : Scope} {own : List (Str × Nat)} {pos p : Pos} {is : List Nat} {g : Gx} {mt : Mt} {me : Mx} {i : Nat} {x : Str}
theorem pi_wK (hx : X.N[i]? = some x := by rfl) (hv : Vis X.env.scope x := by first | exact Or.inl rfl | exact Or.inr (Or.inl rfl) | exact Or.inr (Or.inr rfl)) (hd : (x == ("__debug__" : Str)) = false := by decide) (hcd : (x == ("__classdict__" : Str)) = false := by decide) : PI X tg (.Name x p) (wK i) :=
  PI.imp (pi_keys (pe_var hx hv hd hcd)) fun σ H R h => by
    obtain ⟨a, o, kvs, e, h1, r⟩ := h
    exact ⟨.ref a, e, a, o, rfl, .inl ⟨kvs, h1, r⟩⟩
theorem se_lcK (hc : X.calm = true) (hN : X.N.Nodup) (ok : BlkOk X.N X.env.scope scope own) (hs : ∀ i, i ∈ is → i ∈ own.map (·.2))
    (hg : ∀ (s : Shared) (H : Hp) (C : Addr) (cl : List (Str × Addr)) (fp : List Addr), SG (X.blk s H scope (compEnvC scope cl C X.env) fp) tg is g) (ht : ∀ (s : Shared) (H : Hp) (C : Addr) (cl : List (Str × Addr)) (fp : List Addr), STs (X.blk s H scope (compEnvC scope cl C X.env) fp) ifs mt)
    (he : ∀ (s : Shared) (H : Hp) (C : Addr) (cl : List (Str × Addr)) (fp : List Addr), SE (X.blk s H scope (compEnvC scope cl C X.env) fp) elt me) (hf : ∀ y, foldedSetIterable (.Name x p) X.env y = pure y := by intro _; rfl)
    (hx : X.N[i]? = some x := by rfl) (hv : Vis X.env.scope x := by first | exact Or.inl rfl | exact Or.inr (Or.inl rfl) | exact Or.inr (Or.inr rfl)) (hd : (x == ("__debug__" : Str)) = false := by decide) (hcd : (x == ("__classdict__" : Str)) = false := by decide) :
    SE X (.ListComp elt [⟨tg, .Name x p, ifs, 0⟩] scope pos) (mLcK i (own.map (·.2)) g mt me) :=
  PE.imp (pe_lock (pe_lc (wi := wK i) (g := rdG X.K is g) (tt := rdT X.K mt) (te := rdE X.K me) hc hN (pi_wK hx hv hd hcd) ok hg ht he hf)) fun σ H Q h => by
    obtain ⟨C, fz, ρ, sto, z, sto', F, e, k⟩ := h
    unfold mLcK at e
    split at e
    · rename_i acc hi
      split at e
      · rename_i one
        split at e
        · rename_i ys s2 e2
          split at e
          · rename_i hz
            cases e
            obtain ⟨a, kvs, eσ, h1, h2, h3, h4, h5, lk⟩ := F.lockD hi one
            refine ⟨a, .dK kvs, h1, trivial, fun od => ?_⟩
            have F' := lk od
            have goes : ∀ (C1 : Cn) (fz1 : Fz) (ρ1 : Ev) (s1 : Sto), Fm X.K C1 fz1 ρ1 s1 σ (upd H a (.frz od (.dK kvs))) → Goes X.K C1.sp fz1 (upd H a (.frz od (.dK kvs))) (Itk a od kvs) (acc.map fun p => kP p.1) := fun C1 fz1 ρ1 s1 F1 =>
              Goes.of (walk_keys (kvs := kvs)) (by have := congrArg List.length h2.1; simpa using this.symm) (fun fz2 H2 sto2 s B => s.kept _ _ upd_same (F1.bs.spl.ne upd_same (by intro z; cases z)) (.inr ⟨(fun _ z => nomatch z), (fun _ z => nomatch z), (fun _ _ z => nomatch z)⟩)) fun j y fz2 H2 sto2 v H3 hy s B w => by
                obtain ⟨rfl, kk, vv, e1, rfl⟩ := w
                have e3 : (kvs.map (·.1))[j]? = (acc.map (·.1))[j]? := by rw [h2.1]
                rw [List.getElem?_map, List.getElem?_map, e1] at e3
                rw [List.getElem?_map] at hy
                cases q : acc[j]? with
                | none => rw [q] at hy; cases hy
                | some pr =>
                  rw [q] at hy e3
                  simp only [Option.map_some, Option.some.injEq] at hy e3
                  subst hy
                  rw [← e3]
                  exact ⟨.refl, B.spl, im_kP kk⟩
            have rl := rd_lc (K := X.K) (mi := fun _ s => some (acc.map fun p => kP p.1, s)) (g := g) (is := is) (vs := own.map (·.2)) (mt := mt) (me := me) hs (σ := σ) (H := upd H a (.frz od (.dK kvs))) (Q := fun v H1 => H1 a = some (.frz od (.dK kvs)) ∧ Q v (upd H1 a (.dK kvs)))
              ⟨C, fz, ρ.set i none, sto, .f ys, _, F', by
                unfold mLc
                dsimp only
                rw [e2]
                dsimp only
                rw [if_pos hz.1], fun v fz' H1 st l im => by
                have ha1 : H1 a = some (.frz od (.dK kvs)) := st.ext _ _ upd_same h4
                obtain ⟨D, ws, rfl, g1, g2, g3, g4, g5⟩ := im
                have nDa : D ≠ a := fun z => by rw [z, ha1] at g1; cases g1
                exact ⟨ha1, k _ fz' (upd H1 a (.dK kvs)) (.lend h1 h4 .dK .frz st) (l.upd h4) ⟨D, ws, rfl, by rw [upd_ne nDa]; exact g1, ImA.unl ha1 hz.2 g2, g3, g4, by rw [upd_ne nDa] at g5; exact g5⟩⟩⟩
            obtain ⟨C1, fz1, ρ1, s1, xs, s1', F1, e1, k1⟩ := rl
            cases e1
            exact ⟨a, od, kvs, eσ, upd_same, k1 (Itk a od kvs) fz1 _ .refl F1.bs.spl (goes C1 fz1 ρ1 s1 F1)⟩
          · cases e
        · cases e
      · cases e
    · cases e
end
def fGetM (x y w : R) : Option R := match x, keyP y, toD w with
  | .n acc, some k, some z => some (.d ((valP acc k).getD z))
  | _, _, _ => none
section
variable {X : Cx} {o e f : Expr} {apos cpos : Pos} {mo me mf : Mx}
theorem rd_getM {K : PySem.W.Frag} {σ : L2.St} {H : Hp} {Q : VK} (h : rdE K (m3 fGetM mo me mf) σ H Q) : tDGet2 (rdE K mo) (rdE K me) (rdE K mf) σ H Q := by
  obtain ⟨C, fz, ρ, sto, z, sto', F, e, k⟩ := h
  obtain ⟨x, s1, ea, e1⟩ := bnd_some e
  obtain ⟨y, s2, eb, e2⟩ := bnd_some e1
  obtain ⟨w, s3, ec, e3⟩ := bnd_some e2
  obtain ⟨ef, rfl⟩ := ret_some e3
  clear e e1 e2 e3
  unfold fGetM at ef
  split at ef
  · rename_i acc kk xx ek ex
    cases ef
    refine ⟨C, fz, ρ, sto, _, s1, F, ea, fun v fz1 H1 st1 l1 i1 => ?_⟩
    have F1 := F.step st1 l1
    obtain ⟨a, kvs, rfl, hd, im, na⟩ := i1
    refine ⟨a, rfl, .inl ⟨kvs, .inl hd⟩, ?_⟩
    refine ⟨C, fz1, ρ, s1, y, s2, F1, eb, fun v2 fz2 H2 st2 l2 i2 => ?_⟩
    have F2 := F1.step st2 l2
    have ey := keyP_im i2 ek
    refine ⟨C, fz2, ρ, s2, w, _, F2, ec, fun v3 fz3 H3 st3 l3 i3 => ?_⟩
    obtain ⟨fz4, F4, st4, im4⟩ := F2.keep st3 l3 i3 ex
    have h3 : H3 a = some (.dK kvs) := st3.ext _ _ (st2.ext _ _ hd na) na
    refine ⟨valV kvs kk, .inl ⟨kvs, kk, .inl h3, ey, rfl⟩, ?_⟩
    have im4' : ImK K fz4 H3 kvs acc := (im.stp st2 F1.bs).stp st4 F2.bs
    obtain ⟨g1, g2⟩ := im4'.val (k := kk)
    cases hval : valV kvs kk with
    | none =>
      have g := g2 hval
      refine k _ fz4 H3 ((st1.trans st2).trans st4) l3 ?_
      rw [g]
      exact im4
    | some u =>
      obtain ⟨d, g, im⟩ := g1 u hval
      refine k _ fz4 H3 ((st1.trans st2).trans st4) l3 ?_
      rw [g]
      exact im
  · cases ef
theorem se_getM {k : Nat} (hr : Room k X.A) (ho : SE X o mo) (he : SE X e me) (hf : SE X f mf) (m : M2 X o "get" apos e f cpos := by exact ⟨rfl, rfl, rfl, rfl⟩) :
    SE X (.Call (.Attribute o "get" apos) [e, f] [] cpos) (m3 fGetM mo me mf) := PE.imp (pe_dget2 (by have := hr.units; omega) ho he hf m) fun _ _ _ h => rd_getM h
end
end Dh
namespace Dh
open PySem PySem.Spec PyProof.Rows L2
variable [LawT]
def fReprA : List R → Option R
  | [.d (.bool b)] => some (.d (.str (boolT b)))
  | xs => fReprN xs
@[simp] theorem fReprA_b {b : Bool} : fReprA [.d (.bool b)] = some (.d (.str (boolT b))) := rfl
theorem fReprA_of {x : R} {z : R} (h : fRepr [x] = some z) : fReprA [x] = some z := by
  unfold fReprA
  split
  · rename_i b e
    cases e
    exact absurd (show (none : Option R) = some z from h) (by intro q; cases q)
  · exact fReprN_of h
def rReprA (K : PySem.W.Frag) : List V → Hp → VK → Prop := fun xs H Q => rReprT K xs H Q ∨ rReprN K xs H Q
section
variable {X : Cx} {p pos : Pos} {e : Expr} {es : List Expr} {m : Ma} {k : Nat}
theorem call_reprA (hr : Room k X.A) (hg : X.A.guards = some []) : CallR X (.builtin "repr") (rReprA X.K) := by
  intro pins s σ H vs us Q I r h
  rcases h with h | h
  · exact call_reprT pins s σ H vs us Q I r h
  · exact call_reprN hr hg pins s σ H vs us Q I r h
theorem ok_reprA : OkA X.K (rReprA X.K) fReprA := by
  intro sp fz fzS H H0 sto vs xs z Q s B i e k
  unfold fReprA at e
  split at e
  · exact .inl (ok_reprT sp fz fzS H H0 sto vs _ z Q s B i e k)
  · exact .inr (ok_reprN sp fz fzS H H0 sto vs _ z Q s B i e k)
theorem se_reprA (hr : Room k X.A) (hgd : X.A.guards = some []) (ha : SA X (e :: es) m) (hm : X.mg "repr" = none) (hg : Gl X "repr" := by rfl) (he : starEach (e :: es) X.env = (false, eval e X.env) :: starEach es X.env := by rfl) (hpl : (backTo pos (starEach es X.env)).any (·.1) = false := by rfl) : SE X (.Call (.Name "repr" p) (e :: es) [] pos) (mA fReprA m) :=
  se_bi (call_reprA hr hgd) ok_reprA ha hm (by decide +kernel) hg (by decide) (by decide) he hpl
end
end Dh
namespace Dh
open PySem PySem.Spec L2 PySem.W PyProof.Rows
variable [LawT]
/-- the names of a lambda with the parameter a1, made in a frame of the names N -/
structure LamS1 (N : List Str) (sc scope : Scope) (a1 : Str) : Prop where
  kind : scope.kind = .function
  co : scope.isCoroutine = false
  gen : scope.isGenerator = false
  cell : ∀ y ∈ scope.names, y.2 ≠ .cell
  par : scope.names.lookup a1 = some .local
  old : ∀ y ∈ N, scope.names.lookup y ≠ some .local
  free : ∀ y ∈ scope.names, y.2 = .free → sc.names.lookup y.1 = some .cell ∨ sc.names.lookup y.1 = some .free
def lamS1B (N : List Str) (sc scope : Scope) (a1 : Str) : Bool :=
  decide (scope.kind = .function) && !scope.isCoroutine && !scope.isGenerator && decide (scope.names.lookup a1 = some .local) && (N.all fun y => !decide (scope.names.lookup y = some .local)) &&
    scope.names.all fun y => !decide (y.2 = .cell) && (!decide (y.2 = .free) || decide (sc.names.lookup y.1 = some .cell) || decide (sc.names.lookup y.1 = some .free))
theorem lamS1_by {N : List Str} {sc scope : Scope} {a1 : Str} (h : lamS1B N sc scope a1 = true) : LamS1 N sc scope a1 := by
  unfold lamS1B at h
  simp only [Bool.and_eq_true, Bool.or_eq_true, Bool.not_eq_true', decide_eq_true_eq, decide_eq_false_iff_not, List.all_eq_true] at h
  obtain ⟨⟨⟨⟨⟨k1, k2⟩, k3⟩, k4⟩, k5⟩, k6⟩ := h
  refine ⟨k1, k2, k3, fun y hy => (k6 y hy).1, k4, k5, fun y hy e => ?_⟩
  rcases (k6 y hy).2 with (z | z) | z
  · exact absurd e z
  · exact .inl z
  · exact .inr z
/-- the lambda's own names, over the frame Xe -/
abbrev lamE (Xe : Env) (scope : Scope) (L f c : Addr) : Env := PySem.W.envX (Xe.qual ++ "<lambda>") scope L f (.ref c) (cloFrom Xe.cells scope.names [])
/-- the context of the lambda's body; Xe, XN: the frame in which it was made, its names -/
def lamC (P : Program) (w : World) (K : PySem.W.Frag) (mg : Str → Option Value) (base : Heap) (A : Around) (outer : List Env) (Xe : Env) (XN : List Str) (s : Shared) (H : Hp) (scope : Scope) (f c : Addr) (N2 : List Str) : Cx where
  prog := P
  w := w
  K := K
  mg := mg
  base := base
  A := A.deeper (lamE Xe scope s.heap.objs.size f c)
  N := XN ++ N2
  s_0 := s
  H_0 := H
  env := lamE Xe scope s.heap.objs.size f c
  outer := outer
  stack := lamE Xe scope s.heap.objs.size f c :: outer
  ex := []
  fn := fun _ => false
  calm := true
  pn := []
  xe := fun _ _ => False
section
variable {X : Cx} {pins : List (Addr × Obj)} {σ : L2.St} {H HZ : Hp} {s s1 : Shared}
theorem lam_start {P : Program} {w : World} {K : PySem.W.Frag} {mg : Str → Option Value} {base : Heap} {A : Around} {outer : List Env} {scope : Scope} {f c : Addr} {h₁ : Heap} {tk : Nat} {a1 : Str} {N2 : List Str} {v : V} {u : Value} (I : Inv X pins σ H s) (L : LamS1 X.N X.env.scope scope a1) (e0 : Env0 P w K mg base A outer s1 HZ) (hd : A.handled = none)
    (cT : ∀ y d z, X.env.cells.lookup y = some d → s.heap.IsCell d z → s1.heap.IsCell d z) (cF : ∀ y d, X.env.cells.lookup y = some d → HZ d = none) (rv : RelV v u) (hns : h₁.Ns s1.heap.objs.size fun y => ([(a1, u)] : List (Str × Value)).reverse.lookup y) (kp : ∀ b o, s1.heap.get? b = some o → h₁.get? b = some o) :
    Inv (lamC P w K mg base A outer X.env X.N s1 HZ scope f c (a1 :: N2)) [] (σ ++ some v :: List.replicate N2.length none) HZ { s1 with heap := h₁, toks := tk } := by
  have caught : ∀ y ∈ scope.names, y.2 = .free → ∃ c, X.env.cells.lookup y.1 = some c := fun y hy e => (L.free y hy e).elim (fun k => I.ok.has _ (.inl k)) fun k => I.ok.has _ (.inr k)
  have same : ∀ {y d}, (cloFrom X.env.cells scope.names []).lookup y = some d → X.env.cells.lookup y = some d := by
    intro y d e
    rcases cloFrom_mem (PySem.mem_of_lookup e) with hm | ⟨g1, g2⟩
    · cases hm
    · obtain ⟨d1, hc⟩ := caught _ g1 rfl
      have hc : X.env.cells.lookup y = some d1 := hc
      rw [hc] at g2
      have : d = d1 := g2
      rw [this]; exact hc
  have seen : ∀ {y}, scope.names.lookup y = some .free → ∃ d, (cloFrom X.env.cells scope.names []).lookup y = some d := by
    intro y hl
    have hy : (y, NameKind.free) ∈ scope.names := PySem.mem_of_lookup hl
    exact mem_lookup (cloFrom_has (cells := X.env.cells) (acc := []) hy)
  have kept : ∀ {y : Str} {d : Addr} {z : Option Value}, X.env.cells.lookup y = some d → s.heap.IsCell d z → h₁.IsCell d z := fun q c => by
    obtain ⟨o, ho, hw⟩ := cT _ _ _ q c
    exact ⟨o, kp _ _ ho, hw⟩
  have none_ : ∀ b : Addr, b ∉ (lamC P w K mg base A outer X.env X.N s1 HZ scope f c (a1 :: N2)).ex := fun b z => absurd (show b ∈ ([] : List Addr) from z) (by simp)
  have noc : ∀ {y}, scope.names.lookup y ≠ some .cell := fun {y} e => L.cell _ (PySem.mem_of_lookup e) rfl
  refine ⟨⟨e0.mod, L.kind, rfl, rfl, Nat.le_refl _, fun y z d e1 e2 => I.ok.inj y z d (same e1) (same e2), fun y hy => ?_, fun y d z _ => ?_, fun _ => hd, Around.frames_deeper e0.frames, .inr ⟨rfl, rfl⟩, fun b z => absurd z (none_ b), e0.bs, e0.bsz, fun b _ _ => none_ b,
      fun b z => absurd z (none_ b), e0.funs, e0.frf⟩,
    rfl, e0.bare, Un.kept kp, ⟨_, hns, fun i y w e1 e2 e3 => ?_⟩, fun y d e => ?_, e0.hok.fresh (Nat.le_refl _), fun y d e => ?_, fun q hq => absurd (show q ∈ ([] : List (Addr × Obj)) ++ [] from hq) (by simp), e0.hok.kept kp, ?_⟩
  · have hy : scope.names.lookup y = some .cell ∨ scope.names.lookup y = some .free := hy
    exact hy.elim (fun k => absurd k noc) fun k => seen k
  · have z : false = true := z
    cases z
  · have e1 : (X.N ++ a1 :: N2)[i]? = some y := e1
    have e3 : Vis scope y := e3
    by_cases hi : i < X.N.length
    · have hi2 : i < σ.length := by rw [I.len]; exact hi
      rw [List.getElem?_append_left hi] at e1
      rw [List.getElem?_append_left hi2] at e2
      rcases e3 with k | k | k
      · exact absurd k (L.old y (List.mem_of_getElem? e1))
      · exact absurd k noc
      · obtain ⟨m, hn, hl⟩ := I.loc
        have hvis : Vis X.env.scope y := (L.free _ (PySem.mem_of_lookup k) rfl).elim (fun k => .inr (.inl k)) (fun k => .inr (.inr k))
        obtain ⟨w', r, q⟩ := hl i y w e1 e2 hvis
        obtain ⟨c2, h2⟩ := seen k
        refine ⟨w', r, .inr ⟨.inr k, c2, h2, ?_⟩⟩
        have c1 := same h2
        rcases q with ⟨k', _⟩ | ⟨_, c3, e', z⟩
        · have k' : X.env.scope.names.lookup y = some .local := k'
          rcases L.free _ (PySem.mem_of_lookup k) rfl with k2 | k2 <;> rw [show X.env.scope.names.lookup y = _ from k2] at k' <;> cases k'
        · rw [c1] at e'
          cases e'
          exact kept c1 z
    · have hs : ¬ i < σ.length := by rw [I.len]; exact hi
      rw [List.getElem?_append_right (by omega)] at e1
      rw [List.getElem?_append_right (by omega), I.len] at e2
      cases hj : i - X.N.length with
      | zero =>
        rw [hj] at e1 e2
        simp only [List.getElem?_cons_zero, Option.some.injEq] at e1 e2
        subst e1 e2
        exact ⟨u, rv, .inl ⟨L.par, by simp [List.lookup]⟩⟩
      | succ j =>
        rw [hj, List.getElem?_cons_succ, List.getElem?_replicate] at e2
        split at e2 <;> cases e2
  · obtain ⟨w', z⟩ := I.cell y d (same e)
    exact ⟨w', kept (same e) z⟩
  · exact cF y d (same e)
  · show (σ ++ some v :: List.replicate N2.length none).length = (X.N ++ a1 :: N2).length
    rw [List.length_append, List.length_append, List.length_cons, List.length_replicate, List.length_cons, I.len]
end
/-- what a frame shows a lambda -/
def dOnly : Option Cl → Option PyData
  | some (.d x) => some x
  | _ => none
/-- what the lambda makes of its argument; xs: what it saw; r: its names beside the parameter -/
def lamG (xs : List (Option PyData)) (r : Nat) (mb : Mx) : PyData → Sto → Option (R × Sto) := fun y s => mb (xs.map (Option.map Cl.d) ++ some (.d y) :: List.replicate r none) s
open Classical in
/-- the call of what slot i holds, if this is the lambda l, which computes G -/
noncomputable def mHC (i : Nat) (l : Lam) (G : PyData → Sto → Option (R × Sto)) (ma : Ma) : Mx := fun ρ s => match ρ[i]? with
  | some (some (.h l')) => if l' = l then (match ma ρ s with
    | some (rs, s1) => (match toArgs rs with
      | some [.d y] => G y s1
      | _ => none)
    | none => none) else none
  | _ => none
theorem mHC_some {i : Nat} {l : Lam} {G : PyData → Sto → Option (R × Sto)} {ma : Ma} {ρ : Ev} {s : Sto} {z : R × Sto} (h : mHC i l G ma ρ s = some z) : ρ[i]? = some (some (.h l)) ∧ ∃ rs s1 y, ma ρ s = some (rs, s1) ∧ toArgs rs = some [.d y] ∧ G y s1 = some z := by
  unfold mHC at h
  split at h
  · rename_i l' e
    by_cases hl : l' = l
    · subst hl
      rw [if_pos rfl] at h
      split at h
      · rename_i rs s1 e1
        split at h
        · rename_i y e2
          exact ⟨e, rs, s1, y, e1, e2, h⟩
        · cases h
      · cases h
    · rw [if_neg hl] at h; cases h
  · cases h
theorem lam_frame {K : PySem.W.Frag} {sp : Option Addr} {fz : Fz} {H : Hp} {sto : Sto} {l : Lam} {v : V} {y : PyData} {r : Nat} (B : Bs sp fz H sto) (ok : LamOk K fz H l) (im : Im K fz H v y) (hl : l.xs.length = l.vs.length) :
    Fm K ⟨sp, fz, H⟩ fz (l.xs.map (Option.map Cl.d) ++ some (.d y) :: List.replicate r none) sto (l.vs ++ some v :: List.replicate r none) H := by
  have key : ∀ (i : Nat) (c : Cl), (l.xs.map (Option.map Cl.d) ++ some (Cl.d y) :: List.replicate r none)[i]? = some (some c) → ∃ x w, c = .d x ∧ (l.vs ++ some v :: List.replicate r none)[i]? = some (some w) ∧ Im K fz H w x := by
    intro i c e
    by_cases hi : i < l.xs.length
    · rw [List.getElem?_append_left (by rw [List.length_map]; exact hi), List.getElem?_map] at e
      cases q : l.xs[i]? with
      | none => rw [q] at e; cases e
      | some o =>
        rw [q] at e
        cases o with
        | none => cases e
        | some x =>
          cases e
          obtain ⟨w, e1, e2⟩ := ok.2 i x q
          exact ⟨x, w, rfl, by rw [List.getElem?_append_left (by omega)]; exact e1, e2⟩
    · rw [List.getElem?_append_right (by rw [List.length_map]; omega), List.length_map] at e
      rw [List.getElem?_append_right (by omega), ← hl]
      cases hj : i - l.xs.length with
      | zero =>
        rw [hj] at e
        simp only [List.getElem?_cons_zero, Option.some.injEq] at e
        subst e
        exact ⟨y, v, rfl, by simp, im⟩
      | succ j =>
        rw [hj, List.getElem?_cons_succ, List.getElem?_replicate] at e
        split at e <;> cases e
  refine ⟨?_, .refl, B, fun i c e => ?_, fun i j xs ys b _ e _ => ?_⟩
  · rw [List.length_append, List.length_append, List.length_map, List.length_cons, List.length_cons, List.length_replicate, hl, List.length_replicate]
  · obtain ⟨x, w, rfl, e1, e2⟩ := key i c e
    exact ⟨w, e1, e2⟩
  · obtain ⟨x, w, z, _⟩ := key i _ e
    cases z
section
variable {X : Cx} {pins : List (Addr × Obj)} {σ : L2.St} {H : Hp} {s : Shared}
/-- a(..), in the def that got the lambda or a block of it -/
theorem se_act {B : Cx} {pm ctv : Value} {params : Arguments} {body : Expr} {scope : Scope} {k i : Nat} {a a1 : Str} {N2 : List Str} {mb : Mx} {l : Lam}
    (I : Inv X pins σ H s) (L : LamS1 X.N X.env.scope scope a1) (own : ∀ x, X.fn x = true) (hq : l.q = X.env.qual ++ "<lambda>") (hσ : l.vs = σ) (hx : l.xs.length = σ.length) (hB : ∀ b o, s.heap.get? b = some o → H b = none → b ∉ frs X.stack → B.base.get? b = some o)
    (hf : s.heap.get? l.f = some (PySem.W.kla_obj "<lambda>" (X.env.qual ++ "<lambda>") params body scope (cloFrom X.env.cells scope.names []) pm l.c ctv)) (hfn : H l.f = none) (hfr : l.f ∉ frs X.stack)
    (hbind : ∀ u : Value, bindArgs (PySem.W.kla_fn "<lambda>" (X.env.qual ++ "<lambda>") params body scope (cloFrom X.env.cells scope.names []) pm (.ref l.c) ctv) ⟨[u], []⟩ = pure [(a1, u)])
    (hr : Room (k + 1) B.A) (hgd : B.A.guards = some [])
    (hbody : ∀ (s : Shared) (H : Hp), Room k (B.A.deeper (lamE X.env scope s.heap.objs.size l.f l.c)) → SE (lamC B.prog B.w B.K B.mg B.base B.A B.stack X.env X.N s H scope l.f l.c (a1 :: N2)) body mb)
    (hN : B.N[i]? = some a) (hv : Vis B.env.scope a) {p1 p2 : Pos} {ea : Expr} {ma : Ma} (ha : SA B [ea] ma) (he : starEach [ea] B.env = [(false, eval ea B.env)])
    (hd : (a == ("__debug__" : Str)) = false := by decide) (hcd : (a == ("__classdict__" : Str)) = false := by decide) :
    SE B (.Call (.Name a p1) [ea] [] p2) (mHC i l (lamG l.xs N2.length mb) ma) := by
  refine ⟨fun pinsZ sZ σZ HZ Q IZ h => ?_⟩
  obtain ⟨C, fz, ρ, sto, r, sto', F, e, kk⟩ := h
  obtain ⟨eh, rs, t1, y, e1, e2, e3⟩ := mHC_some e
  obtain ⟨hs, hl⟩ := F.vars i _ eh
  refine wpAny_Call_Name_kw (thn ((pe_var (pos := p1) (i := i) hN hv hd hcd).run pinsZ sZ σZ HZ (fun v H1 => v = .ref l.f ∧ H1 = HZ) IZ ⟨.ref l.f, hs, rfl, rfl⟩) fun u s1 ⟨v, H1, I1, r1, q1⟩ => ?_)
  obtain ⟨rfl, rfl⟩ := q1
  obtain rfl : u = Value.ref l.f := r1
  have ofA : ∀ {Hx : Hp} {sx : Shared}, Inv B pinsZ σZ Hx sx → sx.heap.get? l.f = some (PySem.W.kla_obj "<lambda>" (X.env.qual ++ "<lambda>") params body scope (cloFrom X.env.cells scope.names []) pm l.c ctv) :=
    fun J => J.bk l.f _ (hB l.f _ hf hfn hfr)
  have cellB : ∀ {y d o}, X.env.cells.lookup y = some d → s.heap.get? d = some o → B.base.get? d = some o := by
    intro y d o q ho
    refine hB d o ho (I.freeC y d q) fun z => ?_
    rcases List.mem_cons.mp (I.stkSub _ z) with w | w
    · exact I.cne y d q w
    · obtain ⟨_, o2, ho2, _⟩ := I.ok.funs.mem w
      exact absurd (Nat.lt_of_lt_of_le (Heap.lt_size ho2) (I.ok.cab y d (own y) q)) (Nat.lt_irrefl _)
  refine PySem.W.callWith_F ⟨_, _, _, _, ofA I1⟩ ?_ he rfl
  refine wpAny_mono (ha.run p2 pinsZ s1 σZ H1 (fun vs H2 => ∃ v fz2, vs = [v] ∧ Stp C.sp fz H1 fz2 H2 ∧ Bs C.sp fz2 H2 t1 ∧ Im B.K fz2 H2 v y) I1 ⟨C, fz, ρ, sto, rs, t1, F, e1, fun vs fz1 H2 st1 l1 i1 => ?_⟩) ?_ fun _ _ z => z
  · obtain ⟨fz2, st2, B2, _, aa⟩ := ImRs.args i1 e2 fz1 st1 (F.bs.step st1 l1) fun _ h => h
    obtain _ | ⟨a0, at_⟩ := aa
    cases at_
    exact ⟨_, fz2, rfl, st2, B2, a0⟩
  rintro us s2 ⟨vs, H2, I2, rvs, v, fz2, rfl, st2, B2, im⟩
  obtain ⟨u, rfl, ru⟩ := vals1 rvs
  refine ⟨⟨_, _, _, _, ofA I2⟩, ?_⟩
  have ok2 : LamOk B.K fz2 H2 l := hl.stp st2 F.bs
  obtain ⟨⟨oc, vs, t, hoc, hdc, hvc⟩, _, _⟩ := I2.hok l.c _ ok2.1
  rw [hq] at hvc
  have rc : codeAny (model B.prog B.w) B.A (.call (.ref l.f) ⟨[u], []⟩) (CR CX0 B.stack B.prog B.w H2 s2 Q E0) s2 := by
    refine PySem.W.kla_callFunE hr.depth (ofA I2) rfl L.co L.gen rfl ⟨l.c, oc, vs, t, rfl, hoc, hdc, hvc⟩ ?_
    rw [hbind]
    refine wpAny_pure (wpAny_newFunctionEnv L.cell (fun y hy => ?_) (fun h₁ hns hsb => ⟨I2.nolimit.fresh _ hsb, ?_⟩) L.kind)
    · obtain rfl : y = (a1, u) := by simpa using hy
      exact L.par
    show codeAny _ _ (.expr body (lamE X.env scope s2.heap.objs.size l.f l.c)) _ _
    have kp : ∀ b o, s2.heap.get? b = some o → h₁.get? b = some o := fun b o e => hsb.extBut b o (Nat.ne_of_lt (Heap.lt_size e)) (Heap.get?_push_of_some _ e)
    have J : Inv (lamC B.prog B.w B.K B.mg B.base B.A B.stack X.env X.N s2 H2 scope l.f l.c (a1 :: N2)) [] (σ ++ some v :: List.replicate N2.length none) H2 { s2 with heap := h₁, toks := s2.toks + [(a1, u)].length } :=
      lam_start I L I2.env0 hr.hd (fun y d z q ⟨o, ho, hw⟩ => ⟨o, I2.bk d o (cellB q ho), hw⟩) (fun y d q => by
        obtain ⟨z, o, ho, hw⟩ := I.cell y d q
        exact (I2.bs d o (cellB q ho)).2) ru hns kp
    have F' : Fm B.K ⟨C.sp, fz2, H2⟩ fz2 (l.xs.map (Option.map Cl.d) ++ some (.d y) :: List.replicate N2.length none) t1 (σ ++ some v :: List.replicate N2.length none) H2 := by
      have F0 := lam_frame (r := N2.length) B2 ok2 im (by rw [hσ]; exact hx)
      rw [hσ] at F0
      exact F0
    refine PySem.W.kla_codeExpr (wpAny_mono ((hbody s2 H2 (hr.deeper _)).run [] _ _ H2 Q J ⟨⟨C.sp, fz2, H2⟩, fz2, _, t1, r, sto', F', e3, fun v' fz3 H3 st3 l3 i3 => kk v' fz3 H3 (st2.trans st3) l3 (i3.early st2)⟩) (fun v s' hq => ?_) fun e s' z => False.elim z)
    obtain ⟨w', H', J', rv, q⟩ := hq
    exact ⟨w', H', J'.os, J'.bare, J'.base, J'.hok, rv, q⟩
  refine wpAny_call (codeAny_mono rc fun res s' hq => ?_)
  match res, hq with
  | .error e, hq => exact False.elim hq
  | .ok (.ret u), hq => exact I2.after hq
  | .ok .next, hq => exact False.elim hq
  | .ok .brk, hq => exact False.elim hq
  | .ok .cont, hq => exact False.elim hq
end
section
variable {X : Cx} {pins : List (Addr × Obj)} {σ : L2.St} {H : Hp} {s : Shared}
/-- what stands here untracked, but the frames -/
def ground (X : Cx) (H : Hp) (s : Shared) : Heap := PySem.W.hideAll (hidT s.heap H) (frs X.stack)
theorem ground_get {b : Addr} {o : Obj} (e : s.heap.get? b = some o) (n : H b = none) (f : b ∉ frs X.stack) : (ground X H s).get? b = some o := PySem.W.hideAll_get _ (hidT_get e n) f
theorem ground_of {b : Addr} {o : Obj} (e : (ground X H s).get? b = some o) : s.heap.get? b = some o ∧ H b = none := of_hidT (PySem.W.of_hideAll _ e)
theorem ground_base (I : Inv X pins σ H s) {b : Addr} {o : Obj} (e : X.base.get? b = some o) : (ground X H s).get? b = some o := by
  refine ground_get (I.bs b o e).1 (I.bs b o e).2 fun z => ?_
  rw [(I.stack.mem z).1] at e
  cases e
theorem ground_env (I : Inv X pins σ H s) : Env0 X.prog X.w X.K X.mg (ground X H s) X.A X.stack s H := by
  have k : ∀ b o, X.base.get? b = some o → (ground X H s).get? b = some o := fun b o e => ground_base I e
  have m := I.ok.mod
  refine ⟨I.ok.frames, ⟨m.kin.keeps k, m.glob.keeps k, ?_, m.nolimit.keeps k⟩, fun b o e => ground_of e, ?_, ?_, I.stkFree, I.hok, I.bare⟩
  · obtain ⟨mb, h1, h2⟩ := m.blt
    exact ⟨mb, h1.keeps k, h2⟩
  · unfold ground
    rw [PySem.W.hideAll_size, hidT_size]
    exact Nat.le_refl _
  · have all : ∀ (l : List Env), (∀ b ∈ frs l, b ∈ frs X.stack) → s.heap.FunFrames X.base l → s.heap.FunFrames (ground X H s) l := by
      intro l
      induction l with
      | nil => intro _ _; trivial
      | cons env r ih =>
        intro hs hl
        obtain ⟨hk, ⟨L, o, hf, hn, ho, hd⟩, hr⟩ := hl
        have hL : L ∈ frs X.stack := hs L (by unfold frs; rw [List.filterMap_cons, hf]; exact List.mem_cons_self)
        exact ⟨hk, ⟨L, o, hf, PySem.W.hideAll_none _ hL, ho, hd⟩, ih (fun b hb => hs b (by unfold frs; rw [List.filterMap_cons, hf]; exact List.mem_cons_of_mem _ hb)) hr⟩
    exact all X.stack (fun _ hb => hb) I.stack
end
end Dh
namespace Dh
open PySem PySem.Spec L2 PySem.W PyProof.Rows
variable [LawT]
/-- tables stay tables -/
def TbK (H H1 : Hp) : Prop := ∀ a ps, H a = some (.tbl ps) → ∃ ps', H1 a = some (.tbl ps')
section
variable {X : Cx} {pins : List (Addr × Obj)} {σ : L2.St} {H : Hp} {s : Shared}
theorem lam_made {T : List (Addr × Str)} {c P : Addr} {params : Arguments} {body : Expr} {scope : Scope} {pos : Pos} {E Q : Value → Shared → Prop} (I : Inv X pins σ H s) (TB : LamX.TabB X.base X.mg c P) (hc : X.env.code = .ref c)
    (hm : (P, X.env.qual ++ "<lambda>") ∈ T) (hu : ∀ p ∈ T, p.1 = P → p.2 = X.env.qual ++ "<lambda>") (hT : LamX.Tabs T H) (hd : defaultsOf params X.env = ([], [])) (hfree : ∀ y ∈ scope.names, y.2 = .free → ∃ c, X.env.cells.lookup y.1 = some c)
    (h : ∀ (f c' : Addr) (pm ctv : Value) (H1 : Hp) (s' : Shared), Inv X pins σ H1 s' → LamX.ExtN H H1 → TbK H H1 → LamX.Tabs T H1 →
      s'.heap.get? f = some (PySem.W.kla_obj "<lambda>" (X.env.qual ++ "<lambda>") params body scope (cloFrom X.env.cells scope.names []) pm c' ctv) → H1 f = none → f ∉ frs X.stack → H1 c' = some (LamX.CodeO c' (X.env.qual ++ "<lambda>")) → Q (.ref f) s') :
    wpAny (model X.prog X.w) X.A (eval (.Lambda params body scope pos) X.env) Q E s := by
  obtain ⟨ps, atP, tri, among⟩ := hT _ hm
  have offst : ∀ f, s.heap.objs.size ≤ f → f ∉ frs X.stack := by
    intro f hf z
    rcases List.mem_cons.mp (I.stkSub _ z) with e | e
    · have l1 := I.lt
      rw [← e] at l1
      exact Nat.lt_irrefl _ (Nat.lt_of_lt_of_le l1 hf)
    · exact I.nofs hf e
  have heapP : s.heap.get? P = some { cls := .none, data := .fields ps } := I.hok P _ atP
  refine PySem.W.kla_eval hd ?_
  cases look : codeAmong pos ps.toList with
  | some cv =>
    obtain ⟨c', rfl, ho⟩ := among pos cv look
    refine PySem.W.kla_makeFunctionHit (mg := X.mg) (c := c) (P := P) (ps := ps) (closure_ok hfree) I.ok.glob (I.mod.glob.keeps I.bk) hc (TB.code.keeps I.bk) heapP tri look (TB.bm.keeps I.bk) fun ctv h' tk old big => ?_
    refine h h'.objs.size c' ((X.mg "__name__").getD .none) ctv H _ (I.kept fun b o e => Heap.get?_push_of_some _ (old b o e)) (LamX.ExtN.refl H) (fun a qs e => ⟨qs, e⟩) hT (Heap.get?_push_size _ rfl) (I.hok.fresh big) (offst _ big) ho
  | none =>
    refine PySem.W.kla_makeFunction (mg := X.mg) (c := c) (P := P) (ps := ps) (closure_ok hfree) I.ok.glob (I.mod.glob.keeps I.bk) hc (TB.code.keeps I.bk) heapP tri look TB.gP (TB.bm.keeps I.bk) fun c' ctv h' tk old ge lt rec_ tab => ?_
    obtain ⟨c2, oc, vs, t, ec, hoc, hd, hv⟩ := rec_
    cases ec
    have big : s.heap.objs.size ≤ h'.objs.size := by omega
    have new : H c' = none := I.hok.fresh ge
    have eP : ∀ {o : HO}, upd (upd H P o) c' (LamX.CodeO c' (X.env.qual ++ "<lambda>")) P = some o := fun {o} => by rw [upd_ne (ne_of_none atP new), upd_same]
    have eO : ∀ {b : Addr} {u o : HO}, H b = some u → b ≠ P → upd (upd H P o) c' (LamX.CodeO c' (X.env.qual ++ "<lambda>")) b = some u := fun {b u o} e n => by rw [upd_ne (ne_of_none e new), upd_ne n]; exact e
    have J := LamX.inv_table (q := X.env.qual ++ "<lambda>") (t' := tk) (more := #[rawInt pos.line, rawInt pos.col, .ref c']) (h' := h'.push (PySem.W.kla_obj "<lambda>" (X.env.qual ++ "<lambda>") params body scope (cloFrom X.env.cells scope.names []) ((X.mg "__name__").getD .none) c' ctv)) I atP
      (fun b o nb e => Heap.get?_push_of_some _ (old b o nb e)) (Heap.get?_push_of_some _ tab) ge ⟨oc, vs, t, Heap.get?_push_of_some _ hoc, hd, hv⟩
    have ext : LamX.ExtN H (upd (upd H P (.tbl (ps ++ #[rawInt pos.line, rawInt pos.col, .ref c']))) c' (LamX.CodeO c' (X.env.qual ++ "<lambda>"))) := fun b o e n => eO e fun z => n ps (Option.some.inj (e.symm.trans (by rw [z]; exact atP)))
    have tbk : TbK H (upd (upd H P (.tbl (ps ++ #[rawInt pos.line, rawInt pos.col, .ref c']))) c' (LamX.CodeO c' (X.env.qual ++ "<lambda>"))) := fun a qs e => by
      by_cases z : a = P
      · subst z; exact ⟨_, eP⟩
      · exact ⟨qs, eO e z⟩
    have lst : (ps ++ #[rawInt pos.line, rawInt pos.col, .ref c']).toList = ps.toList ++ [rawInt pos.line, rawInt pos.col, .ref c'] := by simp
    refine h h'.objs.size c' ((X.mg "__name__").getD .none) ctv _ _ J ext tbk (fun p hp => ?_) (Heap.get?_push_size _ rfl) ?_ (offst _ big) upd_same
    · by_cases z : p.1 = P
      · rw [hu p hp z, z]
        refine ⟨_, eP, by rw [lst]; exact PySem.TriplesOk_snoc _ _ _ _ tri, fun p' cv hcv => ?_⟩
        rw [lst] at hcv
        rcases LamX.among_app _ tri hcv with q | q
        · obtain ⟨c0, a1, a2⟩ := among p' cv q
          exact ⟨c0, a1, ext _ _ a2 LamX.codeO_ne⟩
        · exact ⟨c', q, upd_same⟩
      · obtain ⟨ps', b1, b2, b3⟩ := hT p hp
        refine ⟨ps', eO b1 z, b2, fun p' cv hcv => ?_⟩
        obtain ⟨c0, a1, a2⟩ := b3 p' cv hcv
        exact ⟨c0, a1, ext _ _ a2 LamX.codeO_ne⟩
    · have n1 : h'.objs.size ≠ c' := Nat.ne_of_gt lt
      have n2 : h'.objs.size ≠ P := Nat.ne_of_gt (Nat.lt_of_lt_of_le (Heap.lt_size heapP) big)
      rw [upd_ne n1, upd_ne n2]
      exact I.hok.fresh big
end
theorem Stp.made {sp : Option Addr} {fz : Fz} {H H1 : Hp} {sto : Sto} (B : Bs sp fz H sto) (e : LamX.ExtN H H1) (t : TbK H H1) (tab : LamX.Tabs LawT.T H1) : Stp sp fz H fz H1 :=
  ⟨fun _ h => h, fun a o h _ nt => e a o h nt, fun a ps h _ => t a ps h, fun _ h => .inl h, (fun tr a q z => by
    cases u : H a with
    | none => exact tr a q u
    | some o =>
      by_cases w : ∃ ps, o = .tbl ps
      · obtain ⟨ps, rfl⟩ := w
        obtain ⟨ps', e1⟩ := t a ps u
        rw [e1] at z; cases z
      · rw [e a o u fun ps ew => w ⟨ps, ew⟩] at z; cases z), fun q a ea => by
    obtain ⟨o, h1, h2⟩ := q a ea
    exact ⟨o, e a o h1 h2.1, h2⟩, fun _ _ => tab⟩
theorem SpL.made {sp : Option Addr} {H H1 : Hp} {sto : Sto} (l : SpL sp H sto) (e : LamX.ExtN H H1) : SpL sp H1 sto := fun a ea => e a _ (l a ea) (fun _ z => nomatch z)
open Classical in
/-- all of them give the same -/
noncomputable def uniq {β : Type} (o : Lam → Option β) : Option β := if h : ∃ r, ∀ l, o l = some r then some (Classical.choose h) else none
theorem uniq_some {β : Type} {o : Lam → Option β} {r : β} (h : uniq o = some r) : ∀ l, o l = some r := by
  unfold uniq at h
  split at h
  · rename_i e
    cases h
    exact Classical.choose_spec e
  · cases h
theorem uniq_of {β : Type} {o : Lam → Option β} {r : β} (h : ∀ l, o l = some r) : uniq o = some r := by
  have e : ∃ r, ∀ l, o l = some r := ⟨r, h⟩
  unfold uniq
  rw [dif_pos e]
  have := Classical.choose_spec e ⟨0, 0, "", [], []⟩
  rw [h] at this
  exact this.symm
/-- x(m0, lambda a1: mb): x's body is mwd of what the lambda does; n, r: the slots of x, of the lambda beside a1 -/
noncomputable def mLam (n : Nat) (mwd : (Ma → Mx) → Ms) (r : Nat) (m0 mb : Mx) : Mx := bnd m0 fun x ρ s => match toArg x with
  | some c => uniq fun l => run n (mwd (mHC 1 l (lamG (ρ.map dOnly) r mb))) [c, .h l] s
  | none => none
section
variable {P : Program} {w : World} {K : PySem.W.Frag} {mg : Str → Option Value} {base : Heap}
/-- a def called at a state: its body as the function m -/
theorem run_at {x qual : Str} {st : Stmt} {f : Addr} {fd : FuncData} {N ps : List Str} {k : Nat} {m : Ms} {A : Around} {outer : List Env} {s : Shared} {H : Hp} {args : Args} {us : List Value} {vs : List V} {Q : VK} {sp : Option Addr} {fz : Fz} {cs : List Cl} {sto sto' : Sto} {r : R}
    (F : Fun K x qual st f fd) (S : FnScope N ps (defScope st)) (hr : Room (k + 1) A) (e0 : Env0 P w K mg base A outer s H) (bd : BindsTo s fd args (ps.zip us)) (rv : Vals vs us)
    (hb : ∀ cdv : Value, fd.code = cdv → Room k (A.deeper (PyProof.Rows.envOfC qual (defScope st) s.heap.objs.size f cdv)) → SL (cxOf CX0 P w K mg base N qual (defScope st) f cdv A outer s H E0).nox (defBody st) m)
    (hc : cs.length = ps.length) (a : Paired (ArgOk K fz sp H) vs cs) (B : Bs sp fz H sto) (e : run N.length m cs sto = some (r, sto')) (q : ∀ v fz' H', Stp sp fz H fz' H' → SpL sp H' sto' → ImR K sp H fz' H' v r → Q v H') :
    codeAny (model P w) A (.call (.ref f) args) (CR CX0 outer P w H s Q E0) s := by
  obtain ⟨oc, od, kV, doc, pm, an, cdv, ct, osl, rfl, lk, hcd⟩ := F.ex
  have hl : vs.length = ps.length := by rw [pLen a, hc]
  have hK : K.In s.heap := e0.mod.kin.keeps fun b o q => (e0.bs b o q).1
  have kinds : ∀ y ∈ ps.zip us, (defScope st).names.lookup y.1 = some .local ∨ ((defScope st).names.lookup y.1 = some .cell ∧ ((cellsFrom (s.heap.objs.size + 1) (defScope st).names []).lookup y.1).isSome = true) := by
    rintro ⟨n, v⟩ hy
    rcases S.par n (List.of_mem_zip hy).1 with q | q
    · exact .inl q
    · exact .inr ⟨q, PySem.W.cellsFrom_some _ _ _ (.inl q)⟩
  have lim := e0.mod.nolimit.keeps fun b o q => (e0.bs b o q).1
  refine codeAny_call_function hr.depth (hK _ _ lk) rfl S.co S.gen rfl (PySem.W.codeRec_of hK hcd) (bd _ _ _ _ (wpAny_newFunctionEnv_cells S.kind kinds ?_))
  rintro env rfl s1 hx
  refine ⟨lim.keeps hx.toInCall.keep, codeAny_func ?_⟩
  have I0 := inv_start (CX := CX0) (P := P) (K := K) (mg := mg) (base := base) (E := E0) S hr.hd e0 hl rv hx
  have body := (hb cdv rfl (hr.deeper _)).nox
  have F0 : Fm K ⟨sp, fz, H⟩ fz (cs.map some ++ List.replicate (N.length - cs.length) none) sto (L2.start N vs) H := fm_start a B
  have hrd : rdS K m { nx := fun _ H' => Q .non H', rt := Q } (L2.start N vs) H := by
    unfold run at e
    split at e
    · rename_i r' ρ' s' em
      cases e
      exact ⟨⟨sp, fz, H⟩, fz, _, sto, .rt r, ρ', sto', F0, em, fun fz' σ' H' F' S' v i => q v fz' H' F'.st F'.bs.spl i⟩
    · rename_i ρ' s' em
      cases e
      exact ⟨⟨sp, fz, H⟩, fz, _, sto, .nx, ρ', sto', F0, em, fun fz' σ' H' F' S' => q .non fz' H' F'.st F'.bs.spl .non⟩
    · cases e
  refine wpAny_mono (body.run [] s1 (L2.start N vs) H _ I0 hrd) (fun fl s' hs => ?_) fun _ _ z => z
  cases fl with
  | ret u =>
    obtain ⟨v, σ', H', J, rv', qv⟩ := hs
    exact ⟨v, H', J.os, J.bare, J.base, J.hok, rv', qv⟩
  | next =>
    obtain ⟨σ', H', J, qv⟩ := hs
    exact ⟨.non, H', J.os, J.bare, J.base, J.hok, rfl, qv⟩
  | brk => obtain ⟨_, _, _, z⟩ := hs; exact z.elim
  | cont => obtain ⟨_, _, _, z⟩ := hs; exact z.elim
/-- fnG_of, with what is known of the code object -/
theorem fnG_ofC {x qual : Str} {st : Stmt} {f : Addr} {fd : FuncData} {N ps : List Str} {k : Nat} {m : Ms} (F : Fun K x qual st f fd) (S : FnScope N ps (defScope st))
    (hb : ∀ (cdv : Value) (A : Around) (outer : List Env) (s : Shared) (H : Hp) (E : XK), fd.code = cdv → Room k (A.deeper (PyProof.Rows.envOfC qual (defScope st) s.heap.objs.size f cdv)) → A.guards = some [] → SL (cxOf CX0 P w K mg base N qual (defScope st) f cdv A outer s H E).nox (defBody st) m) :
    FnG P w K mg base (k + 1) f fd ps (spOf K ps.length (run N.length m)) :=
  ⟨by
    rintro vs H Q E ⟨sp, fz, cs, sto, r, sto', hl, a, _⟩
    rw [pLen a, hl], fun A outer s H args us vs Q hr hg e0 bd rv hsp => by
    obtain ⟨sp, fz, cs, sto, r, sto', hc, a, B, e, q⟩ := hsp
    exact run_at F S hr e0 bd rv (fun cdv hcd hr' => hb cdv A outer s H E0 hcd hr' hg) hc a B e q⟩
end
section
variable {P : Program} {w : World} {K : PySem.W.Frag} {mg : Str → Option Value} {base : Heap}
/-- a block of a def, in which slot i is a -/
structure Wi (P : Program) (w : World) (K : PySem.W.Frag) (mg : Str → Option Value) (base : Heap) (A : Around) (i : Nat) (a : Str) (B : Cx) : Prop where
  e1 : B.prog = P
  e2 : B.w = w
  e3 : B.K = K
  e4 : B.mg = mg
  e5 : B.base = base
  e6 : B.A = A
  e7 : B.N[i]? = some a
  e8 : Vis B.env.scope a
/-- what a def's body does with a value and a lambda -/
def LamB (P : Program) (w : World) (K : PySem.W.Frag) (mg : Str → Option Value) (k : Nat) (x : Str) (st : Stmt) (g : Addr) (Ng : List Str) (i : Nat) (a : Str) (mwd : (Ma → Mx) → Ms) : Prop :=
  ∀ (base : Heap) (cdv : Value) (A : Around) (outer : List Env) (s : Shared) (H : Hp) (mm : Ma → Mx), Room k (A.deeper (PyProof.Rows.envOfC x (defScope st) s.heap.objs.size g cdv)) → A.guards = some [] →
    (∀ B : Cx, Wi P w K mg base (A.deeper (PyProof.Rows.envOfC x (defScope st) s.heap.objs.size g cdv)) i a B → ∀ {p1 p2 : Pos} {ea : Expr} {ma : Ma}, SA B [ea] ma → starEach [ea] B.env = [(false, eval ea B.env)] → SE B (.Call (.Name a p1) [ea] [] p2) (mm ma)) →
    SL (cxOf CX0 P w K mg base Ng x (defScope st) g cdv A outer s H E0).nox (defBody st) (mwd mm)
end
/-- the code object and the table of one who makes lambdas -/
structure LamD (K : PySem.W.Frag) (mg : Str → Option Value) (base : Heap) (fd : FuncData) (q : Str) : Prop where
  ex : ∃ c P, fd.code = .ref c ∧ LamX.TabB base mg c P ∧ (P, q ++ "<lambda>") ∈ LawT.T ∧ ∀ p ∈ LawT.T, p.1 = P → p.2 = q ++ "<lambda>"
section
variable {X : Cx} {k : Nat} {g : Addr} {fd : FuncData} {x v0 a a1 : Str} {st : Stmt} {Ng N2 : List Str} {p lpos pos : Pos} {e0 body : Expr} {params : Arguments} {scope : Scope} {m0 mb : Mx} {mwd : (Ma → Mx) → Ms}
theorem LamD.keeps {K : PySem.W.Frag} {mg : Str → Option Value} {base base' : Heap} {fd : FuncData} {q : Str} (D : LamD K mg base fd q) (k : ∀ b o, base.get? b = some o → base'.get? b = some o) : LamD K mg base' fd q := by
  obtain ⟨c, P, h1, h2, h3, h4⟩ := D.ex
  exact ⟨c, P, h1, ⟨h2.code.keeps k, h2.bm.keeps k, h2.gP⟩, h3, h4⟩
theorem se_lam {fm : FuncData} {q : Str} (F : Fun X.K x x st g fd) (S : FnScope Ng [v0, a] (defScope st)) (hb : LamB X.prog X.w X.K X.mg (k + 1) x st g Ng 1 a mwd) (own : ∀ y, X.fn y = true) (hm : X.mg x = some (.ref g)) (hk : PySem.W.keepIn X.K (.ref g) = true) (hbd : Binds X.K fd [v0, a] [])
    (ha : SE X e0 m0) (D : LamD X.K X.mg X.base fm q) (hq : X.env.qual = q) (hc : X.env.code = fm.code) (hr : Room (k + 2) X.A) (hgd : X.A.guards = some []) (L : LamS1 X.N X.env.scope scope a1) (hdef : defaultsOf params X.env = ([], []))
    (hbind : ∀ (q : Str) (cl : List (Str × Addr)) (pm cv ctv u : Value), bindArgs (PySem.W.kla_fn "<lambda>" q params body scope cl pm cv ctv) ⟨[u], []⟩ = pure [(a1, u)])
    (hbody : ∀ (base : Heap) (A : Around) (outer : List Env) (s : Shared) (H : Hp) (f c : Addr), (∀ b o, X.base.get? b = some o → base.get? b = some o) → Room k (A.deeper (lamE X.env scope s.heap.objs.size f c)) → A.guards = some [] → SE (lamC X.prog X.w X.K X.mg base A outer X.env X.N s H scope f c (a1 :: N2)) body mb)
    (hg : Gl X x := by rfl) (hdb : (x == ("__debug__" : Str)) = false := by decide) (hd : (a == ("__debug__" : Str)) = false := by decide) (hcd : (a == ("__classdict__" : Str)) = false := by decide)
    (he : starEach [e0, .Lambda params body scope lpos] X.env = (false, eval e0 X.env) :: (false, eval (.Lambda params body scope lpos) X.env) :: starEach [] X.env := by rfl) :
    SE X (.Call (.Name x p) [e0, .Lambda params body scope lpos] [] pos) (mLam Ng.length mwd N2.length m0 mb) := by
  refine ⟨fun pins s σ H Q I h => ?_⟩
  obtain ⟨C, fz, ρ, sto, r, sto', Fr, e, kk⟩ := h
  obtain ⟨x0, s1, em, e⟩ := bnd_some e
  split at e
  · rename_i c ec
    have hall := uniq_some e
    clear e
    obtain ⟨cc, PP, hcode, TB, hmT, hu⟩ := D.ex
    refine wpAny_Call_Name_kw (ld_glob I hg hm ?_ hdb)
    refine PySem.W.callWith_K (h₀ := X.base) I.ok.mod.kin hk ?_ (by rw [he] <;> rfl) (by rfl)
    rw [he]
    show wpAny _ _ (spliced ((false, eval e0 X.env) :: (false, eval (.Lambda params body scope lpos) X.env) :: backTo pos (starEach [] X.env))) _ _ s
    refine Calls.spliced_cons (thn (ha.run pins s σ H (fun v H1 => ∃ fz1, Stp C.sp fz H fz1 H1 ∧ SpL C.sp H1 s1 ∧ ImR X.K C.sp H fz1 H1 v x0) I ⟨C, fz, ρ, sto, x0, s1, Fr, em, fun v fz1 H1 st1 l1 i1 => ⟨fz1, st1, l1, i1⟩⟩) fun u sA ⟨v, H1, I1, ru, fz1, st1, l1, i1⟩ => ?_)
    have F1 := Fr.step st1 l1
    refine Calls.spliced_cons (lam_made I1 TB (hc.trans hcode) (by rw [hq]; exact hmT) (by rw [hq]; exact hu) F1.bs.tab hdef (fun y hy ey => (L.free y hy ey).elim (fun k => I1.ok.has _ (.inl k)) fun k => I1.ok.has _ (.inr k)) fun f c' pm ctv H2 sB I2 eN tk T2 hf hfn hfr hco => ?_)
    refine Calls.spliced_nil ⟨I2.kIn, ?_⟩
    have st2 : Stp C.sp fz1 H1 fz1 H2 := .made F1.bs eN tk T2
    have B2 : Bs C.sp fz1 H2 s1 := F1.bs.step st2 (F1.bs.spl.made eN)
    have i2 : ImR X.K C.sp H fz1 H2 v x0 := i1.stp st2 F1.bs
    -- the lambda, as a value
    let l : Lam := ⟨f, c', X.env.qual ++ "<lambda>", σ, ρ.map dOnly⟩
    have okl : LamOk X.K fz1 H2 l := by
      refine ⟨hco, fun i y ey => ?_⟩
      have ey : (ρ.map dOnly)[i]? = some (some y) := ey
      rw [List.getElem?_map] at ey
      cases q : ρ[i]? with
      | none => rw [q] at ey; cases ey
      | some o =>
        rw [q] at ey
        have ey : some (dOnly o) = some (some y) := ey
        cases o with
        | none => cases ey
        | some cl =>
          cases cl with
          | d z =>
            cases ey
            obtain ⟨w', e1, e2⟩ := (F1.step st2 (F1.bs.spl.made eN)).vars i _ q
            exact ⟨w', e1, e2⟩
          | _ => cases ey
    have il : ImR X.K C.sp H fz1 H2 (.ref f) (.h l) := ⟨rfl, okl⟩
    obtain ⟨fz2, st3, B3, g2, ia⟩ : ∃ fz2 : Fz, Stp C.sp fz H fz2 H2 ∧ Bs C.sp fz2 H2 s1 ∧ (∀ a, fz1 a → fz2 a) ∧ ArgOk X.K fz2 C.sp H2 v c := by
      obtain ⟨fz2, a1, a2, a3, aa⟩ := ImRs.args (Paired.cons i2 .nil) (show toArgs [x0] = some [c] by unfold toArgs; rw [ec]; rfl) fz1 (st1.trans st2) B2 fun _ h => h
      obtain _ | ⟨a0, at_⟩ := aa
      exact ⟨fz2, a1, a2, a3, a0⟩
    have b := hbd sB [u, .ref f] I2.kIn rfl
    rw [List.append_nil] at b
    have rc : codeAny (model X.prog X.w) X.A (.call (.ref g) ⟨[u, .ref f], []⟩) (CR CX0 X.stack X.prog X.w H2 sB Q E0) sB :=
      run_at (m := mwd (mHC 1 l (lamG (ρ.map dOnly) N2.length mb))) (cs := [c, .h l]) F S hr (ground_env I2) b (vs := [v, .ref f]) (.cons ru (.cons (show RelV (V.ref f) (Value.ref f) from rfl) .nil)) (fun cdv _ hr' =>
        hb (ground X H2 sB) cdv X.A X.stack sB H2 (mHC 1 l (lamG (ρ.map dOnly) N2.length mb)) hr' hgd fun B wi {p1 p2 ea ma} sa hst => by
          obtain ⟨e1, e2, e3, e4, e5, e6, e7, e8⟩ := wi
          refine se_act (l := l) (N2 := N2) I2 L own rfl rfl (by show (ρ.map dOnly).length = σ.length; rw [List.length_map, Fr.len]) (fun b o q n z => by rw [e5]; exact ground_get q n z) hf hfn hfr (hbind _ _ _ _ _) (by rw [e6]; exact hr') (by rw [e6]; exact hgd) (fun s H hr2 => ?_) e7 e8 sa hst hd hcd
          rw [e6] at hr2
          rw [e1, e2, e3, e4, e5, e6]
          exact hbody _ _ _ s H f c' (fun b o q => ground_base I2 q) hr2 hgd)
        rfl (.cons ia (.cons ⟨rfl, okl.fzm g2⟩ .nil)) B3 (hall l) fun v' fz3 H3 st4 l4 i4 => kk v' fz3 H3 (st3.trans st4) l4 (i4.early st3)
    refine wpAny_call (codeAny_mono rc fun res s' hq => ?_)
    match res, hq with
    | .error e, hq => exact False.elim hq
    | .ok (.ret u), hq => exact I2.after hq
    | .ok .next, hq => exact False.elim hq
    | .ok .brk, hq => exact False.elim hq
    | .ok .cont, hq => exact False.elim hq
  · cases e
end
end Dh
namespace Dh
open PySem PySem.Spec L2 PySem.W PyProof.Rows
/-- one who makes lambdas: his table, the name of what he makes -/
@[reducible] def lamT (K : PySem.W.Frag) (ms : List Str) : LawT := ⟨ms.map fun x => ((He.cT K (x, none)).2, (x ++ ".<locals>.") ++ "<lambda>")⟩
abbrev tabsOf (K : PySem.W.Frag) (ms : List Str) : List (Addr × Addr) := ms.map fun x => He.cT K (x, none)
def tabsL (g : Addr → Option Obj) (ms : List Str) (K : PySem.W.Frag) : Bool := He.tabsB g (ms.map fun x => (x, none)) K && decide ((tabsOf K ms).map (·.2)).Nodup
structure SaysL (cs : List (Str × PyData)) (bs : List (Str × String)) (fa : List He.Fa) (fn : List He.FnD) (ms : List Str) (h : Heap) (K : PySem.W.Frag) : Prop where
  m : SaysM cs bs fa fn K
  hd : ∀ p ∈ tabsOf K ms, PySem.W.codeHdIn K p.1 p.2 = true
  out : ∀ p ∈ tabsOf K ms, K.lookup p.2 = none
  empty : ∀ p ∈ tabsOf K ms, h.get? p.2 = some { cls := .none, data := .fields #[] }
  nd : ((tabsOf K ms).map (·.2)).Nodup
abbrev AlL : Type := AlM × Bool
def obsLG (n : Nat) (cs : List (Str × PyData)) (bs : List (Str × String)) (fa : List He.Fa) (fn : List He.FnD) (ms : List Str) (g : Addr → Option Obj) : AlL :=
  (obsM cs bs fa fn (He.frT g (cStatics :: He.asG g n)), tabsL g ms (He.frT g (cStatics :: He.asG g n)))
theorem saysL_of {n : Nat} {cs : List (Str × PyData)} {bs : List (Str × String)} {fa : List He.Fa} {fn : List He.FnD} {ms : List Str} {h : Heap} (e : obsLG n cs bs fa fn ms h.get? = ((true, He.valE fn), true)) : SaysL cs bs fa fn ms h (He.frT h.get? (cStatics :: He.asG h.get? n)) := by
  have e1 : obsM cs bs fa fn (He.frT h.get? (cStatics :: He.asG h.get? n)) = (true, He.valE fn) := congrArg (fun z : AlL => z.1) e
  have e2 : (He.tabsB h.get? (ms.map fun x => (x, none)) (He.frT h.get? (cStatics :: He.asG h.get? n)) && decide ((tabsOf (He.frT h.get? (cStatics :: He.asG h.get? n)) ms).map (·.2)).Nodup) = true := congrArg (fun z : AlL => z.2) e
  obtain ⟨h1, h2⟩ := Bool.and_eq_true_iff.mp e2
  have key : ∀ p ∈ tabsOf (He.frT h.get? (cStatics :: He.asG h.get? n)) ms, PySem.W.codeHdIn (He.frT h.get? (cStatics :: He.asG h.get? n)) p.1 p.2 = true ∧ ∃ o, h.get? p.2 = some o ∧ He.emptyTab o = true := by
    intro p hp
    obtain ⟨x, hx, rfl⟩ := List.mem_map.mp hp
    obtain ⟨h3, h4⟩ := Bool.and_eq_true_iff.mp (List.all_eq_true.mp h1 (x, none) (List.mem_map.mpr ⟨x, hx, rfl⟩))
    refine ⟨h3, ?_⟩
    cases q : h.get? (He.cT (He.frT h.get? (cStatics :: He.asG h.get? n)) (x, none)).2 with
    | none => rw [q] at h4; cases h4
    | some o => rw [q] at h4; exact ⟨o, rfl, h4⟩
  refine ⟨⟨congrArg Prod.fst e1, congrArg Prod.snd e1⟩, fun p hp => (key p hp).1, fun p hp => ?_, fun p hp => ?_, of_decide_eq_true h2⟩
  · obtain ⟨_, o, q, z⟩ := key p hp
    exact He.frT_none q z
  · obtain ⟨_, o, q, z⟩ := key p hp
    rw [q, He.emptyTab_eq z]
def hookL (n : Nat) (cs : List (Str × PyData)) (bs : List (Str × String)) (fa : List He.Fa) (fn : List He.FnD) (ms : List Str) : PySem.W.Hook where
  α := AlL
  obs := fun s => obsLG n cs bs fa fn ms s.heap.get?
  val := fun _ => ((true, He.valE fn), true)
  says := fun _ h => ∃ K : PySem.W.Frag, K.In h ∧ SaysL cs bs fa fn ms h K
  of := fun _ _ e => ⟨_, He.frT_in, saysL_of e⟩
  keeps := fun _ _ _ ⟨K, hK, c⟩ k => ⟨K, PySem.W.Frag.In.keeps hK k, ⟨c.m, c.hd, c.out, fun p hp => k _ _ (c.empty p hp), c.nd⟩⟩
theorem obsLG_eq {n : Nat} {cs : List (Str × PyData)} {bs : List (Str × String)} {fa : List He.Fa} {fn : List He.FnD} {ms : List Str} {g : Addr → Option Obj} {s : Shared} (h : ∀ a, g a = s.heap.get? a) : obsLG n cs bs fa fn ms g = (hookL n cs bs fa fn ms).obs s := by
  have e : g = s.heap.get? := funext h
  rw [e]
  rfl
theorem lamT_mem {K : PySem.W.Frag} {ms : List Str} {p : Addr × Str} (h : p ∈ (lamT K ms).T) : p.1 ∈ (tabsOf K ms).map (·.2) := by
  obtain ⟨x, hx, rfl⟩ := List.mem_map.mp h
  exact List.mem_map.mpr ⟨_, List.mem_map.mpr ⟨x, hx, rfl⟩, rfl⟩
/-- one who makes lambdas -/
theorem SaysL.lam {cs : List (Str × PyData)} {bs : List (Str × String)} {fa : List He.Fa} {fn : List He.FnD} {ms : List Str} {h base : Heap} {K : PySem.W.Frag} {mg : Str → Option Value} (c : SaysL cs bs fa fn ms h K) (TB : ∀ p ∈ tabsOf K ms, LamX.TabB base mg p.1 p.2)
    (i j : Nat) {x : Str} {st : Stmt} (e : fn[i]? = some (fnD x st) := by rfl) (hx : ms[j]? = some x := by rfl) : @LamD (lamT K ms) K mg base (fdAt K x) (x ++ ".<locals>.") := by
  obtain ⟨oc, od, osl, kV, doc, pm, an, cdv, ct, h1, h2⟩ := c.m.sy.def_ i e
  obtain ⟨cc, rfl⟩ := He.codeIn_ref h2
  have h3 : K.lookup (He.ga K x) = some ⟨oc, od, .func (PySem.W.fnOf x x (defArgs st) (defBody st) (defScope st) .none kV doc pm an (.ref cc) ct), osl⟩ := h1
  have e2 : fdAt K x = PySem.W.fnOf x x (defArgs st) (defBody st) (defScope st) .none kV doc pm an (.ref cc) ct := by
    unfold fdAt
    rw [h3]
  have ec : He.codeOf K (x, none) = cc := He.codeOf_eq h1 rfl
  have mem : x ∈ ms := List.mem_of_getElem? hx
  have tb := TB _ (List.mem_map.mpr ⟨x, mem, rfl⟩)
  have tb : LamX.TabB base mg cc (He.cT K (x, none)).2 := by
    have : (He.cT K (x, none)).1 = cc := ec
    rw [← this]; exact tb
  refine @LamD.mk (lamT K ms) K mg base (fdAt K x) (x ++ ".<locals>.") ⟨cc, (He.cT K (x, none)).2, by rw [e2], tb, List.mem_map.mpr ⟨x, mem, rfl⟩, fun p hp z => ?_⟩
  obtain ⟨y, hy, rfl⟩ := List.mem_map.mp hp
  have z : (He.cT K (y, none)).2 = (He.cT K (x, none)).2 := z
  have nd := c.nd
  rw [tabsOf, List.map_map] at nd
  have : y = x := by
    have inj : ∀ (l : List Str), (l.map ((fun p : Addr × Addr => p.2) ∘ fun x => He.cT K (x, none))).Nodup → ∀ a ∈ l, ∀ b ∈ l, (He.cT K (a, none)).2 = (He.cT K (b, none)).2 → a = b := by
      intro l
      induction l with
      | nil => intro _ a ha; cases ha
      | cons w l ih =>
        intro nd a ha b hb e
        rw [List.map_cons, List.nodup_cons] at nd
        rcases List.mem_cons.mp ha with rfl | ka <;> rcases List.mem_cons.mp hb with rfl | kb
        · rfl
        · exact (nd.1 (List.mem_map.mpr ⟨b, kb, e.symm⟩)).elim
        · exact (nd.1 (List.mem_map.mpr ⟨a, ka, e⟩)).elim
        · exact ih nd.2 a ka b kb e
    exact inj ms nd y hy x mem z
  rw [this]
section
variable {P : Program} {w : World} {K : PySem.W.Frag} {mg mb : Str → Option Value} {k : Nat} {fa a : Addr} {fd : FuncData} {x : Str} {g : Fx} {s₁ : Shared} {vs : List Value} {ns : List Int} {H : Hp} {ts : List (Addr × Addr)}
/-- what is laid over the heap: the script's list, the tables -/
structure Lay (K : PySem.W.Frag) (ts : List (Addr × Addr)) (a : Addr) (s₁ : Shared) (H : Hp) : Prop where
  tbl : ∀ p ∈ ts, H p.2 = some (.tbl #[])
  all : ∀ c u, H c = some u → (c ∈ ts.map (·.2) ∧ u = .tbl #[]) ∨ (c = a ∧ K.lookup a = none ∧ ∃ o xs, u = .frz o (.lst xs))
theorem law_atT [LawT] (KX : K.In s₁.heap) (hns : s₁.heap.Ns mainGlobals mg) (hb : s₁.heap.Ns builtinsNs mb) (hbb : ∀ x : Str, x ≠ "__name__" → mb x = bootBuiltins x) (hlim : s₁.heap.NoLimit) (hg : s₁.gens = #[])
    (hbm : ∃ (bm : Addr) (ob : Obj), mg "__builtins__" = some (.ref bm) ∧ bm ≠ builtinsNs ∧ s₁.heap.get? bm = some ob ∧ ob.cls = .type "module" ∧ ob.dict = some builtinsNs ∧ ob.data = .plain)
    (isT : ∀ p ∈ ts, s₁.heap.get? p.2 = some { cls := .none, data := .fields #[] }) (nT : ∀ p ∈ ts, K.lookup p.2 = none) (C : ∀ p ∈ ts, PySem.W.CodeHd s₁.heap p.1 p.2) (hLT : ∀ p ∈ LawT.T, p.1 ∈ ts.map (·.2))
    (ha : s₁.heap.get? a = some { cls := .type "list", data := .seq vs.toArray }) (hr : Room k callerA) (Y : Lay K ts a s₁ H)
    (F : ∀ base : Heap, K.In base → base.Ns mainGlobals mg → (∀ p ∈ ts, LamX.TabB base mg p.1 p.2) → FnG P w K mg base k fa fd [x] (spOf K 1 g)) (hbind : ∀ (s : Shared) (u : Value), BindsTo s fd ⟨[u], []⟩ [(x, u)])
    (hok : HOk P w H s₁.heap) (hS : FzL K (fun _ => False) H a (ns.map V.int)) (hl : ∃ s', g [.d (.list (ns.map .int))] [] = some (.d (.bool true), s')) :
    codeAny (model P w) callerA (.call (.ref fa) ⟨[.ref a], []⟩) (fun r s' => r = .ok (.ret (.bool true)) ∧ OldK s₁.heap s'.heap ∧ s'.os = s₁.os ∧ AllBare s'.gens) s₁ := by
  obtain ⟨sto', hgv⟩ := hl
  have tabAt : ∀ b ∈ ts.map (·.2), s₁.heap.get? b = some { cls := .none, data := .fields #[] } := fun b h => by
    obtain ⟨p, hp, rfl⟩ := List.mem_map.mp h
    exact isT p hp
  -- what is neither the script nor a table is not tracked
  have off : ∀ {b : Addr} {o : Obj}, s₁.heap.get? b = some o → (∀ vs n, o.data ≠ .seq vs n) → o.data ≠ .fields #[] → H b = none := by
    intro b o e h1 h2
    cases q : H b with
    | none => rfl
    | some u =>
      rcases Y.all b u q with ⟨z, _⟩ | ⟨rfl, _⟩
      · rw [tabAt b z] at e; cases e; exact absurd rfl h2
      · rw [ha] at e; cases e; exact absurd rfl (h1 _ _)
  have offD : ∀ {b : Addr} {o : Obj} {es : Array DictEntry} {ep : Nat}, s₁.heap.get? b = some o → o.data = .dict es ep → (hidT s₁.heap H).get? b = some o := fun e d =>
    hidT_get e (off e (fun vs n z => by rw [d] at z; cases z) (fun z => by rw [d] at z; cases z))
  have ns_ : ∀ {b : Addr} {m : Str → Option Value}, s₁.heap.Ns b m → (hidT s₁.heap H).Ns b m := by
    rintro b m ⟨o, es, ep, e, d, r⟩
    exact ⟨o, es, ep, offD e d, d, r⟩
  have kin : K.In (hidT s₁.heap H) := fun b o e => hidT_get (KX b o e) (by
    cases q : H b with
    | none => rfl
    | some u =>
      rcases Y.all b u q with ⟨z, _⟩ | ⟨rfl, n, _⟩
      · obtain ⟨p, hp, rfl⟩ := List.mem_map.mp z
        rw [nT p hp] at e; cases e
      · rw [n] at e; cases e)
  obtain ⟨mc, n1, n2⟩ := hlim
  have hM : L2.Mod K mg (hidT s₁.heap H) := ⟨kin, ns_ hns, ⟨mb, ns_ hb, hbb⟩, ⟨mc, ns_ n1, n2⟩⟩
  have TB : ∀ p ∈ ts, LamX.TabB (hidT s₁.heap H) mg p.1 p.2 := fun p hp => by
    refine ⟨?_, ?_, fun z => ?_⟩
    · obtain ⟨o, us, file, tf, flags, tg, inF, text, tt, e1, r1, r2, r3, rest⟩ := C p hp
      refine ⟨o, us, file, tf, flags, tg, inF, text, tt, hidT_get e1 (off e1 (fun vs n z => by rw [r2] at z; cases z) fun z => ?_), r1, r2, r3, rest⟩
      rw [r2] at z; cases z; simp at r3
    · obtain ⟨bm, ob, b1, b2, b3, b4, b5, b6⟩ := hbm
      refine ⟨bm, ob, b1, b2, fun q => ?_, fun q => ?_, hidT_get b3 (off b3 (fun vs n z => by rw [b6] at z; cases z) fun z => by rw [b6] at z; cases z), b4, b5, b6⟩
      · obtain ⟨o, es, ep, e, hd, _⟩ := hns
        rw [q, e] at b3; cases b3; rw [hd] at b6; cases b6
      · rw [q, isT p hp] at b3; cases b3; cases b6
    · obtain ⟨o, es, ep, e, hd, _⟩ := hns
      rw [z, isT p hp] at e; cases e; cases hd
  have env : Env0 P w K mg (hidT s₁.heap H) callerA [] s₁ H :=
    { frames := rfl, mod := hM, bs := fun _ _ e => of_hidT e, bsz := Nat.le_of_eq (hidT_size _ _), funs := trivial, frf := fun c hc => absurd (show c ∈ ([] : List Addr) from hc) List.not_mem_nil, hok := hok, bare := .of_eq hg }
  have tabs : LamX.Tabs LawT.T H := fun p hp => by
    obtain ⟨q, hq, e⟩ := List.mem_map.mp (hLT p hp)
    have := LamX.TabS.nil (q := p.2) (Y.tbl q hq)
    rw [e] at this
    exact this
  have call := (F _ kin (ns_ hns) TB).run callerA [] s₁ H ⟨[.ref a], []⟩ [.ref a] [.ref a] (fun v _ => v = .bl true) hr rfl env (hbind s₁ (.ref a)) (.cons rfl .nil)
    ⟨none, fun _ => False, [.d (.list (ns.map .int))], [], .d (.bool true), sto', rfl, .cons (.lst hS (ImA.ints ns)) .nil, ⟨fun _ e => (nomatch e), fun _ e => (nomatch e), fun _ z => False.elim z, tabs⟩, hgv, fun v _ _ _ _ i => by cases i; rfl⟩
  refine codeAny_mono call fun r s' h => ?_
  match r, h with
  | .ok (.ret u), ⟨v, H', os, bare, un, hok', rv, q⟩ =>
    subst q
    have stay : ∀ b o, b ∉ ts.map (·.2) → s₁.heap.get? b = some o → s'.heap.get? b = some o := fun b o nb e => by
      cases hc : H b with
      | none => exact un.keep b o e hc (fun z => absurd (show b ∈ ([] : List Addr) from z) List.not_mem_nil) (by simp)
      | some u =>
        rcases Y.all b u hc with ⟨z, _⟩ | ⟨_, _, ob, ys, rfl⟩
        · exact absurd z nb
        · have e1 := (hok b _ hc).1
          have e2 := (hok' b _ (un.frzs b ob _ hc)).1
          rw [e] at e1; cases e1; exact e2
    have more : ∀ p ∈ ts, ∃ us : Array Value, s'.heap.get? p.2 = some { cls := .none, data := .fields us } := fun p hp => by
      obtain ⟨us, z⟩ := un.tbls p.2 #[] (Y.tbl p hp)
      exact ⟨_, hok' p.2 _ z⟩
    refine ⟨by cases rv; rfl, ⟨fun b o e => ?_, fun b o e => ?_⟩, os, bare⟩
    · by_cases hb : b ∈ ts.map (·.2)
      · obtain ⟨p, hp, rfl⟩ := List.mem_map.mp hb
        obtain ⟨us, hm⟩ := more p hp
        rw [isT p hp] at e; cases e
        exact .inr (.inl ⟨((C p hp).tab (isT p hp)).isCodeTable, rfl, #[], us, rfl, by rw [Array.empty_append]; exact hm⟩)
      · exact .inl (stay b o hb e)
    · by_cases hb : b ∈ ts.map (·.2)
      · obtain ⟨p, hp, rfl⟩ := List.mem_map.mp hb
        exact ⟨_, (more p hp).choose_spec⟩
      · exact ⟨o, stay b o hb e⟩
end
theorem law_endL {l : PySem.W.OpenLaw} {n k : Nat} {q : Program} {loose : List Str} {XP : (Str → Option Value) → Heap → Prop} {YP : World → Heap → Prop} {d : DefRec} {x : Str} {g : Fx}
    (hn : l.most = some n) (small : n ≤ sizeLine) (nodef : d.params.defaults = []) (room : Room k callerA)
    (plain : ∀ ns : List Int, ns.length ≤ n → (∀ z ∈ ns, Builtin.Int.intBits z ≤ 1048576) → ∃ s', g [.d (.list (ns.map .int))] [] = some (.d (.bool true), s'))
    (F : ∀ (w : World) (mg : Str → Option Value) (fa : Addr) (h : Heap), YP w h → h.Ns mainGlobals mg → mg d.name = some (.ref fa) →
      ∃ (LT : LawT) (K : PySem.W.Frag) (fd : FuncData) (ts : List (Addr × Addr)), K.In h ∧ (∀ p ∈ ts, h.get? p.2 = some { cls := .none, data := .fields #[] }) ∧ (∀ p ∈ ts, K.lookup p.2 = none) ∧ (∀ p ∈ ts, PySem.W.CodeHd h p.1 p.2) ∧ (∀ p ∈ LT.T, p.1 ∈ ts.map (·.2)) ∧
        (∀ (s : Shared) (u : Value), BindsTo s fd ⟨[u], []⟩ [(x, u)]) ∧ ∀ base : Heap, K.In base → base.Ns mainGlobals mg → (∀ p ∈ ts, LamX.TabB base mg p.1 p.2) → FnG l.prog w K mg base k fa fd [x] (@spOf LT K 1 g)) :
    PySem.W.WalkO q loose XP YP l.row.toRowW d [] (fun f vs => PySem.call f vs) := by
  refine Att.attach_callB hn nodef ?_
  intro w s₀ s mg mb fa o pm cd doc a vs ns G Y ho hd hcd hmg hobj hints hlen hbits hg
  obtain ⟨LT, K, fd, ts, KX, isT, nT, C, hLT, hb, hF⟩ := F w mg fa s.heap Y G.T.g hmg
  have vals := vals_ints hints
  have hl := plain ns hlen hbits
  have aT : a ∉ ts.map (·.2) := fun z => by
    obtain ⟨p, hp, rfl⟩ := List.mem_map.mp z
    rw [isT p hp] at hobj
    cases hobj
  have atT : ∀ {b : Addr}, b ∈ ts.map (·.2) → s.heap.get? b = some { cls := .none, data := .fields #[] } := fun {b} hb => by
    obtain ⟨p, hp, rfl⟩ := List.mem_map.mp hb
    exact isT p hp
  have mem : ∀ p ∈ ts, p.2 ∈ ts.map (·.2) := fun p hp => List.mem_map.mpr ⟨p, hp, rfl⟩
  cases hk : K.lookup a with
  | some ob =>
    have eo := KX a ob hk
    rw [hobj] at eo
    cases eo
    refine @law_atT _ _ _ _ _ _ _ _ _ _ _ _ _ _ (fun b => if b ∈ ts.map (·.2) then some (.tbl #[]) else none) ts LT KX G.T.g G.T.b G.T.builtins G.T.nolimit hg G.T.bmain isT nT C hLT hobj room ⟨fun p hp => if_pos (mem p hp), fun c u z => ?_⟩ hF hb (fun c u z => ?_) (.inr (.inr ⟨_, vs.toArray, _, hk, rfl, rfl, rfl, ?_, ?_⟩)) hl
    · by_cases hc : c ∈ ts.map (·.2)
      · rw [if_pos hc] at z; cases z; exact .inl ⟨hc, rfl⟩
      · rw [if_neg hc] at z; cases z
    · by_cases hc : c ∈ ts.map (·.2)
      · have z := (if_pos hc).symm.trans z; cases z; exact atT hc
      · have z := (if_neg hc).symm.trans z; cases z
    · rw [List.size_toArray, hints.length]
      exact Nat.le_trans hlen small
    · simpa using vals
  | none =>
    refine @law_atT _ _ _ _ _ _ _ _ _ _ _ _ _ _ (fun b => if b = a then some (.frz { cls := .type "list", data := .seq vs.toArray } (.lst (ns.map V.int))) else if b ∈ ts.map (·.2) then some (.tbl #[]) else none) ts LT KX G.T.g G.T.b G.T.builtins G.T.nolimit hg G.T.bmain isT nT C hLT hobj room
      ⟨fun p hp => (if_neg (show ¬ p.2 = a from fun z => aT (by rw [← z]; exact mem p hp))).trans (if_pos (mem p hp)), fun c u z => ?_⟩ hF hb (fun c u z => ?_) (.inr (.inl ⟨{ cls := .type "list", data := .seq vs.toArray }, if_pos rfl⟩)) hl
    · by_cases ca : c = a
      · have z := (if_pos ca).symm.trans z; cases z; exact .inr ⟨ca, hk, _, _, rfl⟩
      · have z := (if_neg ca).symm.trans z
        by_cases hc : c ∈ ts.map (·.2)
        · have z := (if_pos hc).symm.trans z; cases z; exact .inl ⟨hc, rfl⟩
        · have z := (if_neg hc).symm.trans z; cases z
    · by_cases ca : c = a
      · have z := (if_pos ca).symm.trans z; cases z
        rw [ca]
        exact ⟨hobj, by rw [List.length_map]; exact Nat.le_trans hlen small, vs, _, vals, hobj⟩
      · have z := (if_neg ca).symm.trans z
        by_cases hc : c ∈ ts.map (·.2)
        · have z := (if_pos hc).symm.trans z; cases z; exact atT hc
        · have z := (if_neg hc).symm.trans z; cases z
end Dh
namespace Dh
open PySem PySem.Spec L2
end Dh
namespace L2
open PySem PySem.Spec PyProof.Rows
end L2
namespace Dh
open PySem PySem.Spec L2
variable [LawT]
def lcRun3 (vs vs1 vs2 : List Nat) (g : Gx) (t : Mt) (it1 : Mi) (g1 : Gx) (t1 : Mt) (it2 : Mi) (g2 : Gx) (t2 : Mt) (e : Mx) : List PyData → Ev → Sto → Option (List PyData × Sto)
  | [] => fun _ s => some ([], s)
  | x :: xs => fun ρ s => match g x (wipeE ρ vs) with
    | none => none
    | some ρ1 => match t ρ1 s with
      | none => none
      | some (false, s1) => lcRun3 vs vs1 vs2 g t it1 g1 t1 it2 g2 t2 e xs ρ s1
      | some (true, s1) => match it1 ρ1 s1 with
        | none => none
        | some (zs, s2) => match lcRun2 vs1 vs2 g1 t1 it2 g2 t2 e zs ρ1 s2 with
          | none => none
          | some (ys, s3) => match lcRun3 vs vs1 vs2 g t it1 g1 t1 it2 g2 t2 e xs ρ s3 with
            | none => none
            | some (ys', s4) => some (ys ++ ys', s4)
def mLc3 (it : Mi) (vs : List Nat) (g : Gx) (t : Mt) (it1 : Mi) (vs1 : List Nat) (g1 : Gx) (t1 : Mt) (it2 : Mi) (vs2 : List Nat) (g2 : Gx) (t2 : Mt) (e : Mx) : Mx := fun ρ s => match it ρ s with
  | some (xs, s1) => match lcRun3 vs vs1 vs2 g t it1 g1 t1 it2 g2 t2 e xs ρ s1 with
    | some (ys, s2) => if ys.length ≤ sizeLine then some (.f ys, s2) else none
    | none => none
  | none => none
end Dh
namespace Dh
open PySem PySem.Spec L2
variable [LawT]
def fSorted : List R → Option R
  | [x] => match rdL x with | some xs => (intsOf xs).map fun ns => .f ((PySem.W.sortI ns).map PyData.int) | none => none
  | _ => none
theorem imA_ints {K : PySem.W.Frag} {fz : Fz} {H : Hp} : ∀ ns : List Int, ImA K fz H (ns.map V.int) (ns.map PyData.int)
  | [] => .nil
  | _ :: r => .cons (.int _) (imA_ints r)
section
variable {X : Cx} {p pos apos : Pos} {e a : Expr} {es : List Expr} {m : Ma} {ma : Mx}
theorem ok_sorted : OkA X.K (rSortedI X.K) fSorted := by
  intro sp fz fzS H H0 sto vs xs z Q s B i e k
  unfold fSorted at e
  split at e
  · rename_i r
    split at e
    · rename_i ds q
      cases q2 : intsOf ds with
      | none => rw [q2] at e; cases e
      | some bs =>
        rw [q2] at e; cases e
        cases i with
        | cons i t =>
          cases t
          obtain ⟨a, ws, rfl, h, im⟩ := i.list q
          rw [intsOf_im im q2] at h
          refine ⟨a, bs, rfl, h, fun ns' p hp hs hn => ?_⟩
          rw [PySem.W.eq_sortI hp hs]
          obtain ⟨s3, l3, i3⟩ := new_lst B (imA_ints (PySem.W.sortI bs)) hn
          exact k _ fz _ (s.trans s3) l3 (i3.early s)
    · cases e
  · cases e
theorem se_sorted (ha : SA X (e :: es) m) (hm : X.mg "sorted" = none) (hg : Gl X "sorted" := by rfl) (he : starEach (e :: es) X.env = (false, eval e X.env) :: starEach es X.env := by rfl) (hpl : (backTo pos (starEach es X.env)).any (·.1) = false := by rfl) : SE X (.Call (.Name "sorted" p) (e :: es) [] pos) (mA fSorted m) :=
  se_bi cr_sortedI ok_sorted ha hm (by decide +kernel) hg (by decide) (by decide) he hpl
end
end Dh
namespace Dh
open PySem PySem.Spec L2
end Dh
namespace Dh
open PySem PySem.Spec L2
variable [LawT]
def maxI : List Int → Int
  | [] => 0
  | n :: ns => ns.foldl max n
theorem foldl_max_ge (ns : List Int) : ∀ n : Int, n ≤ ns.foldl max n ∧ ∀ y ∈ ns, y ≤ ns.foldl max n := by
  induction ns with
  | nil => intro n; exact ⟨Int.le_refl _, fun y hy => nomatch hy⟩
  | cons k r ih =>
    intro n
    obtain ⟨a, b⟩ := ih (max n k)
    refine ⟨?_, fun y hy => ?_⟩
    · show n ≤ r.foldl max (max n k); omega
    · show y ≤ r.foldl max (max n k)
      rcases List.mem_cons.mp hy with rfl | hy
      · omega
      · exact b y hy
theorem foldl_max_mem (ns : List Int) : ∀ n : Int, ns.foldl max n = n ∨ ns.foldl max n ∈ ns := by
  induction ns with
  | nil => intro n; exact .inl rfl
  | cons k r ih =>
    intro n
    show r.foldl max (max n k) = n ∨ r.foldl max (max n k) ∈ k :: r
    rcases ih (max n k) with h | h
    · rw [h]
      by_cases q : n ≤ k
      · exact .inr (by rw [Int.max_eq_right q]; exact List.mem_cons_self)
      · exact .inl (Int.max_eq_left (by omega))
    · exact .inr (List.mem_cons_of_mem _ h)
theorem maxI_ge {ns : List Int} : ∀ y ∈ ns, y ≤ maxI ns := by
  cases ns with
  | nil => intro y hy; cases hy
  | cons n r =>
    intro y hy
    obtain ⟨a, b⟩ := foldl_max_ge r n
    rcases List.mem_cons.mp hy with rfl | hy
    · exact a
    · exact b y hy
theorem maxI_mem {ns : List Int} (h : 0 < ns.length) : maxI ns ∈ ns := by
  cases ns with
  | nil => cases h
  | cons n r =>
    show r.foldl max n ∈ n :: r
    rcases foldl_max_mem r n with e | e
    · rw [e]; exact List.mem_cons_self
    · exact List.mem_cons_of_mem _ e
theorem maxI_eq {ns : List Int} {m : Int} (h : m ∈ ns) (hm : ∀ y ∈ ns, y ≤ m) : m = maxI ns := by
  have a := maxI_ge m h
  have b := hm _ (maxI_mem (List.length_pos_of_mem h))
  omega
def rMaxA (K : PySem.W.Frag) : List V → Hp → VK → Prop := fun vs H Q => ∃ (a : Addr) (ns : List Int), vs = [V.ref a] ∧ (SqL K H a (ns.map V.int) ∨ SqT K H a (ns.map V.int)) ∧ 0 < ns.length ∧ Q (.int (maxI ns)) H
theorem alike_ints (ns : List Int) : PySem.W.AlikeAll (ns.map PyData.int) := by
  constructor
  · intro x hx y hy
    obtain ⟨a, _, rfl⟩ := List.mem_map.mp hx
    obtain ⟨b, _, rfl⟩ := List.mem_map.mp hy
    simp only [PySem.W.alike]
  · intro x hx
    obtain ⟨a, _, rfl⟩ := List.mem_map.mp hx
    intro e
    cases e
theorem reads_ints {h : Heap} : ∀ (ns : List Int) (us : List Value), Vals (ns.map V.int) us → ReadsAll h us (ns.map PyData.int) []
  | [], _, .nil => .nil
  | n :: ns, us, h => by
    cases us with
    | nil => cases h
    | cons u us =>
      cases h with
      | cons r t =>
        obtain ⟨tk, rfl⟩ := r
        exact ReadsAll.cons (as := []) (bs := []) (.int n tk) (reads_ints ns _ t)
theorem depth_ints : ∀ ns : List Int, PyData.depthAll (ns.map PyData.int) = 0
  | [] => rfl
  | n :: ns => by
    show max (PyData.depth (.int n)) (PyData.depthAll (ns.map PyData.int)) = 0
    rw [depth_ints ns]
    rfl
section
variable {X : Cx}
theorem cr_maxA (hc : X.calm = true) (hu : X.A.units + 65 < cLine) : CallR X (.builtin "max") (rMaxA X.K) := by
  intro pins s σ H vs us Q I r h
  obtain ⟨a, ns, rfl, hs, hn, q⟩ := h
  rcases hs with hs | hs
  · exact cr_max hc pins s σ H _ us Q I r ⟨a, ns, rfl, hs, hn, fun m h1 h2 => by rw [maxI_eq h1 h2]; exact q⟩
  · obtain ⟨its, rv, ht, _⟩ := I.tuple hs
    rw [Vals.ref1 r]
    cases ns with
    | nil => cases hn
    | cons n ns =>
      refine PySem.W.max_tuple_data (vs := its.toArray) (x := .int n) (xs := ns.map PyData.int) (as := []) (I.ok.hd hc) (show s.heap.IsTuple a its.toArray from ht) (reads_ints (n :: ns) its rv) (alike_ints (n :: ns)) ?_ fun i v h' tk bs hi hr hk => ?_
      · have e : PyData.depthAll (PyData.int n :: ns.map PyData.int) = 0 := depth_ints (n :: ns)
        rw [e]
        omega
      · rw [PySem.W.maxD_ints] at hr
        cases hr
        exact ⟨.int _, H, I.kept hk, ⟨_, rfl⟩, q⟩
end
def fMaxL : List R → Option R
  | [x] => match rdQ x with
    | some xs => match intsOf xs with
      | some ns => if 0 < ns.length then some (.d (.int (maxI ns))) else none
      | none => none
    | none => none
  | _ => none
section
variable {X : Cx} {p pos apos cpos : Pos} {e o : Expr} {es : List Expr} {m : Ma} {mo me : Mx} {kk : Nat}
theorem ok_maxL : OkA X.K (rMaxA X.K) fMaxL := by
  intro sp fz fzS H H0 sto vs xs z Q s B i e k
  unfold fMaxL at e
  split at e
  · rename_i r
    split at e
    · rename_i ds q
      split at e
      · rename_i bs q2
        split at e
        · rename_i hz
          cases e
          cases i with
          | cons i t =>
            cases t
            obtain ⟨a, ws, rfl, h, im⟩ := i.seq q
            rw [intsOf_im im q2] at h
            exact ⟨a, bs, rfl, h, hz, k _ fz H s B.spl (.int _)⟩
        · cases e
      · cases e
    · cases e
  · cases e
theorem se_maxL (hr : Room kk X.A) (hc : X.calm = true) (ha : SA X (e :: es) m) (hm : X.mg "max" = none) (hg : Gl X "max" := by rfl) (he : starEach (e :: es) X.env = (false, eval e X.env) :: starEach es X.env := by rfl) (hpl : (backTo pos (starEach es X.env)).any (·.1) = false := by rfl) : SE X (.Call (.Name "max" p) (e :: es) [] pos) (mA fMaxL m) :=
  se_bi (cr_maxA hc (units65 hr)) ok_maxL ha hm (by decide +kernel) hg (by decide) (by decide) he hpl
end
def mApPop (i j : Nat) (a : Mx) : Ms := fun ρ s => match a ρ s with
  | some (.d (.int k), s1) => match ρ[i]?, ρ[j]? with
    | some (some (.o xs)), some (some (.o ys)) => if i ≠ j ∧ xs.length < sizeLine ∧ 0 ≤ k ∧ k < 2 ^ 63 then match ys[k.toNat]? with
        | some y => some (.nx, (ρ.set j (some (.o (ys.eraseIdx k.toNat)))).set i (some (.o (xs ++ [y]))), s1)
        | none => none
      else none
    | _, _ => none
  | _ => none
theorem ImA.erase {K : PySem.W.Frag} {fz : Fz} {H : Hp} : ∀ {v : List V} {d : List PyData} (n : Nat), ImA K fz H v d → ImA K fz H (v.eraseIdx n) (d.eraseIdx n)
  | _, _, _, .nil => .nil
  | _, _, 0, .cons h t => t
  | _, _, n + 1, .cons h t => .cons h (t.erase n)
section
variable {X : Cx} {x y : Str} {p p2 apos cpos apos2 cpos2 pos : Pos} {e e2 : Expr} {me mi : Mx} {i j : Nat}
theorem ss_appop (he : SE X e me) (hN : X.N[i]? = some x := by rfl) (hN2 : X.N[j]? = some y := by rfl) (hv : Vis X.env.scope x := by first | exact Or.inl rfl | exact Or.inr (Or.inl rfl) | exact Or.inr (Or.inr rfl)) (hv2 : Vis X.env.scope y := by first | exact Or.inl rfl | exact Or.inr (Or.inl rfl) | exact Or.inr (Or.inr rfl))
    (hse : starEach [e] X.env = (false, eval e X.env) :: starEach [] X.env := by rfl)
    (hse2 : starEach [.Call (.Attribute (.Name y p2) "pop" apos2) [e] [] cpos2] X.env = (false, eval (.Call (.Attribute (.Name y p2) "pop" apos2) [e] [] cpos2) X.env) :: starEach [] X.env := by rfl)
    (hfew : ((backTo cpos2 (starEach [e] X.env)).all (fun x => !x.1) && (backToKw cpos2 (keywordEach [] X.env)).all (fun x => x.1.isSome)
      && decide (([e] : List Expr).length + ([] : List Keyword).length + (if ([] : List Keyword).isEmpty then 0 else 1) < 30)) = true := by rfl)
    (hfew2 : ((backTo cpos (starEach [.Call (.Attribute (.Name y p2) "pop" apos2) [e] [] cpos2] X.env)).all (fun x => !x.1) && (backToKw cpos (keywordEach [] X.env)).all (fun x => x.1.isSome)
      && decide (([.Call (.Attribute (.Name y p2) "pop" apos2) [e] [] cpos2] : List Expr).length + ([] : List Keyword).length + (if ([] : List Keyword).isEmpty then 0 else 1) < 30)) = true := by rfl)
    (hline : (apos2.endLine == cpos2.line) = true := by rfl) (hline2 : (apos.endLine == cpos.line) = true := by rfl)
    (hd : (x == ("__debug__" : Str)) = false := by decide) (hcd : (x == ("__classdict__" : Str)) = false := by decide) (hd2 : (y == ("__debug__" : Str)) = false := by decide) (hcd2 : (y == ("__classdict__" : Str)) = false := by decide)
    (hbase : attributeBase (.Name y p2) "pop" X.env (eval (.Name y p2) X.env) = eval (.Name y p2) X.env := by rfl) (hbase2 : attributeBase (.Name x p) "append" X.env (eval (.Name x p) X.env) = eval (.Name x p) X.env := by rfl)
    (hs : swapsWith (.Call (.Attribute (.Name x p) "append" apos) [.Call (.Attribute (.Name y p2) "pop" apos2) [e] [] cpos2] [] cpos) none pos.line X.env = pure false := by rfl) :
    SS X (.Expr (.Call (.Attribute (.Name x p) "append" apos) [.Call (.Attribute (.Name y p2) "pop" apos2) [e] [] cpos2] [] cpos) pos) (mApPop i j me) :=
  PS.imp (ps_expr (pe_bm PySem.F.plainAttrs_list PySem.F.slot_list_append PySem.F.type_list_append mt_append (pe_var hN hv hd hcd) (pa_cons (pe_bm PySem.F.plainAttrs_list PySem.F.slot_list_pop PySem.F.type_list_pop mt_popAt (pe_var hN2 hv2 hd2 hcd2) (pa_cons he pa_nil hse) hbase hfew hline hse) pa_nil hse2) hbase2 hfew2 hline2 hse2) hs) fun D σ H h => by
  obtain ⟨C, fz, ρ, sto, out, ρ', sto', F, e, k⟩ := h
  unfold mApPop at e
  split at e
  · rename_i kk s1 e1
    split at e
    · rename_i xs ys ex ey
      split at e
      · rename_i hz
        split at e
        · rename_i z hy
          cases e
          obtain ⟨hij, hlen, k0, k1⟩ := hz
          obtain ⟨a, vs, ha, h2, h3, h4, h5, h6⟩ := F.owned ex
          obtain ⟨b, ws, hb, g2, g3, g4, g5, g6⟩ := F.owned ey
          refine ⟨_, ha, .inl ⟨rfl, vs, .inl (.inl h2)⟩, _, hb, .inl ⟨rfl, ws, .inl (.inl g2)⟩, C, fz, ρ, sto, _, _, F, e1, fun v fz1 H1 st1 l1 i1 => ?_⟩
          have F1 := F.step st1 l1
          obtain ⟨b', ws', hb', q2, q3, q4, q5, q6⟩ := F1.owned ey
          rw [hb] at hb'; cases hb'
          cases i1
          have kl : kk.toNat < ys.length := (List.getElem?_eq_some_iff.mp hy).1
          obtain ⟨w, hw, iw⟩ := q3.at kk.toNat z hy
          refine ⟨b, ws', kk, kk.toNat, w, rfl, rfl, q2, by omega, k1, seqIndex_of k0 (by rw [q3.length]; omega), hw, ?_⟩
          obtain ⟨F2, S2⟩ := F1.write (ys := ys.eraseIdx kk.toNat) ey hb (q3.erase kk.toNat)
          have ex2 : (ρ.set j (some (.o (ys.eraseIdx kk.toNat))))[i]? = some (some (.o xs)) := by rw [List.getElem?_set_ne (Ne.symm hij)]; exact ex
          obtain ⟨a', vs', ha', r2, r3, r4, r5, r6⟩ := F2.owned ex2
          rw [ha] at ha'; cases ha'
          refine ⟨a, vs', w, rfl, rfl, r2, by rw [r3.length]; exact hlen, ?_⟩
          obtain ⟨F3, S3⟩ := F2.write (ys := xs ++ [z]) ex2 ha (r3.append (.cons (iw.sts S2 F1.bs) .nil))
          exact k fz1 σ _ F3 (st1.sts.trans (S2.trans S3))
        · cases e
      · cases e
    · cases e
  · cases e
def mIns (i : Nat) (a : Ma) : Ms := fun ρ s => match a ρ s with
  | some ([.d (.int k), r], s1) => match toD r, ρ[i]? with
    | some z, some (some (.o xs)) => if xs.length < sizeLine ∧ 0 ≤ k ∧ k < 2 ^ 63 then some (.nx, ρ.set i (some (.o (xs.take k.toNat ++ [z] ++ xs.drop k.toNat))), s1) else none
    | _, _ => none
  | _ => none
end
end Dh
namespace Dh
open PySem PySem.Spec PyProof.Rows L2 PySem.W
end Dh
namespace Dh
open PySem PySem.Spec L2
variable [LawT]
def fLrg : R → Option R
  | .d (.int j) => if -(2 ^ 62) ≤ j ∧ j ≤ 2 ^ 24 then some (.f (rangeL 0 j.toNat)) else none
  | _ => none
theorem imA_rg {K : PySem.W.Frag} {fz : Fz} {H : Hp} (j : Int) : ImA K fz H (rgV 0 j) (rangeL 0 j.toNat) := by
  unfold rgV rangeL
  rw [Int.sub_zero]
  generalize List.range j.toNat = l
  induction l with
  | nil => exact .nil
  | cons x r ih => exact .cons (.int _) ih
section
variable {X : Cx} {p p2 pos pos2 : Pos} {a : Expr} {ma : Mx}
theorem se_listRange (hc : X.calm = true) (ha : SE X a ma) (hmr : X.mg "range" = none) (hml : X.mg "list" = none) (hgr : Gl X "range" := by rfl) (hgl : Gl X "list" := by rfl)
    (hs : starEach [a] X.env = (false, eval a X.env) :: starEach [] X.env := by rfl)
    (hs2 : starEach [.Call (.Name "range" p) [a] [] pos] X.env = (false, eval (.Call (.Name "range" p) [a] [] pos) X.env) :: starEach [] X.env := by rfl) :
    SE X (.Call (.Name "list" p2) [.Call (.Name "range" p) [a] [] pos] [] pos2) (m1 fLrg ma) := PE.imp (pe_listRg hc hgl hml (prg_1 hgr hmr ha hs) hs2) fun σ H Q h => by
  have h2 : tUn (fun v H Q => ∃ j, v = .int j ∧ RgOk 0 j ∧ ∀ q, H q = none → Q (.ref q) (upd H q (.lst (rgV 0 j)))) (rdE X.K ma) σ H Q := rd_one (by
    intro sp fz H H0 sto v x z Q B ix e k
    unfold fLrg at e
    split at e
    · split at e
      · rename_i j hz
        cases e
        cases ix
        refine ⟨_, rfl, ⟨by omega, by omega, hz.1, by omega, by omega⟩, fun q hq => ?_⟩
        obtain ⟨s3, l3, i3⟩ := new_lst (K := X.K) B (imA_rg j) hq
        exact k _ fz _ s3 l3 (.inl i3)
      · cases e
    · cases e) h
  exact h2
end
end Dh
namespace Dh
open PySem PySem.Spec L2 PySem.W PyProof.Rows
variable [LawT]
theorem Sk.ext {k : Sk} {K : PySem.W.Frag} {H H' : Hp} {a : Addr} {xs : List V} (h : k.Sq K H a xs) (e : ∀ c o, H c = some o → H' c = some o) : k.Sq K H' a xs := by
  cases k with
  | l =>
    rcases (show SqL K H a xs from h) with (h | ⟨o, h⟩) | h
    · exact .inl (.inl (e _ _ h))
    · exact .inl (.inr ⟨o, e _ _ h⟩)
    · exact .inr h
  | t =>
    rcases (show SqT K H a xs from h) with (h | ⟨o, h⟩) | h
    · exact .inl (.inl (e _ _ h))
    · exact .inl (.inr ⟨o, e _ _ h⟩)
    · exact .inr h
end Dh
namespace Dh
open PySem PySem.Spec L2 PySem.W
/-- a mark: what it stands for is left as it is -/
inductive Tg {α : Type} (a : α) : Type
  | mk : Tg a
def WO {α : Type} (x : Option α) (Q : α → Prop) (_t : Tg Q := .mk) : Prop := ∃ z, x = some z ∧ Q z
def WX (m : Mx) (ρ : Ev) (s : Sto) (Q : R → Sto → Prop) (_t : Tg (m, Q) := .mk) : Prop := ∃ r s', m ρ s = some (r, s') ∧ Q r s'
def WT (m : Mt) (ρ : Ev) (s : Sto) (Q : Bool → Sto → Prop) (_t : Tg (m, Q) := .mk) : Prop := ∃ r s', m ρ s = some (r, s') ∧ Q r s'
def WA (m : Ma) (ρ : Ev) (s : Sto) (Q : List R → Sto → Prop) (_t : Tg (m, Q) := .mk) : Prop := ∃ r s', m ρ s = some (r, s') ∧ Q r s'
def WI (m : Mi) (ρ : Ev) (s : Sto) (Q : List PyData → Sto → Prop) (_t : Tg (m, Q) := .mk) : Prop := ∃ r s', m ρ s = some (r, s') ∧ Q r s'
def WN (m : Mo) (ρ : Ev) (s : Sto) (Q : Option Int → Sto → Prop) (_t : Tg (m, Q) := .mk) : Prop := ∃ r s', m ρ s = some (r, s') ∧ Q r s'
def WS (m : Ms) (ρ : Ev) (s : Sto) (Q : Out → Ev → Sto → Prop) (_t : Tg (m, Q) := .mk) : Prop := ∃ o ρ' s', m ρ s = some (o, ρ', s') ∧ Q o ρ' s'
def WF (g : Fx) (cs : List Cl) (s : Sto) (Q : R → Sto → Prop) (_t : Tg (g, Q) := .mk) : Prop := ∃ r s', g cs s = some (r, s') ∧ Q r s'
def WFor (g : Gx) (body : Ms) (xs : List PyData) (ρ : Ev) (s : Sto) (Q : Out → Ev → Sto → Prop) (_t : Tg (g, body, Q) := .mk) : Prop := WS (forRun g body xs) ρ s Q
def WWh (c : Mt) (body : Ms) (ρ : Ev) (s : Sto) (Q : Out → Ev → Sto → Prop) (_t : Tg (c, body, Q) := .mk) : Prop := WS (mWhile c body) ρ s Q
def WLc (vs : List Nat) (g : Gx) (t : Mt) (e : Mx) (xs : List PyData) (ρ : Ev) (s : Sto) (Q : List PyData → Sto → Prop) (_t : Tg (vs, g, t, e, Q) := .mk) : Prop := ∃ ys s', lcRun vs g t e xs ρ s = some (ys, s') ∧ Q ys s'
def WLc2 (vs vs1 : List Nat) (g : Gx) (t : Mt) (it1 : Mi) (g1 : Gx) (t1 : Mt) (e : Mx) (xs : List PyData) (ρ : Ev) (s : Sto) (Q : List PyData → Sto → Prop) (_t : Tg (vs, vs1, g, t, it1, g1, t1, e, Q) := .mk) : Prop := ∃ ys s', lcRun2 vs vs1 g t it1 g1 t1 e xs ρ s = some (ys, s') ∧ Q ys s'
def IfK (k : Bool) (A B : Prop) (_t : Tg (A, B) := .mk) : Prop := if k = true then A else B
def seqK (b : Ms) (Q : Out → Ev → Sto → Prop) : Out → Ev → Sto → Prop
  | .nx, ρ, s => WS b ρ s Q
  | o, ρ, s => Q o ρ s
def loopK (J : Ev → Sto → Prop) (Q : Out → Ev → Sto → Prop) : Out → Ev → Sto → Prop
  | .nx, ρ, s => J ρ s
  | .ct, ρ, s => J ρ s
  | .bk, ρ, s => Q .nx ρ s
  | .rt r, ρ, s => Q (.rt r) ρ s
def getC : Ev → Nat → Option Cl
  | [], _ => none
  | c :: _, 0 => c
  | _ :: ρ, n + 1 => getC ρ n
/-- the end of a def -/
def endK (Q : R → Sto → Prop) : Out → Ev → Sto → Prop
  | .rt r, _, s => Q r s
  | .nx, _, s => Q (.d .none) s
  | _, _, _ => False
def boolK (r : R) : Option Bool := match r with | .d (.bool k) => some k | _ => none
def retK (r : R) : Option R := match r with | .d x => some (.d x) | .f x => some (.f x) | _ => none
def intK (r : R) : Option Int := match r with | .d (.int k) => some k | _ => none
def retVK (c : Cl) : Option R := match c with | .d x => some (.d x) | .o x => some (.f x) | _ => none
def ownK (c : Cl) : Option (List PyData) := match c with | .o x => some x | _ => none
@[simp] theorem ex2 {α β : Type} {z : α} {s : β} {K : α → β → Prop} : (∃ r s', (z = r ∧ s = s') ∧ K r s') ↔ K z s := ⟨fun ⟨_, _, ⟨rfl, rfl⟩, k⟩ => k, fun k => ⟨_, _, ⟨rfl, rfl⟩, k⟩⟩
@[simp] theorem ex2' {α β : Type} {z : α} {s : β} {K : α → β → Prop} : (∃ r s', (r = z ∧ s = s') ∧ K r s') ↔ K z s := ⟨fun ⟨_, _, ⟨rfl, rfl⟩, k⟩ => k, fun k => ⟨_, _, ⟨rfl, rfl⟩, k⟩⟩
@[simp] theorem ex3 {α β γ : Type} {z : α} {s : β} {t : γ} {K : α → β → γ → Prop} : (∃ r s' t', (z = r ∧ s = s' ∧ t = t') ∧ K r s' t') ↔ K z s t := ⟨fun ⟨_, _, _, ⟨rfl, rfl, rfl⟩, k⟩ => k, fun k => ⟨_, _, _, ⟨rfl, rfl, rfl⟩, k⟩⟩
@[simp] theorem ex3' {α β γ : Type} {z : α} {s : β} {t : γ} {K : α → β → γ → Prop} : (∃ r s' t', (r = z ∧ s = s' ∧ t = t') ∧ K r s' t') ↔ K z s t := ⟨fun ⟨_, _, _, ⟨rfl, rfl, rfl⟩, k⟩ => k, fun k => ⟨_, _, _, ⟨rfl, rfl, rfl⟩, k⟩⟩
section rules
variable {α : Type} {ρ : Ev} {s : Sto} {i j : Nat} {a b : Mx} {ta tb : Mt} {as : Ma} {ma mb : Ms} {mo mo' : Mo} {it : Mi} {d : PyData}
variable {Q : R → Sto → Prop} {QT : Bool → Sto → Prop} {QA : List R → Sto → Prop} {QI : List PyData → Sto → Prop} {QS : Out → Ev → Sto → Prop} {QN : Option Int → Sto → Prop}
@[simp] theorem WO_some {z : α} {Q : α → Prop} : WO (some z) Q = Q z := by simp [WO]
@[simp] theorem WO_none {Q : α → Prop} : WO none Q = False := by simp [WO]
@[simp] theorem WO_ite {c : Prop} [Decidable c] {x : Option α} {Q : α → Prop} : WO (if c then x else none) Q = (c ∧ WO x Q) := by
  by_cases h : c <;> simp [h]
@[simp] theorem IfK_true {A B : Prop} : IfK true A B = A := by simp [IfK]
@[simp] theorem IfK_false {A B : Prop} : IfK false A B = B := by simp [IfK]
@[simp] theorem seqK_nx : seqK mb QS .nx ρ s = WS mb ρ s QS := rfl
@[simp] theorem seqK_bk : seqK mb QS .bk ρ s = QS .bk ρ s := rfl
@[simp] theorem seqK_ct : seqK mb QS .ct ρ s = QS .ct ρ s := rfl
@[simp] theorem seqK_rt {r : R} : seqK mb QS (.rt r) ρ s = QS (.rt r) ρ s := rfl
@[simp] theorem loopK_nx {J : Ev → Sto → Prop} : loopK J QS .nx ρ s = J ρ s := rfl
@[simp] theorem loopK_ct {J : Ev → Sto → Prop} : loopK J QS .ct ρ s = J ρ s := rfl
@[simp] theorem loopK_bk {J : Ev → Sto → Prop} : loopK J QS .bk ρ s = QS .nx ρ s := rfl
@[simp] theorem loopK_rt {J : Ev → Sto → Prop} {r : R} : loopK J QS (.rt r) ρ s = QS (.rt r) ρ s := rfl
@[simp] theorem endK_rt {r : R} : endK Q (.rt r) ρ s = Q r s := rfl
@[simp] theorem endK_nx : endK Q .nx ρ s = Q (.d .none) s := rfl
@[simp] theorem getC_0 {c : Option Cl} : getC (c :: ρ) 0 = c := rfl
@[simp] theorem getC_s {c : Option Cl} {n : Nat} : getC (c :: ρ) (n + 1) = getC ρ n := rfl
@[simp] theorem boolK_b {k : Bool} : boolK (.d (.bool k)) = some k := rfl
@[simp] theorem retK_d : retK (.d d) = some (.d d) := rfl
@[simp] theorem retK_f {xs : List PyData} : retK (.f xs) = some (.f xs) := rfl
@[simp] theorem intK_i {k : Int} : intK (.d (.int k)) = some k := rfl
@[simp] theorem retVK_d : retVK (.d d) = some (.d d) := rfl
@[simp] theorem retVK_o {xs : List PyData} : retVK (.o xs) = some (.f xs) := rfl
@[simp] theorem ownK_o {xs : List PyData} : ownK (.o xs) = some xs := rfl
theorem getC_eq : ∀ (ρ : Ev) (i : Nat), getC ρ i = (ρ[i]?).join
  | [], _ => rfl
  | c :: ρ, 0 => by cases c <;> rfl
  | c :: ρ, n + 1 => by rw [getC_s, List.getElem?_cons_succ, getC_eq ρ n]
theorem getC_of {c : Cl} (h : ρ[i]? = some (some c)) : getC ρ i = some c := by rw [getC_eq, h]; rfl
theorem of_getC {c : Cl} (h : getC ρ i = some c) : ρ[i]? = some (some c) := by
  rw [getC_eq] at h
  cases q : ρ[i]? with
  | none => rw [q] at h; cases h
  | some x => rw [q] at h; exact congrArg some h
@[simp ↓] theorem wx_m1 {f : R → Option R} : WX (m1 f a) ρ s Q = WX a ρ s fun x s1 => WO (f x) fun z => Q z s1 := by
  apply propext
  unfold WX WO
  rw [ev_m1]
  rcases a ρ s with _ | ⟨x, s1⟩
  · simp
  · simp only [Option.some.injEq, Prod.mk.injEq]
    constructor
    · rintro ⟨r, s', e, q⟩
      cases h : f x with
      | none => simp [ret, h] at e
      | some z =>
        simp [ret, h] at e
        obtain ⟨rfl, rfl⟩ := e
        exact ⟨x, s1, ⟨rfl, rfl⟩, z, h, q⟩
    · rintro ⟨_, _, ⟨rfl, rfl⟩, z, h, q⟩
      exact ⟨z, s1, by simp [ret, h], q⟩
theorem wbnd {β γ : Type} {m : Ev → Sto → Option (β × Sto)} {f : β → Ev → Sto → Option (γ × Sto)} {K : γ → Sto → Prop} : (∃ r s', bnd m f ρ s = some (r, s') ∧ K r s') = ∃ x s1, m ρ s = some (x, s1) ∧ ∃ r s', f x ρ s1 = some (r, s') ∧ K r s' := by
  apply propext
  rw [ev_bnd]
  rcases m ρ s with _ | ⟨x, s1⟩
  · simp
  · simp
theorem wret {x : Option α} {K : α → Sto → Prop} : (∃ r s', ret x s = some (r, s') ∧ K r s') = WO x fun z => K z s := by
  apply propext
  unfold WO
  cases x with
  | none => simp [ret]
  | some z => simp [ret]
@[simp ↓] theorem wx_m2 {f : R → R → Option R} : WX (m2 f a b) ρ s Q = WX a ρ s fun x s1 => WX b ρ s1 fun y s2 => WO (f x y) fun z => Q z s2 := by
  unfold WX m2
  simp only [wbnd, wret]
@[simp ↓] theorem wx_mA {f : List R → Option R} : WX (mA f as) ρ s Q = WA as ρ s fun x s1 => WO (f x) fun z => Q z s1 := by
  unfold WX WA mA
  simp only [wbnd, wret]
@[simp ↓] theorem wa_nil : WA maNil ρ s QA = QA [] s := by
  unfold WA maNil
  simp
@[simp ↓] theorem wa_cons : WA (maCons a as) ρ s QA = WX a ρ s fun x s1 => WA as ρ s1 fun xs s2 => QA (x :: xs) s2 := by
  unfold WA WX maCons
  simp only [wbnd]
  simp
@[simp ↓] theorem wx_var : WX (mVar i) ρ s Q = WO (getC ρ i) fun c => Q (rdCl c) s := by
  apply propext
  unfold WX WO
  rw [ev_mVar]
  constructor
  · rintro ⟨r, s', e, q⟩
    split at e
    · rename_i c hc
      cases e
      exact ⟨c, getC_of hc, q⟩
    · cases e
  · rintro ⟨c, hc, q⟩
    exact ⟨rdCl c, s, by rw [of_getC hc], q⟩
@[simp ↓] theorem wx_kon : WX (mKon d) ρ s Q = Q (.d d) s := by
  unfold WX
  simp
@[simp ↓] theorem wx_ix : WX (mIx a b) ρ s Q = WX a ρ s fun x s1 => WX b ρ s1 fun y s2 => WO (fIx s2 x y) fun z => Q z s2 := by
  apply propext
  unfold WX WO
  rw [ev_mIx]
  rcases a ρ s with _ | ⟨x, s1⟩
  · simp
  · dsimp only
    rcases hb : b ρ s1 with _ | ⟨y, s2⟩
    · simp [hb]
    · dsimp only
      rcases hf : fIx s2 x y with _ | z
      · simp [hb, hf]
      · simp [hb, hf]
@[simp ↓] theorem wx_call {g : Fx} : WX (mCall g as) ρ s Q = WA as ρ s fun rs s1 => WO (toArgs rs) fun cs => WF g cs s1 Q := by
  apply propext
  unfold WX WA WO WF
  rw [ev_mCall]
  rcases as ρ s with _ | ⟨x, s1⟩
  · simp
  · dsimp only
    rcases h : toArgs x with _ | cs <;> simp [h]
@[simp ↓] theorem wx_callK {g : Fx} {π : List Nat} {n : Nat} : WX (mCallK g π n as) ρ s Q = WA as ρ s fun rs s1 => WO (toArgs rs) fun cs => cs.length = n ∧ WF g (perm (.d .none) π cs) s1 Q := by
  apply propext
  unfold WX WA WO WF mCallK
  rw [ev_bnd]
  rcases as ρ s with _ | ⟨x, s1⟩
  · simp
  · dsimp only
    rcases h0 : toArgs x with _ | cs
    · simp [h0]
    · dsimp only
      by_cases h : cs.length = n <;> simp [h, h0]
def callNK (rs : List R) : Option (Sto × List Cl) := match rs with
  | .f xs :: r => match stoOf xs, onlyD r with
    | some s0, some cs => some (s0, cs)
    | _, _ => none
  | _ => none
@[simp ↓] theorem wx_callN {g : Fx} : WX (mCallN g as) ρ s Q = WA as ρ s fun rs s1 => WO (callNK rs) fun p => WF g (.s :: p.2) p.1 fun r _ => WO (retK r) fun r' => Q r' s1 := by
  apply propext
  unfold WX WA WO WF mCallN callNK
  rw [ev_bnd]
  rcases as ρ s with _ | ⟨x, s1⟩
  · simp
  · dsimp only
    cases x with
    | nil => simp
    | cons r rs =>
      cases r with
      | f xs =>
        dsimp only
        rcases h0 : stoOf xs with _ | s0
        · simp [h0]
        · rcases h1 : onlyD rs with _ | cs
          · simp [h0, h1]
          · dsimp only
            rcases hg : g (.s :: cs) s0 with _ | ⟨z, s2⟩
            · simp [hg, h0, h1]
            · cases z <;> simp [hg, h0, h1, retK]
      | _ => simp
@[simp ↓] theorem wt_bT : WT (bT a) ρ s QT = WX a ρ s fun r s1 => WO (boolK r) fun k => QT k s1 := by
  apply propext
  unfold WT WX WO
  rw [ev_bT]
  rcases a ρ s with _ | ⟨x, s1⟩
  · simp
  · cases x with
    | d z =>
      cases z with
      | bool k => cases k <;> simp [boolK]
      | _ => simp [boolK]
    | _ => simp [boolK]
@[simp ↓] theorem wt_and : WT (tAnd2 ta tb) ρ s QT = WT ta ρ s fun k s1 => IfK k (WT tb ρ s1 QT) (QT false s1) := by
  apply propext
  unfold WT
  rw [ev_tAnd2]
  rcases ta ρ s with _ | ⟨_ | _, s1⟩ <;> simp
@[simp ↓] theorem wt_or : WT (tOr2 ta tb) ρ s QT = WT ta ρ s fun k s1 => IfK k (QT true s1) (WT tb ρ s1 QT) := by
  apply propext
  unfold WT
  rw [ev_tOr2]
  rcases ta ρ s with _ | ⟨_ | _, s1⟩ <;> simp
@[simp ↓] theorem wt_not : WT (tNot2 ta) ρ s QT = WT ta ρ s fun k s1 => QT (!k) s1 := by
  apply propext
  unfold WT
  rw [ev_tNot2]
  rcases ta ρ s with _ | ⟨_ | _, s1⟩ <;> simp
@[simp ↓] theorem wt_yes : WT mYes ρ s QT = QT true s := by
  unfold WT
  simp
@[simp ↓] theorem wx_if : WX (mIf ta a b) ρ s Q = WT ta ρ s fun k s1 => IfK k (WX a ρ s1 Q) (WX b ρ s1 Q) := by
  apply propext
  unfold WX WT
  rw [ev_mIf]
  rcases ta ρ s with _ | ⟨_ | _, s1⟩ <;> simp
@[simp ↓] theorem wx_and : WX (mAnd a b) ρ s Q = WX a ρ s fun r s1 => WO (boolK r) fun k => IfK k (WX b ρ s1 Q) (Q (.d (.bool false)) s1) := by
  apply propext
  unfold WX WO
  rw [ev_mAnd]
  rcases a ρ s with _ | ⟨x, s1⟩
  · simp
  · cases x with
    | d z =>
      cases z with
      | bool k => cases k <;> simp [boolK]
      | _ => simp [boolK]
    | _ => simp [boolK]
@[simp ↓] theorem wx_or : WX (mOr a b) ρ s Q = WX a ρ s fun r s1 => WO (boolK r) fun k => IfK k (Q (.d (.bool true)) s1) (WX b ρ s1 Q) := by
  apply propext
  unfold WX WO
  rw [ev_mOr]
  rcases a ρ s with _ | ⟨x, s1⟩
  · simp
  · cases x with
    | d z =>
      cases z with
      | bool k => cases k <;> simp [boolK]
      | _ => simp [boolK]
    | _ => simp [boolK]
@[simp ↓] theorem wn_none : WN moNone ρ s QN = QN none s := by
  unfold WN moNone
  simp
@[simp ↓] theorem wn_some : WN (moSome a) ρ s QN = WX a ρ s fun r s1 => WO (intK r) fun k => QN (some k) s1 := by
  unfold WN WX moSome
  simp only [wbnd, wret]
  apply propext
  constructor
  · rintro ⟨x, s1, e, h⟩
    refine ⟨x, s1, e, ?_⟩
    cases x with
    | d z => cases z <;> simp_all [intK]
    | _ => simp_all [intK]
  · rintro ⟨x, s1, e, h⟩
    refine ⟨x, s1, e, ?_⟩
    cases x with
    | d z => cases z <;> simp_all [intK]
    | _ => simp_all [intK]
@[simp ↓] theorem wx_sl : WX (mSl a mo mo') ρ s Q = WX a ρ s fun x s1 => WN mo ρ s1 fun l s2 => WN mo' ρ s2 fun h s3 => WO (fSl x l h) fun z => Q z s3 := by
  unfold WX WN mSl
  simp only [wbnd, wret]
@[simp ↓] theorem wx_chain {g1 g2 : Int → Int → Option PyData} {c : Mx} : WX (mChain g1 g2 a b c) ρ s Q = WX a ρ s fun x s1 => WX b ρ s1 fun y s2 => WO (fI g1 x y) fun z => WO (boolK z) fun k => IfK k (WX c ρ s2 fun w s3 => WO (fI g2 y w) fun z => Q z s3) (Q (.d (.bool false)) s2) := by
  unfold WX mChain
  simp only [wbnd, wret]
  apply propext
  unfold WO
  constructor
  · rintro ⟨x, s1, e1, y, s2, e2, z, e3, r, s', e4, q⟩
    refine ⟨x, s1, e1, y, s2, e2, z, e3, ?_⟩
    cases z with
    | d z =>
      cases z with
      | bool k =>
        refine ⟨k, rfl, ?_⟩
        cases k with
        | true =>
          rw [IfK_true]
          dsimp only at e4
          rw [ev_bnd] at e4
          rcases hc : c ρ s2 with _ | ⟨w, s3⟩
          · simp [hc] at e4
          · simp only [hc] at e4
            rcases hg : fI g2 y w with _ | v
            · simp [hg] at e4
            · simp [hg] at e4
              obtain ⟨rfl, rfl⟩ := e4
              exact ⟨w, s3, rfl, v, hg, q⟩
        | false =>
          rw [IfK_false]
          simp at e4
          obtain ⟨rfl, rfl⟩ := e4
          exact q
      | _ => simp at e4
    | _ => simp at e4
  · rintro ⟨x, s1, e1, y, s2, e2, z, e3, k, e4, q⟩
    refine ⟨x, s1, e1, y, s2, e2, z, e3, ?_⟩
    cases z with
    | d z =>
      cases z with
      | bool k' =>
        cases e4
        cases k with
        | true =>
          rw [IfK_true] at q
          obtain ⟨w, s3, e5, v, e6, q⟩ := q
          exact ⟨v, s3, by simp [e5, e6], q⟩
        | false =>
          rw [IfK_false] at q
          exact ⟨_, _, rfl, q⟩
      | _ => cases e4
    | _ => cases e4
@[simp ↓] theorem ws_nil : WS mNil ρ s QS = QS .nx ρ s := by
  unfold WS
  simp
@[simp ↓] theorem ws_seq : WS (mSeq ma mb) ρ s QS = WS ma ρ s (seqK mb QS) := by
  apply propext
  unfold WS
  rw [ev_mSeq]
  rcases ma ρ s with _ | ⟨o, ρ1, s1⟩
  · simp
  · cases o <;> simp [seqK, WS]
@[simp ↓] theorem ws_if : WS (mIfS ta ma mb) ρ s QS = WT ta ρ s fun k s1 => IfK k (WS ma ρ s1 QS) (WS mb ρ s1 QS) := by
  apply propext
  unfold WS WT
  rw [ev_mIfS]
  rcases ta ρ s with _ | ⟨_ | _, s1⟩ <;> simp
@[simp ↓] theorem ws_ret : WS (mRet a) ρ s QS = WX a ρ s fun r s1 => WO (retK r) fun r' => QS (.rt r') ρ s1 := by
  apply propext
  unfold WS WX WO
  rw [ev_mRet]
  rcases a ρ s with _ | ⟨x, s1⟩
  · simp
  · cases x <;> simp [retK]
@[simp ↓] theorem ws_retV : WS (mRetV i) ρ s QS = WO (getC ρ i) fun c => WO (retVK c) fun r => QS (.rt r) ρ s := by
  apply propext
  unfold WS WO
  rw [ev_mRetV]
  constructor
  · rintro ⟨o, ρ', s', e, q⟩
    split at e
    · rename_i x hc
      cases e
      exact ⟨_, getC_of hc, _, rfl, q⟩
    · rename_i x hc
      cases e
      exact ⟨_, getC_of hc, _, rfl, q⟩
    · cases e
  · rintro ⟨c, hc, r, hr, q⟩
    have h := of_getC hc
    cases c with
    | d x => cases hr; exact ⟨_, _, _, by simp only [h], q⟩
    | o x => cases hr; exact ⟨_, _, _, by simp only [h], q⟩
    | s => cases hr
    | m _ => cases hr
    | t _ => cases hr
    | h _ => cases hr
@[simp ↓] theorem ws_retN : WS mRetN ρ s QS = QS (.rt (.d .none)) ρ s := by
  unfold WS
  simp
@[simp ↓] theorem ws_brk : WS mBrk ρ s QS = QS .bk ρ s := by
  unfold WS mBrk
  simp
@[simp ↓] theorem ws_cnt : WS mCnt ρ s QS = QS .ct ρ s := by
  unfold WS
  simp
@[simp ↓] theorem ws_drop : WS (mDrop a) ρ s QS = WX a ρ s fun _ s1 => QS .nx ρ s1 := by
  apply propext
  unfold WS WX mDrop
  rcases a ρ s with _ | ⟨x, s1⟩ <;> simp
@[simp ↓] theorem ws_set : WS (mSet i a) ρ s QS = WX a ρ s fun r s1 => WO ((toCl r).map fun c => ρ.set i (some c)) fun ρ1 => QS .nx ρ1 s1 := by
  apply propext
  unfold WS WX WO
  rw [ev_mSet]
  rcases a ρ s with _ | ⟨x, s1⟩
  · simp
  · dsimp only
    rcases h0 : toCl x with _ | c <;> simp [h0]
@[simp ↓] theorem ws_frz {is : List Nat} : WS (mFrz is ma) ρ s QS = WO (some (frzs ρ is)) fun ρ1 => WS ma ρ1 s QS := by
  rw [WO_some]
  rfl
@[simp ↓] theorem ws_app : WS (mApp i a) ρ s QS = WX a ρ s fun r s1 => WO (toD r) fun x => WO ((getC ρ i).bind ownK) fun xs => xs.length < sizeLine ∧ WO (some (ρ.set i (some (.o (xs ++ [x]))))) fun ρ1 => QS .nx ρ1 s1 := by
  apply propext
  unfold WS WX WO mApp
  rcases a ρ s with _ | ⟨r, s1⟩
  · simp
  · dsimp only
    rcases hx : toD r with _ | x
    · simp [hx]
    · constructor
      · rintro ⟨o, ρ', s', e, q⟩
        split at e
        · rename_i y xs e1 e2
          cases e1
          split at e
          · rename_i hl
            cases e
            exact ⟨r, s1, rfl, x, hx, xs, by rw [getC_of e2]; rfl, hl, _, rfl, q⟩
          · cases e
        · cases e
      · rintro ⟨r', s1', e, x', hx', xs, hg, hl, _, e5, q⟩
        cases e
        cases e5
        rw [hx] at hx'
        cases hx'
        cases hc : getC ρ i with
        | none => rw [hc] at hg; cases hg
        | some c =>
          rw [hc] at hg
          cases c with
          | o ys =>
            cases hg
            exact ⟨_, _, _, by simp [of_getC hc, hl], q⟩
          | _ => cases hg
def putL (xs : List PyData) (k : Int) (r : R) : Option (List PyData) := match toD r, ixN xs.length k with
  | some x, some j => some (xs.set j x)
  | _, _ => none
def putS (s : Sto) (k : Int) (r : R) : Option Sto := match r, ixN s.length k with
  | .d (.int v), some j => some (s.set j v)
  | _, _ => none
def putK (ρ : Ev) (i : Nat) (c : Cl) (k : Int) (r : R) (s : Sto) : Option (Ev × Sto) := match c with
  | .o xs => (putL xs k r).map fun ys => (ρ.set i (some (.o ys)), s)
  | .s => (putS s k r).map fun s' => (ρ, s')
  | _ => none
@[simp] theorem putK_o {xs : List PyData} {k : Int} {r : R} : putK ρ i (.o xs) k r s = (putL xs k r).map fun ys => (ρ.set i (some (.o ys)), s) := rfl
@[simp] theorem putK_s {k : Int} {r : R} : putK ρ i .s k r s = (putS s k r).map fun s' => (ρ, s') := rfl
@[simp ↓] theorem ws_put {ix : Mx} : WS (mPut i ix a) ρ s QS = WX a ρ s fun r s1 => WX ix ρ s1 fun z s2 => WO (intK z) fun k => WO (getC ρ i) fun c => WO (putK ρ i c k r s2) fun p => QS .nx p.1 p.2 := by
  apply propext
  unfold WS WX WO mPut
  rcases a ρ s with _ | ⟨r, s1⟩
  · simp
  · dsimp only
    rcases hi : ix ρ s1 with _ | ⟨z, s2⟩
    · simp [hi]
    · constructor
      · rintro ⟨o, ρ', s', e, q⟩
        refine ⟨r, s1, rfl, z, s2, hi, ?_⟩
        split at e
        · rename_i k s3 e1
          cases e1
          refine ⟨k, rfl, ?_⟩
          split at e
          · rename_i xs e2
            split at e
            · rename_i x j e3 e4
              cases e
              exact ⟨_, getC_of e2, (_, _), by rw [putK_o]; unfold putL; rw [e3, e4]; rfl, q⟩
            · cases e
          · rename_i e2
            split at e
            · rename_i v j e4
              cases e
              exact ⟨_, getC_of e2, (_, _), by rw [putK_s]; unfold putS; rw [e4]; rfl, q⟩
            · cases e
          · cases e
        · cases e
      · rintro ⟨r', s1', e, z', s2', e2, k, hk, c, hc, p, hp, q⟩
        cases e
        rw [hi] at e2
        cases e2
        have hz : z = .d (.int k) := by
          cases z with
          | d z =>
            cases z with
            | int i => cases hk; rfl
            | _ => cases hk
          | _ => cases hk
        subst hz
        have g := of_getC hc
        cases c with
        | d _ => cases hp
        | o xs =>
          rw [putK_o] at hp
          unfold putL at hp
          split at hp
          · rename_i x j e3 e4
            cases hp
            exact ⟨_, _, _, by simp only [g, e3, e4], q⟩
          · cases hp
        | s =>
          rw [putK_s] at hp
          unfold putS at hp
          split at hp
          · rename_i v j e4
            cases hp
            exact ⟨_, _, _, by simp only [g, e4], q⟩
          · cases hp
        | m _ => cases hp
        | t _ => cases hp
        | h _ => cases hp
@[simp ↓] theorem ws_asg {g : Gx} : WS (mAsg g a) ρ s QS = WX a ρ s fun r s1 => WO (toD r) fun x => WO (g x ρ) fun ρ1 => QS .nx ρ1 s1 := by
  apply propext
  unfold WS WX WO mAsg
  rcases a ρ s with _ | ⟨r, s1⟩
  · simp
  · dsimp only
    rcases hx : toD r with _ | x
    · simp [hx]
    · dsimp only
      rcases hg : g x ρ with _ | ρ1 <;> simp [hx, hg]
def parK (ρ : Ev) (i j : Nat) (rs : List R) : Option Ev := match rs with
  | [r, q] => match toCl r, toCl q with
    | some c, some d => match c, d with
      | .o _, .o _ => none
      | c, d => some ((ρ.set i (some c)).set j (some d))
    | _, _ => none
  | _ => none
theorem mPar_eq {x : List R} {s1 : Sto} (e : as ρ s = some (x, s1)) : mPar i j as ρ s = (parK ρ i j x).map fun ρ1 => (.nx, ρ1, s1) := by
  unfold mPar parK
  rw [e]
  split
  · rename_i r q s2 e2
    cases e2
    dsimp only
    rcases toCl r with _ | c
    · rfl
    · rcases toCl q with _ | d
      · rfl
      · cases c <;> cases d <;> rfl
  · rename_i h
    split
    · rename_i r q
      exact absurd rfl (h r q s1)
    · rfl
@[simp ↓] theorem ws_par : WS (mPar i j as) ρ s QS = WA as ρ s fun rs s1 => WO (parK ρ i j rs) fun ρ1 => QS .nx ρ1 s1 := by
  apply propext
  unfold WS WA WO
  constructor
  · rintro ⟨o, ρ', s', e, q⟩
    rcases h : as ρ s with _ | ⟨x, s1⟩
    · unfold mPar at e; rw [h] at e; cases e
    · rw [mPar_eq h] at e
      obtain ⟨ρ1, e1, e2⟩ := Option.map_eq_some_iff.mp e
      cases e2
      exact ⟨x, _, rfl, _, e1, q⟩
  · rintro ⟨x, s1, h, ρ1, e1, q⟩
    exact ⟨_, _, _, by rw [mPar_eq h, e1]; rfl, q⟩
@[simp] theorem parK_dd {x y : PyData} : parK ρ i j [.d x, .d y] = some ((ρ.set i (some (.d x))).set j (some (.d y))) := rfl
@[simp] theorem parK_df {x : PyData} {y : List PyData} : parK ρ i j [.d x, .f y] = some ((ρ.set i (some (.d x))).set j (some (.o y))) := rfl
@[simp] theorem parK_fd {x : List PyData} {y : PyData} : parK ρ i j [.f x, .d y] = some ((ρ.set i (some (.o x))).set j (some (.d y))) := rfl
def par3K (ρ : Ev) (i j l : Nat) (rs : List R) : Option Ev := match rs with
  | [r, q, u] => match toCl r, toCl q, toCl u with
    | some (.d c), some (.d d), some f => some (((ρ.set i (some (.d c))).set j (some (.d d))).set l (some f))
    | some (.d c), some (.o d), some (.d f) => some (((ρ.set i (some (.d c))).set j (some (.o d))).set l (some (.d f)))
    | _, _, _ => none
  | _ => none
@[simp] theorem par3K_ddd {l : Nat} {x y z : PyData} : par3K ρ i j l [.d x, .d y, .d z] = some (((ρ.set i (some (.d x))).set j (some (.d y))).set l (some (.d z))) := rfl
@[simp] theorem par3K_ddf {l : Nat} {x y : PyData} {z : List PyData} : par3K ρ i j l [.d x, .d y, .f z] = some (((ρ.set i (some (.d x))).set j (some (.d y))).set l (some (.o z))) := rfl
@[simp] theorem par3K_dfd {l : Nat} {x z : PyData} {y : List PyData} : par3K ρ i j l [.d x, .f y, .d z] = some (((ρ.set i (some (.d x))).set j (some (.o y))).set l (some (.d z))) := rfl
theorem mPar3_eq {l : Nat} {x : List R} {s1 : Sto} (e : as ρ s = some (x, s1)) : mPar3 i j l as ρ s = (par3K ρ i j l x).map fun ρ1 => (.nx, ρ1, s1) := by
  unfold mPar3 par3K
  rw [e]
  split
  · rename_i r q u s2 e2
    cases e2
    dsimp only
    rcases toCl r with _ | c
    · rfl
    · rcases toCl q with _ | d
      · cases c <;> rfl
      · rcases toCl u with _ | f
        · cases c <;> cases d <;> rfl
        · cases c <;> cases d <;> cases f <;> rfl
  · rename_i h
    split
    · rename_i r q u
      exact absurd rfl (h r q u s1)
    · rfl
@[simp ↓] theorem ws_par3 {l : Nat} : WS (mPar3 i j l as) ρ s QS = WA as ρ s fun rs s1 => WO (par3K ρ i j l rs) fun ρ1 => QS .nx ρ1 s1 := by
  apply propext
  unfold WS WA WO
  constructor
  · rintro ⟨o, ρ', s', e, q⟩
    rcases h : as ρ s with _ | ⟨x, s1⟩
    · unfold mPar3 at e; rw [h] at e; cases e
    · rw [mPar3_eq h] at e
      obtain ⟨ρ1, e1, e2⟩ := Option.map_eq_some_iff.mp e
      cases e2
      exact ⟨x, _, rfl, _, e1, q⟩
  · rintro ⟨x, s1, h, ρ1, e1, q⟩
    exact ⟨_, _, _, by rw [mPar3_eq h, e1]; rfl, q⟩
@[simp ↓] theorem wi_seq : WI (mSeqI a) ρ s QI = WX a ρ s fun x s1 => WO (itemsOf x) fun xs => QI xs s1 := by
  unfold WI WX mSeqI
  simp only [wbnd, wret]
@[simp ↓] theorem wi_arg {f : List R → Option (List PyData)} : WI (mArgI f as) ρ s QI = WA as ρ s fun x s1 => WO (f x) fun xs => QI xs s1 := by
  unfold WI WA mArgI
  simp only [wbnd, wret]
@[simp ↓] theorem ws_for {g : Gx} : WS (mFor it g ma) ρ s QS = WI it ρ s fun xs s1 => WFor g ma xs ρ s1 QS := by
  apply propext
  unfold WFor WS WI
  rw [ev_mFor]
  rcases it ρ s with _ | ⟨xs, s1⟩ <;> simp
@[simp ↓] theorem ws_wh : WS (mWhile ta ma) ρ s QS = WWh ta ma ρ s QS := rfl
@[simp ↓] theorem wx_lc {vs : List Nat} {g : Gx} : WX (mLc it vs g ta a) ρ s Q = WI it ρ s fun xs s1 => WLc vs g ta a xs ρ s1 fun ys s2 => ys.length ≤ sizeLine ∧ Q (.f ys) s2 := by
  apply propext
  unfold WX WLc WI mLc
  rcases it ρ s with _ | ⟨xs, s1⟩
  · simp
  · dsimp only
    rcases h : lcRun vs g ta a xs ρ s1 with _ | ⟨ys, s2⟩
    · simp [h]
    · dsimp only
      by_cases hl : ys.length ≤ sizeLine <;> simp [hl, h]
@[simp ↓] theorem wx_lc2 {vs vs1 : List Nat} {g g1 : Gx} {it1 : Mi} : WX (mLc2 it vs g ta it1 vs1 g1 tb a) ρ s Q = WI it ρ s fun xs s1 => WLc2 vs vs1 g ta it1 g1 tb a xs ρ s1 fun ys s2 => ys.length ≤ sizeLine ∧ Q (.f ys) s2 := by
  apply propext
  unfold WX WLc2 WI mLc2
  rcases it ρ s with _ | ⟨xs, s1⟩
  · simp
  · dsimp only
    rcases h : lcRun2 vs vs1 g ta it1 g1 tb a xs ρ s1 with _ | ⟨ys, s2⟩
    · simp [h]
    · dsimp only
      by_cases hl : ys.length ≤ sizeLine <;> simp [hl, h]
end rules
section use
variable {ρ : Ev} {s : Sto}
theorem WF.use {g : Fx} {cs : List Cl} {P Q : R → Sto → Prop} (h : WF g cs s P) (k : ∀ r s', P r s' → Q r s') : WF g cs s Q := by
  obtain ⟨r, s', e, p⟩ := h
  exact ⟨r, s', e, k r s' p⟩
theorem WF.of {g : Fx} {cs : List Cl} {Q : R → Sto → Prop} {r : R} {s' : Sto} (h : g cs s = some (r, s')) (k : Q r s') : WF g cs s Q := ⟨r, s', h, k⟩
/-- a def, from its body -/
theorem WF.body {n l : Nat} {m : Ms} {cs : List Cl} {Q : R → Sto → Prop} (hn : cs.length = n) (h : WS m (cs.map some ++ List.replicate (l - cs.length) none) s (endK Q)) : WF (run' n l m) cs s Q := by
  obtain ⟨o, ρ', s', e, q⟩ := h
  unfold WF run' run
  rw [if_pos hn, e]
  cases o with
  | nx => exact ⟨_, _, rfl, q⟩
  | rt r => exact ⟨_, _, rfl, q⟩
  | bk => cases q
  | ct => cases q
theorem WF.eq {g : Fx} {cs : List Cl} {r : R} {s' : Sto} (h : WF g cs s fun r1 s1 => r1 = r ∧ s1 = s') : g cs s = some (r, s') := by
  obtain ⟨r1, s1, e, rfl, rfl⟩ := h
  exact e
theorem WS.mono {m : Ms} {P Q : Out → Ev → Sto → Prop} (h : WS m ρ s P) (k : ∀ o ρ' s', P o ρ' s' → Q o ρ' s') : WS m ρ s Q := by
  obtain ⟨o, ρ', s', e, p⟩ := h
  exact ⟨o, ρ', s', e, k _ _ _ p⟩
theorem WFor_nil {g : Gx} {body : Ms} {Q : Out → Ev → Sto → Prop} (h : Q .nx ρ s) : WFor g body [] ρ s Q := ⟨.nx, ρ, s, rfl, h⟩
theorem WFor_cons {g : Gx} {body : Ms} {x : PyData} {xs : List PyData} {Q : Out → Ev → Sto → Prop} (h : WO (g x ρ) fun ρ1 => WS body ρ1 s (loopK (fun ρ2 s2 => WFor g body xs ρ2 s2 Q) Q)) : WFor g body (x :: xs) ρ s Q := by
  obtain ⟨ρ1, e1, o, ρ2, s2, e2, q⟩ := h
  cases o with
  | nx =>
    obtain ⟨o, ρ', s', e3, q⟩ := q
    exact ⟨o, ρ', s', by unfold forRun; simp [e1, e2, e3], q⟩
  | ct =>
    obtain ⟨o, ρ', s', e3, q⟩ := q
    exact ⟨o, ρ', s', by unfold forRun; simp [e1, e2, e3], q⟩
  | bk => exact ⟨.nx, ρ2, s2, by unfold forRun; simp [e1, e2], q⟩
  | rt r => exact ⟨.rt r, ρ2, s2, by unfold forRun; simp [e1, e2], q⟩
/-- a for by its invariant -/
theorem WFor_inv {α : Type} {g : Gx} {body : Ms} {Q : Out → Ev → Sto → Prop} (enc : α → PyData) (l : List α) (I : Nat → Ev → Sto → Prop) (h0 : I 0 ρ s)
    (step : ∀ (i : Nat) (x : α) ρ s, l[i]? = some x → I i ρ s → WO (g (enc x) ρ) fun ρ1 => WS body ρ1 s (loopK (I (i + 1)) Q)) (fin : ∀ ρ s, I l.length ρ s → Q .nx ρ s) : WFor g body (l.map enc) ρ s Q := by
  have key : ∀ (m : List α) (i : Nat) (ρ : Ev) (s : Sto), i + m.length = l.length → (∀ j, m[j]? = l[i + j]?) → I i ρ s → WFor g body (m.map enc) ρ s Q := by
    intro m
    induction m with
    | nil =>
      intro i ρ s hl _ h
      refine WFor_nil (fin _ _ ?_)
      rw [List.length_nil, Nat.add_zero] at hl
      rwa [← hl]
    | cons x m ih =>
      intro i ρ s hl hj h
      have hx : l[i]? = some x := by
        have := hj 0
        simpa using this.symm
      refine WFor_cons ?_
      obtain ⟨ρ1, e1, o, ρ2, s2, e2, q⟩ := step i x ρ s hx h
      refine ⟨ρ1, e1, o, ρ2, s2, e2, ?_⟩
      rw [List.length_cons] at hl
      have next : I (i + 1) ρ2 s2 → WFor g body (m.map enc) ρ2 s2 Q := fun h => ih (i + 1) ρ2 s2 (by omega) (fun j => by
        have := hj (j + 1)
        rw [List.getElem?_cons_succ] at this
        rw [this]
        congr 1
        omega) h
      cases o with
      | nx => exact next q
      | ct => exact next q
      | bk => exact q
      | rt r => exact q
  exact key l 0 ρ s (Nat.zero_add _) (fun j => by rw [Nat.zero_add]) h0
theorem WWh_next {c : Mt} {body : Ms} {Q : Out → Ev → Sto → Prop} (h : WT c ρ s fun k s1 => IfK k (WS body ρ s1 (loopK (fun ρ' s' => WWh c body ρ' s' Q) Q)) (Q .nx ρ s1)) : WWh c body ρ s Q := by
  obtain ⟨k, s1, ec, h⟩ := h
  cases k with
  | false =>
    rw [IfK_false] at h
    exact ⟨.nx, ρ, s1, mWhile_of (n := 1) (by rw [whRun_eq, ec]), h⟩
  | true =>
    rw [IfK_true] at h
    obtain ⟨o, ρ2, s2, eb, h⟩ := h
    cases o with
    | nx =>
      obtain ⟨o, ρ', s', ew, q⟩ := h
      obtain ⟨n, en⟩ := mWhile_some ew
      exact ⟨o, ρ', s', mWhile_of (n := n + 1) (by rw [whRun_eq, ec]; simp only [eb]; exact en), q⟩
    | ct =>
      obtain ⟨o, ρ', s', ew, q⟩ := h
      obtain ⟨n, en⟩ := mWhile_some ew
      exact ⟨o, ρ', s', mWhile_of (n := n + 1) (by rw [whRun_eq, ec]; simp only [eb]; exact en), q⟩
    | bk => exact ⟨.nx, ρ2, s2, mWhile_of (n := 1) (by rw [whRun_eq, ec]; simp only [eb]), h⟩
    | rt r => exact ⟨.rt r, ρ2, s2, mWhile_of (n := 1) (by rw [whRun_eq, ec]; simp only [eb]), h⟩
/-- a comprehension whose elements are alone with their item -/
theorem WLc_opt {α : Type} {vs : List Nat} {g : Gx} {t : Mt} {e : Mx} {Q : List PyData → Sto → Prop} (enc : α → PyData) (f : α → Option PyData) : ∀ (l : List α), (∀ x ∈ l, WO (g (enc x) (wipeE ρ vs)) fun ρ1 => WT t ρ1 s fun k s1 => s1 = s ∧ k = (f x).isSome ∧ IfK k (WX e ρ1 s fun r s2 => s2 = s ∧ toD r = f x) True) →
    Q (l.filterMap f) s → WLc vs g t e (l.map enc) ρ s Q := by
  intro l h q
  refine ⟨_, s, ?_, q⟩
  clear q
  induction l with
  | nil => rfl
  | cons x l ih =>
    have r := ih fun y hy => h y (List.mem_cons_of_mem _ hy)
    obtain ⟨ρ1, e1, k, s1, e2, rfl, hk, q⟩ := h x List.mem_cons_self
    rw [List.map_cons]
    unfold lcRun
    rw [e1]
    dsimp only
    rw [e2]
    cases k with
    | false =>
      dsimp only
      rw [r, List.filterMap_cons]
      cases hf : f x with
      | none => rfl
      | some y => rw [hf] at hk; cases hk
    | true =>
      rw [IfK_true] at q
      obtain ⟨rr, s2, e3, rfl, hd⟩ := q
      dsimp only
      rw [e3]
      dsimp only
      rw [r, List.filterMap_cons]
      cases hf : f x with
      | none => rw [hf] at hk; cases hk
      | some y => rw [hd, hf]
theorem WLc_map {α : Type} {vs : List Nat} {g : Gx} {e : Mx} {Q : List PyData → Sto → Prop} (enc f : α → PyData) (l : List α) (h : ∀ x ∈ l, WO (g (enc x) (wipeE ρ vs)) fun ρ1 => WX e ρ1 s fun r s2 => s2 = s ∧ toD r = some (f x))
    (q : Q (l.map f) s) : WLc vs g mYes e (l.map enc) ρ s Q := by
  refine WLc_opt enc (fun x => some (f x)) l (fun x hx => ?_) (by rw [List.filterMap_eq_map']; exact q)
  obtain ⟨ρ1, e1, r⟩ := h x hx
  exact ⟨ρ1, e1, true, s, rfl, rfl, rfl, by rw [IfK_true]; exact r⟩
end use
end Dh
def gg (a b : Int) : Int := ((Nat.gcd a.natAbs b.natAbs : Nat) : Int)
def QLt (k : Nat) (q : Rat) : Prop := q.num.natAbs < 2 ^ k ∧ q.den < 2 ^ k
theorem divInt_num {t l : Int} (h : 0 < l) : (Rat.divInt t l).num = t / gg t l := by
  rw [Rat.num_divInt]
  unfold gg
  rw [Int.sign_eq_one_of_pos h, Int.one_mul, Int.gcd_comm]
  rfl
theorem divInt_den {t l : Int} (h : 0 < l) : ((Rat.divInt t l).den : Int) = l / gg t l := by
  rw [Rat.den_divInt, if_neg (by omega), Int.gcd_comm]
  unfold gg
  rw [Int.natCast_ediv, Int.natAbs_of_nonneg (by omega)]
  rfl
theorem QLt_divInt {t l : Int} {k : Nat} (h : 0 < l) (h1 : t.natAbs < 2 ^ k) (h2 : l.natAbs < 2 ^ k) : QLt k (Rat.divInt t l) := by
  refine ⟨?_, ?_⟩
  · rw [Rat.num_divInt, Int.sign_eq_one_of_pos h, Int.one_mul, Int.natAbs_ediv_of_dvd (Int.gcd_dvd_right ..)]
    exact Nat.lt_of_le_of_lt (Nat.div_le_self _ _) h1
  · rw [Rat.den_divInt, if_neg (by omega)]
    exact Nat.lt_of_le_of_lt (Nat.div_le_self _ _) h2
theorem QLt.mono {a b : Nat} {q : Rat} (h : QLt a q) (hab : a ≤ b) : QLt b q :=
  ⟨Nat.lt_of_lt_of_le h.1 (Nat.pow_le_pow_right (by decide) hab), Nat.lt_of_lt_of_le h.2 (Nat.pow_le_pow_right (by decide) hab)⟩
theorem add_divInt (p q : Rat) : p + q = Rat.divInt (p.num * q.den + q.num * p.den) ((p.den : Int) * q.den) := by
  rw [Rat.add_def', ← Rat.divInt_ofNat, Int.natCast_mul]
theorem sub_divInt (p q : Rat) : p - q = Rat.divInt (p.num * q.den - q.num * p.den) ((p.den : Int) * q.den) := by
  rw [Rat.sub_def', ← Rat.divInt_ofNat, Int.natCast_mul]
theorem mul_divInt (p q : Rat) : p * q = Rat.divInt (p.num * q.num) ((p.den : Int) * q.den) := by
  rw [Rat.mul_def', ← Rat.divInt_ofNat, Int.natCast_mul]
theorem den_pos (q : Rat) : (0 : Int) < q.den := by have := q.den_pos; omega
theorem den_mul_pos (p q : Rat) : (0 : Int) < (p.den : Int) * q.den := Int.mul_pos (den_pos p) (den_pos q)
theorem lt_mulB {i j : Int} {a b : Nat} (h1 : i.natAbs < 2 ^ a) (h2 : j.natAbs < 2 ^ b) : (i * j).natAbs < 2 ^ (a + b) := by
  rw [Int.natAbs_mul, Nat.pow_add]
  exact Nat.mul_lt_mul'' h1 h2
theorem lt_sumB {i j : Int} {a : Nat} (h1 : i.natAbs < 2 ^ a) (h2 : j.natAbs < 2 ^ a) : (i + j).natAbs < 2 ^ (a + 1) := by
  have := Int.natAbs_add_le i j
  rw [Nat.pow_succ]
  omega
theorem lt_subB {i j : Int} {a : Nat} (h1 : i.natAbs < 2 ^ a) (h2 : j.natAbs < 2 ^ a) : (i - j).natAbs < 2 ^ (a + 1) := by
  rw [Nat.pow_succ]
  omega
theorem lt_monoB {i : Int} {a b : Nat} (h1 : i.natAbs < 2 ^ a) (h : a ≤ b) : i.natAbs < 2 ^ b := Nat.lt_of_lt_of_le h1 (Nat.pow_le_pow_right (by decide) h)
theorem QLt.den' {a : Nat} {q : Rat} (h : QLt a q) : (q.den : Int).natAbs < 2 ^ a := by rw [Int.natAbs_natCast]; exact h.2
theorem QLt_add {a b : Nat} {p q : Rat} (hp : QLt a p) (hq : QLt b q) : QLt (a + b + 1) (p + q) := by
  rw [add_divInt]
  refine QLt_divInt (den_mul_pos p q) (lt_sumB (lt_mulB hp.1 hq.den') ?_) (lt_monoB (lt_mulB hp.den' hq.den') (by omega))
  rw [Nat.add_comm a b]
  exact lt_mulB hq.1 hp.den'
theorem QLt_sub {a b : Nat} {p q : Rat} (hp : QLt a p) (hq : QLt b q) : QLt (a + b + 1) (p - q) := by
  rw [sub_divInt]
  refine QLt_divInt (den_mul_pos p q) (lt_subB (lt_mulB hp.1 hq.den') ?_) (lt_monoB (lt_mulB hp.den' hq.den') (by omega))
  rw [Nat.add_comm a b]
  exact lt_mulB hq.1 hp.den'
theorem QLt_mul {a b : Nat} {p q : Rat} (hp : QLt a p) (hq : QLt b q) : QLt (a + b) (p * q) := by
  rw [mul_divInt]
  exact QLt_divInt (den_mul_pos p q) (lt_mulB hp.1 hq.1) (lt_mulB hp.den' hq.den')
namespace El
/-- one turn of the elimination -/
def step (k : Nat) (R : Nat → Nat → Rat) : Nat → Nat → Rat := fun i j => if i = k then R k j / R k k else R i j - R i k * (R k j / R k k)
end El
namespace El
/-- several values as one -/
def code (W : Nat) (f : Nat → Nat) : Nat → Nat
  | 0 => 0
  | k + 1 => code W f k + f k * W ^ k
theorem qlt_of_frac {q : Rat} {v0 v : Int} {m : Nat} (h0 : v0 ≠ 0) (e : (v0 : Rat) * q = v) (h1 : v0.natAbs < 2 ^ m) (h2 : v.natAbs < 2 ^ m) : QLt m q := by
  have e2 : q = Rat.divInt v v0 := by
    rw [Rat.divInt_eq_div, ← e, Rat.mul_comm]
    exact (Rat.mul_div_cancel (by rw [Ne, Rat.intCast_eq_zero_iff]; exact h0)).symm
  rcases Int.lt_or_gt_of_ne h0 with h | h
  · rw [e2, ← Rat.neg_divInt_neg]
    exact QLt_divInt (by omega) (by rw [Int.natAbs_neg]; exact h2) (by rw [Int.natAbs_neg]; exact h1)
  · rw [e2]
    exact QLt_divInt h h2 h1
theorem den_mul_self (q : Rat) : (q.den : Rat) * q = q.num := by
  have hb : ((q.den : Int) : Rat) ≠ 0 := by
    rw [Ne, Rat.intCast_eq_zero_iff]
    have := q.den_pos
    omega
  have h : (q.num : Rat) / ((q.den : Int) : Rat) = q := by rw [← Rat.divInt_eq_div, Rat.num_divInt_den]
  have h2 := Rat.div_mul_cancel (a := (q.num : Rat)) hb
  rw [h, Rat.intCast_natCast] at h2
  rw [Rat.mul_comm]
  exact h2
end El
namespace Dh
open PySem PySem.Spec L2 PySem.W
def pQ (q : Rat) : PyData := .tuple [.int q.num, .int (q.den : Int)]
def pQs (l : List Rat) : PyData := .tuple (l.map pQ)
/-- small enough for all that is reckoned once more -/
def Bd (q : Rat) : Prop := QLt 4500 q
theorem QLt.bd {k : Nat} {q : Rat} (h : QLt k q) (hk : k ≤ 4500 := by omega) : Bd q := h.mono hk
theorem intBits_le {i : Int} {k : Nat} (h : i.natAbs < 2 ^ k) : Builtin.Int.intBits i ≤ k := by
  unfold Builtin.Int.intBits
  split
  · exact Nat.zero_le _
  · rename_i q
    have hz : i.natAbs ≠ 0 := by
      intro z
      exact q (by simpa using z)
    have := (Nat.log2_lt hz).mpr h
    omega
theorem mulOk_of {i j : Int} {a b : Nat} (h1 : i.natAbs < 2 ^ a) (h2 : j.natAbs < 2 ^ b) (h : a + b ≤ 134217728) : mulOk i j = true := by
  have x := intBits_le h1
  have y := intBits_le h2
  exact Nat.ble_eq_true_of_le (by omega)
theorem mulOk_nn {p q : Rat} (hp : Bd p) (hq : Bd q) : mulOk p.num q.num = true := mulOk_of hp.1 hq.1 (by decide)
theorem mulOk_nd {p q : Rat} (hp : Bd p) (hq : Bd q) : mulOk p.num (q.den : Int) = true := mulOk_of hp.1 hq.den' (by decide)
theorem mulOk_dd {p q : Rat} (hp : Bd p) (hq : Bd q) : mulOk (p.den : Int) (q.den : Int) = true := mulOk_of hp.den' hq.den' (by decide)
theorem pylong_of {i j : Int} (h : j.natAbs < 2 ^ 9000) : Builtin.divisionGoesByPylong i j = false := by
  unfold Builtin.divisionGoesByPylong
  by_cases hz : j = 0
  · subst hz; simp
  · have hn : j.natAbs ≠ 0 := by omega
    have := (Nat.log2_lt hn).mpr h
    have q : ¬ (j.natAbs.log2 / 30 + 1 > 300) := by omega
    simp [hz, q]
theorem gg_pos {a b : Int} (h : b ≠ 0) : 0 < gg a b := by
  unfold gg
  have := Nat.gcd_pos_of_pos_right a.natAbs (n := b.natAbs) (by omega)
  omega
theorem gg_le {a b : Int} (h : b ≠ 0) : (gg a b).natAbs ≤ b.natAbs := by
  unfold gg
  rw [Int.natAbs_natCast]
  exact Nat.gcd_le_right _ (by omega)
theorem fdiv_pos {i j : Int} (h : 0 < j) : i.fdiv j = i / j := Int.fdiv_eq_ediv_of_nonneg _ (Int.le_of_lt h)
theorem fmod_pos {i j : Int} (h : 0 < j) : i.fmod j = i % j := Int.fmod_eq_emod_of_nonneg _ (Int.le_of_lt h)
theorem sz1 : 1 ≤ sizeLine := by decide
theorem sz2 : 2 ≤ sizeLine := by decide
theorem sz3 : 3 ≤ sizeLine := by decide
theorem sz4 : 4 ≤ sizeLine := by decide
theorem szle {n : Nat} (h : n ≤ 1000) : n ≤ sizeLine := Nat.le_trans h (by decide)
theorem szlt {n : Nat} (h : n ≤ 1000) : n < sizeLine := Nat.lt_of_le_of_lt h (by decide)
theorem pQ_inj {p q : Rat} : pQ p = pQ q ↔ p = q := by
  refine ⟨fun h => ?_, fun h => by rw [h]⟩
  unfold pQ at h
  simp at h
  exact Rat.ext h.1 (by omega)
theorem eqv_int {a b : Int} : PyData.eqv (.int a) (.int b) = decide (a = b) := by
  simp [PyData.eqv]
  by_cases h : a = b <;> simp [h]
theorem eqv_pQ {p q : Rat} : PyData.eqv (pQ p) (pQ q) = decide (p = q) := by
  unfold pQ
  simp only [PyData.eqv, PyData.eqvAll, Bool.and_true]
  by_cases h : p = q
  · subst h; simp
  · have : ¬ (p.num = q.num ∧ p.den = q.den) := fun ⟨a, b⟩ => h (Rat.ext a b)
    simp only [h, decide_false]
    by_cases a : p.num = q.num
    · have b : ¬ (p.den : Int) = q.den := fun z => this ⟨a, by omega⟩
      simp [a, b]
    · simp [a]
theorem eqOk_pQ {q : Rat} : eqOk (pQ q) = true := by
  unfold pQ eqOk SeqAt.shaped
  simp [noDict, noDicts, PyData.canLay0, PyData.canLayAll0, PyData.depth, PyData.depthAll]
theorem fEq_pQ {p q : Rat} {neg : Bool} : fEq neg (.d (pQ p)) (.d (pQ q)) = some (.d (.bool (if neg then !decide (p = q) else decide (p = q)))) := by
  have : fEq neg (.d (pQ p)) (.d (pQ q)) = fEqD neg (.d (pQ p)) (.d (pQ q)) := rfl
  rw [this]
  unfold fEqD
  simp [eqOk_pQ, eqv_pQ]
theorem eqOk_int {i : Int} : eqOk (.int i) = true := by
  unfold eqOk SeqAt.shaped
  simp [noDict, PyData.canLay0, PyData.depth]
theorem fEq_int {i j : Int} {neg : Bool} : fEq neg (.d (.int i)) (.d (.int j)) = some (.d (.bool (if neg then !decide (i = j) else decide (i = j)))) := by
  have : fEq neg (.d (.int i)) (.d (.int j)) = fEqD neg (.d (.int i)) (.d (.int j)) := rfl
  rw [this]
  unfold fEqD
  simp [eqOk_int, eqv_int]
theorem gFdiv_pos {i j : Int} (h : 0 < j) (hl : j.natAbs < 2 ^ 9000) : gFdiv i j = some (.int (i / j)) := by
  unfold gFdiv
  rw [if_pos ⟨by omega, pylong_of hl⟩, fdiv_pos h]
theorem gMod_pos {i j : Int} (h : 0 < j) : gMod i j = some (.int (i % j)) := by
  unfold gMod
  rw [if_pos (by omega), fmod_pos h]
theorem fMul_ok {i j : Int} (h : mulOk i j = true) : fMul (.d (.int i)) (.d (.int j)) = some (.d (.int (i * j))) := by
  rw [ev_fMulI, if_pos h]
theorem den_lt {p q : Rat} (hp : Bd p) (hq : Bd q) : ((p.den : Int) * (q.den : Int)).natAbs < 2 ^ 9000 := lt_mulB hp.den' hq.den'
def pairK (r : R) : Option (Int × PyData) := match r with | .d (.tuple [.int q, y]) => some (q, y) | _ => none
@[simp] theorem pairK_d {q : Int} {y : PyData} : pairK (.d (.tuple [.int q, y])) = some (q, y) := rfl
theorem mPair_eq {i j : Nat} {ix a : Mx} {ρ : Ev} {s s1 : Sto} {r : R} (e : a ρ s = some (r, s1)) : mPair i ix j a ρ s = match pairK r with
    | some (q, y) => (match ix ρ s1, ρ[i]? with
      | some (.d (.int k), s2), some (some .s) => (match ixN s2.length k with
        | some n => some (.nx, ρ.set j (some (.d y)), s2.set n q)
        | none => none)
      | _, _ => none)
    | none => none := by
  unfold mPair pairK
  rw [e]
  split
  · rename_i q y s2 e2
    cases e2
    rfl
  · rename_i h
    split
    · rename_i q y h2
      split at h2
      · rename_i q' y'
        cases h2
        exact absurd rfl (h _ _ s1)
      · cases h2
    · rfl
@[simp ↓] theorem ws_pair {i j : Nat} {ix a : Mx} {ρ : Ev} {s : Sto} {QS : Out → Ev → Sto → Prop} : WS (mPair i ix j a) ρ s QS = WX a ρ s fun r s1 => WO (pairK r) fun p => WX ix ρ s1 fun z s2 => WO (intK z) fun k => getC ρ i = some .s ∧ WO (ixN s2.length k) fun n => WO (some (ρ.set j (some (.d p.2)))) fun ρ1 => WO (some (s2.set n p.1)) fun s3 => QS .nx ρ1 s3 := by
  apply propext
  unfold WS WX WO
  constructor
  · rintro ⟨o, ρ', s', e, q⟩
    rcases h : a ρ s with _ | ⟨r, s1⟩
    · unfold mPair at e; rw [h] at e; cases e
    · rw [mPair_eq h] at e
      split at e
      · rename_i q' y hp
        split at e
        · rename_i k s2 e1 e2
          split at e
          · rename_i n en
            cases e
            exact ⟨r, s1, rfl, (q', y), hp, _, s2, e1, k, rfl, getC_of e2, n, en, _, rfl, _, rfl, q⟩
          · cases e
        · cases e
      · cases e
  · rintro ⟨r, s1, h, ⟨q', y⟩, hp, z, s2, e1, k, hk, hs, n, en, _, e5, _, e6, q⟩
    cases e5
    cases e6
    have hz : z = .d (.int k) := by
      cases z with
      | d z =>
        cases z with
        | int i => cases hk; rfl
        | _ => cases hk
      | _ => cases hk
    subst hz
    exact ⟨_, _, _, by rw [mPair_eq h, hp]; simp only [e1, of_getC hs, en], q⟩
@[simp ↓] theorem wx_m3 {f : R → R → R → Option R} {a b c : Mx} {ρ : Ev} {s : Sto} {Q : R → Sto → Prop} : WX (m3 f a b c) ρ s Q = WX a ρ s fun x s1 => WX b ρ s1 fun y s2 => WX c ρ s2 fun z s3 => WO (f x y z) fun w => Q w s3 := by
  unfold WX m3
  simp only [wbnd, wret]
def tup2 (r : R) : Option (PyData × PyData) := match r with | .d (.tuple [x, y]) => some (x, y) | _ => none
@[simp] theorem tup2_d {x y : PyData} : tup2 (.d (.tuple [x, y])) = some (x, y) := rfl
theorem mSwap_eq {i : Nat} {ix1 ix2 a : Mx} {ρ : Ev} {s s1 : Sto} {r : R} (e : a ρ s = some (r, s1)) : mSwap i ix1 ix2 a ρ s = match tup2 r with
    | some (x, y) => (match ix1 ρ s1, ρ[i]? with
      | some (.d (.int k1), s2), some (some (.o xs)) => (match ixN xs.length k1 with
        | some j1 => (match ix2 (ρ.set i (some (.o (xs.set j1 x)))) s2 with
          | some (.d (.int k2), s3) => (match ixN xs.length k2 with
            | some j2 => some (.nx, (ρ.set i (some (.o (xs.set j1 x)))).set i (some (.o ((xs.set j1 x).set j2 y))), s3)
            | none => none)
          | _ => none)
        | none => none)
      | _, _ => none)
    | none => none := by
  unfold mSwap tup2
  rw [e]
  split
  · rename_i x y s2 e2
    cases e2
    rfl
  · rename_i h
    split
    · rename_i x y h2
      split at h2
      · rename_i x' y'
        cases h2
        exact absurd rfl (h _ _ s1)
      · cases h2
    · rfl
@[simp ↓] theorem ws_swap {i : Nat} {ix1 ix2 a : Mx} {ρ : Ev} {s : Sto} {QS : Out → Ev → Sto → Prop} : WS (mSwap i ix1 ix2 a) ρ s QS = WX a ρ s fun r s1 => WO (tup2 r) fun p => WX ix1 ρ s1 fun z s2 => WO (intK z) fun k1 => WO ((getC ρ i).bind ownK) fun xs => WO (ixN xs.length k1) fun j1 =>
    WO (some (ρ.set i (some (.o (xs.set j1 p.1))))) fun ρ1 => WX ix2 ρ1 s2 fun z s3 => WO (intK z) fun k2 => WO (ixN xs.length k2) fun j2 => WO (some (ρ1.set i (some (.o ((xs.set j1 p.1).set j2 p.2))))) fun ρ2 => QS .nx ρ2 s3 := by
  apply propext
  unfold WS WX WO
  constructor
  · rintro ⟨o, ρ', s', e, q⟩
    rcases h : a ρ s with _ | ⟨r, s1⟩
    · unfold mSwap at e; rw [h] at e; cases e
    · rw [mSwap_eq h] at e
      split at e
      · rename_i x y hp
        split at e
        · rename_i k1 s2 xs e1 e2
          split at e
          · rename_i j1 ej1
            split at e
            · rename_i k2 s3 e3
              split at e
              · rename_i j2 ej2
                cases e
                exact ⟨r, s1, rfl, (x, y), hp, _, s2, e1, k1, rfl, xs, by rw [getC_of e2]; rfl, j1, ej1, _, rfl, _, _, e3, k2, rfl, j2, ej2, _, rfl, q⟩
              · cases e
            · cases e
          · cases e
        · cases e
      · cases e
  · rintro ⟨r, s1, h, ⟨x, y⟩, hp, z, s2, e1, k1, hk, xs, hg, j1, ej1, _, e5, z2, s3, e3, k2, hk2, j2, ej2, _, e6, q⟩
    cases e5
    cases e6
    have hz : z = .d (.int k1) := by
      cases z with
      | d z =>
        cases z with
        | int i => cases hk; rfl
        | _ => cases hk
      | _ => cases hk
    have hz2 : z2 = .d (.int k2) := by
      cases z2 with
      | d z =>
        cases z with
        | int i => cases hk2; rfl
        | _ => cases hk2
      | _ => cases hk2
    subst hz hz2
    cases hc : getC ρ i with
    | none => rw [hc] at hg; cases hg
    | some c =>
      rw [hc] at hg
      cases c with
      | o ys =>
        cases hg
        exact ⟨_, _, _, by rw [mSwap_eq h, hp]; simp only [e1, of_getC hc, ej1, e3, ej2], q⟩
      | _ => cases hg
/-- a dict made by a comprehension -/
def WDc (vs : List Nat) (g : Gx) (t : Mt) (ek ev : Mx) (xs : List PyData) (acc : List (Key × PyData)) (ρ : Ev) (s : Sto) (Q : List (Key × PyData) → Sto → Prop) (_t : Tg (vs, g, t, ek, ev, Q) := .mk) : Prop := ∃ r s', dcRun vs g t ek ev xs acc ρ s = some (r, s') ∧ Q r s'
@[simp ↓] theorem wx_dc {it : Mi} {vs : List Nat} {g : Gx} {t : Mt} {ek ev : Mx} {ρ : Ev} {s : Sto} {Q : R → Sto → Prop} : WX (mDc it vs g t ek ev) ρ s Q = WI it ρ s fun xs s1 => WDc vs g t ek ev xs [] ρ s1 fun acc s2 => Q (.d (dOf acc)) s2 := by
  apply propext
  unfold WX WDc WI mDc
  rcases it ρ s with _ | ⟨xs, s1⟩
  · simp
  · dsimp only
    rcases h : dcRun vs g t ek ev xs [] ρ s1 with _ | ⟨acc, s2⟩ <;> simp [h]
end Dh
namespace WW
open PySem PySem.Spec L2 Dh
def top (i : Nat) : Stmt := PySem.Challenge.pw_deedhouses_k43_vague_houses_of_anything.main.body.getD i (.Pass ⟨0, 0, 0, 0⟩)
abbrev s_is_whole : Stmt := top 2
abbrev n_is_whole : List Str := ["value"]
abbrev p_is_whole : List Str := ["value"]
abbrev s_is_between : Stmt := top 3
abbrev n_is_between : List Str := ["value", "low", "high"]
abbrev p_is_between : List Str := ["value", "low", "high"]
abbrev s_is_tuple_of : Stmt := top 4
abbrev n_is_tuple_of : List Str := ["value", "many"]
abbrev p_is_tuple_of : List Str := ["value", "many"]
abbrev s_is_ratio : Stmt := top 8
abbrev n_is_ratio : List Str := ["value"]
abbrev p_is_ratio : List Str := ["value"]
abbrev s_is_row : Stmt := top 9
abbrev n_is_row : List Str := ["value", "many", "each"]
abbrev p_is_row : List Str := ["value", "many"]
abbrev s_ratio : Stmt := top 10
abbrev n_ratio : List Str := ["top", "low", "part"]
abbrev p_ratio : List Str := ["top", "low"]
abbrev s_plus : Stmt := top 11
abbrev n_plus : List Str := ["one", "two"]
abbrev p_plus : List Str := ["one", "two"]
abbrev s_is_less : Stmt := top 12
abbrev n_is_less : List Str := ["one", "two"]
abbrev p_is_less : List Str := ["one", "two"]
abbrev s_total : Stmt := top 13
abbrev n_total : List Str := ["fractions", "found", "each"]
abbrev p_total : List Str := ["fractions"]
abbrev s_are_chances : Stmt := top 18
abbrev n_are_chances : List Str := ["value", "stands", "goals", "each", "stand", "chance", "_", "one", "two"]
abbrev p_are_chances : List Str := ["value", "stands"]
abbrev s_is_deed : Stmt := top 19
abbrev n_is_deed : List Str := ["value", "pays", "stands"]
abbrev p_is_deed : List Str := ["value", "pays", "stands"]
abbrev s_is_stand : Stmt := top 20
abbrev n_is_stand : List Str := ["value", "pays", "stands", "each"]
abbrev p_is_stand : List Str := ["value", "pays", "stands"]
abbrev s_is_share : Stmt := top 21
abbrev n_is_share : List Str := ["value"]
abbrev p_is_share : List Str := ["value"]
abbrev s_is_house_by : Stmt := top 22
abbrev n_is_house_by : List Str := ["value", "stands", "each"]
abbrev p_is_house_by : List Str := ["value"]
abbrev s_check_house : Stmt := top 28
abbrev n_check_house : List Str := ["value"]
abbrev p_check_house : List Str := ["value"]
abbrev s_is_end : Stmt := top 30
abbrev n_is_end : List Str := ["value"]
abbrev p_is_end : List Str := ["value"]
abbrev s_is_stretch : Stmt := top 31
abbrev n_is_stretch : List Str := ["value", "stands"]
abbrev p_is_stretch : List Str := ["value", "stands"]
abbrev s_are_stretches : Stmt := top 32
abbrev n_are_stretches : List Str := ["value", "stands", "goals", "lows", "highs", "each", "stand", "_", "one", "two"]
abbrev p_are_stretches : List Str := ["value", "stands"]
abbrev s_is_vague_deed : Stmt := top 33
abbrev n_is_vague_deed : List Str := ["value", "pays", "stands"]
abbrev p_is_vague_deed : List Str := ["value", "pays", "stands"]
abbrev s_is_vague_stand : Stmt := top 34
abbrev n_is_vague_stand : List Str := ["value", "pays", "stands", "each"]
abbrev p_is_vague_stand : List Str := ["value", "pays", "stands"]
abbrev s_is_vague_by : Stmt := top 35
abbrev n_is_vague_by : List Str := ["value", "stands", "each"]
abbrev p_is_vague_by : List Str := ["value"]
abbrev s_with_deeds : Stmt := top 36
abbrev n_with_deeds : List Str := ["vague", "made", "stands", "deeds", "stretches", "gains"]
abbrev p_with_deeds : List Str := ["vague", "made"]
abbrev s_vague_by : Stmt := top 37
abbrev n_vague_by : List Str := ["house"]
abbrev p_vague_by : List Str := ["house"]
abbrev s_do_chances_fit : Stmt := top 38
abbrev n_do_chances_fit : List Str := ["stretches", "chances", "told", "stand", "low", "high", "chance", "each"]
abbrev p_do_chances_fit : List Str := ["stretches", "chances"]
abbrev s_does_fit : Stmt := top 39
abbrev n_does_fit : List Str := ["vague", "house", "deeds", "others", "stretches", "gains", "chances", "got"]
abbrev p_does_fit : List Str := ["vague", "house"]
abbrev s_check_vague : Stmt := top 41
abbrev n_check_vague : List Str := ["value"]
abbrev p_check_vague : List Str := ["value"]
abbrev s_is_vague : Stmt := top 42
abbrev n_is_vague : List Str := ["value"]
abbrev p_is_vague : List Str := ["value"]
abbrev s_fits : Stmt := top 43
abbrev n_fits : List Str := ["vague", "house"]
abbrev p_fits : List Str := ["vague", "house"]
abbrev s_vague_of : Stmt := top 44
abbrev n_vague_of : List Str := ["house"]
abbrev p_vague_of : List Str := ["house"]
abbrev s_law_pot : Stmt := top 46
abbrev n_law_pot : List Str := ["_law_script", "_law_spot", "_law_seed", "_law_cell", "_law_own"]
abbrev p_law_pot : List Str := ["_law_script", "_law_spot"]
abbrev s_law_take : Stmt := top 47
abbrev n_law_take : List Str := ["_law_pot_here", "_law_many", "_law_digit", "_law_seed"]
abbrev p_law_take : List Str := ["_law_pot_here", "_law_many"]
abbrev s_law_pick : Stmt := top 48
abbrev n_law_pick : List Str := ["_law_pot_here", "_law_some"]
abbrev p_law_pick : List Str := ["_law_pot_here", "_law_some"]
abbrev s_law_shuffled : Stmt := top 49
abbrev n_law_shuffled : List Str := ["_law_pot_here", "_law_many", "_law_left", "_law_found", "_law_turn"]
abbrev p_law_shuffled : List Str := ["_law_pot_here", "_law_many"]
abbrev s_law_low : Stmt := top 50
abbrev n_law_low : List Str := ["_law_top", "_law_low_here", "_law_one", "_law_two"]
abbrev p_law_low : List Str := ["_law_top", "_law_low_here"]
abbrev s_law_plus : Stmt := top 51
abbrev n_law_plus : List Str := ["_law_one", "_law_two"]
abbrev p_law_plus : List Str := ["_law_one", "_law_two"]
abbrev s_law_minus : Stmt := top 52
abbrev n_law_minus : List Str := ["_law_one", "_law_two"]
abbrev p_law_minus : List Str := ["_law_one", "_law_two"]
abbrev s_law_times : Stmt := top 53
abbrev n_law_times : List Str := ["_law_one", "_law_two"]
abbrev p_law_times : List Str := ["_law_one", "_law_two"]
abbrev s_law_below : Stmt := top 54
abbrev n_law_below : List Str := ["_law_one", "_law_two"]
abbrev p_law_below : List Str := ["_law_one", "_law_two"]
abbrev s_law_total : Stmt := top 55
abbrev n_law_total : List Str := ["_law_some", "_law_found", "_law_each"]
abbrev p_law_total : List Str := ["_law_some"]
abbrev s_law_share : Stmt := top 56
abbrev n_law_share : List Str := ["_law_pot_here", "_law_top"]
abbrev p_law_share : List Str := ["_law_pot_here"]
abbrev s_law_number : Stmt := top 57
abbrev n_law_number : List Str := ["_law_pot_here", "_law_way"]
abbrev p_law_number : List Str := ["_law_pot_here"]
abbrev s_law_gains : Stmt := top 58
abbrev n_law_gains : List Str := ["_law_pot_here", "_law_pays", "_law_found", "_law_turn"]
abbrev p_law_gains : List Str := ["_law_pot_here", "_law_pays"]
abbrev s_law_lot : Stmt := top 59
abbrev n_law_lot : List Str := ["_law_pot_here", "_law_many", "_law_found", "_law_turn"]
abbrev p_law_lot : List Str := ["_law_pot_here", "_law_many"]
abbrev s_law_stretches : Stmt := top 60
abbrev n_law_stretches : List Str := ["_law_pot_here", "_law_many", "_law_most", "_law_limit", "_law_told", "_law_some", "_law_way", "_law_found", "_law_total_here", "_law_stand", "_law_part", "_law_chance", "_law_low_here", "_law_room"]
abbrev p_law_stretches : List Str := ["_law_pot_here", "_law_many", "_law_most"]
abbrev s_law_vague : Stmt := top 61
abbrev n_law_vague : List Str := ["_law_pot_here", "_law_sizes", "_law_most", "_law_many", "_law_pays", "_law_share_here", "_law_stands", "_law_stand", "_law_deeds", "_law_deed"]
abbrev p_law_vague : List Str := ["_law_pot_here", "_law_sizes", "_law_most"]
abbrev s_law_fill : Stmt := top 62
abbrev n_law_fill : List Str := ["_law_stretches_here", "_law_order", "_law_found", "_law_left", "_law_at", "_law_room", "_law_more", "_law_each"]
abbrev p_law_fill : List Str := ["_law_stretches_here", "_law_order"]
abbrev s_law_known : Stmt := top 63
abbrev n_law_known : List Str := ["_law_stretches_here", "_law_chances", "_law_pairs", "_law_each", "_law_chance", "_law_pair"]
abbrev p_law_known : List Str := ["_law_stretches_here", "_law_chances"]
abbrev s_law_within : Stmt := top 64
abbrev n_law_within : List Str := ["_law_pot_here", "_law_stretches_here", "_law_one", "_law_two", "_law_part", "_law_rest", "_law_x", "_law_y"]
abbrev p_law_within : List Str := ["_law_pot_here", "_law_stretches_here"]
abbrev s_law_inside : Stmt := top 65
abbrev n_law_inside : List Str := ["_law_pot_here", "_law_vague_here", "_law_stands", "_law_deeds", "_law_found", "_law_stretches_here", "_law_gains_here"]
abbrev p_law_inside : List Str := ["_law_pot_here", "_law_vague_here"]
abbrev s_law_tight : Stmt := top 66
abbrev n_law_tight : List Str := ["_law_house", "_law_stands", "_law_deeds", "_law_found", "_law_chances", "_law_gains_here", "_law_each"]
abbrev p_law_tight : List Str := ["_law_house"]
abbrev s_law_full : Stmt := top 67
abbrev n_law_full : List Str := ["_law_chances", "_law_many", "_law_found", "_law_stand", "_law_chance"]
abbrev p_law_full : List Str := ["_law_chances", "_law_many"]
abbrev s_law_is_whole : Stmt := top 68
abbrev n_law_is_whole : List Str := ["_law_value"]
abbrev p_law_is_whole : List Str := ["_law_value"]
abbrev s_law_is_index : Stmt := top 69
abbrev n_law_is_index : List Str := ["_law_value", "_law_many"]
abbrev p_law_is_index : List Str := ["_law_value", "_law_many"]
abbrev s_law_is_fraction : Stmt := top 70
abbrev n_law_is_fraction : List Str := ["_law_value"]
abbrev p_law_is_fraction : List Str := ["_law_value"]
abbrev s_law_is_row : Stmt := top 71
abbrev n_law_is_row : List Str := ["_law_value", "_law_many", "_law_each"]
abbrev p_law_is_row : List Str := ["_law_value", "_law_many"]
abbrev s_law_is_stretches : Stmt := top 72
abbrev n_law_is_stretches : List Str := ["_law_value", "_law_many", "_law_last", "_law_low_here", "_law_high", "_law_each"]
abbrev p_law_is_stretches : List Str := ["_law_value", "_law_many"]
abbrev s_law_is_chances : Stmt := top 73
abbrev n_law_is_chances : List Str := ["_law_value", "_law_many", "_law_last", "_law_total_here", "_law_each"]
abbrev p_law_is_chances : List Str := ["_law_value", "_law_many"]
abbrev s_law_is_built : Stmt := top 74
abbrev n_law_is_built : List Str := ["_law_value", "_law_is_loose", "_law_many", "_law_deeds", "_law_deed"]
abbrev p_law_is_built : List Str := ["_law_value", "_law_is_loose"]
abbrev s_law_is_within : Stmt := top 75
abbrev n_law_is_within : List Str := ["_law_stretches_here", "_law_chances", "_law_told", "_law_full_here", "_law_under", "_law_above", "_law_each"]
abbrev p_law_is_within : List Str := ["_law_stretches_here", "_law_chances"]
abbrev s_law_fits : Stmt := top 76
abbrev n_law_fits : List Str := ["_law_vague_here", "_law_value", "_law_deeds", "_law_others", "_law_deed", "_law_other"]
abbrev p_law_fits : List Str := ["_law_vague_here", "_law_value"]
abbrev s_law_odd : Stmt := top 77
abbrev n_law_odd : List Str := ["_law_pot_here", "_law_some"]
abbrev p_law_odd : List Str := ["_law_pot_here"]
abbrev s_law_bent : Stmt := top 78
abbrev n_law_bent : List Str := ["_law_pot_here", "_law_value", "_law_at", "_law_way"]
abbrev p_law_bent : List Str := ["_law_pot_here", "_law_value"]
abbrev s_law_moved : Stmt := top 79
abbrev n_law_moved : List Str := ["_law_pot_here", "_law_chances", "_law_many", "_law_full_here", "_law_at", "_law_to", "_law_stand", "_law_chance", "_law_part", "_law_k"]
abbrev p_law_moved : List Str := ["_law_pot_here", "_law_chances", "_law_many"]
abbrev s_law_turned : Stmt := top 80
abbrev n_law_turned : List Str := ["_law_pot_here", "_law_house", "_law_share_here", "_law_pays", "_law_stands", "_law_way", "_law_at", "_law_deeds", "_law_spot", "_law_chances", "_law_gains_here", "_law_lone"]
abbrev p_law_turned : List Str := ["_law_pot_here", "_law_house"]
abbrev s_law_right : Stmt := top 81
abbrev n_law_right : List Str := ["_law_pot_here", "_law_vague_here", "_law_house", "_law_some", "_law_value", "_law_tight_here"]
abbrev p_law_right : List Str := ["_law_pot_here"]
abbrev s_law : Stmt := top 82
abbrev n_law : List Str := ["_law_script", "_law_turn"]
abbrev p_law : List Str := ["_law_script"]
def k_MOST_DEEDS : PyData := (.int 4)
def k_MOST_PAYS : PyData := (.int 4)
def k_MOST_STANDS : PyData := (.int 8)
def k_ONE : PyData := (.tuple [(.int 1), (.int 1)])
def k_ZERO : PyData := (.tuple [(.int 0), (.int 1)])
/-- what the top has made of the text -/
structure Txt (K : PySem.W.Frag) (mg : Str → Option Value) (ad : Nat → Addr) (fd : Nat → FuncData) : Prop where
  d_is_whole : Fun K "is_whole" "is_whole" s_is_whole (ad 0) (fd 0)
  m_is_whole : mg "is_whole" = some (.ref (ad 0))
  d_is_between : Fun K "is_between" "is_between" s_is_between (ad 1) (fd 1)
  m_is_between : mg "is_between" = some (.ref (ad 1))
  d_is_tuple_of : Fun K "is_tuple_of" "is_tuple_of" s_is_tuple_of (ad 2) (fd 2)
  m_is_tuple_of : mg "is_tuple_of" = some (.ref (ad 2))
  d_is_ratio : Fun K "is_ratio" "is_ratio" s_is_ratio (ad 3) (fd 3)
  m_is_ratio : mg "is_ratio" = some (.ref (ad 3))
  d_is_row : Fun K "is_row" "is_row" s_is_row (ad 4) (fd 4)
  m_is_row : mg "is_row" = some (.ref (ad 4))
  d_ratio : Fun K "ratio" "ratio" s_ratio (ad 5) (fd 5)
  m_ratio : mg "ratio" = some (.ref (ad 5))
  d_plus : Fun K "plus" "plus" s_plus (ad 6) (fd 6)
  m_plus : mg "plus" = some (.ref (ad 6))
  d_is_less : Fun K "is_less" "is_less" s_is_less (ad 7) (fd 7)
  m_is_less : mg "is_less" = some (.ref (ad 7))
  d_total : Fun K "total" "total" s_total (ad 8) (fd 8)
  m_total : mg "total" = some (.ref (ad 8))
  d_are_chances : Fun K "are_chances" "are_chances" s_are_chances (ad 9) (fd 9)
  m_are_chances : mg "are_chances" = some (.ref (ad 9))
  d_is_deed : Fun K "is_deed" "is_deed" s_is_deed (ad 10) (fd 10)
  m_is_deed : mg "is_deed" = some (.ref (ad 10))
  d_is_stand : Fun K "is_stand" "is_stand" s_is_stand (ad 11) (fd 11)
  m_is_stand : mg "is_stand" = some (.ref (ad 11))
  d_is_share : Fun K "is_share" "is_share" s_is_share (ad 12) (fd 12)
  m_is_share : mg "is_share" = some (.ref (ad 12))
  d_is_house_by : Fun K "is_house_by" "is_house_by" s_is_house_by (ad 13) (fd 13)
  m_is_house_by : mg "is_house_by" = some (.ref (ad 13))
  d_check_house : Fun K "check_house" "check_house" s_check_house (ad 14) (fd 14)
  m_check_house : mg "check_house" = some (.ref (ad 14))
  d_is_end : Fun K "is_end" "is_end" s_is_end (ad 15) (fd 15)
  m_is_end : mg "is_end" = some (.ref (ad 15))
  d_is_stretch : Fun K "is_stretch" "is_stretch" s_is_stretch (ad 16) (fd 16)
  m_is_stretch : mg "is_stretch" = some (.ref (ad 16))
  d_are_stretches : Fun K "are_stretches" "are_stretches" s_are_stretches (ad 17) (fd 17)
  m_are_stretches : mg "are_stretches" = some (.ref (ad 17))
  d_is_vague_deed : Fun K "is_vague_deed" "is_vague_deed" s_is_vague_deed (ad 18) (fd 18)
  m_is_vague_deed : mg "is_vague_deed" = some (.ref (ad 18))
  d_is_vague_stand : Fun K "is_vague_stand" "is_vague_stand" s_is_vague_stand (ad 19) (fd 19)
  m_is_vague_stand : mg "is_vague_stand" = some (.ref (ad 19))
  d_is_vague_by : Fun K "is_vague_by" "is_vague_by" s_is_vague_by (ad 20) (fd 20)
  m_is_vague_by : mg "is_vague_by" = some (.ref (ad 20))
  d_with_deeds : Fun K "with_deeds" "with_deeds" s_with_deeds (ad 21) (fd 21)
  m_with_deeds : mg "with_deeds" = some (.ref (ad 21))
  d_vague_by : Fun K "vague_by" "vague_by" s_vague_by (ad 22) (fd 22)
  m_vague_by : mg "vague_by" = some (.ref (ad 22))
  d_do_chances_fit : Fun K "do_chances_fit" "do_chances_fit" s_do_chances_fit (ad 23) (fd 23)
  m_do_chances_fit : mg "do_chances_fit" = some (.ref (ad 23))
  d_does_fit : Fun K "does_fit" "does_fit" s_does_fit (ad 24) (fd 24)
  m_does_fit : mg "does_fit" = some (.ref (ad 24))
  d_check_vague : Fun K "check_vague" "check_vague" s_check_vague (ad 25) (fd 25)
  m_check_vague : mg "check_vague" = some (.ref (ad 25))
  d_is_vague : Fun K "is_vague" "is_vague" s_is_vague (ad 26) (fd 26)
  m_is_vague : mg "is_vague" = some (.ref (ad 26))
  d_fits : Fun K "fits" "fits" s_fits (ad 27) (fd 27)
  m_fits : mg "fits" = some (.ref (ad 27))
  d_vague_of : Fun K "vague_of" "vague_of" s_vague_of (ad 28) (fd 28)
  m_vague_of : mg "vague_of" = some (.ref (ad 28))
  d_law_pot : Fun K "_law_pot" "_law_pot" s_law_pot (ad 29) (fd 29)
  m_law_pot : mg "_law_pot" = some (.ref (ad 29))
  d_law_take : Fun K "_law_take" "_law_take" s_law_take (ad 30) (fd 30)
  m_law_take : mg "_law_take" = some (.ref (ad 30))
  d_law_pick : Fun K "_law_pick" "_law_pick" s_law_pick (ad 31) (fd 31)
  m_law_pick : mg "_law_pick" = some (.ref (ad 31))
  d_law_shuffled : Fun K "_law_shuffled" "_law_shuffled" s_law_shuffled (ad 32) (fd 32)
  m_law_shuffled : mg "_law_shuffled" = some (.ref (ad 32))
  d_law_low : Fun K "_law_low" "_law_low" s_law_low (ad 33) (fd 33)
  m_law_low : mg "_law_low" = some (.ref (ad 33))
  d_law_plus : Fun K "_law_plus" "_law_plus" s_law_plus (ad 34) (fd 34)
  m_law_plus : mg "_law_plus" = some (.ref (ad 34))
  d_law_minus : Fun K "_law_minus" "_law_minus" s_law_minus (ad 35) (fd 35)
  m_law_minus : mg "_law_minus" = some (.ref (ad 35))
  d_law_times : Fun K "_law_times" "_law_times" s_law_times (ad 36) (fd 36)
  m_law_times : mg "_law_times" = some (.ref (ad 36))
  d_law_below : Fun K "_law_below" "_law_below" s_law_below (ad 37) (fd 37)
  m_law_below : mg "_law_below" = some (.ref (ad 37))
  d_law_total : Fun K "_law_total" "_law_total" s_law_total (ad 38) (fd 38)
  m_law_total : mg "_law_total" = some (.ref (ad 38))
  d_law_share : Fun K "_law_share" "_law_share" s_law_share (ad 39) (fd 39)
  m_law_share : mg "_law_share" = some (.ref (ad 39))
  d_law_number : Fun K "_law_number" "_law_number" s_law_number (ad 40) (fd 40)
  m_law_number : mg "_law_number" = some (.ref (ad 40))
  d_law_gains : Fun K "_law_gains" "_law_gains" s_law_gains (ad 41) (fd 41)
  m_law_gains : mg "_law_gains" = some (.ref (ad 41))
  d_law_lot : Fun K "_law_lot" "_law_lot" s_law_lot (ad 42) (fd 42)
  m_law_lot : mg "_law_lot" = some (.ref (ad 42))
  d_law_stretches : Fun K "_law_stretches" "_law_stretches" s_law_stretches (ad 43) (fd 43)
  m_law_stretches : mg "_law_stretches" = some (.ref (ad 43))
  d_law_vague : Fun K "_law_vague" "_law_vague" s_law_vague (ad 44) (fd 44)
  m_law_vague : mg "_law_vague" = some (.ref (ad 44))
  d_law_fill : Fun K "_law_fill" "_law_fill" s_law_fill (ad 45) (fd 45)
  m_law_fill : mg "_law_fill" = some (.ref (ad 45))
  d_law_known : Fun K "_law_known" "_law_known" s_law_known (ad 46) (fd 46)
  m_law_known : mg "_law_known" = some (.ref (ad 46))
  d_law_within : Fun K "_law_within" "_law_within" s_law_within (ad 47) (fd 47)
  m_law_within : mg "_law_within" = some (.ref (ad 47))
  d_law_inside : Fun K "_law_inside" "_law_inside" s_law_inside (ad 48) (fd 48)
  m_law_inside : mg "_law_inside" = some (.ref (ad 48))
  d_law_tight : Fun K "_law_tight" "_law_tight" s_law_tight (ad 49) (fd 49)
  m_law_tight : mg "_law_tight" = some (.ref (ad 49))
  d_law_full : Fun K "_law_full" "_law_full" s_law_full (ad 50) (fd 50)
  m_law_full : mg "_law_full" = some (.ref (ad 50))
  d_law_is_whole : Fun K "_law_is_whole" "_law_is_whole" s_law_is_whole (ad 51) (fd 51)
  m_law_is_whole : mg "_law_is_whole" = some (.ref (ad 51))
  d_law_is_index : Fun K "_law_is_index" "_law_is_index" s_law_is_index (ad 52) (fd 52)
  m_law_is_index : mg "_law_is_index" = some (.ref (ad 52))
  d_law_is_fraction : Fun K "_law_is_fraction" "_law_is_fraction" s_law_is_fraction (ad 53) (fd 53)
  m_law_is_fraction : mg "_law_is_fraction" = some (.ref (ad 53))
  d_law_is_row : Fun K "_law_is_row" "_law_is_row" s_law_is_row (ad 54) (fd 54)
  m_law_is_row : mg "_law_is_row" = some (.ref (ad 54))
  d_law_is_stretches : Fun K "_law_is_stretches" "_law_is_stretches" s_law_is_stretches (ad 55) (fd 55)
  m_law_is_stretches : mg "_law_is_stretches" = some (.ref (ad 55))
  d_law_is_chances : Fun K "_law_is_chances" "_law_is_chances" s_law_is_chances (ad 56) (fd 56)
  m_law_is_chances : mg "_law_is_chances" = some (.ref (ad 56))
  d_law_is_built : Fun K "_law_is_built" "_law_is_built" s_law_is_built (ad 57) (fd 57)
  m_law_is_built : mg "_law_is_built" = some (.ref (ad 57))
  d_law_is_within : Fun K "_law_is_within" "_law_is_within" s_law_is_within (ad 58) (fd 58)
  m_law_is_within : mg "_law_is_within" = some (.ref (ad 58))
  d_law_fits : Fun K "_law_fits" "_law_fits" s_law_fits (ad 59) (fd 59)
  m_law_fits : mg "_law_fits" = some (.ref (ad 59))
  d_law_odd : Fun K "_law_odd" "_law_odd" s_law_odd (ad 60) (fd 60)
  m_law_odd : mg "_law_odd" = some (.ref (ad 60))
  d_law_bent : Fun K "_law_bent" "_law_bent" s_law_bent (ad 61) (fd 61)
  m_law_bent : mg "_law_bent" = some (.ref (ad 61))
  d_law_moved : Fun K "_law_moved" "_law_moved" s_law_moved (ad 62) (fd 62)
  m_law_moved : mg "_law_moved" = some (.ref (ad 62))
  d_law_turned : Fun K "_law_turned" "_law_turned" s_law_turned (ad 63) (fd 63)
  m_law_turned : mg "_law_turned" = some (.ref (ad 63))
  d_law_right : Fun K "_law_right" "_law_right" s_law_right (ad 64) (fd 64)
  m_law_right : mg "_law_right" = some (.ref (ad 64))
  d_law : Fun K "law" "law" s_law (ad 65) (fd 65)
  m_law : mg "law" = some (.ref (ad 65))
  b_abs : mg "abs" = none
  b_all : mg "all" = none
  b_bool : mg "bool" = none
  b_dict : mg "dict" = none
  b_divmod : mg "divmod" = none
  b_gcd : mg "gcd" = some (.builtin "math.gcd")
  b_int : mg "int" = none
  b_isinstance : mg "isinstance" = none
  b_len : mg "len" = none
  b_list : mg "list" = none
  b_max : mg "max" = none
  b_min : mg "min" = none
  b_range : mg "range" = none
  b_repr : mg "repr" = none
  b_sorted : mg "sorted" = none
  b_sum : mg "sum" = none
  b_tuple : mg "tuple" = none
  b_zip : mg "zip" = none
  g_MOST_DEEDS : GlK K mg "MOST_DEEDS" k_MOST_DEEDS
  g_MOST_PAYS : GlK K mg "MOST_PAYS" k_MOST_PAYS
  g_MOST_STANDS : GlK K mg "MOST_STANDS" k_MOST_STANDS
  g_ONE : GlK K mg "ONE" k_ONE
  g_ZERO : GlK K mg "ZERO" k_ZERO
/-- the tables of those who make lambdas -/
structure TxtL [LawT] (K : PySem.W.Frag) (mg : Str → Option Value) (base : Heap) (fd : Nat → FuncData) : Prop where
  l_vague_by : LamD K mg base (fd 22) (("vague_by" : Str) ++ ".<locals>.")
theorem TxtL.keeps [LawT] {K : PySem.W.Frag} {mg : Str → Option Value} {base base' : Heap} {fd : Nat → FuncData} (TL : TxtL K mg base fd) (k : ∀ b o, base.get? b = some o → base'.get? b = some o) : TxtL K mg base' fd := ⟨TL.l_vague_by.keeps k⟩
structure NdW (N : List Str) : Prop where
  nd : N.Nodup
theorem ln_vague_by_1 : NdW (n_vague_by ++ (["chances", "stand", "chance"] : List Str)) := ⟨by decide +kernel⟩
noncomputable def m_is_whole : Ms :=
  (mRet (mAnd (m1 (fIsi "int") (mVar 0)) (m1 fNot (m1 (fIsi "bool") (mVar 0)))))
noncomputable def f_is_whole : Fx := run' 1 1 m_is_whole
noncomputable def m_is_between : Ms :=
  (mRet (mAnd (mCall f_is_whole (maCons (mVar 0) maNil)) (mChain gLe gLe (mVar 1) (mVar 0) (mVar 2))))
noncomputable def f_is_between : Fx := run' 3 3 m_is_between
noncomputable def m_is_tuple_of : Ms :=
  (mRet (mAnd (m1 (fIsi "tuple") (mVar 0)) (m2 (fEq false) (mA fLen (maCons (mVar 0) maNil)) (mVar 1))))
noncomputable def f_is_tuple_of : Fx := run' 2 2 m_is_tuple_of
noncomputable def m_is_ratio : Ms :=
  (mSeq (mIfS (tOr2 (tNot2 (bT (mCall f_is_tuple_of (maCons (mVar 0) (maCons (mKon (.int 2)) maNil))))) (tOr2 (tNot2 (bT (mCall f_is_whole (maCons (mIx (mVar 0) (mKon (.int 0))) maNil)))) (tNot2 (bT (mCall f_is_whole (maCons (mIx (mVar 0) (mKon (.int 1))) maNil))))))
    (mRet (mKon (.bool false)))
    mNil)
    (mRet (mAnd (m2 (fI gGt) (mIx (mVar 0) (mKon (.int 1))) (mKon (.int 0))) (m2 (fEq false) (mA fGcd (maCons (mIx (mVar 0) (mKon (.int 0))) (maCons (mIx (mVar 0) (mKon (.int 1))) maNil))) (mKon (.int 1))))))
noncomputable def f_is_ratio : Fx := run' 1 1 m_is_ratio
noncomputable def m_is_row : Ms :=
  (mRet (mAnd (mCall f_is_tuple_of (maCons (mVar 0) (maCons (mVar 1) maNil))) (mA fAll (maCons (mLc (mSeqI (mVar 0)) [2] (gN 2) mYes (mCall f_is_ratio (maCons (mVar 2) maNil))) maNil))))
noncomputable def f_is_row : Fx := run' 2 3 m_is_row
noncomputable def m_ratio : Ms :=
  (mSeq (mSet 2 (mIf (bT (m2 (fI gGt) (mVar 1) (mKon (.int 0)))) (mA fGcd (maCons (mVar 0) (maCons (mVar 1) maNil))) (m1 fNeg (mA fGcd (maCons (mVar 0) (maCons (mVar 1) maNil))))))
    (mRet (mA fTup (maCons (m2 (fI gFdiv) (mVar 0) (mVar 2)) (maCons (m2 (fI gFdiv) (mVar 1) (mVar 2)) maNil)))))
noncomputable def f_ratio : Fx := run' 2 3 m_ratio
noncomputable def m_plus : Ms :=
  (mRet (mCall f_ratio (maCons (m2 fAdd (m2 fMul (mIx (mVar 0) (mKon (.int 0))) (mIx (mVar 1) (mKon (.int 1)))) (m2 fMul (mIx (mVar 1) (mKon (.int 0))) (mIx (mVar 0) (mKon (.int 1))))) (maCons (m2 fMul (mIx (mVar 0) (mKon (.int 1))) (mIx (mVar 1) (mKon (.int 1)))) maNil))))
noncomputable def f_plus : Fx := run' 2 2 m_plus
noncomputable def m_is_less : Ms :=
  (mRet (m2 (fI gLt) (m2 fMul (mIx (mVar 0) (mKon (.int 0))) (mIx (mVar 1) (mKon (.int 1)))) (m2 fMul (mIx (mVar 1) (mKon (.int 0))) (mIx (mVar 0) (mKon (.int 1))))))
noncomputable def f_is_less : Fx := run' 2 2 m_is_less
noncomputable def m_total : Ms :=
  (mSeq (mSet 1 (mKon k_ZERO))
    (mSeq (mFor (mSeqI (mVar 0)) (gN 2)
    (mSet 1 (mCall f_plus (maCons (mVar 1) (maCons (mVar 2) maNil)))))
    (mRetV 1)))
noncomputable def f_total : Fx := run' 1 3 m_total
noncomputable def m_are_chances : Ms :=
  (mSeq (mIfS (tOr2 (tNot2 (bT (m1 (fIsi "tuple") (mVar 0)))) (tNot2 (bT (mA fAll (maCons (mLc (mSeqI (mVar 0)) [3] (gN 3) mYes (mCall f_is_tuple_of (maCons (mVar 3) (maCons (mKon (.int 2)) maNil)))) maNil)))))
    (mRet (mKon (.bool false)))
    mNil)
    (mSeq (mIfS (tNot2 (bT (mA fAll (maCons (mLc (mSeqI (mVar 0)) [4, 5] (gT 2 (gsCons (gN 4) (gsCons (gN 5) gsNil))) mYes (mAnd (mCall f_is_between (maCons (mVar 4) (maCons (mKon (.int 0)) (maCons (m2 (fI gMns) (mVar 1) (mKon (.int 1))) maNil)))) (mAnd (mCall f_is_ratio (maCons (mVar 5) maNil)) (m2 (fI gGt) (mIx (mVar 5) (mKon (.int 0))) (mKon (.int 0)))))) maNil))))
    (mRet (mKon (.bool false)))
    mNil)
    (mSeq (mSet 2 (mLc (mSeqI (mVar 0)) [4, 6] (gT 2 (gsCons (gN 4) (gsCons (gN 6) gsNil))) mYes (mVar 4)))
    (mFrz [2] (mRet (mAnd (mA fAll (maCons (mLc (mArgI zipQ2 (maCons (mVar 2) (maCons (mSl (mVar 2) (moSome (mKon (.int 1))) moNone) maNil))) [7, 8] (gT 2 (gsCons (gN 7) (gsCons (gN 8) gsNil))) mYes (m2 (fI gLt) (mVar 7) (mVar 8))) maNil)) (m2 (fEq false) (mCall f_total (maCons (mLc (mSeqI (mVar 0)) [6, 5] (gT 2 (gsCons (gN 6) (gsCons (gN 5) gsNil))) mYes (mVar 5)) maNil)) (mKon k_ONE))))))))
noncomputable def f_are_chances : Fx := run' 2 9 m_are_chances
noncomputable def m_is_deed : Ms :=
  (mRet (mAnd (mCall f_is_tuple_of (maCons (mVar 0) (maCons (mKon (.int 2)) maNil))) (mAnd (mCall f_are_chances (maCons (mIx (mVar 0) (mKon (.int 0))) (maCons (mVar 2) maNil))) (mCall f_is_row (maCons (mIx (mVar 0) (mKon (.int 1))) (maCons (mVar 1) maNil))))))
noncomputable def f_is_deed : Fx := run' 3 3 m_is_deed
noncomputable def m_is_stand : Ms :=
  (mSeq (mIfS (tOr2 (tNot2 (bT (m1 (fIsi "tuple") (mVar 0)))) (tNot2 (bT (mCall f_is_between (maCons (mA fLen (maCons (mVar 0) maNil)) (maCons (mKon (.int 1)) (maCons (mKon k_MOST_DEEDS) maNil)))))))
    (mRet (mKon (.bool false)))
    mNil)
    (mRet (mA fAll (maCons (mLc (mSeqI (mVar 0)) [3] (gN 3) mYes (mCall f_is_deed (maCons (mVar 3) (maCons (mVar 1) (maCons (mVar 2) maNil))))) maNil))))
noncomputable def f_is_stand : Fx := run' 3 4 m_is_stand
noncomputable def m_is_share : Ms :=
  (mRet (mAnd (mCall f_is_ratio (maCons (mVar 0) maNil)) (mChain gLe gLt (mKon (.int 0)) (mIx (mVar 0) (mKon (.int 0))) (mIx (mVar 0) (mKon (.int 1))))))
noncomputable def f_is_share : Fx := run' 1 1 m_is_share
noncomputable def m_is_house_by : Ms :=
  (mSeq (mIfS (tOr2 (tNot2 (bT (mCall f_is_tuple_of (maCons (mVar 0) (maCons (mKon (.int 3)) maNil))))) (tOr2 (tNot2 (bT (mCall f_is_share (maCons (mIx (mVar 0) (mKon (.int 0))) maNil)))) (tNot2 (bT (mCall f_is_between (maCons (mIx (mVar 0) (mKon (.int 1))) (maCons (mKon (.int 1)) (maCons (mKon k_MOST_PAYS) maNil))))))))
    (mRet (mKon (.bool false)))
    mNil)
    (mSeq (mSet 1 (mIx (mVar 0) (mKon (.int 2))))
    (mSeq (mIfS (tOr2 (tNot2 (bT (m1 (fIsi "tuple") (mVar 1)))) (tNot2 (bT (mCall f_is_between (maCons (mA fLen (maCons (mVar 1) maNil)) (maCons (mKon (.int 1)) (maCons (mKon k_MOST_STANDS) maNil)))))))
    (mRet (mKon (.bool false)))
    mNil)
    (mRet (mA fAll (maCons (mLc (mSeqI (mVar 1)) [2] (gN 2) mYes (mCall f_is_stand (maCons (mVar 2) (maCons (mIx (mVar 0) (mKon (.int 1))) (maCons (mA fLen (maCons (mVar 1) maNil)) maNil))))) maNil))))))
noncomputable def f_is_house_by : Fx := run' 1 3 m_is_house_by
noncomputable def m_check_house : Ms :=
  (mIfS (tNot2 (bT (mCall f_is_house_by (maCons (mVar 0) maNil))))
    mNever
    mNil)
noncomputable def f_check_house : Fx := run' 1 1 m_check_house
noncomputable def m_is_end : Ms :=
  (mRet (mAnd (mCall f_is_ratio (maCons (mVar 0) maNil)) (mChain gLe gLe (mKon (.int 0)) (mIx (mVar 0) (mKon (.int 0))) (mIx (mVar 0) (mKon (.int 1))))))
noncomputable def f_is_end : Fx := run' 1 1 m_is_end
noncomputable def m_is_stretch : Ms :=
  (mSeq (mIfS (tOr2 (tNot2 (bT (mCall f_is_tuple_of (maCons (mVar 0) (maCons (mKon (.int 3)) maNil))))) (tNot2 (bT (mCall f_is_between (maCons (mIx (mVar 0) (mKon (.int 0))) (maCons (mKon (.int 0)) (maCons (m2 (fI gMns) (mVar 1) (mKon (.int 1))) maNil)))))))
    (mRet (mKon (.bool false)))
    mNil)
    (mRet (mAnd (mCall f_is_end (maCons (mIx (mVar 0) (mKon (.int 1))) maNil)) (mAnd (mCall f_is_end (maCons (mIx (mVar 0) (mKon (.int 2))) maNil)) (m1 fNot (mCall f_is_less (maCons (mIx (mVar 0) (mKon (.int 2))) (maCons (mIx (mVar 0) (mKon (.int 1))) maNil))))))))
noncomputable def f_is_stretch : Fx := run' 2 2 m_is_stretch
noncomputable def m_are_stretches : Ms :=
  (mSeq (mIfS (tOr2 (tNot2 (bT (m1 (fIsi "tuple") (mVar 0)))) (tNot2 (bT (mA fAll (maCons (mLc (mSeqI (mVar 0)) [5] (gN 5) mYes (mCall f_is_stretch (maCons (mVar 5) (maCons (mVar 1) maNil)))) maNil)))))
    (mRet (mKon (.bool false)))
    mNil)
    (mSeq (mSet 2 (mLc (mSeqI (mVar 0)) [6, 7] (gT 3 (gsCons (gN 6) (gsCons (gN 7) (gsCons (gN 7) gsNil)))) mYes (mVar 6)))
    (mSeq (mFrz [2] (mIfS (tNot2 (bT (mA fAll (maCons (mLc (mArgI zipQ2 (maCons (mVar 2) (maCons (mSl (mVar 2) (moSome (mKon (.int 1))) moNone) maNil))) [8, 9] (gT 2 (gsCons (gN 8) (gsCons (gN 9) gsNil))) mYes (m2 (fI gLt) (mVar 8) (mVar 9))) maNil))))
    (mRet (mKon (.bool false)))
    mNil))
    (mSeq (mPar 3 4 (maCons (mCall f_total (maCons (mLc (mSeqI (mVar 0)) [5] (gN 5) mYes (mIx (mVar 5) (mKon (.int 1)))) maNil)) (maCons (mCall f_total (maCons (mLc (mSeqI (mVar 0)) [5] (gN 5) mYes (mIx (mVar 5) (mKon (.int 2)))) maNil)) maNil)))
    (mRet (mAnd (m1 fNot (mCall f_is_less (maCons (mKon k_ONE) (maCons (mVar 3) maNil)))) (m1 fNot (mCall f_is_less (maCons (mVar 4) (maCons (mKon k_ONE) maNil))))))))))
noncomputable def f_are_stretches : Fx := run' 2 10 m_are_stretches
noncomputable def m_is_vague_deed : Ms :=
  (mRet (mAnd (mCall f_is_tuple_of (maCons (mVar 0) (maCons (mKon (.int 2)) maNil))) (mAnd (mCall f_are_stretches (maCons (mIx (mVar 0) (mKon (.int 0))) (maCons (mVar 2) maNil))) (mCall f_is_row (maCons (mIx (mVar 0) (mKon (.int 1))) (maCons (mVar 1) maNil))))))
noncomputable def f_is_vague_deed : Fx := run' 3 3 m_is_vague_deed
noncomputable def m_is_vague_stand : Ms :=
  (mSeq (mIfS (tOr2 (tNot2 (bT (m1 (fIsi "tuple") (mVar 0)))) (tNot2 (bT (mCall f_is_between (maCons (mA fLen (maCons (mVar 0) maNil)) (maCons (mKon (.int 1)) (maCons (mKon k_MOST_DEEDS) maNil)))))))
    (mRet (mKon (.bool false)))
    mNil)
    (mRet (mA fAll (maCons (mLc (mSeqI (mVar 0)) [3] (gN 3) mYes (mCall f_is_vague_deed (maCons (mVar 3) (maCons (mVar 1) (maCons (mVar 2) maNil))))) maNil))))
noncomputable def f_is_vague_stand : Fx := run' 3 4 m_is_vague_stand
noncomputable def m_is_vague_by : Ms :=
  (mSeq (mIfS (tOr2 (tNot2 (bT (mCall f_is_tuple_of (maCons (mVar 0) (maCons (mKon (.int 3)) maNil))))) (tOr2 (tNot2 (bT (mCall f_is_share (maCons (mIx (mVar 0) (mKon (.int 0))) maNil)))) (tNot2 (bT (mCall f_is_between (maCons (mIx (mVar 0) (mKon (.int 1))) (maCons (mKon (.int 1)) (maCons (mKon k_MOST_PAYS) maNil))))))))
    (mRet (mKon (.bool false)))
    mNil)
    (mSeq (mSet 1 (mIx (mVar 0) (mKon (.int 2))))
    (mSeq (mIfS (tOr2 (tNot2 (bT (m1 (fIsi "tuple") (mVar 1)))) (tNot2 (bT (mCall f_is_between (maCons (mA fLen (maCons (mVar 1) maNil)) (maCons (mKon (.int 1)) (maCons (mKon k_MOST_STANDS) maNil)))))))
    (mRet (mKon (.bool false)))
    mNil)
    (mRet (mA fAll (maCons (mLc (mSeqI (mVar 1)) [2] (gN 2) mYes (mCall f_is_vague_stand (maCons (mVar 2) (maCons (mIx (mVar 0) (mKon (.int 1))) (maCons (mA fLen (maCons (mVar 1) maNil)) maNil))))) maNil))))))
noncomputable def f_is_vague_by : Fx := run' 1 3 m_is_vague_by
noncomputable def m_with_deeds (mm : Ma → Mx) : Ms :=
  (mSeq (mSet 2 (mA fTupOf (maCons (mLc (mSeqI (mIx (mVar 0) (mKon (.int 2)))) [3] (gN 3) mYes (mA fTupOf (maCons (mLc (mSeqI (mVar 3)) [4, 5] (gT 2 (gsCons (gN 4) (gsCons (gN 5) gsNil))) mYes (mA fTup (maCons (mm (maCons (mVar 4) maNil)) (maCons (mVar 5) maNil)))) maNil))) maNil)))
    (mRet (mA fTup (maCons (mIx (mVar 0) (mKon (.int 0))) (maCons (mIx (mVar 0) (mKon (.int 1))) (maCons (mVar 2) maNil))))))
noncomputable def m_vague_by : Ms :=
  (mRet (mLam 6 m_with_deeds 2 (mVar 0) (mA fTupOf (maCons (mLc (mSeqI (mVar 1)) [2, 3] (gT 2 (gsCons (gN 2) (gsCons (gN 3) gsNil))) mYes (mA fTup (maCons (mVar 2) (maCons (mVar 3) (maCons (mVar 3) maNil))))) maNil))))
noncomputable def f_vague_by : Fx := run' 1 1 m_vague_by
noncomputable def m_do_chances_fit : Ms :=
  (mSeq (mSet 2 (mA fDictP (maCons (mVar 1) maNil)))
    (mSeq (mIfS (tNot2 (bT (mA fAll (maCons (mLcK 2 [3] (gN 3) mYes (m2 (fIn false) (mVar 3) (mLc (mSeqI (mVar 0)) [7] (gN 7) mYes (mIx (mVar 7) (mKon (.int 0)))))) maNil))))
    (mRet (mKon (.bool false)))
    mNil)
    (mSeq (mFor (mSeqI (mVar 0)) (gT 3 (gsCons (gN 3) (gsCons (gN 4) (gsCons (gN 5) gsNil))))
    (mSeq (mSet 6 (m3 fGetM (mVar 2) (mVar 3) (mKon k_ZERO)))
    (mIfS (tOr2 (bT (mCall f_is_less (maCons (mVar 6) (maCons (mVar 4) maNil)))) (bT (mCall f_is_less (maCons (mVar 5) (maCons (mVar 6) maNil)))))
    (mRet (mKon (.bool false)))
    mNil)))
    (mRet (mKon (.bool true))))))
noncomputable def f_do_chances_fit : Fx := run' 2 8 m_do_chances_fit
noncomputable def m_does_fit : Ms :=
  (mSeq (mIfS (tOr2 (bT (m2 (fEq true) (mSl (mVar 1) moNone (moSome (mKon (.int 2)))) (mSl (mVar 0) moNone (moSome (mKon (.int 2)))))) (bT (m2 (fEq true) (mLc (mSeqI (mIx (mVar 1) (mKon (.int 2)))) [2] (gN 2) mYes (mA fLen (maCons (mVar 2) maNil))) (mLc (mSeqI (mIx (mVar 0) (mKon (.int 2)))) [2] (gN 2) mYes (mA fLen (maCons (mVar 2) maNil))))))
    (mRet (mKon (.bool false)))
    mNil)
    (mSeq (mFor (mArgI zipQ2 (maCons (mIx (mVar 0) (mKon (.int 2))) (maCons (mIx (mVar 1) (mKon (.int 2))) maNil))) (gT 2 (gsCons (gN 2) (gsCons (gN 3) gsNil)))
    (mFor (mArgI zipQ2 (maCons (mVar 2) (maCons (mVar 3) maNil))) (gT 2 (gsCons (gT 2 (gsCons (gN 4) (gsCons (gN 5) gsNil))) (gsCons (gT 2 (gsCons (gN 6) (gsCons (gN 7) gsNil))) gsNil)))
    (mIfS (tOr2 (bT (m2 (fEq true) (mVar 5) (mVar 7))) (tNot2 (bT (mCall f_do_chances_fit (maCons (mVar 4) (maCons (mVar 6) maNil))))))
    (mRet (mKon (.bool false)))
    mNil)))
    (mRet (mKon (.bool true)))))
noncomputable def f_does_fit : Fx := run' 2 8 m_does_fit
noncomputable def m_check_vague : Ms :=
  (mIfS (tNot2 (bT (mCall f_is_vague_by (maCons (mVar 0) maNil))))
    mNever
    mNil)
noncomputable def f_check_vague : Fx := run' 1 1 m_check_vague
noncomputable def m_is_vague : Ms :=
  (mRet (mCall f_is_vague_by (maCons (mVar 0) maNil)))
noncomputable def f_is_vague : Fx := run' 1 1 m_is_vague
noncomputable def m_fits : Ms :=
  (mSeq (mDrop (mCall f_check_vague (maCons (mVar 0) maNil)))
    (mRet (mAnd (mCall f_is_house_by (maCons (mVar 1) maNil)) (mCall f_does_fit (maCons (mVar 0) (maCons (mVar 1) maNil))))))
noncomputable def f_fits : Fx := run' 2 2 m_fits
noncomputable def m_vague_of : Ms :=
  (mSeq (mDrop (mCall f_check_house (maCons (mVar 0) maNil)))
    (mRet (mCall f_vague_by (maCons (mVar 0) maNil))))
noncomputable def f_vague_of : Fx := run' 1 1 m_vague_of
noncomputable def m_law_pot : Ms :=
  (mSeq (mSet 2 (m2 fAdd (mKon (.int 103588)) (m2 fMul (mKon (.int 911)) (mVar 1))))
    (mSeq (mFor (mSeqI (mSl (mVar 0) moNone (moSome (mKon (.int 16))))) (gN 3)
    (mSet 2 (m2 (fI gMod) (mA fInt (maCons (m2 fAdd (m2 fAdd (m2 fMul (mVar 2) (mKon (.int 50021))) (m2 fMul (m2 (fI gMod) (mA fInt (maCons (mVar 3) maNil)) (mKon (.int 2147483489))) (mKon (.int 5)))) (mKon (.int 23))) maNil)) (mKon (.int 2147483543)))))
    (mSeq (mSet 4 (mIf (bT (m2 (fI gLt) (mVar 1) (mA fLen (maCons (mVar 0) maNil)))) (mA fInt (maCons (mIx (mVar 0) (mVar 1)) maNil)) (mKon (.int 0))))
    (mSeq (mSet 2 (m2 (fI gMod) (mA fInt (maCons (m2 fAdd (m2 fAdd (m2 fMul (mVar 2) (mKon (.int 43))) (m2 fMul (m2 (fI gMod) (mA fInt (maCons (mVar 4) maNil)) (mKon (.int 2147483489))) (mKon (.int 17011)))) (mKon (.int 3))) maNil)) (mKon (.int 2147483543))))
    (mRet (mA fLst (maCons (mIf (tOr2 (bT (m2 (fI gLt) (mVar 4) (mKon (.int 0)))) (bT (m2 (fI gGe) (mVar 4) (m2 (fI gPow) (mKon (.int 10)) (mKon (.int 15)))))) (mA fAbs (maCons (mVar 4) maNil)) (mKon (.int 0))) (maCons (mVar 2) (maCons (mKon (.int 0)) maNil)))))))))
noncomputable def f_law_pot : Fx := run' 2 5 m_law_pot
noncomputable def m_law_take : Ms :=
  (mSeq (mIfS (bT (m2 (fI gGt) (mIx (mVar 0) (mKon (.int 0))) (mKon (.int 0))))
    (mSeq (mPair 0 (mKon (.int 0)) 2 (mA fDivmod (maCons (mIx (mVar 0) (mKon (.int 0))) (maCons (mVar 1) maNil))))
    (mRetV 2))
    mNil)
    (mSeq (mPut 0 (mKon (.int 2)) (m2 fAdd (mIx (mVar 0) (mKon (.int 2))) (mKon (.int 1))))
    (mSeq (mSet 3 (m2 (fI gMod) (mA fInt (maCons (m2 fAdd (m2 fAdd (m2 fMul (mIx (mVar 0) (mKon (.int 1))) (mKon (.int 41023))) (m2 fMul (mIx (mVar 0) (mKon (.int 2))) (mKon (.int 60101)))) (mKon (.int 7))) maNil)) (mKon (.int 2147483543))))
    (mSeq (mPut 0 (mKon (.int 1)) (mVar 3))
    (mRet (m2 (fI gMod) (mA fInt (maCons (m2 (fI gFdiv) (m2 (fI gMod) (mA fInt (maCons (m2 fMul (mVar 3) (m2 fAdd (m2 (fI gMod) (mA fInt (maCons (mVar 3) maNil)) (mKon (.int 6007))) (mKon (.int 20011)))) maNil)) (mKon (.int 2147483489))) (mKon (.int 211))) maNil)) (mVar 1)))))))
noncomputable def f_law_take : Fx := run' 2 4 m_law_take
noncomputable def m_law_pick : Ms :=
  (mRet (mIx (mVar 1) (mCall f_law_take (maCons (mVar 0) (maCons (mA fLen (maCons (mVar 1) maNil)) maNil)))))
noncomputable def f_law_pick : Fx := run' 2 2 m_law_pick
noncomputable def m_law_shuffled : Ms :=
  (mSeq (mPar2f 2 3 (maCons (m1 fLrg (mVar 1)) (maCons (mA fLst maNil) maNil)))
    (mSeq (mFor (mArgI range1 (maCons (mVar 1) maNil)) (gN 4)
    (mApPop 3 2 (mCall f_law_take (maCons (mVar 0) (maCons (mA fLen (maCons (mVar 2) maNil)) maNil)))))
    (mRetV 3)))
noncomputable def f_law_shuffled : Fx := run' 2 5 m_law_shuffled
noncomputable def m_law_low : Ms :=
  (mSeq (mPar 2 3 (maCons (mA fAbs (maCons (mVar 0) maNil)) (maCons (mA fAbs (maCons (mVar 1) maNil)) maNil)))
    (mSeq (mWhile (bT (m2 (fI gGt) (mVar 3) (mKon (.int 0))))
    (mPar 2 3 (maCons (mVar 3) (maCons (m2 (fI gMod) (mA fInt (maCons (mVar 2) maNil)) (mVar 3)) maNil))))
    (mRet (mIf (bT (m2 (fI gGt) (mVar 1) (mKon (.int 0)))) (mA fTup (maCons (m2 (fI gFdiv) (mVar 0) (mVar 2)) (maCons (m2 (fI gFdiv) (mVar 1) (mVar 2)) maNil))) (mA fTup (maCons (m2 (fI gMns) (mKon (.int 0)) (m2 (fI gFdiv) (mVar 0) (mVar 2))) (maCons (m2 (fI gMns) (mKon (.int 0)) (m2 (fI gFdiv) (mVar 1) (mVar 2))) maNil)))))))
noncomputable def f_law_low : Fx := run' 2 4 m_law_low
noncomputable def m_law_plus : Ms :=
  (mRet (mCall f_law_low (maCons (m2 fAdd (m2 fMul (mIx (mVar 0) (mKon (.int 0))) (mIx (mVar 1) (mKon (.int 1)))) (m2 fMul (mIx (mVar 1) (mKon (.int 0))) (mIx (mVar 0) (mKon (.int 1))))) (maCons (m2 fMul (mIx (mVar 0) (mKon (.int 1))) (mIx (mVar 1) (mKon (.int 1)))) maNil))))
noncomputable def f_law_plus : Fx := run' 2 2 m_law_plus
noncomputable def m_law_minus : Ms :=
  (mRet (mCall f_law_low (maCons (m2 (fI gMns) (m2 fMul (mIx (mVar 0) (mKon (.int 0))) (mIx (mVar 1) (mKon (.int 1)))) (m2 fMul (mIx (mVar 1) (mKon (.int 0))) (mIx (mVar 0) (mKon (.int 1))))) (maCons (m2 fMul (mIx (mVar 0) (mKon (.int 1))) (mIx (mVar 1) (mKon (.int 1)))) maNil))))
noncomputable def f_law_minus : Fx := run' 2 2 m_law_minus
noncomputable def m_law_times : Ms :=
  (mRet (mCall f_law_low (maCons (m2 fMul (mIx (mVar 0) (mKon (.int 0))) (mIx (mVar 1) (mKon (.int 0)))) (maCons (m2 fMul (mIx (mVar 0) (mKon (.int 1))) (mIx (mVar 1) (mKon (.int 1)))) maNil))))
noncomputable def f_law_times : Fx := run' 2 2 m_law_times
noncomputable def m_law_below : Ms :=
  (mRet (m2 (fI gLt) (m2 fMul (mIx (mVar 0) (mKon (.int 0))) (mIx (mVar 1) (mKon (.int 1)))) (m2 fMul (mIx (mVar 1) (mKon (.int 0))) (mIx (mVar 0) (mKon (.int 1))))))
noncomputable def f_law_below : Fx := run' 2 2 m_law_below
noncomputable def m_law_total : Ms :=
  (mSeq (mSet 1 (mA fTup (maCons (mKon (.int 0)) (maCons (mKon (.int 1)) maNil))))
    (mSeq (mFor (mSeqI (mVar 0)) (gN 2)
    (mSet 1 (mCall f_law_plus (maCons (mVar 1) (maCons (mVar 2) maNil)))))
    (mRetV 1)))
noncomputable def f_law_total : Fx := run' 1 3 m_law_total
noncomputable def m_law_share : Ms :=
  (mSeq (mIfS (bT (m2 (fEq false) (mCall f_law_take (maCons (mVar 0) (maCons (mKon (.int 12)) maNil))) (mKon (.int 0))))
    (mRet (mA fTup (maCons (mKon (.int 99)) (maCons (mKon (.int 100)) maNil))))
    mNil)
    (mSeq (mSet 1 (mCall f_law_pick (maCons (mVar 0) (maCons (mA fTup (maCons (mKon (.int 1)) (maCons (mKon (.int 1)) (maCons (mKon (.int 2)) (maCons (mKon (.int 3)) (maCons (mKon (.int 1)) (maCons (mKon (.int 2)) (maCons (mKon (.int 1)) (maCons (mKon (.int 0)) (maCons (mKon (.int 2)) (maCons (mKon (.int 3)) (maCons (mKon (.int 4)) (maCons (mKon (.int 1)) maNil))))))))))))) maNil))))
    (mRet (mCall f_law_low (maCons (mVar 1) (maCons (m2 fAdd (m2 fAdd (mVar 1) (mKon (.int 1))) (mCall f_law_take (maCons (mVar 0) (maCons (mKon (.int 3)) maNil)))) maNil))))))
noncomputable def f_law_share : Fx := run' 1 2 m_law_share
noncomputable def m_law_number : Ms :=
  (mSeq (mSet 1 (mCall f_law_take (maCons (mVar 0) (maCons (mKon (.int 9)) maNil))))
    (mSeq (mIfS (bT (m2 (fEq false) (mVar 1) (mKon (.int 0))))
    (mRet (mCall f_law_low (maCons (m2 (fI gMns) (mCall f_law_take (maCons (mVar 0) (maCons (mKon (.int 13)) maNil))) (mKon (.int 6))) (maCons (m2 fAdd (mKon (.int 2)) (mCall f_law_take (maCons (mVar 0) (maCons (mKon (.int 3)) maNil)))) maNil))))
    mNil)
    (mSeq (mIfS (tAnd2 (bT (m2 (fEq false) (mVar 1) (mKon (.int 1)))) (bT (m2 (fEq false) (mCall f_law_take (maCons (mVar 0) (maCons (mKon (.int 10)) maNil))) (mKon (.int 0)))))
    (mRet (mCall f_law_low (maCons (m2 fMul (m2 (fI gMns) (m2 fMul (mCall f_law_take (maCons (mVar 0) (maCons (mKon (.int 2)) maNil))) (mKon (.int 2))) (mKon (.int 1))) (m2 fAdd (m2 (fI gPow) (mKon (.int 10)) (mKon (.int 20))) (mCall f_law_take (maCons (mVar 0) (maCons (mKon (.int 1000)) maNil))))) (maCons (mKon (.int 7)) maNil))))
    mNil)
    (mRet (mA fTup (maCons (m2 (fI gMns) (mCall f_law_take (maCons (mVar 0) (maCons (mKon (.int 6)) maNil))) (mKon (.int 2))) (maCons (mKon (.int 1)) maNil)))))))
noncomputable def f_law_number : Fx := run' 1 2 m_law_number
noncomputable def m_law_gains : Ms :=
  (mSeq (mSet 2 (mA fLst maNil))
    (mSeq (mFor (mArgI range1 (maCons (mVar 1) maNil)) (gN 3)
    (mApp 2 (mCall f_law_number (maCons (mVar 0) maNil))))
    (mRet (mA fTupOf (maCons (mVar 2) maNil)))))
noncomputable def f_law_gains : Fx := run' 2 4 m_law_gains
noncomputable def m_law_lot : Ms :=
  (mSeq (mSet 2 (mA fLst maNil))
    (mSeq (mFor (mArgI range1 (maCons (mVar 1) maNil)) (gN 3)
    (mApp 2 (mIx (mA fTup (maCons (mKon (.int 0)) (maCons (mKon (.int 1)) (maCons (mKon (.int 1)) (maCons (mKon (.int 2)) (maCons (mKon (.int 0)) (maCons (mKon (.int 3)) maNil))))))) (mCall f_law_take (maCons (mVar 0) (maCons (mKon (.int 6)) maNil))))))
    (mSeq (mIfS (bT (m2 (fEq false) (mA fMaxL (maCons (mVar 2) maNil)) (mKon (.int 0))))
    (mPut 2 (mCall f_law_take (maCons (mVar 0) (maCons (mVar 1) maNil))) (mKon (.int 1)))
    mNil)
    (mRetV 2))))
noncomputable def f_law_lot : Fx := run' 2 4 m_law_lot
noncomputable def m_law_stretches : Ms :=
  (mSeq (mSet 3 (mA fMin2 (maCons (mVar 1) (maCons (mVar 2) maNil))))
    (mSeq (mSet 4 (mA fSorted (maCons (mSl (mCall f_law_shuffled (maCons (mVar 0) (maCons (mVar 1) maNil))) moNone (moSome (m2 fAdd (mKon (.int 1)) (mA fMax2 (maCons (mCall f_law_take (maCons (mVar 0) (maCons (mVar 3) maNil))) (maCons (mCall f_law_take (maCons (mVar 0) (maCons (mVar 3) maNil))) maNil)))))) maNil)))
    (mSeq (mPar3g 5 6 7 (maCons (mCall f_law_lot (maCons (mVar 0) (maCons (mA fLen (maCons (mVar 4) maNil)) maNil))) (maCons (mCall f_law_take (maCons (mVar 0) (maCons (mKon (.int 6)) maNil))) (maCons (mA fLst maNil) maNil))))
    (mSeq (mSet 8 (mA fSum (maCons (mVar 5) maNil)))
    (mSeq (mFrz [4, 5] (mFor (mArgI zipQ2 (maCons (mVar 4) (maCons (mVar 5) maNil))) (gT 2 (gsCons (gN 9) (gsCons (gN 10) gsNil)))
    (mSeq (mSet 11 (mCall f_law_low (maCons (mVar 10) (maCons (mVar 8) maNil))))
    (mSeq (mIfS (tAnd2 (bT (m2 (fEq false) (mVar 6) (mKon (.int 0)))) (bT (m2 (fI gGt) (mVar 10) (mKon (.int 0)))))
    (mApp 7 (mA fTup (maCons (mVar 9) (maCons (mVar 11) (maCons (mVar 11) maNil)))))
    mNil)
    (mSeq (mIfS (bT (m2 (fEq false) (mVar 6) (mKon (.int 1))))
    (mApp 7 (mA fTup (maCons (mVar 9) (maCons (mA fTup (maCons (mKon (.int 0)) (maCons (mKon (.int 1)) maNil))) (maCons (mA fTup (maCons (mKon (.int 1)) (maCons (mKon (.int 1)) maNil))) maNil)))))
    mNil)
    (mIfS (bT (m2 (fI gGt) (mVar 6) (mKon (.int 1))))
    (mSeq (mSet 12 (mCall f_law_times (maCons (mVar 11) (maCons (mCall f_law_low (maCons (mCall f_law_take (maCons (mVar 0) (maCons (mKon (.int 3)) maNil))) (maCons (mKon (.int 2)) maNil))) maNil))))
    (mSeq (mSet 13 (mCall f_law_times (maCons (mCall f_law_minus (maCons (mA fTup (maCons (mKon (.int 1)) (maCons (mKon (.int 1)) maNil))) (maCons (mVar 11) maNil))) (maCons (mCall f_law_low (maCons (mCall f_law_take (maCons (mVar 0) (maCons (mKon (.int 3)) maNil))) (maCons (mKon (.int 2)) maNil))) maNil))))
    (mApp 7 (mA fTup (maCons (mVar 9) (maCons (mVar 12) (maCons (mCall f_law_plus (maCons (mVar 11) (maCons (mVar 13) maNil))) maNil)))))))
    mNil))))))
    (mRet (mA fTupOf (maCons (mVar 7) maNil))))))))
noncomputable def f_law_stretches : Fx := run' 3 14 m_law_stretches
noncomputable def m_law_vague : Ms :=
  (mSeq (mPar3 3 4 5 (maCons (mCall f_law_pick (maCons (mVar 0) (maCons (mVar 1) maNil))) (maCons (mCall f_law_pick (maCons (mVar 0) (maCons (mA fTup (maCons (mKon (.int 1)) (maCons (mKon (.int 1)) (maCons (mKon (.int 2)) (maCons (mKon (.int 3)) (maCons (mKon (.int 1)) (maCons (mKon (.int 2)) (maCons (mKon (.int 4)) maNil)))))))) maNil))) (maCons (mCall f_law_share (maCons (mVar 0) maNil)) maNil))))
    (mSeq (mSet 6 (mA fLst maNil))
    (mSeq (mFor (mArgI range1 (maCons (mVar 3) maNil)) (gN 7)
    (mSeq (mSet 8 (mA fLst maNil))
    (mSeq (mFor (mArgI range1 (maCons (mCall f_law_pick (maCons (mVar 0) (maCons (mA fTup (maCons (mKon (.int 1)) (maCons (mKon (.int 2)) (maCons (mKon (.int 2)) (maCons (mKon (.int 3)) (maCons (mKon (.int 2)) (maCons (mKon (.int 3)) (maCons (mKon (.int 1)) (maCons (mKon (.int 4)) maNil))))))))) maNil))) maNil)) (gN 9)
    (mApp 8 (mA fTup (maCons (mCall f_law_stretches (maCons (mVar 0) (maCons (mVar 3) (maCons (mVar 2) maNil)))) (maCons (mCall f_law_gains (maCons (mVar 0) (maCons (mVar 4) maNil))) maNil)))))
    (mApp 6 (mA fTupOf (maCons (mVar 8) maNil))))))
    (mRet (mA fTup (maCons (mVar 5) (maCons (mVar 4) (maCons (mA fTupOf (maCons (mVar 6) maNil)) maNil))))))))
noncomputable def f_law_vague : Fx := run' 3 10 m_law_vague
noncomputable def m_law_fill : Ms :=
  (mSeq (mSet 2 (mLc (mSeqI (mVar 0)) [7] (gN 7) mYes (mIx (mVar 7) (mKon (.int 1)))))
    (mSeq (mSet 3 (mCall f_law_minus (maCons (mA fTup (maCons (mKon (.int 1)) (maCons (mKon (.int 1)) maNil))) (maCons (mCallB f_law_total (maCons (mVar 2) maNil)) maNil))))
    (mSeq (mFor (mSeqI (mVar 1)) (gN 4)
    (mSeq (mSet 5 (mCall f_law_minus (maCons (mIx (mIx (mVar 0) (mVar 4)) (mKon (.int 2))) (maCons (mIx (mIx (mVar 0) (mVar 4)) (mKon (.int 1))) maNil))))
    (mSeq (mSet 6 (mIf (bT (mCall f_law_below (maCons (mVar 5) (maCons (mVar 3) maNil)))) (mVar 5) (mVar 3)))
    (mSeq (mPut 2 (mVar 4) (mCall f_law_plus (maCons (mIx (mVar 2) (mVar 4)) (maCons (mVar 6) maNil))))
    (mSet 3 (mCall f_law_minus (maCons (mVar 3) (maCons (mVar 6) maNil))))))))
    (mRetV 2))))
noncomputable def f_law_fill : Fx := run' 2 8 m_law_fill
noncomputable def m_law_known : Ms :=
  (mSeq (mSet 2 (mLc (mArgI zipQ2 (maCons (mVar 0) (maCons (mVar 1) maNil))) [3, 4] (gT 2 (gsCons (gN 3) (gsCons (gN 4) gsNil))) mYes (mA fTup (maCons (mIx (mVar 3) (mKon (.int 0))) (maCons (mVar 4) maNil)))))
    (mFrz [2] (mRet (mA fTupOf (maCons (mLc (mSeqI (mVar 2)) [5] (gN 5) (bT (m2 (fI gGt) (mIx (mIx (mVar 5) (mKon (.int 1))) (mKon (.int 0))) (mKon (.int 0)))) (mVar 5)) maNil)))))
noncomputable def f_law_known : Fx := run' 2 6 m_law_known
noncomputable def m_law_within : Ms :=
  (mSeq (mSet 2 (mCall f_law_fill (maCons (mVar 1) (maCons (mCall f_law_shuffled (maCons (mVar 0) (maCons (mA fLen (maCons (mVar 1) maNil)) maNil))) maNil))))
    (mSeq (mIfS (bT (m2 (fEq false) (mCall f_law_take (maCons (mVar 0) (maCons (mKon (.int 2)) maNil))) (mKon (.int 0))))
    (mRetV 2)
    mNil)
    (mSeq (mSet 3 (mCall f_law_fill (maCons (mVar 1) (maCons (mCall f_law_shuffled (maCons (mVar 0) (maCons (mA fLen (maCons (mVar 1) maNil)) maNil))) maNil))))
    (mSeq (mSet 4 (mCall f_law_low (maCons (m2 fAdd (mKon (.int 1)) (mCall f_law_take (maCons (mVar 0) (maCons (mKon (.int 3)) maNil)))) (maCons (mKon (.int 4)) maNil))))
    (mSeq (mSet 5 (mCall f_law_minus (maCons (mA fTup (maCons (mKon (.int 1)) (maCons (mKon (.int 1)) maNil))) (maCons (mVar 4) maNil))))
    (mFrz [2, 3] (mRet (mLc (mArgI zipQ2 (maCons (mVar 2) (maCons (mVar 3) maNil))) [6, 7] (gT 2 (gsCons (gN 6) (gsCons (gN 7) gsNil))) mYes (mCall f_law_plus (maCons (mCall f_law_times (maCons (mVar 4) (maCons (mVar 6) maNil))) (maCons (mCall f_law_times (maCons (mVar 5) (maCons (mVar 7) maNil))) maNil)))))))))))
noncomputable def f_law_within : Fx := run' 2 8 m_law_within
noncomputable def m_law_inside : Ms :=
  (mSeq (mSet 2 (mA fLst maNil))
    (mSeq (mFor (mSeqI (mIx (mVar 1) (mKon (.int 2)))) (gN 3)
    (mSeq (mSet 4 (mA fLst maNil))
    (mSeq (mFor (mSeqI (mVar 3)) (gT 2 (gsCons (gN 5) (gsCons (gN 6) gsNil)))
    (mApp 4 (mA fTup (maCons (mCall f_law_known (maCons (mVar 5) (maCons (mCall f_law_within (maCons (mVar 0) (maCons (mVar 5) maNil))) maNil))) (maCons (mVar 6) maNil)))))
    (mApp 2 (mA fTupOf (maCons (mVar 4) maNil))))))
    (mRet (mA fTup (maCons (mIx (mVar 1) (mKon (.int 0))) (maCons (mIx (mVar 1) (mKon (.int 1))) (maCons (mA fTupOf (maCons (mVar 2) maNil)) maNil)))))))
noncomputable def f_law_inside : Fx := run' 2 7 m_law_inside
noncomputable def m_law_tight : Ms :=
  (mSeq (mSet 1 (mA fLst maNil))
    (mSeq (mFor (mSeqI (mIx (mVar 0) (mKon (.int 2)))) (gN 2)
    (mSeq (mSet 3 (mA fLst maNil))
    (mSeq (mFor (mSeqI (mVar 2)) (gT 2 (gsCons (gN 4) (gsCons (gN 5) gsNil)))
    (mApp 3 (mA fTup (maCons (mA fTupOf (maCons (mLc (mSeqI (mVar 4)) [6] (gN 6) mYes (mA fTup (maCons (mIx (mVar 6) (mKon (.int 0))) (maCons (mIx (mVar 6) (mKon (.int 1))) (maCons (mIx (mVar 6) (mKon (.int 1))) maNil))))) maNil)) (maCons (mVar 5) maNil)))))
    (mApp 1 (mA fTupOf (maCons (mVar 3) maNil))))))
    (mRet (mA fTup (maCons (mIx (mVar 0) (mKon (.int 0))) (maCons (mIx (mVar 0) (mKon (.int 1))) (maCons (mA fTupOf (maCons (mVar 1) maNil)) maNil)))))))
noncomputable def f_law_tight : Fx := run' 1 7 m_law_tight
noncomputable def m_law_full : Ms :=
  (mSeq (mSet 2 (m2 fMul (mA fLst (maCons (mA fTup (maCons (mKon (.int 0)) (maCons (mKon (.int 1)) maNil))) maNil)) (mVar 1)))
    (mSeq (mFor (mSeqI (mVar 0)) (gT 2 (gsCons (gN 3) (gsCons (gN 4) gsNil)))
    (mPut 2 (mVar 3) (mVar 4)))
    (mRetV 2)))
noncomputable def f_law_full : Fx := run' 2 5 m_law_full
noncomputable def m_law_is_whole : Ms :=
  (mRet (mAnd (m1 (fIsi "int") (mVar 0)) (m1 fNot (m1 (fIsi "bool") (mVar 0)))))
noncomputable def f_law_is_whole : Fx := run' 1 1 m_law_is_whole
noncomputable def m_law_is_index : Ms :=
  (mRet (mAnd (mCall f_law_is_whole (maCons (mVar 0) maNil)) (mChain gLe gLt (mKon (.int 0)) (mVar 0) (mVar 1))))
noncomputable def f_law_is_index : Fx := run' 2 2 m_law_is_index
noncomputable def m_law_is_fraction : Ms :=
  (mSeq (mIfS (tOr2 (tNot2 (bT (m1 (fIsi "tuple") (mVar 0)))) (bT (m2 (fEq true) (mA fLen (maCons (mVar 0) maNil)) (mKon (.int 2)))))
    (mRet (mKon (.bool false)))
    mNil)
    (mSeq (mIfS (tOr2 (tNot2 (bT (mCall f_law_is_whole (maCons (mIx (mVar 0) (mKon (.int 0))) maNil)))) (tOr2 (tNot2 (bT (mCall f_law_is_whole (maCons (mIx (mVar 0) (mKon (.int 1))) maNil)))) (bT (m2 (fI gLe) (mIx (mVar 0) (mKon (.int 1))) (mKon (.int 0))))))
    (mRet (mKon (.bool false)))
    mNil)
    (mRet (m2 (fEq false) (mCall f_law_low (maCons (mIx (mVar 0) (mKon (.int 0))) (maCons (mIx (mVar 0) (mKon (.int 1))) maNil))) (mVar 0)))))
noncomputable def f_law_is_fraction : Fx := run' 1 1 m_law_is_fraction
noncomputable def m_law_is_row : Ms :=
  (mSeq (mIfS (tOr2 (tNot2 (bT (m1 (fIsi "tuple") (mVar 0)))) (bT (m2 (fEq true) (mA fLen (maCons (mVar 0) maNil)) (mVar 1))))
    (mRet (mKon (.bool false)))
    mNil)
    (mRet (m2 (fEqN false) (mLc (mSeqI (mVar 0)) [2] (gN 2) (tNot2 (bT (mCall f_law_is_fraction (maCons (mVar 2) maNil)))) (mVar 2)) (mA fLst maNil))))
noncomputable def f_law_is_row : Fx := run' 2 3 m_law_is_row
noncomputable def m_law_is_stretches : Ms :=
  (mSeq (mIfS (tNot2 (bT (m1 (fIsi "tuple") (mVar 0))))
    (mRet (mKon (.bool false)))
    mNil)
    (mSeq (mAsg (gT 3 (gsCons (gN 2) (gsCons (gN 3) (gsCons (gN 4) gsNil)))) (mA fTup (maCons (m1 fNeg (mKon (.int 1))) (maCons (mA fTup (maCons (mKon (.int 0)) (maCons (mKon (.int 1)) maNil))) (maCons (mA fTup (maCons (mKon (.int 0)) (maCons (mKon (.int 1)) maNil))) maNil)))))
    (mSeq (mFor (mSeqI (mVar 0)) (gN 5)
    (mSeq (mIfS (tOr2 (tNot2 (bT (m1 (fIsi "tuple") (mVar 5)))) (tOr2 (bT (m2 (fEq true) (mA fLen (maCons (mVar 5) maNil)) (mKon (.int 3)))) (tOr2 (tNot2 (bT (mCall f_law_is_index (maCons (mIx (mVar 5) (mKon (.int 0))) (maCons (mVar 1) maNil))))) (bT (m2 (fI gLe) (mIx (mVar 5) (mKon (.int 0))) (mVar 2))))))
    (mRet (mKon (.bool false)))
    mNil)
    (mSeq (mIfS (tOr2 (tNot2 (bT (mCall f_law_is_fraction (maCons (mIx (mVar 5) (mKon (.int 1))) maNil)))) (tOr2 (tNot2 (bT (mCall f_law_is_fraction (maCons (mIx (mVar 5) (mKon (.int 2))) maNil)))) (bT (m2 (fI gLt) (mIx (mIx (mVar 5) (mKon (.int 1))) (mKon (.int 0))) (mKon (.int 0))))))
    (mRet (mKon (.bool false)))
    mNil)
    (mSeq (mIfS (tOr2 (bT (mCall f_law_below (maCons (mIx (mVar 5) (mKon (.int 2))) (maCons (mIx (mVar 5) (mKon (.int 1))) maNil)))) (bT (mCall f_law_below (maCons (mA fTup (maCons (mKon (.int 1)) (maCons (mKon (.int 1)) maNil))) (maCons (mIx (mVar 5) (mKon (.int 2))) maNil)))))
    (mRet (mKon (.bool false)))
    mNil)
    (mPar3 2 3 4 (maCons (mIx (mVar 5) (mKon (.int 0))) (maCons (mCall f_law_plus (maCons (mVar 3) (maCons (mIx (mVar 5) (mKon (.int 1))) maNil))) (maCons (mCall f_law_plus (maCons (mVar 4) (maCons (mIx (mVar 5) (mKon (.int 2))) maNil))) maNil))))))))
    (mRet (mAnd (m1 fNot (mCall f_law_below (maCons (mA fTup (maCons (mKon (.int 1)) (maCons (mKon (.int 1)) maNil))) (maCons (mVar 3) maNil)))) (m1 fNot (mCall f_law_below (maCons (mVar 4) (maCons (mA fTup (maCons (mKon (.int 1)) (maCons (mKon (.int 1)) maNil))) maNil)))))))))
noncomputable def f_law_is_stretches : Fx := run' 2 6 m_law_is_stretches
noncomputable def m_law_is_chances : Ms :=
  (mSeq (mIfS (tNot2 (bT (m1 (fIsi "tuple") (mVar 0))))
    (mRet (mKon (.bool false)))
    mNil)
    (mSeq (mAsg (gT 2 (gsCons (gN 2) (gsCons (gN 3) gsNil))) (mA fTup (maCons (m1 fNeg (mKon (.int 1))) (maCons (mA fTup (maCons (mKon (.int 0)) (maCons (mKon (.int 1)) maNil))) maNil))))
    (mSeq (mFor (mSeqI (mVar 0)) (gN 4)
    (mSeq (mIfS (tOr2 (tNot2 (bT (m1 (fIsi "tuple") (mVar 4)))) (tOr2 (bT (m2 (fEq true) (mA fLen (maCons (mVar 4) maNil)) (mKon (.int 2)))) (tOr2 (tNot2 (bT (mCall f_law_is_index (maCons (mIx (mVar 4) (mKon (.int 0))) (maCons (mVar 1) maNil))))) (bT (m2 (fI gLe) (mIx (mVar 4) (mKon (.int 0))) (mVar 2))))))
    (mRet (mKon (.bool false)))
    mNil)
    (mSeq (mIfS (tOr2 (tNot2 (bT (mCall f_law_is_fraction (maCons (mIx (mVar 4) (mKon (.int 1))) maNil)))) (bT (m2 (fI gLe) (mIx (mIx (mVar 4) (mKon (.int 1))) (mKon (.int 0))) (mKon (.int 0)))))
    (mRet (mKon (.bool false)))
    mNil)
    (mPar 2 3 (maCons (mIx (mVar 4) (mKon (.int 0))) (maCons (mCall f_law_plus (maCons (mVar 3) (maCons (mIx (mVar 4) (mKon (.int 1))) maNil))) maNil))))))
    (mRet (m2 (fEq false) (mVar 3) (mA fTup (maCons (mKon (.int 1)) (maCons (mKon (.int 1)) maNil))))))))
noncomputable def f_law_is_chances : Fx := run' 2 5 m_law_is_chances
noncomputable def m_law_is_built : Ms :=
  (mSeq (mIfS (tOr2 (tNot2 (bT (m1 (fIsi "tuple") (mVar 0)))) (tOr2 (bT (m2 (fEq true) (mA fLen (maCons (mVar 0) maNil)) (mKon (.int 3)))) (tNot2 (bT (mCall f_law_is_fraction (maCons (mIx (mVar 0) (mKon (.int 0))) maNil))))))
    (mRet (mKon (.bool false)))
    mNil)
    (mSeq (mIfS (tOr2 (bT (m2 (fI gLt) (mIx (mIx (mVar 0) (mKon (.int 0))) (mKon (.int 0))) (mKon (.int 0)))) (tOr2 (tNot2 (bT (mCall f_law_below (maCons (mIx (mVar 0) (mKon (.int 0))) (maCons (mA fTup (maCons (mKon (.int 1)) (maCons (mKon (.int 1)) maNil))) maNil))))) (tOr2 (tNot2 (bT (mCall f_law_is_index (maCons (mIx (mVar 0) (mKon (.int 1))) (maCons (mKon (.int 5)) maNil))))) (bT (m2 (fEq false) (mIx (mVar 0) (mKon (.int 1))) (mKon (.int 0)))))))
    (mRet (mKon (.bool false)))
    mNil)
    (mSeq (mIfS (tOr2 (tNot2 (bT (m1 (fIsi "tuple") (mIx (mVar 0) (mKon (.int 2)))))) (tNot2 (bT (mChain gLe gLe (mKon (.int 1)) (mA fLen (maCons (mIx (mVar 0) (mKon (.int 2))) maNil)) (mKon (.int 8))))))
    (mRet (mKon (.bool false)))
    mNil)
    (mSeq (mSet 2 (mA fLen (maCons (mIx (mVar 0) (mKon (.int 2))) maNil)))
    (mSeq (mFor (mSeqI (mIx (mVar 0) (mKon (.int 2)))) (gN 3)
    (mSeq (mIfS (tOr2 (tNot2 (bT (m1 (fIsi "tuple") (mVar 3)))) (tNot2 (bT (mChain gLe gLe (mKon (.int 1)) (mA fLen (maCons (mVar 3) maNil)) (mKon (.int 4))))))
    (mRet (mKon (.bool false)))
    mNil)
    (mFor (mSeqI (mVar 3)) (gN 4)
    (mSeq (mIfS (tOr2 (tNot2 (bT (m1 (fIsi "tuple") (mVar 4)))) (tOr2 (bT (m2 (fEq true) (mA fLen (maCons (mVar 4) maNil)) (mKon (.int 2)))) (tNot2 (bT (mCall f_law_is_row (maCons (mIx (mVar 4) (mKon (.int 1))) (maCons (mIx (mVar 0) (mKon (.int 1))) maNil)))))))
    (mRet (mKon (.bool false)))
    mNil)
    (mIfS (tNot2 (mTIf (bT (mVar 1)) (bT (mCall f_law_is_stretches (maCons (mIx (mVar 4) (mKon (.int 0))) (maCons (mVar 2) maNil)))) (bT (mCall f_law_is_chances (maCons (mIx (mVar 4) (mKon (.int 0))) (maCons (mVar 2) maNil))))))
    (mRet (mKon (.bool false)))
    mNil)))))
    (mRet (mKon (.bool true))))))))
noncomputable def f_law_is_built : Fx := run' 2 5 m_law_is_built
noncomputable def m_law_is_within : Ms :=
  (mSeq (mAsg (gT 2 (gsCons (gN 2) (gsCons (gN 3) gsNil))) (mA fTup (maCons (mLc (mSeqI (mVar 0)) [6] (gN 6) mYes (mIx (mVar 6) (mKon (.int 0)))) (maCons (mCall f_law_full (maCons (mVar 1) (maCons (mKon (.int 8)) maNil))) maNil))))
    (mSeq (mIfS (bT (m2 (fEqN true) (mLc (mSeqI (mVar 1)) [6] (gN 6) (bT (m2 (fIn true) (mIx (mVar 6) (mKon (.int 0))) (mVar 2))) (mVar 6)) (mA fLst maNil)))
    (mRet (mKon (.bool false)))
    mNil)
    (mSeq (mSet 4 (mLc (mSeqI (mVar 0)) [6] (gN 6) (bT (mCall f_law_below (maCons (mIx (mVar 3) (mIx (mVar 6) (mKon (.int 0)))) (maCons (mIx (mVar 6) (mKon (.int 1))) maNil)))) (mVar 6)))
    (mSeq (mSet 5 (mLc (mSeqI (mVar 0)) [6] (gN 6) (bT (mCall f_law_below (maCons (mIx (mVar 6) (mKon (.int 2))) (maCons (mIx (mVar 3) (mIx (mVar 6) (mKon (.int 0)))) maNil)))) (mVar 6)))
    (mRet (mAnd (m2 (fEqN false) (mVar 4) (mA fLst maNil)) (m2 (fEqN false) (mVar 5) (mA fLst maNil))))))))
noncomputable def f_law_is_within : Fx := run' 2 7 m_law_is_within
noncomputable def m_law_fits : Ms :=
  (mSeq (mIfS (tOr2 (tNot2 (bT (mCall f_law_is_built (maCons (mVar 1) (maCons (mKon (.bool false)) maNil))))) (tOr2 (bT (m2 (fEq true) (mSl (mVar 1) moNone (moSome (mKon (.int 2)))) (mSl (mVar 0) moNone (moSome (mKon (.int 2)))))) (bT (m2 (fEq true) (mA fLen (maCons (mIx (mVar 1) (mKon (.int 2))) maNil)) (mA fLen (maCons (mIx (mVar 0) (mKon (.int 2))) maNil))))))
    (mRet (mKon (.bool false)))
    mNil)
    (mSeq (mFor (mArgI zipQ2 (maCons (mIx (mVar 0) (mKon (.int 2))) (maCons (mIx (mVar 1) (mKon (.int 2))) maNil))) (gT 2 (gsCons (gN 2) (gsCons (gN 3) gsNil)))
    (mSeq (mIfS (bT (m2 (fEq true) (mA fLen (maCons (mVar 2) maNil)) (mA fLen (maCons (mVar 3) maNil))))
    (mRet (mKon (.bool false)))
    mNil)
    (mFor (mArgI zipQ2 (maCons (mVar 2) (maCons (mVar 3) maNil))) (gT 2 (gsCons (gN 4) (gsCons (gN 5) gsNil)))
    (mIfS (tOr2 (bT (m2 (fEq true) (mIx (mVar 4) (mKon (.int 1))) (mIx (mVar 5) (mKon (.int 1))))) (tNot2 (bT (mCall f_law_is_within (maCons (mIx (mVar 4) (mKon (.int 0))) (maCons (mIx (mVar 5) (mKon (.int 0))) maNil))))))
    (mRet (mKon (.bool false)))
    mNil))))
    (mRet (mKon (.bool true)))))
noncomputable def f_law_fits : Fx := run' 2 6 m_law_fits
noncomputable def m_law_odd : Ms :=
  (mSeq (mSet 1 (mA fLst (maCons (mKon .none) (maCons (mKon (.bool true)) (maCons (mKon (.bool false)) (maCons (m1 fNeg (mKon (.int 1))) (maCons (mKon (.int 0)) (maCons (mKon (.int 1)) (maCons (mKon (.int 2)) (maCons (mKon (.int 4)) (maCons (mKon (.int 5)) (maCons (mKon (.int 8)) (maCons (mKon (.int 9)) (maCons (mKon (.int 61)) (maCons (m2 (fI gPow) (mKon (.int 10)) (mKon (.int 30))) (maCons (mKon (.str (Str.ofString ""))) (maCons (mKon (.str (Str.ofString "a"))) (maCons (mKon (.str (Str.ofString "still"))) (maCons (mKon (.str (Str.ofString "kept"))) (maCons (mA fTup maNil) (maCons (mA fTup (maCons (mKon (.int 0)) maNil)) (maCons (mA fTup (maCons (mKon (.int 1)) (maCons (mKon (.int 2)) maNil))) maNil))))))))))))))))))))))
    (mSeq (mSet 1 (m2 fAdd (mVar 1) (mA fLst (maCons (mA fTup (maCons (mKon (.int 0)) (maCons (mKon (.int 1)) maNil))) (maCons (mA fTup (maCons (mKon (.int 1)) (maCons (mKon (.int 1)) maNil))) (maCons (mA fTup (maCons (mKon (.int 2)) (maCons (mKon (.int 4)) maNil))) (maCons (mA fTup (maCons (mKon (.int 1)) (maCons (mKon (.int 0)) maNil))) (maCons (mA fTup (maCons (mKon (.int 1)) (maCons (m1 fNeg (mKon (.int 2))) maNil))) (maCons (mA fTup (maCons (m1 fNeg (mKon (.int 1))) (maCons (mKon (.int 2)) maNil))) (maCons (mA fTup (maCons (mKon (.int 3)) (maCons (mKon (.int 2)) maNil))) (maCons (mA fTup (maCons (mKon (.bool true)) (maCons (mKon (.int 1)) maNil))) (maCons (mA fTup (maCons (mKon (.int 1)) (maCons (mKon (.bool true)) maNil))) (maCons (mA fTup (maCons (mKon (.int 1)) (maCons (mKon (.int 2)) (maCons (mKon (.int 3)) maNil)))) maNil)))))))))))))
    (mSeq (mSet 1 (m2 fAdd (mVar 1) (mA fLst (maCons (mA fTup (maCons (mA fTup (maCons (mKon (.int 0)) (maCons (mKon (.int 1)) maNil))) maNil)) (maCons (mA fTup (maCons (mA fTup (maCons (mKon (.int 1)) (maCons (mKon (.int 1)) maNil))) maNil)) (maCons (mA fTup (maCons (mA fTup (maCons (mKon (.int 1)) (maCons (mKon (.int 2)) maNil))) (maCons (mA fTup (maCons (mKon (.int 1)) (maCons (mKon (.int 2)) maNil))) maNil))) (maCons (mA fTup (maCons (mA fTup (maCons (mKon (.int 0)) (maCons (mA fTup (maCons (mKon (.int 1)) (maCons (mKon (.int 1)) maNil))) maNil))) maNil)) (maCons (mA fTup (maCons (mA fTup (maCons (mKon (.int 0)) (maCons (mA fTup (maCons (mKon (.int 0)) (maCons (mKon (.int 1)) maNil))) (maCons (mA fTup (maCons (mKon (.int 1)) (maCons (mKon (.int 1)) maNil))) maNil)))) maNil)) (maCons (mA fTup (maCons (mKon .none) maNil)) (maCons (mA fTup (maCons (mA fTup maNil) maNil)) maNil))))))))))
    (mRet (mCall f_law_pick (maCons (mVar 0) (maCons (m2 fAdd (mVar 1) (mA fLst (maCons (mA fLst maNil) (maCons (mA fLst (maCons (mKon (.int 1)) maNil)) (maCons (mA fLst (maCons (mA fTup (maCons (mKon (.int 1)) (maCons (mKon (.int 2)) maNil))) maNil)) (maCons (mA fLst (maCons (mA fTup (maCons (mKon (.int 0)) (maCons (mKon (.int 1)) maNil))) (maCons (mA fTup (maCons (mKon (.int 1)) (maCons (mKon (.int 1)) maNil))) maNil))) (maCons (mKon (.dict [])) maNil))))))) maNil)))))))
noncomputable def f_law_odd : Fx := run' 1 2 m_law_odd
noncomputable def m_law_bent (self_ : Fx) : Ms :=
  (mSeq (mIfS (tOr2 (tNot2 (bT (m1 (fIsi "tuple") (mVar 1)))) (tOr2 (bT (m2 (fEqE false) (mVar 1) (mA fTup maNil))) (bT (m2 (fEq false) (mCall f_law_take (maCons (mVar 0) (maCons (mKon (.int 8)) maNil))) (mKon (.int 0))))))
    (mRet (mCall f_law_odd (maCons (mVar 0) maNil)))
    mNil)
    (mSeq (mPar 2 3 (maCons (mCall f_law_take (maCons (mVar 0) (maCons (mA fLen (maCons (mVar 1) maNil)) maNil))) (maCons (mCall f_law_take (maCons (mVar 0) (maCons (mKon (.int 13)) maNil))) maNil)))
    (mSeq (mIfS (bT (m2 (fI gLt) (mVar 3) (mKon (.int 8))))
    (mRet (m2 fAdd (m2 fAdd (mSl (mVar 1) moNone (moSome (mVar 2))) (mA fTup (maCons (mCall self_ (maCons (mVar 0) (maCons (mIx (mVar 1) (mVar 2)) maNil))) maNil))) (mSl (mVar 1) (moSome (m2 fAdd (mVar 2) (mKon (.int 1)))) moNone)))
    mNil)
    (mSeq (mIfS (bT (m2 (fEq false) (mVar 3) (mKon (.int 8))))
    (mRet (m2 fAdd (mSl (mVar 1) moNone (moSome (mVar 2))) (mSl (mVar 1) (moSome (m2 fAdd (mVar 2) (mKon (.int 1)))) moNone)))
    mNil)
    (mSeq (mIfS (bT (m2 (fEq false) (mVar 3) (mKon (.int 9))))
    (mRet (m2 fAdd (m2 fAdd (mSl (mVar 1) moNone (moSome (mVar 2))) (mA fTup (maCons (mIx (mVar 1) (mVar 2)) maNil))) (mSl (mVar 1) (moSome (mVar 2)) moNone)))
    mNil)
    (mSeq (mIfS (bT (m2 (fEq false) (mVar 3) (mKon (.int 10))))
    (mRet (mA fLstOf (maCons (mVar 1) maNil)))
    mNil)
    (mSeq (mIfS (bT (m2 (fEq false) (mVar 3) (mKon (.int 11))))
    (mRet (m2 fAdd (mVar 1) (mA fTup (maCons (mCall f_law_odd (maCons (mVar 0) maNil)) maNil))))
    mNil)
    (mRet (m2 fAdd (mSl (mVar 1) (moSome (mVar 2)) moNone) (mSl (mVar 1) moNone (moSome (mVar 2))))))))))))
noncomputable def f_law_bent : Nat → Fx
  | 0 => fun _ _ => none
  | n + 1 => run' 2 4 (m_law_bent (f_law_bent n))
noncomputable def m_law_moved : Ms :=
  (mSeq (mPar3g 3 4 5 (maCons (mCall f_law_full (maCons (mVar 1) (maCons (mVar 2) maNil))) (maCons (mCall f_law_take (maCons (mVar 0) (maCons (mA fLen (maCons (mVar 1) maNil)) maNil))) (maCons (mCall f_law_take (maCons (mVar 0) (maCons (mVar 2) maNil))) maNil))))
    (mSeq (mAsg (gT 2 (gsCons (gN 6) (gsCons (gN 7) gsNil))) (mIx (mVar 1) (mVar 4)))
    (mSeq (mSet 8 (mCall f_law_times (maCons (mVar 7) (maCons (mCall f_law_low (maCons (m2 fAdd (mKon (.int 1)) (mCall f_law_take (maCons (mVar 0) (maCons (mKon (.int 4)) maNil)))) (maCons (mKon (.int 4)) maNil))) maNil))))
    (mSeq (mPut 3 (mVar 6) (mCall f_law_minus (maCons (mVar 7) (maCons (mVar 8) maNil))))
    (mSeq (mPut 3 (mVar 5) (mCall f_law_plus (maCons (mIx (mVar 3) (mVar 5)) (maCons (mVar 8) maNil))))
    (mRet (mA fTupOf (maCons (mLc (mArgI range1 (maCons (mVar 2) maNil)) [9] (gN 9) (bT (m2 (fI gGt) (mIx (mIx (mVar 3) (mVar 9)) (mKon (.int 0))) (mKon (.int 0)))) (mA fTup (maCons (mVar 9) (maCons (mIx (mVar 3) (mVar 9)) maNil)))) maNil))))))))
noncomputable def f_law_moved : Fx := run' 3 10 m_law_moved
noncomputable def m_law_turned : Ms :=
  (mSeq (mAsg (gT 3 (gsCons (gN 2) (gsCons (gN 3) (gsCons (gN 4) gsNil)))) (mVar 1))
    (mSeq (mPar 5 6 (maCons (mCall f_law_take (maCons (mVar 0) (maCons (mKon (.int 7)) maNil))) (maCons (mCall f_law_take (maCons (mVar 0) (maCons (mA fLen (maCons (mVar 4) maNil)) maNil))) maNil)))
    (mSeq (mSet 7 (mIx (mVar 4) (mVar 6)))
    (mSeq (mSet 8 (mCall f_law_take (maCons (mVar 0) (maCons (mA fLen (maCons (mVar 7) maNil)) maNil))))
    (mSeq (mAsg (gT 2 (gsCons (gN 9) (gsCons (gN 10) gsNil))) (mIx (mVar 7) (mVar 8)))
    (mSeq (mIfS (bT (m2 (fEq false) (mVar 5) (mKon (.int 0))))
    (mRet (mA fTup (maCons (mCall f_law_share (maCons (mVar 0) maNil)) (maCons (mVar 3) (maCons (mVar 4) maNil)))))
    mNil)
    (mSeq (mIfS (bT (m2 (fEq false) (mVar 5) (mKon (.int 1))))
    (mSet 10 (m2 fAdd (mSl (mVar 10) moNone (moSome (m1 fNeg (mKon (.int 1))))) (mA fTup (maCons (mCall f_law_number (maCons (mVar 0) maNil)) maNil))))
    mNil)
    (mSeq (mIfS (bT (m2 (fIn false) (mVar 5) (mA fTup (maCons (mKon (.int 2)) (maCons (mKon (.int 3)) (maCons (mKon (.int 6)) maNil))))))
    (mSet 9 (mCall f_law_moved (maCons (mVar 0) (maCons (mVar 9) (maCons (mA fLen (maCons (mVar 4) maNil)) maNil)))))
    mNil)
    (mSeq (mSet 7 (m2 fAdd (m2 fAdd (mSl (mVar 7) moNone (moSome (mVar 8))) (mA fTup (maCons (mA fTup (maCons (mVar 9) (maCons (mVar 10) maNil))) maNil))) (mSl (mVar 7) (moSome (m2 fAdd (mVar 8) (mKon (.int 1)))) moNone)))
    (mSeq (mSet 11 (mA fTup (maCons (mA fTup (maCons (mA fTup (maCons (mVar 6) (maCons (mA fTup (maCons (mKon (.int 1)) (maCons (mKon (.int 1)) maNil))) maNil))) maNil)) (maCons (mVar 10) maNil))))
    (mSeq (mIfS (tAnd2 (bT (m2 (fEq false) (mVar 5) (mKon (.int 4)))) (bT (m2 (fI gLt) (mA fLen (maCons (mVar 7) maNil)) (mKon (.int 4)))))
    (mSet 7 (m2 fAdd (mVar 7) (mA fTup (maCons (mVar 11) maNil))))
    mNil)
    (mSeq (mSet 4 (m2 fAdd (m2 fAdd (mSl (mVar 4) moNone (moSome (mVar 6))) (mA fTup (maCons (mVar 7) maNil))) (mSl (mVar 4) (moSome (m2 fAdd (mVar 6) (mKon (.int 1)))) moNone)))
    (mSeq (mIfS (tAnd2 (bT (m2 (fEq false) (mVar 5) (mKon (.int 5)))) (bT (m2 (fI gLt) (mA fLen (maCons (mVar 4) maNil)) (mKon (.int 8)))))
    (mSet 4 (m2 fAdd (mVar 4) (mA fTup (maCons (mA fTup (maCons (mVar 11) maNil)) maNil))))
    mNil)
    (mRet (mA fTup (maCons (mVar 2) (maCons (mVar 3) (maCons (mVar 4) maNil))))))))))))))))))
noncomputable def f_law_turned : Fx := run' 2 12 m_law_turned
noncomputable def m_law_right : Ms :=
  (mSeq (mSet 1 (mCall f_law_vague (maCons (mVar 0) (maCons (mA fTup (maCons (mKon (.int 1)) (maCons (mKon (.int 2)) (maCons (mKon (.int 2)) (maCons (mKon (.int 3)) (maCons (mKon (.int 3)) (maCons (mKon (.int 2)) (maCons (mKon (.int 4)) (maCons (mKon (.int 8)) maNil))))))))) (maCons (mKon (.int 8)) maNil)))))
    (mSeq (mSet 2 (mCall f_law_inside (maCons (mVar 0) (maCons (mVar 1) maNil))))
    (mSeq (mSet 3 (mA fLst (maCons (mVar 1) (maCons (mVar 2) (maCons (mCall f_law_odd (maCons (mVar 0) maNil)) (maCons (mCall (f_law_bent 24) (maCons (mVar 0) (maCons (mVar 1) maNil))) maNil))))))
    (mSeq (mApp 3 (mCall (f_law_bent 24) (maCons (mVar 0) (maCons (mCall (f_law_bent 24) (maCons (mVar 0) (maCons (mVar 1) maNil))) maNil))))
    (mSeq (mFrz [3] (mFor (mSeqI (mVar 3)) (gN 4)
    (mIfS (bT (m2 (fEq true) (mA fReprA (maCons (mCall f_is_vague (maCons (mVar 4) maNil)) maNil)) (mA fReprA (maCons (mCall f_law_is_built (maCons (mVar 4) (maCons (mKon (.bool true)) maNil))) maNil))))
    (mRet (mKon (.bool false)))
    mNil)))
    (mSeq (mIfS (bT (m2 (fEq true) (mA fReprA (maCons (mCallK f_is_vague [0] 1 (maCons (mVar 1) maNil)) maNil)) (mKon (.str (Str.ofString "True")))))
    (mRet (mKon (.bool false)))
    mNil)
    (mSeq (mSet 5 (mCall f_law_tight (maCons (mVar 2) maNil)))
    (mSeq (mIfS (bT (m2 (fEq true) (mA fReprA (maCons (mCall f_vague_of (maCons (mVar 2) maNil)) maNil)) (mA fReprA (maCons (mVar 5) maNil))))
    (mRet (mKon (.bool false)))
    mNil)
    (mSeq (mSet 3 (mA fLst (maCons (mVar 2) (maCons (mCall f_law_turned (maCons (mVar 0) (maCons (mVar 2) maNil))) (maCons (mCall f_law_odd (maCons (mVar 0) maNil)) (maCons (mVar 1) maNil))))))
    (mSeq (mApp 3 (mCall (f_law_bent 24) (maCons (mVar 0) (maCons (mVar 2) maNil))))
    (mSeq (mApp 3 (mCall f_law_turned (maCons (mVar 0) (maCons (mCall f_law_turned (maCons (mVar 0) (maCons (mVar 2) maNil))) maNil))))
    (mSeq (mFrz [3] (mFor (mSeqI (mVar 3)) (gN 4)
    (mSeq (mIfS (bT (m2 (fEq true) (mA fReprA (maCons (mCall f_fits (maCons (mVar 1) (maCons (mVar 4) maNil))) maNil)) (mA fReprA (maCons (mCall f_law_fits (maCons (mVar 1) (maCons (mVar 4) maNil))) maNil))))
    (mRet (mKon (.bool false)))
    mNil)
    (mIfS (bT (m2 (fEq true) (mA fReprA (maCons (mCallK f_fits [1, 0] 2 (maCons (mVar 4) (maCons (mVar 5) maNil))) maNil)) (mA fReprA (maCons (mCall f_law_fits (maCons (mVar 5) (maCons (mVar 4) maNil))) maNil))))
    (mRet (mKon (.bool false)))
    mNil))))
    (mRet (mKon (.bool true)))))))))))))))
noncomputable def f_law_right : Fx := run' 1 6 m_law_right
noncomputable def m_law : Ms :=
  (mRet (mA fAll (maCons (mLc (mArgI range1 (maCons (mA fMax2 (maCons (mKon (.int 1)) (maCons (mA fMin2 (maCons (mA fLen (maCons (mVar 0) maNil)) (maCons (mKon (.int 3)) maNil))) maNil))) maNil)) [1] (gN 1) mYes (mCallN f_law_right (maCons (mCall f_law_pot (maCons (mVar 0) (maCons (mVar 1) maNil))) maNil))) maNil)))
noncomputable def f_law : Fx := run' 1 2 m_law
end WW
namespace WW
open PySem PySem.Spec L2 Dh PyProof.Rows
def nml_0 : List Str := ["is_whole", "is_between", "is_tuple_of", "is_ratio", "is_row", "ratio", "plus", "is_less", "total", "are_chances", "is_deed", "is_stand", "is_share", "is_house_by", "check_house", "is_end", "is_stretch", "are_stretches", "is_vague_deed", "is_vague_stand"]
def nml_1 : List Str := ["is_vague_by", "with_deeds", "vague_by", "do_chances_fit", "does_fit", "check_vague", "is_vague", "fits", "vague_of", "_law_pot", "_law_take", "_law_pick", "_law_shuffled", "_law_low", "_law_plus", "_law_minus", "_law_times", "_law_below", "_law_total", "_law_share"]
def nml_2 : List Str := ["_law_number", "_law_gains", "_law_lot", "_law_stretches", "_law_vague", "_law_fill", "_law_known", "_law_within", "_law_inside", "_law_tight", "_law_full", "_law_is_whole", "_law_is_index", "_law_is_fraction", "_law_is_row", "_law_is_stretches", "_law_is_chances", "_law_is_built", "_law_is_within", "_law_fits"]
def nml_3 : List Str := ["_law_odd", "_law_bent", "_law_moved", "_law_turned", "_law_right", "law"]
def nml : List Str := nml_0 ++ nml_1 ++ nml_2 ++ nml_3
def fnl_0 : List He.FnD := [fnD "is_whole" s_is_whole, fnD "is_between" s_is_between, fnD "is_tuple_of" s_is_tuple_of, fnD "is_ratio" s_is_ratio, fnD "is_row" s_is_row, fnD "ratio" s_ratio, fnD "plus" s_plus, fnD "is_less" s_is_less, fnD "total" s_total, fnD "are_chances" s_are_chances, fnD "is_deed" s_is_deed, fnD "is_stand" s_is_stand, fnD "is_share" s_is_share, fnD "is_house_by" s_is_house_by, fnD "check_house" s_check_house, fnD "is_end" s_is_end, fnD "is_stretch" s_is_stretch, fnD "are_stretches" s_are_stretches, fnD "is_vague_deed" s_is_vague_deed, fnD "is_vague_stand" s_is_vague_stand]
def fnl_1 : List He.FnD := [fnD "is_vague_by" s_is_vague_by, fnD "with_deeds" s_with_deeds, fnD "vague_by" s_vague_by, fnD "do_chances_fit" s_do_chances_fit, fnD "does_fit" s_does_fit, fnD "check_vague" s_check_vague, fnD "is_vague" s_is_vague, fnD "fits" s_fits, fnD "vague_of" s_vague_of, fnD "_law_pot" s_law_pot, fnD "_law_take" s_law_take, fnD "_law_pick" s_law_pick, fnD "_law_shuffled" s_law_shuffled, fnD "_law_low" s_law_low, fnD "_law_plus" s_law_plus, fnD "_law_minus" s_law_minus, fnD "_law_times" s_law_times, fnD "_law_below" s_law_below, fnD "_law_total" s_law_total, fnD "_law_share" s_law_share]
def fnl_2 : List He.FnD := [fnD "_law_number" s_law_number, fnD "_law_gains" s_law_gains, fnD "_law_lot" s_law_lot, fnD "_law_stretches" s_law_stretches, fnD "_law_vague" s_law_vague, fnD "_law_fill" s_law_fill, fnD "_law_known" s_law_known, fnD "_law_within" s_law_within, fnD "_law_inside" s_law_inside, fnD "_law_tight" s_law_tight, fnD "_law_full" s_law_full, fnD "_law_is_whole" s_law_is_whole, fnD "_law_is_index" s_law_is_index, fnD "_law_is_fraction" s_law_is_fraction, fnD "_law_is_row" s_law_is_row, fnD "_law_is_stretches" s_law_is_stretches, fnD "_law_is_chances" s_law_is_chances, fnD "_law_is_built" s_law_is_built, fnD "_law_is_within" s_law_is_within, fnD "_law_fits" s_law_fits]
def fnl_3 : List He.FnD := [fnD "_law_odd" s_law_odd, fnD "_law_bent" s_law_bent, fnD "_law_moved" s_law_moved, fnD "_law_turned" s_law_turned, fnD "_law_right" s_law_right, fnD "law" s_law]
def fnl : List He.FnD := fnl_0 ++ fnl_1 ++ fnl_2 ++ fnl_3
def fal_0 : List He.Fa := [.glo "is_whole", .glo "is_between", .glo "is_tuple_of", .glo "is_ratio", .glo "is_row", .glo "ratio", .glo "plus", .glo "is_less", .glo "total", .glo "are_chances", .glo "is_deed", .glo "is_stand", .glo "is_share", .glo "is_house_by", .glo "check_house", .glo "is_end", .glo "is_stretch", .glo "are_stretches", .glo "is_vague_deed", .glo "is_vague_stand"]
def fal_1 : List He.Fa := [.glo "is_vague_by", .glo "with_deeds", .glo "vague_by", .glo "do_chances_fit", .glo "does_fit", .glo "check_vague", .glo "is_vague", .glo "fits", .glo "vague_of", .glo "_law_pot", .glo "_law_take", .glo "_law_pick", .glo "_law_shuffled", .glo "_law_low", .glo "_law_plus", .glo "_law_minus", .glo "_law_times", .glo "_law_below", .glo "_law_total", .glo "_law_share"]
def fal_2 : List He.Fa := [.glo "_law_number", .glo "_law_gains", .glo "_law_lot", .glo "_law_stretches", .glo "_law_vague", .glo "_law_fill", .glo "_law_known", .glo "_law_within", .glo "_law_inside", .glo "_law_tight", .glo "_law_full", .glo "_law_is_whole", .glo "_law_is_index", .glo "_law_is_fraction", .glo "_law_is_row", .glo "_law_is_stretches", .glo "_law_is_chances", .glo "_law_is_built", .glo "_law_is_within", .glo "_law_fits"]
def fal_3 : List He.Fa := [.glo "_law_odd", .glo "_law_bent", .glo "_law_moved", .glo "_law_turned", .glo "_law_right", .glo "law", .keep "is_whole", .keep "is_between", .keep "is_tuple_of", .keep "is_ratio", .keep "is_row", .keep "ratio", .keep "plus", .keep "is_less", .keep "total", .keep "are_chances", .keep "is_deed", .keep "is_stand", .keep "is_share", .keep "is_house_by"]
def fal_4 : List He.Fa := [.keep "check_house", .keep "is_end", .keep "is_stretch", .keep "are_stretches", .keep "is_vague_deed", .keep "is_vague_stand", .keep "is_vague_by", .keep "with_deeds", .keep "vague_by", .keep "do_chances_fit", .keep "does_fit", .keep "check_vague", .keep "is_vague", .keep "fits", .keep "vague_of", .keep "_law_pot", .keep "_law_take", .keep "_law_pick", .keep "_law_shuffled", .keep "_law_low"]
def fal_5 : List He.Fa := [.keep "_law_plus", .keep "_law_minus", .keep "_law_times", .keep "_law_below", .keep "_law_total", .keep "_law_share", .keep "_law_number", .keep "_law_gains", .keep "_law_lot", .keep "_law_stretches", .keep "_law_vague", .keep "_law_fill", .keep "_law_known", .keep "_law_within", .keep "_law_inside", .keep "_law_tight", .keep "_law_full", .keep "_law_is_whole", .keep "_law_is_index", .keep "_law_is_fraction"]
def fal_6 : List He.Fa := [.keep "_law_is_row", .keep "_law_is_stretches", .keep "_law_is_chances", .keep "_law_is_built", .keep "_law_is_within", .keep "_law_fits", .keep "_law_odd", .keep "_law_bent", .keep "_law_moved", .keep "_law_turned", .keep "_law_right", .keep "law", .free "abs", .free "all", .free "bool", .free "dict", .free "divmod", .free "int", .free "isinstance", .free "len"]
def fal_7 : List He.Fa := [.free "list", .free "max", .free "min", .free "range", .free "repr", .free "sorted", .free "sum", .free "tuple", .free "zip"]
def fal : List He.Fa := fal_0 ++ fal_1 ++ fal_2 ++ fal_3 ++ fal_4 ++ fal_5 ++ fal_6 ++ fal_7
def msl_0 : List Str := ["vague_by"]
def msl : List Str := msl_0
def csl_0 : List (Str × PyData) := [("MOST_DEEDS", k_MOST_DEEDS), ("MOST_PAYS", k_MOST_PAYS), ("MOST_STANDS", k_MOST_STANDS), ("ONE", k_ONE), ("ZERO", k_ZERO)]
def csl : List (Str × PyData) := csl_0
def bsl_0 : List (Str × String) := [("gcd", "math.gcd")]
def bsl : List (Str × String) := bsl_0
def loose_0 : List Str := ["is_whole", "is_between", "is_tuple_of", "ZERO", "ONE", "is_ratio", "is_row", "ratio", "plus", "is_less", "total", "MOST_PAYS", "MOST_STANDS", "MOST_DEEDS", "are_chances", "is_deed", "is_stand", "is_share", "is_house_by", "HouseError"]
def loose_1 : List Str := ["InvalidHouse", "InvalidVague", "check_house", "is_end", "is_stretch", "are_stretches", "is_vague_deed", "is_vague_stand", "is_vague_by", "with_deeds", "vague_by", "do_chances_fit", "does_fit", "check_vague", "is_vague", "fits", "vague_of", "_law_pot", "_law_take", "_law_pick"]
def loose_2 : List Str := ["_law_shuffled", "_law_low", "_law_plus", "_law_minus", "_law_times", "_law_below", "_law_total", "_law_share", "_law_number", "_law_gains", "_law_lot", "_law_stretches", "_law_vague", "_law_fill", "_law_known", "_law_within", "_law_inside", "_law_tight", "_law_full", "_law_is_whole"]
def loose_3 : List Str := ["_law_is_index", "_law_is_fraction", "_law_is_row", "_law_is_stretches", "_law_is_chances", "_law_is_built", "_law_is_within", "_law_fits", "_law_odd", "_law_bent", "_law_moved", "_law_turned", "_law_right"]
def loose : List Str := loose_0 ++ loose_1 ++ loose_2 ++ loose_3
abbrev RR : PySem.W.OpenRow := PySem.W.OpenLaw.row PySem.Challenge.rw_deedhouses_k43_vague_houses_of_anything
abbrev hkM : PySem.W.Hook := hookL 2 csl bsl fal fnl msl
def obM (s : PySem.W.SharedT) : AlL := obsLG 2 csl bsl fal fnl msl (HandSHeadRun.getT s)
theorem obM_eq (s : PySem.W.SharedT) : obM s = hkM.obs s.abs := obsLG_eq (HandSHeadRun.getT_eq s)
set_option maxHeartbeats 0 in
theorem runL (w : World) : (HandSHeadRun.wholeF (fun p => HandSHeadRun.stepQ (HandSHeadRun.denQ HandSHeadRun.tabQ) p w) HandSHeadRun.fenceQ 6000 RR.prog).map (fun x => HandSHeadRun.looksF RR.prog x.1.heap x.2.abs) = some true := by
  kernel_rfl
set_option maxHeartbeats 0 in
theorem runS (w : World) : (HandSHeadRun.wholeF (fun p => HandSHeadRun.stepQ (HandSHeadRun.denQ HandSHeadRun.tabQ) p w) HandSHeadRun.fenceQ 6000 RR.prog).map (fun x => HandSHeadRun.seenQ (PySem.W.view RR.prog [0, 82]) loose (importedModules RR.prog.main.body) (fun s => PySem.W.xlAt (PySem.W.view RR.prog [0, 82]) [] s && PySem.W.recOk RR.toRowW.records s) x.2.abs) = some (PySem.W.openGood (PySem.W.view RR.prog [0, 82]) loose) := by
  kernel_rfl
set_option maxHeartbeats 0 in
theorem runO (w : World) : (HandSHeadRun.wholeF (fun p => HandSHeadRun.stepQ (HandSHeadRun.denQ HandSHeadRun.tabQ) p w) HandSHeadRun.fenceQ 6000 RR.prog).map (fun x => obM x.2) = some (hkM.val w) := by
  kernel_rfl
theorem map3 {α β γ δ : Type _} {o : Option α} {f : α → β} {g : α → γ} {h : α → δ} {a : β} {b : γ} {c : δ} (e1 : o.map f = some a) (e2 : o.map g = some b) (e3 : o.map h = some c) : o.map (fun x => (f x, g x, h x)) = some (a, b, c) := by
  cases o with
  | none => cases e1
  | some x => cases e1; cases e2; cases e3; rfl
theorem runM (w : World) : HandSHeadRun.RunEqI RR (PySem.W.view RR.prog [0, 82]) hkM obM 6000 loose w := by
  unfold HandSHeadRun.RunEqI
  exact map3 (runL w) (runS w) (runO w)
end WW
namespace WW
open PySem PySem.Spec L2 PySem.W Dh
theorem e_ratio {t l : Int} {s : Sto} (h : 0 < l) (hl : l.natAbs < 2 ^ 9000) : f_ratio [.d (.int t), .d (.int l)] s = some (.d (pQ (Rat.divInt t l)), s) := by
  refine WF.eq (WF.body rfl ?_)
  have g : 0 < gg t l := gg_pos (by omega)
  have g1 : (gg t l).natAbs < 2 ^ 9000 := Nat.lt_of_le_of_lt (gg_le (by omega)) hl
  have e1 : gFdiv t ((t.natAbs.gcd l.natAbs : Nat) : Int) = _ := gFdiv_pos g g1
  have e2 : gFdiv l ((t.natAbs.gcd l.natAbs : Nat) : Int) = _ := gFdiv_pos g g1
  simp [m_ratio, h, List.replicate_succ, e1, e2, sz2, pQ, divInt_num h, divInt_den h]
  exact ⟨rfl, rfl⟩
theorem e_plus {p q : Rat} {s : Sto} (hp : Bd p) (hq : Bd q) : f_plus [.d (pQ p), .d (pQ q)] s = some (.d (pQ (p + q)), s) := by
  refine WF.eq (WF.body rfl ?_)
  simp [m_plus, pQ, fMul_ok, mulOk_nd hp hq, mulOk_nd hq hp, mulOk_dd hp hq]
  refine WF.of (e_ratio (den_mul_pos p q) (den_lt hp hq)) ?_
  rw [← add_divInt]
  simp [pQ]
theorem e_is_less {p q : Rat} {s : Sto} (hp : Bd p) (hq : Bd q) : f_is_less [.d (pQ p), .d (pQ q)] s = some (.d (.bool (decide (p < q))), s) := by
  refine WF.eq (WF.body rfl ?_)
  simp [m_is_less, pQ, fMul_ok, mulOk_nd hp hq, mulOk_nd hq hp, Rat.lt_iff]
theorem w_euclid {x y : Option Cl} {s : Sto} {Q : Out → Ev → Sto → Prop} : ∀ (b a : Nat), Q .nx [x, y, some (.d (.int ((Nat.gcd a b : Nat) : Int))), some (.d (.int 0))] s →
    WWh (bT (m2 (fI gGt) (mVar 3) (mKon (.int 0)))) (mPar 2 3 (maCons (mVar 3) (maCons (m2 (fI gMod) (mA fInt (maCons (mVar 2) maNil)) (mVar 3)) maNil))) [x, y, some (.d (.int (a : Int))), some (.d (.int (b : Int)))] s Q := by
  intro b
  induction b using Nat.strongRecOn with
  | ind b ih =>
    intro a h
    refine WWh_next ?_
    by_cases hb : b = 0
    · subst hb
      simp at h ⊢
      exact h
    · have hp : (0 : Int) < (b : Int) := by omega
      have hq : 0 < b := by omega
      have e : gMod (a : Int) (b : Int) = _ := gMod_pos hp
      simp [hq, hp, e]
      have := ih (a % b) (Nat.mod_lt _ hq) b (by rw [Nat.gcd_comm, ← Nat.gcd_rec, Nat.gcd_comm]; exact h)
      rw [Int.natCast_emod] at this
      exact this
theorem e_frac0 {t l : Int} {s : Sto} (h : l ≠ 0) (hl : l.natAbs < 2 ^ 9000) : f_law_low [.d (.int t), .d (.int l)] s = some (.d (pQ (Rat.divInt t l)), s) := by
  refine WF.eq (WF.body rfl ?_)
  have g : 0 < gg t l := gg_pos h
  have g1 : (gg t l).natAbs < 2 ^ 9000 := Nat.lt_of_le_of_lt (gg_le h) hl
  have a1 : (if t < 0 then -t else t) = ((t.natAbs : Nat) : Int) := by split <;> omega
  have a2 : (if l < 0 then -l else l) = ((l.natAbs : Nat) : Int) := by split <;> omega
  have e : ∀ i : Int, gFdiv i ((t.natAbs.gcd l.natAbs : Nat) : Int) = some (.int (i / gg t l)) := fun i => gFdiv_pos g g1
  simp only [m_law_low]
  simp [List.replicate_succ, a1, a2]
  refine w_euclid _ _ ?_
  by_cases hp : 0 < l
  · simp [hp, e, sz2, pQ, divInt_num hp, divInt_den hp]
  · have n : gg (-t) (-l) = gg t l := by unfold gg; rw [Int.natAbs_neg, Int.natAbs_neg]
    have a := divInt_num (t := -t) (l := -l) (by omega)
    have b := divInt_den (t := -t) (l := -l) (by omega)
    rw [Rat.neg_divInt_neg, n] at a b
    have c1 : ∀ i : Int, gg t l ∣ i → (-i) / gg t l = - (i / gg t l) := fun i hi => Int.neg_ediv_of_dvd hi
    have d1 : gg t l ∣ t := Int.ofNat_dvd_left.mpr (Nat.gcd_dvd_left _ _)
    have d2 : gg t l ∣ l := Int.ofNat_dvd_left.mpr (Nat.gcd_dvd_right _ _)
    simp [hp, e, sz2, pQ, a, b, c1 t d1, c1 l d2]
theorem e_lplus {p q : Rat} {s : Sto} (hp : Bd p) (hq : Bd q) : f_law_plus [.d (pQ p), .d (pQ q)] s = some (.d (pQ (p + q)), s) := by
  refine WF.eq (WF.body rfl ?_)
  simp [m_law_plus, pQ, fMul_ok, mulOk_nd hp hq, mulOk_nd hq hp, mulOk_dd hp hq]
  refine WF.of (e_frac0 (by have := den_mul_pos p q; omega) (den_lt hp hq)) ?_
  rw [← add_divInt]
  simp [pQ]
theorem e_lminus {p q : Rat} {s : Sto} (hp : Bd p) (hq : Bd q) : f_law_minus [.d (pQ p), .d (pQ q)] s = some (.d (pQ (p - q)), s) := by
  refine WF.eq (WF.body rfl ?_)
  simp [m_law_minus, pQ, fMul_ok, mulOk_nd hp hq, mulOk_nd hq hp, mulOk_dd hp hq]
  refine WF.of (e_frac0 (by have := den_mul_pos p q; omega) (den_lt hp hq)) ?_
  rw [← sub_divInt]
  simp [pQ]
theorem e_ltimes {p q : Rat} {s : Sto} (hp : Bd p) (hq : Bd q) : f_law_times [.d (pQ p), .d (pQ q)] s = some (.d (pQ (p * q)), s) := by
  refine WF.eq (WF.body rfl ?_)
  simp [m_law_times, pQ, fMul_ok, mulOk_nn hp hq, mulOk_dd hp hq]
  refine WF.of (e_frac0 (by have := den_mul_pos p q; omega) (den_lt hp hq)) ?_
  rw [← mul_divInt]
  simp [pQ]
end WW
namespace Dh
open PySem PySem.Spec L2 PySem.W
@[elab_as_elim] theorem snoc_ind {α : Type} {P : List α → Prop} (nil : P []) (snoc : ∀ l x, P l → P (l ++ [x])) (l : List α) : P l := by
  rw [← List.reverse_reverse l]
  induction l.reverse with
  | nil => exact nil
  | cons x m ih => rw [List.reverse_cons]; exact snoc _ _ ih
def qsum (l : List Rat) : Rat := l.foldl (· + ·) 0
theorem qsum_snoc {l : List Rat} {x : Rat} : qsum (l ++ [x]) = qsum l + x := by simp [qsum]
theorem take_snoc {α : Type} {l : List α} {i : Nat} {x : α} (h : l[i]? = some x) : l.take (i + 1) = l.take i ++ [x] := by
  rw [List.take_add_one, h]; rfl
theorem QLt_0 {k : Nat} (h : 0 < k := by omega) : QLt k 0 := ⟨by rw [Rat.zero_num]; exact Nat.pow_pos (by decide), by rw [Rat.zero_den]; exact Nat.one_lt_two_pow (by omega)⟩
theorem qsum_lt {k : Nat} {l : List Rat} (h : ∀ q ∈ l, QLt k q) : QLt (1 + (k + 1) * l.length) (qsum l) := by
  revert h
  refine snoc_ind ?_ ?_ l
  · intro _; exact QLt_0
  · intro l x ih h
    rw [qsum_snoc, List.length_append, List.length_singleton, Nat.mul_add]
    exact (QLt_add (ih fun q hq => h q (by simp [hq])) (h x (by simp))).mono (by omega)
theorem mem_take {α : Type} {l : List α} {i : Nat} {x : α} (h : x ∈ l.take i) : x ∈ l := List.mem_of_mem_take h
theorem qsum_take_lt {k i : Nat} {l : List Rat} (h : ∀ q ∈ l, QLt k q) : QLt (1 + (k + 1) * l.length) (qsum (l.take i)) :=
  (qsum_lt fun q hq => h q (mem_take hq)).mono (by
    have : (l.take i).length ≤ l.length := by rw [List.length_take]; omega
    have := Nat.mul_le_mul_left (k + 1) this
    omega)
/-- a pair of data, by what each is -/
def p2 {α β : Type} (f : α → PyData) (g : β → PyData) (p : α × β) : PyData := .tuple [f p.1, g p.2]
theorem pairs_map {α β : Type} (f : α → PyData) (g : β → PyData) : ∀ (l : List α) (m : List β), pairs (l.map f) (m.map g) = (l.zip m).map (p2 f g)
  | [], m => by simp [pairs]
  | x :: l, [] => by simp [pairs]
  | x :: l, y :: m => by
    have := pairs_map f g l m
    unfold pairs at this ⊢
    simp only [List.map_cons, List.zip_cons_cons, this]
    rfl
theorem flat_one {α : Type} {x : α} : ∀ n : Nat, (List.replicate n [x]).flatten = List.replicate n x
  | 0 => rfl
  | n + 1 => by rw [List.replicate_succ, List.replicate_succ, List.flatten_cons, flat_one n]; rfl
@[simp] theorem seqOf_t {xs : List PyData} : seqOf (.tuple xs) = some xs := rfl
@[simp] theorem seqOf_l {xs : List PyData} : seqOf (.list xs) = some xs := rfl
@[simp] theorem ev_zipQ2 {x y : R} : zipQ2 [x, y] = (match toD x, toD y with | some a, some b => (match seqOf a, seqOf b with | some xs, some ys => some (pairs xs ys) | _, _ => none) | _, _ => none) := by
  unfold zipQ2
  rw [ev_toDs1, ev_toDs1, ev_toDs0]
  cases toD x <;> cases toD y <;> rfl
@[simp] theorem ev_zipQ3 {x y z : R} : zipQ3 [x, y, z] = (match toD x, toD y, toD z with | some a, some b, some c => (match seqOf a, seqOf b, seqOf c with | some xs, some ys, some zs => some (trip xs ys zs) | _, _, _ => none) | _, _, _ => none) := by
  unfold zipQ3
  rw [ev_toDs1, ev_toDs1, ev_toDs1, ev_toDs0]
  cases toD x <;> cases toD y <;> cases toD z <;> rfl
@[simp] theorem items_b {xs : List PyData} : itemsOf (.b xs) = none := rfl
end Dh
namespace WW
open PySem PySem.Spec L2 PySem.W Dh
theorem e_total {x : PyData} {l : List Rat} {k : Nat} {s : Sto} (hx : itemsOf (.d x) = some (l.map pQ)) (hl : ∀ q ∈ l, QLt k q) (h : 1 + (k + 1) * l.length + k ≤ 4500) : f_total [.d x] s = some (.d (pQ (qsum l)), s) := by
  refine WF.eq (WF.body rfl ?_)
  simp [m_total, List.replicate_succ, hx]
  refine WFor_inv pQ l (fun i ρ s' => s' = s ∧ ∃ c, ρ = [some (.d x), some (.d (pQ (qsum (l.take i)))), c]) ⟨rfl, none, rfl⟩ ?_ ?_
  · rintro i q ρ s' hq ⟨rfl, c, rfl⟩
    simp
    refine WF.of (e_plus (qsum_take_lt hl).bd ((hl q (List.mem_of_getElem? hq)).bd)) ?_
    rw [take_snoc hq, qsum_snoc]
    simp
  · rintro ρ s' ⟨rfl, c, rfl⟩
    simp
end WW
namespace Dh
/-- D times q is whole, at most M without its sign -/
def CD (D M : Nat) (q : Rat) : Prop := ∃ z : Int, (D : Rat) * q = z ∧ z.natAbs ≤ M
theorem CD_0 {D M : Nat} : CD D M 0 := ⟨0, by simp, by simp⟩
theorem CD_1 {D M : Nat} (h : D ≤ M) : CD D M 1 := ⟨D, by rw [Rat.mul_one, Rat.intCast_natCast], by simpa using h⟩
theorem CD.mono {D M N : Nat} {q : Rat} (h : CD D M q) (k : M ≤ N) : CD D N q := let ⟨z, a, b⟩ := h; ⟨z, a, Nat.le_trans b k⟩
theorem CD.add {D M N : Nat} {p q : Rat} (h : CD D M p) (k : CD D N q) : CD D (M + N) (p + q) := by
  obtain ⟨z, a, b⟩ := h
  obtain ⟨w, c, d⟩ := k
  exact ⟨z + w, by rw [Rat.mul_add, a, c, Rat.intCast_add], Nat.le_trans (Int.natAbs_add_le _ _) (by omega)⟩
theorem CD.neg {D M : Nat} {p : Rat} (h : CD D M p) : CD D M (-p) := by
  obtain ⟨z, a, b⟩ := h
  exact ⟨-z, by rw [Rat.mul_neg, a, Rat.intCast_neg], by rw [Int.natAbs_neg]; exact b⟩
theorem CD.sub {D M N : Nat} {p q : Rat} (h : CD D M p) (k : CD D N q) : CD D (M + N) (p - q) := by
  rw [Rat.sub_eq_add_neg]; exact h.add k.neg
theorem CD.mul {D E M N : Nat} {p q : Rat} (h : CD D M p) (k : CD E N q) : CD (D * E) (M * N) (p * q) := by
  obtain ⟨z, a, b⟩ := h
  obtain ⟨w, c, d⟩ := k
  exact ⟨z * w, by rw [Rat.natCast_mul, Rat.intCast_mul, ← a, ← c]; grind, by rw [Int.natAbs_mul]; exact Nat.mul_le_mul b d⟩
theorem CD.up {D M : Nat} {q : Rat} (h : CD D M q) (E : Nat) : CD (D * E) (M * E) q := by
  have := h.mul (CD_1 (D := E) (M := E) (Nat.le_refl _))
  rwa [Rat.mul_one] at this
theorem CD_sum {D M : Nat} {l : List Rat} (h : ∀ q ∈ l, CD D M q) : CD D (l.length * M) (qsum l) := by
  revert h
  refine snoc_ind ?_ ?_ l
  · intro _
    exact CD_0
  · intro l x ih h
    rw [qsum_snoc, List.length_append, List.length_singleton, Nat.add_mul, Nat.one_mul]
    exact (ih fun q hq => h q (by simp [hq])).add (h x (by simp))
theorem CD.qlt {D M k : Nat} {q : Rat} (h : CD D M q) (h0 : 0 < D) (hD : D < 2 ^ k) (hM : M < 2 ^ k) : QLt k q := by
  obtain ⟨z, a, b⟩ := h
  exact El.qlt_of_frac (v0 := (D : Int)) (v := z) (by omega) (by rw [Rat.intCast_natCast]; exact a) (by rw [Int.natAbs_natCast]; exact hD) (Nat.lt_of_le_of_lt b hM)
theorem QLt.cd {k : Nat} {q : Rat} (h : QLt k q) : CD q.den (2 ^ k) q := ⟨q.num, El.den_mul_self q, Nat.le_of_lt h.1⟩
end Dh
namespace El
open Dh
/-- every row over one number of at most b bits -/
def Rows (A : Nat → Nat → Rat) (n j b : Nat) : Prop := ∀ i, i < n → ∃ D : Nat, 0 < D ∧ D ≤ 2 ^ b ∧ ∀ l, (l < n ∨ l = j) → CD D (2 ^ b) (A i l)
end El
namespace Dh
open PySem PySem.Spec L2 PySem.W
/-- a spring that can be asked m times more -/
def Vs (m : Nat) (s : Sto) : Prop := ∃ a b c : Int, s = [a, b, c] ∧ 0 ≤ b ∧ b < 2147483543 ∧ 0 ≤ c ∧ c + (m : Int) ≤ 1099511627776
theorem Vs.mono {m n : Nat} {s : Sto} (h : Vs n s) (k : m ≤ n := by omega) : Vs m s := by
  obtain ⟨a, b, c, e, h1, h2, h3, h4⟩ := h
  exact ⟨a, b, c, e, h1, h2, h3, by omega⟩
theorem lit40 : (2 : Nat) ^ 40 = 1099511627776 := by decide
theorem lt40 {i : Int} (h0 : 0 ≤ i) (h : i < 1099511627776) : i.natAbs < 2 ^ 40 := by rw [lit40]; omega
theorem atI_ofNat {α : Type} {xs : List α} {i : Nat} (h : i < xs.length) : atI xs (i : Int) = xs[i]? := by
  unfold atI ixN
  have h1 : ¬ ((i : Int) < 0) := by omega
  have h2 : (i : Int) < (xs.length : Int) := by omega
  simp [h2]
theorem ixN_ofNat {n i : Nat} (h : i < n) : ixN n (i : Int) = some i := by
  unfold ixN
  have h2 : (i : Int) < (n : Int) := by omega
  simp [h2]
theorem atI_pick {α : Type} {xs : List α} {d : Int} (h0 : 0 ≤ d) (h : d < xs.length) : ∃ x ∈ xs, atI xs d = some x := by
  obtain ⟨n, rfl⟩ := Int.eq_ofNat_of_zero_le h0
  have hn : n < xs.length := by omega
  exact ⟨xs[n], List.getElem_mem hn, by rw [show ((n : Nat) : Int) = (n : Int) from rfl, atI_ofNat hn, List.getElem?_eq_getElem hn]⟩
theorem gFdiv_small {i j : Int} (h : 0 < j) (hl : j.natAbs < 2 ^ 40) : gFdiv i j = some (.int (i / j)) := gFdiv_pos h (lt_monoB hl (by decide))
theorem range1_nat {n : Nat} (h : n ≤ 1000) : range1 [.d (.int (n : Int))] = some ((List.range n).map fun i => PyData.int (i : Nat)) := by
  unfold range1
  simp [rangeL, show (-4611686018427387904 : Int) ≤ (n : Int) by omega, show (n : Int) < 4611686018427387904 by omega]
theorem range_at {n i x : Nat} (h : (List.range n)[i]? = some x) : x = i ∧ i < n := by
  obtain ⟨h1, h2⟩ := List.getElem?_eq_some_iff.mp h
  rw [List.getElem_range] at h2
  rw [List.length_range] at h1
  exact ⟨h2.symm, h1⟩
end Dh
namespace WW
open PySem PySem.Spec L2 PySem.W Dh
theorem w_take {l : Int} {s : Sto} {m : Nat} (v : Vs (m + 1) s) (h : 0 < l) (hl : l < 1099511627776) : WF f_law_take [.s, .d (.int l)] s fun r s' => ∃ d : Int, r = .d (.int d) ∧ 0 ≤ d ∧ d < l ∧ Vs m s' := by
  obtain ⟨a, b, c, rfl, h1, h2, h3, h4⟩ := v
  refine WF.body rfl ?_
  have l0 : l ≠ 0 := by omega
  by_cases ha : 0 < a
  · have p : Builtin.divisionGoesByPylong a l = false := pylong_of (lt_monoB (a := 40) (lt40 (by omega) hl) (by decide))
    simp [m_law_take, ha, List.replicate_succ, fDivmod, h, p, ixN]
    exact ⟨Int.emod_nonneg _ l0, Int.emod_lt_of_pos _ h, a / l, b, c, rfl, h1, h2, h3, by omega⟩
  · have m1 : mulOk b 41023 = true := mulOk_of (a := 31) (b := 16) (by omega) (by decide) (by decide)
    have m2 : mulOk (c + 1) 60101 = true := mulOk_of (a := 41) (b := 16) (by omega) (by decide) (by decide)
    simp [m_law_take, ha, List.replicate_succ, putS, ixN, m1, m2, fMul_ok, gMod_pos]
    have x1 : 0 ≤ (b * 41023 + (c + 1) * 60101 + 7) % 2147483543 := Int.emod_nonneg _ (by decide)
    have x2 : (b * 41023 + (c + 1) * 60101 + 7) % 2147483543 < 2147483543 := Int.emod_lt_of_pos _ (by decide)
    generalize (b * 41023 + (c + 1) * 60101 + 7) % 2147483543 = x at *
    have y1 : 0 ≤ x % 6007 := Int.emod_nonneg _ (by decide)
    have y2 : x % 6007 < 6007 := Int.emod_lt_of_pos _ (by decide)
    refine ⟨mulOk_of (a := 31) (b := 16) (by omega) (by omega) (by decide), ?_⟩
    generalize (x * (x % 6007 + 20011)) % 2147483489 = z at *
    simp [gFdiv_small (i := z) (j := 211) (by decide) (by decide), gMod_pos h]
    exact ⟨Int.emod_nonneg _ l0, Int.emod_lt_of_pos _ h, a, x, c + 1, rfl, x1, x2, by omega, by omega⟩
theorem w_pickT {xs : List PyData} {s : Sto} {m : Nat} (v : Vs (m + 1) s) (h : 0 < xs.length) (hl : xs.length ≤ 1000) : WF f_law_pick [.s, .d (.tuple xs)] s fun r s' => ∃ x ∈ xs, r = .d x ∧ Vs m s' := by
  refine WF.body rfl ?_
  simp [m_law_pick]
  refine WF.use (w_take v (by omega) (by omega)) ?_
  rintro _ s' ⟨d, rfl, h1, h2, v'⟩
  obtain ⟨x, hx, e⟩ := atI_pick h1 h2
  simp [e]
  exact ⟨x, hx, rfl, v'⟩
end WW
namespace Dh
open PySem PySem.Spec L2 PySem.W
/-- a datum of numbers of at most B bits, so deep at most, of such a weight at most -/
structure Pn (B k w : Nat) (x : PyData) : Prop where
  nd : noDict x = true
  lay : PyData.canLay0 x = true
  dep : PyData.depth x ≤ k
  sh : PyData.showable x = true
  short : PyData.leavesShort (B + 1) x = true
  wt : PyData.bulk x ≤ w
theorem Pn.mono {B k k' w w' : Nat} {x : PyData} (h : Pn B k w x) (hk : k ≤ k' := by omega) (hw : w ≤ w' := by omega) : Pn B k' w' x := ⟨h.nd, h.lay, Nat.le_trans h.dep hk, h.sh, h.short, Nat.le_trans h.wt hw⟩
theorem int_text {i : Int} {B : Nat} (hB : 0 < B) (h : i.natAbs < 2 ^ B) : (PyData.shown (.int i)).length ≤ B + 1 := by
  have hl : i.natAbs.log2 < B := by
    by_cases z : i.natAbs = 0
    · rw [z]; simpa using hB
    · exact (Nat.log2_lt z).mpr h
  have e := int_text_length_le (a := i) hB hl
  show (Str.ofString (toString i)).length ≤ B + 1
  rw [ofString_length]
  exact e
theorem Pn.int0 {B : Nat} {i : Int} (hB : 0 < B) (hB2 : B ≤ 1900) (h : i.natAbs < 2 ^ B) : Pn B 0 0 (.int i) := by
  have hl : i.natAbs.log2 < B := by
    by_cases z : i.natAbs = 0
    · rw [z]; simpa using hB
    · exact (Nat.log2_lt z).mpr h
  refine ⟨rfl, rfl, Nat.le_refl _, ?_, ?_, ?_⟩
  · simp only [PyData.showable, decide_eq_true_eq]; omega
  · simp only [PyData.leavesShort, decide_eq_true_eq]
    exact int_text hB h
  · simp only [PyData.bulk]
    exact Nat.le_refl _
theorem Pn.int {B : Nat} {i : Int} (hB : 0 < B) (hB2 : B ≤ 1900) (h : i.natAbs < 2 ^ B) : Pn B 0 B (.int i) := (Pn.int0 hB hB2 h).mono
theorem all_nd : ∀ {xs : List PyData}, (∀ x ∈ xs, noDict x = true) → noDicts xs = true
  | [], _ => rfl
  | x :: xs, h => by
    simp only [noDicts, h x List.mem_cons_self, Bool.true_and]
    exact all_nd fun y hy => h y (List.mem_cons_of_mem _ hy)
theorem all_lay : ∀ {xs : List PyData}, (∀ x ∈ xs, PyData.canLay0 x = true) → PyData.canLayAll0 xs = true
  | [], _ => rfl
  | x :: xs, h => by
    simp only [PyData.canLayAll0, h x List.mem_cons_self, Bool.true_and]
    exact all_lay fun y hy => h y (List.mem_cons_of_mem _ hy)
theorem all_dep {k : Nat} : ∀ {xs : List PyData}, (∀ x ∈ xs, PyData.depth x ≤ k) → PyData.depthAll xs ≤ k
  | [], _ => Nat.zero_le _
  | x :: xs, h => by
    have a := h x List.mem_cons_self
    have b := all_dep fun y hy => h y (List.mem_cons_of_mem x hy)
    simp only [PyData.depthAll]; omega
theorem all_sh : ∀ {xs : List PyData}, (∀ x ∈ xs, PyData.showable x = true) → PyData.showableAll xs = true
  | [], _ => rfl
  | x :: xs, h => by
    simp only [PyData.showableAll, h x List.mem_cons_self, Bool.true_and]
    exact all_sh fun y hy => h y (List.mem_cons_of_mem _ hy)
theorem all_short {B : Nat} : ∀ {xs : List PyData}, (∀ x ∈ xs, PyData.leavesShort B x = true) → PyData.leavesShortAll B xs = true
  | [], _ => by simp [PyData.leavesShortAll]
  | x :: xs, h => by
    simp only [PyData.leavesShortAll, h x List.mem_cons_self, Bool.true_and]
    exact all_short fun y hy => h y (List.mem_cons_of_mem _ hy)
theorem all_wt {w : Nat} : ∀ {xs : List PyData}, (∀ x ∈ xs, PyData.bulk x ≤ w) → PyData.bulkAll xs ≤ xs.length * (w + 1)
  | [], _ => by simp [PyData.bulkAll]
  | x :: xs, h => by
    have a := h x List.mem_cons_self
    have b := all_wt fun y hy => h y (List.mem_cons_of_mem x hy)
    simp only [PyData.bulkAll, List.length_cons, Nat.add_mul]; omega
theorem Pn.tup {B k w n : Nat} {xs : List PyData} (h : ∀ x ∈ xs, Pn B k w x) (hn : xs.length ≤ n) : Pn B (k + 1) (n * (w + 1)) (.tuple xs) where
  nd := by simp only [noDict]; exact all_nd fun x hx => (h x hx).nd
  lay := by simp only [PyData.canLay0]; exact all_lay fun x hx => (h x hx).lay
  dep := by
    have := all_dep fun x hx => (h x hx).dep
    simp only [PyData.depth]; omega
  sh := by simp only [PyData.showable]; exact all_sh fun x hx => (h x hx).sh
  short := by simp only [PyData.leavesShort]; exact all_short fun x hx => (h x hx).short
  wt := by
    simp only [PyData.bulk]
    exact Nat.le_trans (all_wt fun x hx => (h x hx).wt) (Nat.mul_le_mul_right _ hn)
theorem Pn.lst {B k w n : Nat} {xs : List PyData} (h : ∀ x ∈ xs, Pn B k w x) (hn : xs.length ≤ n) : Pn B (k + 1) (n * (w + 1)) (.list xs) where
  nd := by simp only [noDict]; exact all_nd fun x hx => (h x hx).nd
  lay := by simp only [PyData.canLay0]; exact all_lay fun x hx => (h x hx).lay
  dep := by
    have := all_dep fun x hx => (h x hx).dep
    simp only [PyData.depth]; omega
  sh := by simp only [PyData.showable]; exact all_sh fun x hx => (h x hx).sh
  short := by simp only [PyData.leavesShort]; exact all_short fun x hx => (h x hx).short
  wt := by
    simp only [PyData.bulk]
    exact Nat.le_trans (all_wt fun x hx => (h x hx).wt) (Nat.mul_le_mul_right _ hn)
theorem Pn.q {B : Nat} {q : Rat} (hB : 0 < B) (hB2 : B ≤ 1900) (h : QLt B q) : Pn B 1 (2 * (B + 1)) (pQ q) :=
  Pn.tup (fun x hx => by
    simp at hx
    rcases hx with rfl | rfl
    · exact .int hB hB2 h.1
    · exact .int hB hB2 h.den') (Nat.le_refl _)
theorem Pn.eqOk {B k w : Nat} {x : PyData} (h : Pn B k w x) (hk : k ≤ 64) : Dh.eqOk x = true := by
  unfold Dh.eqOk SeqAt.shaped
  rw [h.nd, h.lay, decide_eq_true (Nat.le_trans h.dep hk)]
  rfl
theorem Pn.repr {B k w : Nat} {x : PyData} {r : R} (hx : rdD r = some x) (hs : isSeq x = true) (h : Pn B k w x) (hk : k ≤ 60) (hB : 8 ≤ B) (hw : (B + 3) * w + (B + 1) ≤ 16777216) : fRepr [r] = some (.d (.str (PyData.shown x))) := by
  have h1 : reprOk x = true := by
    unfold reprOk
    have l := PyData.shown_le_bulk (B + 1) (by omega) x h.short
    have l2 := Nat.mul_le_mul_left (B + 1 + 2) h.wt
    rw [show B + 1 + 2 = B + 3 by omega] at l l2
    rw [hs, h.nd, h.sh, decide_eq_true (Nat.le_trans h.dep hk), decide_eq_true (Nat.le_trans l (Nat.le_trans (by omega) (show 16777216 ≤ sizeLine by decide)))]
    rfl
  unfold fRepr
  dsimp only
  rw [hx]
  exact if_pos h1
theorem Pn.q0 {B : Nat} {q : Rat} (hB : 0 < B) (hB2 : B ≤ 1900) (h : QLt B q) : Pn B 1 2 (pQ q) :=
  Pn.tup (B := B) (k := 0) (w := 0) (n := 2) (xs := [.int q.num, .int (q.den : Int)]) (fun x hx => by
    simp at hx
    rcases hx with rfl | rfl
    · exact .int0 hB hB2 h.1
    · exact .int0 hB hB2 h.den') (Nat.le_refl _)
theorem Pn.qs0 {B n : Nat} {l : List Rat} (hB : 0 < B) (hB2 : B ≤ 1900) (h : ∀ q ∈ l, QLt B q) (hn : l.length ≤ n) : Pn B 2 (n * 3) (pQs l) :=
  Pn.tup (k := 1) (w := 2) (fun x hx => by obtain ⟨q, hq, rfl⟩ := List.mem_map.mp hx; exact .q0 hB hB2 (h q hq)) (by rw [List.length_map]; exact hn)
structure RDeed where
  ch : List (Nat × Rat)
  gs : List Rat
structure RHouse where
  share : Rat
  pays : Nat
  stands : List (List RDeed)
def pCh (c : Nat × Rat) : PyData := .tuple [.int (c.1 : Nat), pQ c.2]
def pDeed (d : RDeed) : PyData := .tuple [.tuple (d.ch.map pCh), pQs d.gs]
def pStand (st : List RDeed) : PyData := .tuple (st.map pDeed)
def pHouse (h : RHouse) : PyData := .tuple [pQ h.share, .int (h.pays : Nat), .tuple (h.stands.map pStand)]
structure ChOk (n : Nat) (cs : List (Nat × Rat)) : Prop where
  asc : cs.Pairwise fun a b => a.1 < b.1
  each : ∀ c ∈ cs, c.1 < n ∧ 0 < c.2 ∧ QLt 10 c.2
  one : qsum (cs.map (·.2)) = 1
  cd : ∃ S : Nat, 0 < S ∧ S < 2 ^ 9 ∧ ∀ c ∈ cs, CD S S c.2
structure DeedOk (n p : Nat) (d : RDeed) (g : Nat := 25) : Prop where
  ch : ChOk n d.ch
  len : d.gs.length = p
  gain : ∀ q ∈ d.gs, QLt g q
structure HouseOk (N D P : Nat) (h : RHouse) (g : Nat := 25) : Prop where
  s0 : 0 ≤ h.share
  s1 : h.share < 1
  sb : QLt 7 h.share
  p1 : 1 ≤ h.pays
  pP : h.pays ≤ P
  n1 : 1 ≤ h.stands.length
  nN : h.stands.length ≤ N
  each : ∀ st ∈ h.stands, 1 ≤ st.length ∧ st.length ≤ D ∧ ∀ d ∈ st, DeedOk h.stands.length h.pays d g
theorem asc_len : ∀ {n : Nat} {cs : List (Nat × Rat)} (m : Nat), cs.Pairwise (fun a b => a.1 < b.1) → (∀ c ∈ cs, m ≤ c.1 ∧ c.1 < n) → cs.length ≤ n - m
  | n, [], m, _, _ => Nat.zero_le _
  | n, c :: cs, m, h, hb => by
    rw [List.pairwise_cons] at h
    have a := hb c List.mem_cons_self
    have b := asc_len (c.1 + 1) h.2 fun x hx => ⟨h.1 x hx, (hb x (List.mem_cons_of_mem _ hx)).2⟩
    rw [List.length_cons]; omega
theorem ChOk.len {n : Nat} {cs : List (Nat × Rat)} (h : ChOk n cs) : cs.length ≤ n := by
  have := asc_len 0 h.asc fun c hc => ⟨Nat.zero_le _, (h.each c hc).1⟩
  omega
end Dh
namespace Dh
open PySem PySem.Spec L2 PySem.W
def iN (k : Nat) : PyData := .int (k : Int)
theorem ints_iN : ∀ ns : List Nat, intsOf (ns.map iN) = some (ns.map fun n : Nat => (n : Int))
  | [] => rfl
  | n :: ns => by
    rw [List.map_cons]
    show (intsOf (ns.map iN)).map _ = _
    rw [ints_iN ns]
    rfl
theorem sum_cast : ∀ ns : List Nat, (ns.map fun n : Nat => (n : Int)).sum = ((ns.sum : Nat) : Int)
  | [] => rfl
  | n :: ns => by rw [List.map_cons, List.sum_cons, List.sum_cons, sum_cast ns]; omega
theorem fSum_b {ns : List Nat} : fSum [.b (ns.map iN)] = some (.d (.int ((ns.sum : Nat) : Int))) := by
  show (match rdL (.b (ns.map iN)) with | some xs => (intsOf xs).map fun is : List Int => R.d (.int is.sum) | none => none) = _
  rw [ev_rdL3]
  dsimp only
  rw [ints_iN, Option.map_some, sum_cast]
theorem sum_le {b : Nat} : ∀ ns : List Nat, (∀ n ∈ ns, n ≤ b) → ns.sum ≤ ns.length * b
  | [], _ => by simp
  | n :: ns, h => by
    have a := h n List.mem_cons_self
    have c := sum_le ns fun x hx => h x (List.mem_cons_of_mem _ hx)
    rw [List.sum_cons, List.length_cons, Nat.add_mul]; omega
theorem le_sum : ∀ {ns : List Nat} {n : Nat}, n ∈ ns → n ≤ ns.sum
  | m :: ns, n, h => by
    rw [List.sum_cons]
    rcases List.mem_cons.mp h with rfl | h
    · omega
    · have := le_sum h; omega
theorem qsum_append {a b : List Rat} : qsum (a ++ b) = qsum a + qsum b := by
  induction b using snoc_ind with
  | nil => rw [List.append_nil]; simp [qsum]; grind
  | snoc b x ih => rw [← List.append_assoc, qsum_snoc, qsum_snoc, ih]; grind
theorem divInt_add {a b S : Int} : Rat.divInt a S + Rat.divInt b S = Rat.divInt (a + b) S := by
  rw [Rat.divInt_eq_div, Rat.divInt_eq_div, Rat.divInt_eq_div, Rat.intCast_add, Rat.div_def, Rat.div_def, Rat.div_def]
  grind
theorem CD_divInt {a S : Nat} (hS : 0 < S) (h : a ≤ S) : CD S S (Rat.divInt (a : Nat) (S : Nat)) := by
  refine ⟨a, ?_, by simpa using h⟩
  have e : (S : Rat) ≠ 0 := by rw [Ne, Rat.natCast_eq_zero_iff]; omega
  rw [Rat.divInt_eq_div, Rat.div_def, Rat.intCast_natCast, Rat.intCast_natCast, Rat.mul_comm, Rat.mul_assoc, Rat.inv_mul_cancel _ e, Rat.mul_one]
theorem qsum_cons {x : Rat} {l : List Rat} : qsum (x :: l) = x + qsum l := by
  rw [show x :: l = [x] ++ l from rfl, qsum_append]
  simp [qsum]
  grind
end Dh
namespace Dh
open PySem PySem.Spec L2 PySem.W
theorem bools_true {α : Type} : ∀ l : List α, boolsOf (l.map fun _ => PyData.bool true) = some (l.map fun _ => true)
  | [] => rfl
  | x :: l => by
    rw [List.map_cons]
    show (boolsOf (l.map fun _ => PyData.bool true)).map _ = _
    rw [bools_true l]
    rfl
theorem fAll_true {α : Type} {l : List α} : fAll [.f (l.map fun _ => PyData.bool true)] = some (.d (.bool true)) := by
  show (match rdL (.f (l.map fun _ => PyData.bool true)) with | some xs => (boolsOf xs).map fun bs : List Bool => R.d (.bool (bs.all id)) | none => none) = _
  rw [ev_rdL2]
  dsimp only
  rw [bools_true, Option.map_some]
  congr 3
  rw [List.all_eq_true]
  intro x hx
  obtain ⟨_, _, rfl⟩ := List.mem_map.mp hx
  rfl
theorem cutD_tail {xs : List PyData} : cutD xs (some 1) none = xs.drop 1 := by
  unfold cutD
  have h : HT.sIx xs.length 0 (some 1) = min 1 xs.length := by
    unfold HT.sIx
    cases xs with
    | nil => simp
    | cons x xs => simp; try omega
  have h2 : HT.sIx xs.length xs.length none = xs.length := by
    unfold HT.sIx
    rfl
  rw [h, h2]
  cases xs with
  | nil => rfl
  | cons x xs =>
    have : min 1 (x :: xs).length = 1 := by rw [List.length_cons]; omega
    rw [this]
    simp
theorem pw_tail {α : Type} {r : α → α → Prop} : ∀ {l : List α}, l.Pairwise r → ∀ p ∈ l.zip l.tail, r p.1 p.2
  | [], _, p, hp => by simp at hp
  | [x], _, p, hp => by simp at hp
  | x :: y :: l, h, p, hp => by
    rw [List.tail_cons, List.zip_cons_cons] at hp
    rcases List.mem_cons.mp hp with rfl | hp
    · exact (List.pairwise_cons.mp h).1 y List.mem_cons_self
    · exact pw_tail (List.pairwise_cons.mp h).2 p hp
@[simp] theorem ev_enum1 {x : R} : enum1 [x] = (itemsOf x).map numbered := rfl
end Dh
namespace WW
open PySem PySem.Spec L2 PySem.W Dh
theorem e_is_whole {i : Int} {s : Sto} : f_is_whole [.d (.int i)] s = some (.d (.bool true), s) := by
  refine WF.eq (WF.body rfl ?_)
  simp [m_is_whole]
theorem e_is_between {i lo hi : Int} {s : Sto} (h1 : lo ≤ i) (h2 : i ≤ hi) : f_is_between [.d (.int i), .d (.int lo), .d (.int hi)] s = some (.d (.bool true), s) := by
  refine WF.eq (WF.body rfl ?_)
  simp [m_is_between]
  refine WF.of e_is_whole ?_
  simp [h1, h2]
theorem e_is_tuple_of {xs : List PyData} {n : Int} {s : Sto} (h : (xs.length : Int) = n) : f_is_tuple_of [.d (.tuple xs), .d (.int n)] s = some (.d (.bool true), s) := by
  refine WF.eq (WF.body rfl ?_)
  simp [m_is_tuple_of, fEq_int, h]
theorem e_is_ratio {q : Rat} {s : Sto} : f_is_ratio [.d (pQ q)] s = some (.d (.bool true), s) := by
  refine WF.eq (WF.body rfl ?_)
  simp [m_is_ratio]
  refine WF.of (e_is_tuple_of rfl) ?_
  simp [pQ]
  refine WF.of e_is_whole ?_
  simp
  refine WF.of e_is_whole ?_
  have h := q.den_pos
  have r := q.reduced
  unfold Nat.Coprime at r
  simp [h, fEq_int, r]
theorem e_is_row {l : List Rat} {n : Int} {s : Sto} (h : (l.length : Int) = n) (hl : l.length ≤ 1000) : f_is_row [.d (pQs l), .d (.int n)] s = some (.d (.bool true), s) := by
  refine WF.eq (WF.body rfl ?_)
  simp [m_is_row, List.replicate_succ, pQs]
  refine WF.of (e_is_tuple_of (by rw [List.length_map]; exact h)) ?_
  simp
  refine WLc_map pQ (fun _ => PyData.bool true) l (fun x hx => ?_) ?_
  · simp
    exact WF.of e_is_ratio (by simp)
  · refine ⟨szle (by rw [List.length_map]; exact hl), ?_⟩
    simp [fAll_true]
end WW
namespace Dh
open PySem PySem.Spec L2 PySem.W
section
variable {ρ : Ev} {s : Sto} {i j : Nat} {QS : Out → Ev → Sto → Prop} {Q : R → Sto → Prop} {a : Mx} {as : Ma}
def par2fK (ρ : Ev) (i j : Nat) (rs : List R) : Option Ev := match rs with
  | [.f c, .f d] => some ((ρ.set i (some (.o c))).set j (some (.o d)))
  | _ => none
theorem mPar2f_eq {x : List R} {s1 : Sto} (e : as ρ s = some (x, s1)) : mPar2f i j as ρ s = (par2fK ρ i j x).map fun ρ1 => (.nx, ρ1, s1) := by
  unfold mPar2f par2fK
  rw [e]
  split
  · rename_i c d s2 e2
    cases e2
    rfl
  · rename_i h
    split
    · rename_i c d
      exact absurd rfl (h c d s1)
    · rfl
@[simp ↓] theorem ws_par2f : WS (mPar2f i j as) ρ s QS = WA as ρ s fun rs s1 => WO (par2fK ρ i j rs) fun ρ1 => QS .nx ρ1 s1 := by
  apply propext
  unfold WS WA WO
  constructor
  · rintro ⟨o, ρ', s', e, q⟩
    rcases h : as ρ s with _ | ⟨x, s1⟩
    · unfold mPar2f at e; rw [h] at e; cases e
    · rw [mPar2f_eq h] at e
      obtain ⟨ρ1, e1, e2⟩ := Option.map_eq_some_iff.mp e
      cases e2
      exact ⟨x, _, rfl, _, e1, q⟩
  · rintro ⟨x, s1, h, ρ1, e1, q⟩
    exact ⟨_, _, _, by rw [mPar2f_eq h, e1]; rfl, q⟩
@[simp] theorem par2fK_ff {x y : List PyData} : par2fK ρ i j [.f x, .f y] = some ((ρ.set i (some (.o x))).set j (some (.o y))) := rfl
def par3gK (ρ : Ev) (i j l : Nat) (rs : List R) : Option Ev := match rs with
  | [r, q, u] => match toCl r, toCl q, toCl u with
    | some c, some d, some f => some (((ρ.set i (some c)).set j (some d)).set l (some f))
    | _, _, _ => none
  | _ => none
theorem mPar3g_eq {l : Nat} {x : List R} {s1 : Sto} (e : as ρ s = some (x, s1)) : mPar3g i j l as ρ s = (par3gK ρ i j l x).map fun ρ1 => (.nx, ρ1, s1) := by
  unfold mPar3g par3gK
  rw [e]
  split
  · rename_i r q u s2 e2
    cases e2
    dsimp only
    rcases toCl r with _ | c
    · rfl
    · rcases toCl q with _ | d
      · rfl
      · rcases toCl u with _ | f
        · rfl
        · rfl
  · rename_i h
    split
    · rename_i r q u
      exact absurd rfl (h r q u s1)
    · rfl
@[simp ↓] theorem ws_par3g {l : Nat} : WS (mPar3g i j l as) ρ s QS = WA as ρ s fun rs s1 => WO (par3gK ρ i j l rs) fun ρ1 => QS .nx ρ1 s1 := by
  apply propext
  unfold WS WA WO
  constructor
  · rintro ⟨o, ρ', s', e, q⟩
    rcases h : as ρ s with _ | ⟨x, s1⟩
    · unfold mPar3g at e; rw [h] at e; cases e
    · rw [mPar3g_eq h] at e
      obtain ⟨ρ1, e1, e2⟩ := Option.map_eq_some_iff.mp e
      cases e2
      exact ⟨x, _, rfl, _, e1, q⟩
  · rintro ⟨x, s1, h, ρ1, e1, q⟩
    exact ⟨_, _, _, by rw [mPar3g_eq h, e1]; rfl, q⟩
@[simp] theorem ev_par3gK {l : Nat} {r q u : R} : par3gK ρ i j l [r, q, u] = (match toCl r, toCl q, toCl u with | some c, some d, some f => some (((ρ.set i (some c)).set j (some d)).set l (some f)) | _, _, _ => none) := rfl
/-- one item taken out -/
def popK (ρ : Ev) (i j : Nat) (k : Int) : Option Ev := match getC ρ i, getC ρ j with
  | some (.o xs), some (.o ys) => if i ≠ j ∧ xs.length < sizeLine ∧ 0 ≤ k ∧ k < 2 ^ 63 then match ys[k.toNat]? with
      | some y => some ((ρ.set j (some (.o (ys.eraseIdx k.toNat)))).set i (some (.o (xs ++ [y]))))
      | none => none
    else none
  | _, _ => none
theorem ws_appop_of {k : Int} {s1 : Sto} {ρ1 : Ev} (e : WX a ρ s fun r s2 => r = .d (.int k) ∧ s2 = s1) (h : popK ρ i j k = some ρ1) (q : QS .nx ρ1 s1) : WS (mApPop i j a) ρ s QS := by
  obtain ⟨r, s2, e1, rfl, rfl⟩ := e
  refine ⟨.nx, ρ1, s2, ?_, q⟩
  unfold mApPop
  rw [e1]
  dsimp only
  unfold popK at h
  split at h
  · rename_i xs ys hx hy
    rw [of_getC hx, of_getC hy]
    dsimp only
    split at h
    · rename_i hz
      rw [if_pos hz]
      split at h
      · rename_i y e3
        cases h
        simp [e3]
      · cases h
    · cases h
  · cases h
end
/-- the same, from what the index is -/
theorem ws_appop {ρ : Ev} {s : Sto} {i j : Nat} {QS : Out → Ev → Sto → Prop} {a : Mx} : WS (mApPop i j a) ρ s QS ↔ WX a ρ s fun r s1 => ∃ k : Int, r = .d (.int k) ∧ WO (popK ρ i j k) fun ρ1 => QS .nx ρ1 s1 := by
  constructor
  · rintro ⟨o, ρ', s', e, q⟩
    unfold mApPop at e
    split at e
    · rename_i k s1 e1
      split at e
      · rename_i xs ys hx hy
        split at e
        · rename_i hz
          split at e
          · rename_i y e3
            cases e
            refine ⟨_, _, e1, k, rfl, _, ?_, q⟩
            unfold popK
            rw [getC_of hx, getC_of hy]
            dsimp only
            rw [if_pos hz, e3]
          · cases e
        · cases e
      · cases e
    · cases e
  · rintro ⟨r, s1, e1, k, rfl, ρ1, e2, q⟩
    exact ws_appop_of ⟨_, _, e1, rfl, rfl⟩ e2 q
theorem fLrg_nat {n : Nat} (h : n ≤ 1000) : fLrg (.d (.int (n : Int))) = some (.f ((List.range n).map iN)) := by
  show (if -(2 ^ 62) ≤ (n : Int) ∧ (n : Int) ≤ 2 ^ 24 then some (R.f (rangeL 0 (n : Int).toNat)) else none) = _
  rw [if_pos ⟨by omega, by omega⟩]
  unfold rangeL
  rw [Int.toNat_natCast]
  congr 2
  exact List.map_congr_left fun i _ => by simp [iN]
theorem fMaxL_eq {r : R} {ns : List Nat} {M : Nat} (hr : rdQ r = some (ns.map iN)) (hm : M ∈ ns) (hle : ∀ k ∈ ns, k ≤ M) : fMaxL [r] = some (.d (.int (M : Int))) := by
  have e : maxI (ns.map fun n : Nat => (n : Int)) = (M : Int) := (maxI_eq (List.mem_map.mpr ⟨M, hm, rfl⟩) fun y hy => by
    obtain ⟨k, hk, rfl⟩ := List.mem_map.mp hy
    have := hle k hk
    omega).symm
  show (match rdQ r with | some xs => (match intsOf xs with | some ns => if 0 < ns.length then some (R.d (PyData.int (maxI ns))) else none | none => none) | none => none) = _
  rw [hr]
  dsimp only
  rw [ints_iN]
  dsimp only
  rw [if_pos (by rw [List.length_map]; exact List.length_pos_of_mem hm), e]
end Dh
namespace Dh
open PySem PySem.Spec L2 PySem.W
theorem cut_to {xs : List PyData} {k : Nat} : cutD xs none (some (k : Int)) = xs.take k := by
  unfold cutD
  rw [HT.sIx_none, HT.sIx_nat, List.drop_zero, Nat.sub_zero]
  by_cases h : k ≤ xs.length
  · rw [Nat.min_eq_left h]
  · rw [Nat.min_eq_right (by omega), List.take_of_length_le (by omega), List.take_of_length_le (by omega)]
theorem erase_perm {α : Type} : ∀ {l : List α} {i : Nat} {x : α}, l[i]? = some x → (x :: l.eraseIdx i).Perm l
  | [], _, _, h => by simp at h
  | y :: l, 0, x, h => by simp at h; subst h; exact List.Perm.refl _
  | y :: l, i + 1, x, h => by
    simp at h
    rw [List.eraseIdx_cons_succ]
    exact (List.Perm.swap y x _).trans ((erase_perm (by simpa using h)).cons y)
theorem erase_map {α β : Type} (f : α → β) : ∀ (l : List α) (i : Nat), (l.map f).eraseIdx i = (l.eraseIdx i).map f
  | [], _ => by simp
  | x :: l, 0 => by simp
  | x :: l, i + 1 => by simp [erase_map f l i]
theorem popK_eq {a b x4 : Option Cl} {left found : List Nat} {e : Nat} (he : e < left.length) (hl : left.length ≤ 1000) (hf : found.length ≤ 1000) :
    popK [a, b, some (.o (left.map iN)), some (.o (found.map iN)), x4] 3 2 (e : Int) = some [a, b, some (.o ((left.eraseIdx e).map iN)), some (.o ((found ++ [left.getD e 0]).map iN)), x4] := by
  have h1 : (left.map iN)[e]? = some (iN (left.getD e 0)) := by rw [List.getElem?_map, List.getD_eq_getElem?_getD, List.getElem?_eq_getElem he]; rfl
  show (if (3 : Nat) ≠ 2 ∧ (found.map iN).length < sizeLine ∧ 0 ≤ (e : Int) ∧ (e : Int) < 2 ^ 63 then (match (left.map iN)[(e : Int).toNat]? with
      | some y => some ((([a, b, some (Cl.o (left.map iN)), some (.o (found.map iN)), x4] : Ev).set 2 (some (.o ((left.map iN).eraseIdx (e : Int).toNat)))).set 3 (some (.o (found.map iN ++ [y]))))
      | none => none) else none) = _
  rw [if_pos ⟨by decide, by rw [List.length_map]; exact szlt hf, by omega, by omega⟩, Int.toNat_natCast, h1]
  simp [List.map_append, erase_map]
theorem QLt_int {k : Nat} {z : Int} (h : z.natAbs < 2 ^ k) (hk : k ≠ 0 := by decide) : QLt k (z : Rat) := ⟨by rw [Rat.num_intCast]; exact h, by rw [Rat.den_intCast]; exact Nat.one_lt_two_pow hk⟩
theorem pQ_int {z : Int} : PyData.tuple [.int z, .int 1] = pQ (z : Rat) := by simp [pQ]
/-- a gain: small, over 84 -/
def Gn (q : Rat) : Prop := QLt 70 q ∧ CD 84 (2 ^ 77) q
theorem Gn.of {q : Rat} (h : QLt 70 q) (d : (q.den : Int) ∣ 84) : Gn q := by
  refine ⟨h, ?_⟩
  obtain ⟨e, he⟩ := d
  have e0 : 0 < e := by
    have := q.den_pos
    rcases Int.lt_trichotomy e 0 with a | a | a
    · have : (q.den : Int) * e < 0 := Int.mul_neg_of_pos_of_neg (by omega) a
      omega
    · subst a; omega
    · exact a
  have eb : e ≤ 84 := by
    have := Int.mul_le_mul_of_nonneg_right (show (1 : Int) ≤ q.den by have := q.den_pos; omega) (Int.le_of_lt e0)
    omega
  refine ⟨q.num * e, ?_, ?_⟩
  · have a := El.den_mul_self q
    have b : ((84 : Nat) : Rat) = (q.den : Rat) * (e : Rat) := by
      rw [show ((84 : Nat) : Rat) = ((84 : Int) : Rat) from rfl, he, Rat.intCast_mul, Rat.intCast_natCast]
    rw [b, Rat.intCast_mul, ← a]
    grind
  · rw [Int.natAbs_mul]
    have h1 := h.1
    have h2 : e.natAbs ≤ 84 := by omega
    have := Nat.mul_le_mul (Nat.le_of_lt h1) h2
    exact Nat.le_trans this (by decide)
theorem den_dvd84 {a b : Int} (h : 0 < b) (hd : b ∣ 84) : ((Rat.divInt a b).den : Int) ∣ 84 := by
  refine Int.dvd_trans ?_ hd
  rw [divInt_den h]
  exact Int.ediv_dvd_of_dvd (Int.ofNat_dvd_left.mpr (Nat.gcd_dvd_right _ _))
theorem Gn_divInt {a b : Int} (h : 0 < b) (hd : b ∣ 84) (q : QLt 70 (Rat.divInt a b)) : Gn (Rat.divInt a b) := .of q (den_dvd84 h hd)
theorem Gn_int {z : Int} (h : z.natAbs < 2 ^ 70) : Gn (z : Rat) := .of (QLt_int h) (by rw [Rat.den_intCast]; exact ⟨84, rfl⟩)
end Dh
namespace WW
open PySem PySem.Spec L2 PySem.W Dh
theorem w_shuffled {n : Nat} {s : Sto} {m : Nat} (hn : n ≤ 100) (v : Vs (m + n) s) : WF f_law_shuffled [.s, .d (.int (n : Int))] s fun r s' => ∃ l : List Nat, r = .f (l.map iN) ∧ l.Perm (List.range n) ∧ Vs m s' := by
  refine WF.body rfl ?_
  simp [m_law_shuffled, List.replicate_succ, fLrg_nat (n := n) (by omega), range1_nat (n := n) (by omega)]
  refine WFor_inv (fun i : Nat => PyData.int i) (List.range n) (fun i ρ s' => ∃ (left found : List Nat) (x4 : Option Cl), ρ = [some .s, some (.d (.int (n : Int))), some (.o (left.map iN)), some (.o (found.map iN)), x4] ∧ left.length = n - i ∧ found.length = i ∧ (found ++ left).Perm (List.range n) ∧ Vs (m + (n - i)) s')
    ⟨List.range n, [], none, rfl, by simp, rfl, List.Perm.refl _, v⟩ ?_ ?_
  · rintro i x ρ s' hx ⟨left, found, x4, rfl, hl, hf, hp, v⟩
    obtain ⟨rfl, hi⟩ := range_at hx
    simp
    refine ws_appop.mpr ?_
    simp
    refine WF.use (w_take (m := m + (n - (x + 1))) v.mono (by omega) (by omega)) ?_
    rintro _ s1 ⟨d, rfl, g1, g2, v1⟩
    obtain ⟨e, rfl⟩ := Int.eq_ofNat_of_zero_le g1
    have he : e < left.length := by omega
    simp
    rw [popK_eq he (by omega) (by omega), WO_some]
    have hz : left[e]? = some (left.getD e 0) := by rw [List.getD_eq_getElem?_getD, List.getElem?_eq_getElem he]; rfl
    refine ⟨left.eraseIdx e, found ++ [left.getD e 0], _, rfl, by rw [List.length_eraseIdx_of_lt he]; omega, by simp [hf], ?_, v1⟩
    rw [List.append_assoc]
    exact ((erase_perm hz).append_left found).trans hp
  · rintro ρ s' ⟨left, found, x4, rfl, hl, hf, hp, v⟩
    rw [List.length_range] at hl hf v
    have : left = [] := List.eq_nil_of_length_eq_zero (by omega)
    subst this
    rw [List.append_nil] at hp
    simp
    exact ⟨found, rfl, hp, v.mono⟩
theorem w_share {s : Sto} {m : Nat} (v : Vs (m + 3) s) : WF f_law_share [.s] s fun r s' => ∃ q : Rat, r = .d (pQ q) ∧ 0 ≤ q ∧ q < 1 ∧ QLt 7 q ∧ Vs m s' := by
  refine WF.body rfl ?_
  simp [m_law_share, List.replicate_succ]
  refine WF.use (w_take (m := m + 2) v (by decide) (by decide)) ?_
  rintro _ s1 ⟨d, rfl, h1, h2, v1⟩
  simp [fEq_int]
  by_cases hd : d = 0
  · simp [hd, sz2]
    exact ⟨⟨99, 100, by decide, by decide⟩, rfl, by decide, by decide, ⟨by decide, by decide⟩, v1.mono⟩
  · simp [hd, szle (show 12 ≤ 1000 by decide)]
    refine WF.use (w_pickT (m := m + 1) v1 (by decide) (by decide)) ?_
    rintro _ s2 ⟨x, hx, rfl, v2⟩
    obtain ⟨k, rfl, hk⟩ : ∃ k : Int, x = .int k ∧ 0 ≤ k ∧ k ≤ 4 := by
      simp only [List.mem_cons, List.not_mem_nil, or_false] at hx
      rcases hx with rfl | rfl | rfl | rfl | rfl | rfl | rfl | rfl | rfl | rfl | rfl | rfl <;> exact ⟨_, rfl, by decide, by decide⟩
    simp
    refine WF.use (w_take (m := m) v2 (by decide) (by decide)) ?_
    rintro _ s3 ⟨t, rfl, h5, h6, v3⟩
    simp
    refine WF.of (e_frac0 (by omega) (lt_monoB (a := 6) (by omega) (by decide))) ?_
    simp
    refine ⟨Rat.divInt k (k + 1 + t), rfl, Rat.divInt_nonneg hk.1 (by omega), ?_, QLt_divInt (by omega) (by omega) (by omega), v3⟩
    rw [Rat.divInt_eq_div, Rat.div_lt_iff (Rat.intCast_pos.mpr (by omega)), Rat.one_mul]
    exact Rat.intCast_lt_intCast.mpr (by omega)
theorem w_number {s : Sto} {m : Nat} (v : Vs (m + 5) s) : WF f_law_number [.s] s fun r s' => ∃ q : Rat, r = .d (pQ q) ∧ Gn q ∧ Vs m s' := by
  have gp : gPow 10 20 = some (.int 100000000000000000000) := by
    show (if _ then _ else _) = _
    rw [if_pos (by decide)]
    rfl
  refine WF.body rfl ?_
  simp [m_law_number, List.replicate_succ]
  refine WF.use (w_take (m := m + 4) v (by decide) (by decide)) ?_
  rintro _ s1 ⟨d, rfl, h1, h2, v1⟩
  simp [fEq_int]
  have last : ∀ {s2 : Sto}, Vs (m + 1) s2 → WF f_law_take [.s, .d (.int 6)] s2 fun r s3 => ∃ d : Int, r = .d (.int d) ∧ 0 ≤ d ∧ d < 6 ∧ Vs m s3 := fun v => w_take (l := 6) v (by decide) (by decide)
  by_cases hd : d = 0
  · simp [hd]
    refine WF.use (w_take (m := m + 3) v1 (by decide) (by decide)) ?_
    rintro _ s2 ⟨t, rfl, h3, h4, v2⟩
    simp
    refine WF.use (w_take (m := m + 2) v2 (by decide) (by decide)) ?_
    rintro _ s3 ⟨u, rfl, h5, h6, v3⟩
    simp
    refine WF.of (e_frac0 (by omega) (lt_monoB (a := 6) (by omega) (by decide))) ?_
    simp
    exact ⟨_, rfl, Gn_divInt (by omega) (by
      have : u = 0 ∨ u = 1 ∨ u = 2 := by omega
      rcases this with rfl | rfl | rfl <;> decide) (QLt_divInt (by omega) (by omega) (by omega)), v3.mono⟩
  · simp [hd]
    by_cases hd1 : d = 1
    · simp [hd1, fEq_int]
      refine WF.use (w_take (m := m + 3) v1 (by decide) (by decide)) ?_
      rintro _ s2 ⟨t, rfl, h3, h4, v2⟩
      simp [fEq_int]
      by_cases ht : t = 0
      · simp [ht]
        refine WF.use (w_take (m := m + 2) v2 (by decide) (by decide)) ?_
        rintro _ s3 ⟨u, rfl, h5, h6, v3⟩
        have q1 : mulOk u 2 = true := mulOk_of (a := 2) (b := 2) (by omega) (by decide) (by decide)
        simp [gp, fMul_ok q1]
        refine WF.use (w_take (m := m + 1) v3 (by decide) (by decide)) ?_
        rintro _ s4 ⟨w, rfl, h7, h8, v4⟩
        have q2 : mulOk (u * 2 - 1) (100000000000000000000 + w) = true := mulOk_of (a := 2) (b := 68) (by omega) (by omega) (by decide)
        simp [fMul_ok q2]
        refine WF.of (e_frac0 (by decide) (by decide)) ?_
        simp
        refine ⟨_, rfl, Gn_divInt (by decide) (by decide) (QLt_divInt (by decide) ?_ (by decide)), v4.mono⟩
        have : u = 0 ∨ u = 1 := by omega
        rcases this with rfl | rfl <;> omega
      · simp [ht]
        refine WF.use (last v2.mono) ?_
        rintro _ s3 ⟨u, rfl, h5, h6, v3⟩
        simp [sz2]
        exact ⟨_, pQ_int, Gn_int (by omega), v3⟩
    · simp [hd1, fEq_int]
      refine WF.use (last v1.mono) ?_
      rintro _ s3 ⟨u, rfl, h5, h6, v3⟩
      simp [sz2]
      exact ⟨_, pQ_int, Gn_int (by omega), v3⟩
theorem w_gains {p : Nat} {s : Sto} {m : Nat} (hp : p ≤ 100) (v : Vs (m + 5 * p) s) : WF f_law_gains [.s, .d (.int (p : Int))] s fun r s' => ∃ l : List Rat, r = .d (pQs l) ∧ l.length = p ∧ (∀ q ∈ l, Gn q) ∧ Vs m s' := by
  refine WF.body rfl ?_
  simp [m_law_gains, List.replicate_succ, range1_nat (n := p) (by omega)]
  refine WFor_inv (fun i : Nat => PyData.int i) (List.range p) (fun i ρ s' => ∃ (l : List Rat) (c : Option Cl), ρ = [some .s, some (.d (.int (p : Int))), some (.o (l.map pQ)), c] ∧ l.length = i ∧ (∀ q ∈ l, Gn q) ∧ Vs (m + 5 * (p - i)) s') ⟨[], none, rfl, rfl, by simp, v⟩ ?_ ?_
  · rintro i x ρ s' hx ⟨l, c, rfl, hl, hq, v⟩
    obtain ⟨rfl, hi⟩ := range_at hx
    simp
    refine WF.use (w_number (m := m + 5 * (p - (x + 1))) (v.mono)) ?_
    rintro _ s1 ⟨q, rfl, h1, v1⟩
    simp [hl, szlt (show x ≤ 1000 by omega)]
    exact ⟨l ++ [q], by simp, by simp [hl], fun z hz => by
      rcases List.mem_append.mp hz with h | h
      · exact hq z h
      · rw [List.mem_singleton.mp h]; exact h1, v1⟩
  · rintro ρ s' ⟨l, c, rfl, hl, hq, v⟩
    simp
    rw [List.length_range] at hl v
    exact ⟨l, rfl, hl, hq, v.mono⟩
theorem w_lot {n : Nat} {s : Sto} {m : Nat} (h1 : 1 ≤ n) (h9 : n ≤ 9) (v : Vs (m + n + 1) s) : WF f_law_lot [.s, .d (.int (n : Int))] s fun r s' => ∃ ns : List Nat, r = .f (ns.map iN) ∧ ns.length = n ∧ (∀ k ∈ ns, k ≤ 3) ∧ 0 < ns.sum ∧ Vs m s' := by
  refine WF.body rfl ?_
  simp [m_law_lot, List.replicate_succ, range1_nat (n := n) (by omega)]
  refine WFor_inv (fun i : Nat => PyData.int i) (List.range n) (fun i ρ s' => ∃ (ns : List Nat) (c : Option Cl), ρ = [some .s, some (.d (.int (n : Int))), some (.o (ns.map iN)), c] ∧ ns.length = i ∧ (∀ k ∈ ns, k ≤ 3) ∧ Vs (m + 1 + (n - i)) s') ⟨[], none, rfl, rfl, by simp, v.mono⟩ ?_ ?_
  · rintro i x ρ s' hx ⟨ns, c, rfl, hl, hq, v⟩
    obtain ⟨rfl, hi⟩ := range_at hx
    simp [szle (show 6 ≤ 1000 by decide)]
    refine WF.use (w_take (m := m + 1 + (n - (x + 1))) v.mono (by decide) (by decide)) ?_
    rintro _ s1 ⟨d, rfl, g1, g2, v1⟩
    have key : ∃ k : Nat, atI [PyData.int 0, .int 1, .int 1, .int 2, .int 0, .int 3] d = some (iN k) ∧ k ≤ 3 := by
      obtain ⟨e, he, e2⟩ := atI_pick (xs := [PyData.int 0, .int 1, .int 1, .int 2, .int 0, .int 3]) g1 (by simpa using g2)
      rw [e2]
      simp at he
      rcases he with rfl | rfl | rfl | rfl | rfl | rfl <;> first | exact ⟨0, rfl, by omega⟩ | exact ⟨1, rfl, by omega⟩ | exact ⟨2, rfl, by omega⟩ | exact ⟨3, rfl, by omega⟩
    obtain ⟨k, e, hk⟩ := key
    simp [e, hl, szlt (show x ≤ 1000 by omega)]
    exact ⟨ns ++ [k], by simp, by simp [hl], fun z hz => by
      rcases List.mem_append.mp hz with h | h
      · exact hq z h
      · rw [List.mem_singleton.mp h]; exact hk, v1⟩
  · rintro ρ s' ⟨ns, c, rfl, hl, hq, v⟩
    rw [List.length_range] at hl v
    obtain ⟨M, hM, hle, e⟩ : ∃ M ∈ ns, (∀ k ∈ ns, k ≤ M) ∧ fMaxL [.b (ns.map iN)] = some (.d (.int (M : Int))) := by
      have hne : (ns.map fun n : Nat => (n : Int)).length > 0 := by rw [List.length_map]; omega
      obtain ⟨M, hM, e⟩ := List.mem_map.mp (maxI_mem hne)
      have hle : ∀ k ∈ ns, k ≤ M := fun k hk => by
        have : (k : Int) ≤ maxI (ns.map fun n : Nat => (n : Int)) := maxI_ge (k : Int) (List.mem_map.mpr ⟨k, hk, rfl⟩)
        omega
      exact ⟨M, hM, hle, fMaxL_eq rfl hM hle⟩
    simp [e, fEq_int]
    by_cases hz : M = 0
    · simp [hz]
      refine WF.use (w_take (m := m) v.mono (by omega) (by omega)) ?_
      rintro _ s1 ⟨d, rfl, g1, g2, v1⟩
      obtain ⟨e, rfl⟩ := Int.eq_ofNat_of_zero_le g1
      have he : e < ns.length := by omega
      simp [Dh.putL, ixN_ofNat (n := ns.length) he]
      refine ⟨ns.set e 1, by rw [List.map_set]; rfl, by simp [hl], fun k hk => ?_, ?_, v1⟩
      · rcases List.mem_or_eq_of_mem_set hk with h | h
        · exact hq k h
        · omega
      · have : 1 ∈ ns.set e 1 := List.mem_set he 1
        have := le_sum this
        omega
    · simp [hz]
      have := le_sum hM
      exact ⟨ns, rfl, hl, hq, by omega, v.mono⟩
end WW
namespace Dh
open PySem PySem.Spec L2 PySem.W
theorem sort_nat (l : List Nat) : ∃ T : List Nat, T.Perm l ∧ T.Pairwise (· ≤ ·) := by
  refine ⟨l.mergeSort (fun a b => decide (a ≤ b)), List.mergeSort_perm l _, ?_⟩
  have := List.pairwise_mergeSort (le := fun a b : Nat => decide (a ≤ b)) (fun a b c h1 h2 => by simp at *; omega) (fun a b => by simp; omega) l
  exact this.imp fun h => by simpa using h
theorem sortI_nat {l F : List Nat} (hp : F.Perm l) (hs : F.Pairwise (· ≤ ·)) : PySem.W.sortI (l.map fun n : Nat => (n : Int)) = F.map fun n : Nat => (n : Int) :=
  (PySem.W.eq_sortI (hp.map _) (by
    rw [List.pairwise_map]
    exact hs.imp fun h => by omega)).symm
theorem fSorted_f {l F : List Nat} (hp : F.Perm l) (hs : F.Pairwise (· ≤ ·)) : fSorted [.f (l.map iN)] = some (.f (F.map iN)) := by
  show (match rdL (.f (l.map iN)) with | some xs => (intsOf xs).map fun ns => R.f ((PySem.W.sortI ns).map PyData.int) | none => none) = _
  rw [show rdL (.f (l.map iN)) = some (l.map iN) from rfl]
  dsimp only
  rw [ints_iN, Option.map_some, sortI_nat hp hs, List.map_map]
  rfl
theorem le_lt {l : List Nat} (h : l.Pairwise (· ≤ ·)) (hn : l.Nodup) : l.Pairwise (· < ·) := by
  have := List.Pairwise.and h hn
  exact this.imp fun h => by have := h.1; have := h.2; omega
end Dh
namespace Dh
open PySem PySem.Spec L2 PySem.W
end Dh
namespace Dh
open PySem PySem.Spec L2 PySem.W
section
variable {ρ : Ev} {s : Sto} {i j : Nat} {QS : Out → Ev → Sto → Prop} {Q : R → Sto → Prop} {a : Mx} {as : Ma}
def par2gK (ρ : Ev) (i j : Nat) (rs : List R) : Option Ev := match rs with
  | [r, q] => match toCl r, toCl q with
    | some c, some d => some ((ρ.set i (some c)).set j (some d))
    | _, _ => none
  | _ => none
theorem mPar2g_eq {x : List R} {s1 : Sto} (e : as ρ s = some (x, s1)) : mPar2g i j as ρ s = (par2gK ρ i j x).map fun ρ1 => (.nx, ρ1, s1) := by
  unfold mPar2g par2gK
  rw [e]
  split
  · rename_i r q s2 e2
    cases e2
    dsimp only
    rcases toCl r with _ | c
    · rfl
    · rcases toCl q with _ | d
      · rfl
      · rfl
  · rename_i h
    split
    · rename_i r q
      exact absurd rfl (h r q s1)
    · rfl
@[simp ↓] theorem ws_par2g : WS (mPar2g i j as) ρ s QS = WA as ρ s fun rs s1 => WO (par2gK ρ i j rs) fun ρ1 => QS .nx ρ1 s1 := by
  apply propext
  unfold WS WA WO
  constructor
  · rintro ⟨o, ρ', s', e, q⟩
    rcases h : as ρ s with _ | ⟨x, s1⟩
    · unfold mPar2g at e; rw [h] at e; cases e
    · rw [mPar2g_eq h] at e
      obtain ⟨ρ1, e1, e2⟩ := Option.map_eq_some_iff.mp e
      cases e2
      exact ⟨x, _, rfl, _, e1, q⟩
  · rintro ⟨x, s1, h, ρ1, e1, q⟩
    exact ⟨_, _, _, by rw [mPar2g_eq h, e1]; rfl, q⟩
@[simp] theorem par2gK_ff {x y : List PyData} : par2gK ρ i j [.f x, .f y] = some ((ρ.set i (some (.o x))).set j (some (.o y))) := rfl
@[simp] theorem par2gK_df {x : PyData} {y : List PyData} : par2gK ρ i j [.d x, .f y] = some ((ρ.set i (some (.d x))).set j (some (.o y))) := rfl
@[simp] theorem par2gK_fd {x : List PyData} {y : PyData} : par2gK ρ i j [.f x, .d y] = some ((ρ.set i (some (.o x))).set j (some (.d y))) := rfl
@[simp] theorem par2gK_dd {x y : PyData} : par2gK ρ i j [.d x, .d y] = some ((ρ.set i (some (.d x))).set j (some (.d y))) := rfl
end
end Dh
namespace Dh
open PySem PySem.Spec L2 PySem.W
section
variable {ρ : Ev} {s : Sto} {QT : Bool → Sto → Prop} {tc ta tb : Mt}
theorem ev_mTIf : mTIf tc ta tb ρ s = (match tc ρ s with | some (true, s1) => ta ρ s1 | some (false, s1) => tb ρ s1 | none => none) := by
  unfold mTIf bnd
  rcases tc ρ s with _ | ⟨_ | _, s1⟩ <;> rfl
@[simp ↓] theorem wt_if : WT (mTIf tc ta tb) ρ s QT = WT tc ρ s fun k s1 => IfK k (WT ta ρ s1 QT) (WT tb ρ s1 QT) := by
  apply propext
  unfold WT
  rw [ev_mTIf]
  rcases tc ρ s with _ | ⟨_ | _, s1⟩ <;> simp
end
end Dh
namespace Dh
open PySem PySem.Spec L2
section
variable {ρ : Ev} {s : Sto} {i : Nat} {Q : R → Sto → Prop} {QA : List R → Sto → Prop} {a : Mx} {as : Ma} {ta : Mt} {it : Mi} {g : Gx} {vs : List Nat}
@[simp ↓] theorem wa_star : WA (maStar a as) ρ s QA = WX a ρ s fun x s1 => WA as ρ s1 fun xs s2 => WO (starR x xs) fun zs => QA zs s2 := by
  unfold WA WX maStar
  simp only [wbnd]
  apply propext
  unfold WO
  constructor
  · rintro ⟨x, s1, e1, xs, s2, e2, r, s', e3, q⟩
    obtain ⟨zs, ez, e3⟩ := Option.map_eq_some_iff.mp e3
    cases e3
    exact ⟨x, s1, e1, xs, s2, e2, _, ez, q⟩
  · rintro ⟨x, s1, e1, xs, s2, e2, zs, ez, q⟩
    exact ⟨x, s1, e1, xs, s2, e2, zs, s2, by rw [ez]; rfl, q⟩
@[simp] theorem starR_t {ys : List PyData} {xs : List R} : starR (.d (.tuple ys)) xs = some (ys.map R.d ++ xs) := rfl
@[simp] theorem rdCl_m8 {acc : List (Key × PyData)} : rdCl (.m acc) = .n acc := rfl
@[simp] theorem toCl_m8 {acc : List (Key × PyData)} : toCl (.m acc) = some (.m acc) := rfl
def ownM8 (c : Cl) : Option (List (Key × PyData)) := match c with | .m acc => some acc | _ => none
@[simp] theorem ownM8_m {acc : List (Key × PyData)} : ownM8 (.m acc) = some acc := rfl
@[simp ↓] theorem wx_lcK {e : Mx} : WX (mLcK i vs g ta e) ρ s Q = WO (getC ρ i) fun c => WO (ownM8 c) fun acc => oneM ρ i = true ∧ WLc vs g ta e (acc.map fun p => kP p.1) (ρ.set i none) s fun ys s2 => (ys.length ≤ sizeLine ∧ noDicts ys = true) ∧ Q (.f ys) s2 := by
  apply propext
  unfold WX WO WLc mLcK
  constructor
  · rintro ⟨r, s', e1, q⟩
    split at e1
    · rename_i acc hi
      split at e1
      · rename_i one
        split at e1
        · rename_i ys s2 e2
          split at e1
          · rename_i hz
            cases e1
            exact ⟨_, getC_of hi, acc, rfl, one, ys, _, e2, hz, q⟩
          · cases e1
        · cases e1
      · cases e1
    · cases e1
  · rintro ⟨c, hc, acc, ha, one, ys, s2, e2, hz, q⟩
    have hi := of_getC hc
    cases c with
    | m acc' =>
      cases ha
      exact ⟨.f ys, s2, by simp only [hi]; rw [if_pos one, e2]; dsimp only; rw [if_pos hz], q⟩
    | _ => cases ha
@[simp] theorem fGetM_i {acc : List (Key × PyData)} {k : Int} {x : PyData} : fGetM (.n acc) (.d (.int k)) (.d x) = some (.d ((valP acc (.inl k)).getD x)) := rfl
def WLc3 (vs vs1 vs2 : List Nat) (g : Gx) (t : Mt) (it1 : Mi) (g1 : Gx) (t1 : Mt) (it2 : Mi) (g2 : Gx) (t2 : Mt) (e : Mx) (xs : List PyData) (ρ : Ev) (s : Sto) (Q : List PyData → Sto → Prop) (_t : Tg (vs, vs1, vs2, g, t, it1, g1, t1, it2, g2, t2, e, Q) := .mk) : Prop := ∃ ys s', lcRun3 vs vs1 vs2 g t it1 g1 t1 it2 g2 t2 e xs ρ s = some (ys, s') ∧ Q ys s'
@[simp ↓] theorem wx_lc3 {vs1 vs2 : List Nat} {g1 g2 : Gx} {it1 it2 : Mi} {t1 t2 : Mt} {e : Mx} : WX (mLc3 it vs g ta it1 vs1 g1 t1 it2 vs2 g2 t2 e) ρ s Q = WI it ρ s fun xs s1 => WLc3 vs vs1 vs2 g ta it1 g1 t1 it2 g2 t2 e xs ρ s1 fun ys s2 => ys.length ≤ sizeLine ∧ Q (.f ys) s2 := by
  apply propext
  unfold WX WLc3 WI mLc3
  rcases it ρ s with _ | ⟨xs, s1⟩
  · simp
  · dsimp only
    rcases h : lcRun3 vs vs1 vs2 g ta it1 g1 t1 it2 g2 t2 e xs ρ s1 with _ | ⟨ys, s2⟩
    · simp [h]
    · dsimp only
      by_cases hl : ys.length ≤ sizeLine <;> simp [hl, h]
end
/-- the dict of pairs with unlike keys -/
theorem fDictP_new {α : Type} {f : α → PyData} {kf : α → Key} {vf : α → PyData} (hf : ∀ x, pairP (f x) = some (kf x, vf x)) : ∀ {l : List α}, (l.map kf).Nodup → fDictP [.d (.tuple (l.map f))] = some (.m (l.map fun x => (kf x, vf x))) := by
  intro l nd
  have e1 : ∀ l : List α, pairsP (l.map f) = some (l.map fun x => (kf x, vf x)) := by
    intro l
    induction l with
    | nil => rfl
    | cons x l ih => rw [List.map_cons, pairsP, hf, ih]; rfl
  have e2 : ∀ (l pre : List α), ((pre ++ l).map kf).Nodup → (l.map fun x => (kf x, vf x)).foldl (fun acc p => putP acc p.1 p.2) (pre.map fun x => (kf x, vf x)) = (pre ++ l).map fun x => (kf x, vf x) := by
    intro l
    induction l with
    | nil => intro pre _; simp
    | cons x l ih =>
      intro pre nd
      rw [List.map_cons, List.foldl_cons]
      have hp : putP (pre.map fun x => (kf x, vf x)) (kf x) (vf x) = (pre ++ [x]).map fun x => (kf x, vf x) := by
        unfold putP
        have nk : kf x ∉ pre.map kf := by
          rw [List.map_append, List.nodup_append] at nd
          intro hm
          exact nd.2.2 _ hm _ (by simp) rfl
        have : (((pre.map fun x => (kf x, vf x)).any fun p => decide (p.1 = kf x))) = false := by
          rw [Bool.eq_false_iff]
          intro ha
          obtain ⟨p, hp, hd⟩ := List.any_eq_true.mp ha
          obtain ⟨y, hy, rfl⟩ := List.mem_map.mp hp
          exact nk (by rw [← of_decide_eq_true hd]; exact List.mem_map_of_mem hy)
        simp [this]
        try (intro y hy e; exact absurd (List.mem_map_of_mem (f := kf) hy) (by rw [e]; exact nk))
      rw [hp, ih (pre ++ [x]) (by rw [List.append_assoc]; exact nd), List.append_assoc]
      rfl
  show (pairsP (l.map f)).map _ = _
  rw [e1, Option.map_some]
  congr 2
  have := e2 l [] (by simpa using nd)
  simpa using this
theorem valP_map {α : Type} {kf : α → Key} {vf : α → PyData} {l : List α} {k : Key} : valP (l.map fun x => (kf x, vf x)) k = (l.find? fun x => decide (kf x = k)).map vf := by
  unfold valP
  rw [List.find?_map, Option.map_map]
  rfl
end Dh
namespace Dh
open PySem PySem.Spec L2 PySem.W
theorem bools_ofF {α : Type} {f : α → Bool} : ∀ l : List α, boolsOf (l.map fun x => PyData.bool (f x)) = some (l.map f)
  | [] => rfl
  | x :: l => by
    rw [List.map_cons]
    show (boolsOf (l.map fun x => PyData.bool (f x))).map _ = _
    rw [bools_ofF l]
    rfl
theorem fAll_of {α : Type} {f : α → Bool} {l : List α} : fAll [.f (l.map fun x => PyData.bool (f x))] = some (.d (.bool (l.all f))) := by
  show (match rdL (.f (l.map fun x => PyData.bool (f x))) with | some xs => (boolsOf xs).map fun bs : List Bool => R.d (.bool (bs.all id)) | none => none) = _
  rw [ev_rdL2]
  dsimp only
  rw [bools_ofF, Option.map_some, List.all_map]
  rfl
theorem WLc_all {vs : List Nat} {g : Gx} {e : Mx} {ρ : Ev} {s : Sto} {Q : List PyData → Sto → Prop} (f : PyData → PyData) (l : List PyData) (h : ∀ x ∈ l, WO (g x (wipeE ρ vs)) fun ρ1 => WX e ρ1 s fun r s2 => s2 = s ∧ toD r = some (f x)) (q : Q (l.map f) s) : WLc vs g mYes e l ρ s Q := by
  have := WLc_map (enc := id) (f := f) l h q
  rwa [List.map_id] at this
def intB : PyData → Bool
  | .int _ => true
  | _ => false
def fracB : PyData → Bool
  | .tuple [.int a, .int b] => decide (0 < b) && decide (a.natAbs.gcd b.natAbs = 1)
  | _ => false
def rowB (m : Nat) : PyData → Bool
  | .tuple xs => decide (xs.length = m) && xs.all fracB
  | _ => false
def qOf : PyData → Rat
  | .tuple [.int a, .int b] => Rat.divInt a b
  | _ => 0
def rowOf : PyData → List Rat
  | .tuple xs => xs.map qOf
  | _ => []
theorem fracB_of {x : PyData} (h : fracB x = true) : x = pQ (qOf x) := by
  unfold fracB at h
  split at h
  · rename_i a b
    simp only [Bool.and_eq_true, decide_eq_true_eq] at h
    obtain ⟨h1, h2⟩ := h
    have g : gg a b = 1 := by unfold gg; rw [h2]; rfl
    unfold qOf pQ
    dsimp only
    rw [divInt_num h1, divInt_den h1, g, Int.ediv_one, Int.ediv_one]
  · cases h
theorem fracB_pQ (q : Rat) : fracB (pQ q) = true := by
  unfold pQ fracB
  have := q.den_pos
  have r := q.reduced
  unfold Nat.Coprime at r
  simp [this, r]
theorem qOf_pQ (q : Rat) : qOf (pQ q) = q := by
  have := fracB_of (fracB_pQ q)
  exact (pQ_inj.mp this).symm
theorem rowB_of {m : Nat} {x : PyData} (h : rowB m x = true) : x = pQs (rowOf x) ∧ (rowOf x).length = m := by
  unfold rowB at h
  split at h
  · rename_i xs
    simp only [Bool.and_eq_true, decide_eq_true_eq] at h
    obtain ⟨h1, h2⟩ := h
    refine ⟨?_, by simp [rowOf, h1]⟩
    unfold rowOf pQs
    rw [List.map_map]
    congr 1
    have : xs = xs.map id := by simp
    conv => lhs; rw [this]
    exact List.map_congr_left fun x hx => fracB_of (List.all_eq_true.mp h2 x hx)
  · cases h
theorem eq_frac {a b : Int} (h : 0 < b) : PyData.eqv (pQ (Rat.divInt a b)) (.tuple [.int a, .int b]) = decide (a.natAbs.gcd b.natAbs = 1) := by
  unfold pQ
  simp only [PyData.eqv, PyData.eqvAll, Bool.and_true]
  rw [divInt_num h, divInt_den h]
  by_cases g : a.natAbs.gcd b.natAbs = 1
  · have : gg a b = 1 := by unfold gg; rw [g]; rfl
    simp [this, g]
  · have e : ¬ b / gg a b = b := by
      have p := gg_pos (a := a) (b := b) (by omega)
      have ne : gg a b ≠ 1 := by unfold gg; omega
      intro z
      have d : gg a b ∣ b := Int.ofNat_dvd_left.mpr (Nat.gcd_dvd_right _ _)
      have m := Int.ediv_mul_cancel d
      rw [z] at m
      have h2 : 2 ≤ gg a b := by omega
      have := Int.mul_le_mul_of_nonneg_left h2 (Int.le_of_lt h)
      omega
    simp [e, g]
theorem fEq_frac {a b : Int} (h : 0 < b) : fEq false (.d (pQ (Rat.divInt a b))) (.d (.tuple [.int a, .int b])) = some (.d (.bool (decide (a.natAbs.gcd b.natAbs = 1)))) := by
  have : fEq false (.d (pQ (Rat.divInt a b))) (.d (.tuple [.int a, .int b])) = fEqD false (.d (pQ (Rat.divInt a b))) (.d (.tuple [.int a, .int b])) := rfl
  rw [this]
  unfold fEqD
  have ok : eqOk (.tuple [.int a, .int b]) = true := by
    unfold eqOk SeqAt.shaped
    simp [Dh.noDict, Dh.noDicts, PyData.canLay0, PyData.canLayAll0, PyData.depth, PyData.depthAll]
  simp [eqOk_pQ, ok, eq_frac h]
mutual
/-- whole numbers in tuples are small, tuples are not long -/
def szW (K W : Nat) : PyData → Bool
  | .int i => decide (i.natAbs < 2 ^ K)
  | .tuple xs => decide (xs.length ≤ W) && szWs K W xs
  | _ => true
def szWs (K W : Nat) : List PyData → Bool
  | [] => true
  | x :: xs => szW K W x && szWs K W xs
end
theorem szWs_iff {K W : Nat} : ∀ {xs : List PyData}, szWs K W xs = true ↔ ∀ x ∈ xs, szW K W x = true
  | [] => by simp [szWs]
  | x :: xs => by
    have := szWs_iff (K := K) (W := W) (xs := xs)
    simp only [szWs, Bool.and_eq_true, this]
    simp
theorem szW_tup {K W : Nat} {xs : List PyData} : szW K W (.tuple xs) = true ↔ xs.length ≤ W ∧ ∀ x ∈ xs, szW K W x = true := by
  rw [show szW K W (.tuple xs) = (decide (xs.length ≤ W) && szWs K W xs) by simp [szW], Bool.and_eq_true, decide_eq_true_eq, szWs_iff]
mutual
theorem szW_mono {K L W V : Nat} (h : K ≤ L) (hw : W ≤ V) : ∀ x : PyData, szW K W x = true → szW L V x = true
  | .int i, q => by
    simp only [szW, decide_eq_true_eq] at q ⊢
    exact Nat.lt_of_lt_of_le q (Nat.pow_le_pow_right (by decide) h)
  | .tuple xs, q => by
    simp only [szW, Bool.and_eq_true, decide_eq_true_eq] at q ⊢
    exact ⟨Nat.le_trans q.1 hw, szWs_mono h hw xs q.2⟩
  | .none, _ => by simp [szW]
  | .bool _, _ => by simp [szW]
  | .str _, _ => by simp [szW]
  | .list _, _ => by simp [szW]
  | .dict _, _ => by simp [szW]
theorem szWs_mono {K L W V : Nat} (h : K ≤ L) (hw : W ≤ V) : ∀ xs : List PyData, szWs K W xs = true → szWs L V xs = true
  | [], _ => rfl
  | x :: xs, q => by
    simp only [szWs, Bool.and_eq_true] at q ⊢
    exact ⟨szW_mono h hw x q.1, szWs_mono h hw xs q.2⟩
end
theorem szW_q {K W : Nat} {x : PyData} (h : szW K W x = true) (f : fracB x = true) : QLt K (qOf x) := by
  have e := fracB_of f
  rw [e] at h
  have c := (szW_tup.mp h).2
  have c1 := c (.int (qOf x).num) (by simp)
  have c2 := c (.int ((qOf x).den : Int)) (by simp)
  simp only [szW, decide_eq_true_eq] at c1 c2
  exact ⟨c1, by rwa [Int.natAbs_natCast] at c2⟩
/-- an index below n -/
def idxB (n : Nat) : PyData → Bool
  | .int i => decide (0 ≤ i) && decide (i < (n : Int))
  | _ => false
theorem idxB_of {n : Nat} {x : PyData} (h : idxB n x = true) : ∃ i : Nat, x = iN i ∧ i < n := by
  unfold idxB at h
  split at h
  · rename_i i
    simp only [Bool.and_eq_true, decide_eq_true_eq] at h
    exact ⟨i.toNat, by unfold iN; congr 1; omega, by omega⟩
  · cases h
theorem idxB_iN {n i : Nat} : idxB n (iN i) = decide (i < n) := by
  simp [idxB, iN]
theorem filter_nil_all {α : Type} {p : α → Bool} {l : List α} : (l.filter fun x => !p x).isEmpty = l.all p := by
  induction l with
  | nil => rfl
  | cons x l ih =>
    rw [List.filter_cons, List.all_cons]
    cases h : p x
    · simp
    · simp [ih]
theorem filterMap_not {p : PyData → Bool} {l : List PyData} : (l.filterMap fun x => if p x = true then none else some x) = l.filter fun x => !p x := by
  induction l with
  | nil => rfl
  | cons x l ih =>
    rw [List.filterMap_cons, List.filter_cons]
    cases h : p x
    · simp [ih]
    · simp [ih]
theorem WLc_optA {vs : List Nat} {g : Gx} {t : Mt} {e : Mx} {ρ : Ev} {s : Sto} {Q : List PyData → Sto → Prop} (f : PyData → Option PyData) (l : List PyData) (h : ∀ x ∈ l, WO (g x (wipeE ρ vs)) fun ρ1 => WT t ρ1 s fun k s1 => s1 = s ∧ k = (f x).isSome ∧ IfK k (WX e ρ1 s fun r s2 => s2 = s ∧ toD r = f x) True) (q : Q (l.filterMap f) s) : WLc vs g t e l ρ s Q := by
  have := WLc_opt (vs := vs) (g := g) (t := t) (e := e) (ρ := ρ) (s := s) (Q := Q) (fun x : PyData => x) f l h q
  rwa [List.map_id'] at this
theorem WFor_A {g : Gx} {body : Ms} {ρ : Ev} {s : Sto} {Q : Out → Ev → Sto → Prop} {l : List PyData} (h : WFor g body (l.map fun x => x) ρ s Q) : WFor g body l ρ s Q := by rwa [List.map_id'] at h
def pairB (n : Nat) : PyData → Bool
  | .tuple [a, q] => idxB n a && (fracB q && decide (0 < (qOf q).num))
  | _ => false
def prOf : PyData → Nat × Rat
  | .tuple [.int i, q] => (i.toNat, qOf q)
  | _ => (0, 0)
theorem pairB_of {n : Nat} {y : PyData} (h : pairB n y = true) : y = pCh (prOf y) ∧ (prOf y).1 < n ∧ 0 < (prOf y).2 ∧ ∃ q, y = .tuple [iN (prOf y).1, q] ∧ fracB q = true ∧ qOf q = (prOf y).2 := by
  unfold pairB at h
  split at h
  · rename_i a q
    simp only [Bool.and_eq_true, decide_eq_true_eq] at h
    obtain ⟨h1, h2, h3⟩ := h
    obtain ⟨i, rfl, hi⟩ := idxB_of h1
    have e := fracB_of h2
    refine ⟨?_, ?_, ?_, q, ?_, h2, ?_⟩
    · show PyData.tuple [iN i, q] = PyData.tuple [.int ((i : Int).toNat : Nat), pQ (qOf q)]
      rw [← e]; simp [iN]
    · show (i : Int).toNat < n; omega
    · show 0 < qOf q
      have a := Rat.num_nonneg (q := qOf q)
      have b := Rat.num_eq_zero (q := qOf q)
      have c : 0 ≤ qOf q := a.mp (by omega)
      have d : qOf q ≠ 0 := fun z => by rw [b.mpr z] at h3; omega
      grind
    · show PyData.tuple [iN i, q] = PyData.tuple [iN (i : Int).toNat, q]; simp
    · rfl
  · cases h
theorem pairB_two {n : Nat} {y : PyData} (h : pairB n y = true) : ∃ a q, y = .tuple [a, q] := by
  unfold pairB at h
  split at h
  · exact ⟨_, _, rfl⟩
  · cases h
def chcB (n : Nat) : PyData → Bool
  | .tuple xs => xs.all (pairB n) && (decide ((xs.map fun y => (prOf y).1).Pairwise (· < ·)) && decide (qsum (xs.map fun y => (prOf y).2) = 1))
  | _ => false
theorem zip_asc : ∀ l : List Nat, ((l.zip (l.drop 1)).all fun p => decide (p.1 < p.2)) = decide (l.Pairwise (· < ·))
  | [] => rfl
  | [x] => by simp
  | x :: y :: l => by
    have ih := zip_asc (y :: l)
    rw [List.drop_succ_cons, List.drop_zero] at ih
    rw [List.drop_succ_cons, List.drop_zero, List.zip_cons_cons, List.all_cons, ih]
    apply Bool.eq_iff_iff.mpr
    simp only [Bool.and_eq_true, decide_eq_true_eq]
    constructor
    · rintro ⟨h1, h2⟩
      refine List.pairwise_cons.mpr ⟨fun z hz => ?_, h2⟩
      rcases List.mem_cons.mp hz with rfl | hz
      · exact h1
      · exact Nat.lt_trans h1 (List.rel_of_pairwise_cons h2 hz)
    · intro h
      exact ⟨List.rel_of_pairwise_cons h List.mem_cons_self, h.of_cons⟩
theorem asc_le {n : Nat} : ∀ {l : List Nat} (m : Nat), l.Pairwise (· < ·) → (∀ k ∈ l, m ≤ k ∧ k < n) → l.length ≤ n - m
  | [], m, _, _ => Nat.zero_le _
  | x :: l, m, h, q => by
    have hx := q x List.mem_cons_self
    have := asc_le (n := n) (x + 1) h.of_cons fun k hk => ⟨List.rel_of_pairwise_cons h hk, (q k (List.mem_cons_of_mem _ hk)).2⟩
    rw [List.length_cons]
    omega
def deedB (p n : Nat) : PyData → Bool
  | .tuple [c, g] => chcB n c && rowB p g
  | _ => false
def standB (p n : Nat) : PyData → Bool
  | .tuple ds => decide (1 ≤ ds.length) && (decide (ds.length ≤ 4) && ds.all (deedB p n))
  | _ => false
def shareB (x : PyData) : Bool := fracB x && (decide (0 ≤ (qOf x).num) && decide ((qOf x).num < ((qOf x).den : Int)))
def betG (lo hi : Int) : PyData → Bool
  | .int i => decide (lo ≤ i) && decide (i ≤ hi)
  | _ => false
theorem betG_idx {n : Nat} {x : PyData} : betG 0 ((n : Int) - 1) x = idxB n x := by
  cases x <;> simp [betG, idxB]
  rename_i i
  apply Bool.eq_iff_iff.mpr
  simp
  omega
def natOf : PyData → Nat
  | .int i => i.toNat
  | _ => 0
def standsB (p : Nat) : PyData → Bool
  | .tuple l => decide (1 ≤ l.length) && (decide (l.length ≤ 8) && l.all (standB p l.length))
  | _ => false
def houseB : PyData → Bool
  | .tuple [s, p, sts] => shareB s && (betG 1 4 p && standsB (natOf p) sts)
  | _ => false
theorem betG_of {k : Nat} {x : PyData} (h : betG 1 (k : Int) x = true) : x = iN (natOf x) ∧ 1 ≤ natOf x ∧ natOf x ≤ k := by
  unfold betG at h
  split at h
  · rename_i i
    simp only [Bool.and_eq_true, decide_eq_true_eq] at h
    refine ⟨?_, ?_, ?_⟩
    · show PyData.int i = PyData.int ((i.toNat : Nat) : Int)
      rw [Int.toNat_of_nonneg (by omega)]
    · show 1 ≤ i.toNat; omega
    · show i.toNat ≤ k; omega
  · cases h
theorem deedB_no {p n : Nat} {xs : List PyData} (h : xs.length ≠ 2) : deedB p n (.tuple xs) = false := by
  unfold deedB
  split
  · rename_i heq
    injection heq with heq
    subst heq
    exact absurd rfl h
  · rfl
theorem houseB_no {xs : List PyData} (h : xs.length ≠ 3) : houseB (.tuple xs) = false := by
  unfold houseB
  split
  · rename_i heq
    injection heq with heq
    subst heq
    exact absurd rfl h
  · rfl
end Dh
namespace WW
open PySem PySem.Spec L2 PySem.W Dh
section
variable {s : Sto}
theorem e_is_wholeA {x : PyData} : f_is_whole [.d x] s = some (.d (.bool (intB x)), s) := by
  refine WF.eq (WF.body rfl ?_)
  cases x <;> simp [m_is_whole, fIsi, isA, isN, tyName, intB]
theorem e_is_tupleA {x : PyData} {n : Int} : f_is_tuple_of [.d x, .d (.int n)] s = some (.d (.bool (match x with | .tuple xs => decide ((xs.length : Int) = n) | _ => false)), s) := by
  refine WF.eq (WF.body rfl ?_)
  cases x <;> simp [m_is_tuple_of, fIsi, isA, isN, tyName, fEq_int]
theorem e_is_ratioA {x : PyData} : f_is_ratio [.d x] s = some (.d (.bool (fracB x)), s) := by
  refine WF.eq (WF.body rfl ?_)
  simp [m_is_ratio]
  refine WF.of e_is_tupleA ?_
  cases x with
  | tuple xs =>
    by_cases h2 : xs.length = 2
    · obtain ⟨a, b, rfl⟩ : ∃ a b, xs = [a, b] := by
        match xs, h2 with
        | [a, b], _ => exact ⟨a, b, rfl⟩
      simp
      refine WF.of e_is_wholeA ?_
      cases a with
      | int a =>
        simp [intB]
        refine WF.of e_is_wholeA ?_
        cases b with
        | int b =>
          simp [intB, fracB]
          by_cases hb : 0 < b
          · simp [hb, gGt, fEq_int]
            constructor
            · intro h; omega
            · intro h; omega
          · simp [hb, gGt]
        | _ => simp [intB, fracB]
      | _ => simp [intB, fracB]
    · have e : ¬ (xs.length : Int) = 2 := by omega
      have f : fracB (.tuple xs) = false := by
        unfold fracB
        split
        · rename_i heq
          injection heq with heq
          subst heq
          exact absurd rfl h2
        · rfl
      simp [e, f]
  | _ => simp [fracB]
theorem e_is_rowA {m : Nat} {x : PyData} (hm : m ≤ 1000) : f_is_row [.d x, .d (.int (m : Int))] s = some (.d (.bool (rowB m x)), s) := by
  refine WF.eq (WF.body rfl ?_)
  simp [m_is_row, List.replicate_succ]
  refine WF.of e_is_tupleA ?_
  cases x with
  | tuple xs =>
    by_cases h2 : xs.length = m
    · simp [h2]
      refine WLc_all (fun x => .bool (fracB x)) xs (fun x hx => ?_) ?_
      · simp
        exact WF.of e_is_ratioA (by simp)
      refine ⟨szle (by rw [List.length_map]; omega), ?_⟩
      simp [fAll_of, rowB, h2]
    · have e : ¬ (xs.length : Int) = (m : Int) := by omega
      simp [e, rowB, h2]
  | _ => simp [rowB]
theorem e_is_betweenG {x : PyData} {lo hi : Int} : f_is_between [.d x, .d (.int lo), .d (.int hi)] s = some (.d (.bool (betG lo hi x)), s) := by
  refine WF.eq (WF.body rfl ?_)
  simp [m_is_between]
  refine WF.of e_is_wholeA ?_
  cases x <;> simp [intB, betG]
  rename_i i
  by_cases h : lo ≤ i
  · simp [h]
  · simp [h]
theorem e_lwholeA {x : PyData} : f_law_is_whole [.d x] s = some (.d (.bool (intB x)), s) := by
  refine WF.eq (WF.body rfl ?_)
  cases x <;> simp [m_law_is_whole, fIsi, isA, isN, tyName, intB]
theorem e_lindexA {x : PyData} {n : Nat} : f_law_is_index [.d x, .d (.int (n : Int))] s = some (.d (.bool (idxB n x)), s) := by
  refine WF.eq (WF.body rfl ?_)
  simp [m_law_is_index]
  refine WF.of e_lwholeA ?_
  cases x <;> simp [intB, idxB]
  rename_i i
  by_cases h : 0 ≤ i
  · simp [h]
  · simp [h]
theorem fracB_no {xs : List PyData} (h : xs.length ≠ 2) : fracB (.tuple xs) = false := by
  unfold fracB
  split
  · rename_i heq
    injection heq with heq
    subst heq
    exact absurd rfl h
  · rfl
theorem e_lfracA {K W : Nat} {x : PyData} (hx : szW K W x = true) (hK : K ≤ 9000) : f_law_is_fraction [.d x] s = some (.d (.bool (fracB x)), s) := by
  refine WF.eq (WF.body rfl ?_)
  cases x with
  | tuple xs =>
    by_cases h2 : xs.length = 2
    · obtain ⟨a, b, rfl⟩ : ∃ a b, xs = [a, b] := by
        match xs, h2 with
        | [a, b], _ => exact ⟨a, b, rfl⟩
      have hb' := (szW_tup.mp hx).2 b (by simp)
      simp [m_law_is_fraction, fIsi, isA, isN, tyName, fEq_int]
      refine WF.of e_lwholeA ?_
      cases a with
      | int a =>
        simp [intB]
        refine WF.of e_lwholeA ?_
        cases b with
        | int b =>
          simp only [szW, decide_eq_true_eq] at hb'
          simp [intB, fracB]
          by_cases hb : 0 < b
          · simp [hb, show ¬ b ≤ 0 by omega]
            refine WF.of (e_frac0 (by omega) (lt_monoB hb' hK)) ?_
            simp [fEq_frac hb, hb]
          · simp [hb, show b ≤ 0 by omega]
        | _ => simp [intB, fracB]
      | _ => simp [intB, fracB]
    · rw [fracB_no h2]
      simp [m_law_is_fraction, fIsi, isA, isN, tyName, fEq_int, show ¬ (xs.length : Int) = 2 by omega]
  | _ => simp [m_law_is_fraction, fIsi, isA, isN, tyName, fracB]
theorem e_lrowA {K W m : Nat} {x : PyData} (hx : szW K W x = true) (hK : K ≤ 9000) (hW : W ≤ 1000) : f_law_is_row [.d x, .d (.int (m : Int))] s = some (.d (.bool (rowB m x)), s) := by
  refine WF.eq (WF.body rfl ?_)
  cases x with
  | tuple xs =>
    have hs := szW_tup.mp hx
    by_cases h2 : xs.length = m
    · simp [m_law_is_row, List.replicate_succ, fIsi, isA, isN, tyName, fEq_int, h2]
      refine WLc_optA (fun x => if fracB x = true then none else some x) xs (fun x hx' => ?_) ?_
      · simp
        refine WF.of (e_lfracA (hs.2 x hx') hK) ?_
        cases fracB x <;> simp
      rw [filterMap_not]
      refine ⟨szle (Nat.le_trans (List.length_filter_le _ _) (by omega)), ?_⟩
      simp [filter_nil_all, rowB, h2]
    · simp [m_law_is_row, List.replicate_succ, fIsi, isA, isN, tyName, fEq_int, show ¬ (xs.length : Int) = (m : Int) by omega, rowB, h2]
  | _ => simp [m_law_is_row, List.replicate_succ, fIsi, isA, isN, tyName, rowB]
end
end WW
namespace Dh
open PySem PySem.Spec L2 PySem.W
def twoB : PyData → Bool
  | .tuple zs => decide ((zs.length : Int) = 2)
  | _ => false
theorem twoB_of {x : PyData} (h : twoB x = true) : ∃ a q, x = .tuple [a, q] := by
  unfold twoB at h
  split at h
  · rename_i zs
    rw [decide_eq_true_eq] at h
    match zs, h with
    | [a, q], _ => exact ⟨a, q, rfl⟩
    | [], h => simp at h
    | [_], h => simp at h
    | _ :: _ :: _ :: _, h => simp at h; omega
  · cases h
theorem chs_of {n : Nat} {xs : List PyData} (h : xs.all (pairB n) = true) : xs = (xs.map prOf).map pCh := by
  rw [List.map_map]
  have := List.all_eq_true.mp h
  refine (List.map_id xs).symm.trans (List.map_congr_left fun y hy => ?_)
  exact (pairB_of (this y hy)).1
end Dh
namespace Dh
open PySem PySem.Spec L2 PySem.W
theorem pr_lt {K W n : Nat} {y : PyData} (hs : szW K W y = true) (h : pairB n y = true) : QLt K (prOf y).2 := by
  obtain ⟨_, _, _, q, e, f, e2⟩ := pairB_of h
  rw [e] at hs
  have := (szW_tup.mp hs).2 q (by simp)
  rw [← e2]
  exact szW_q this f
def chJ (n : Nat) (xs : List PyData) (i : Nat) (lst : Int) (tq : Rat) : Prop := tq = qsum (((xs.take i).map prOf).map (·.2)) ∧ i ≤ n ∧
      (∀ y ∈ xs.take i, pairB n y = true) ∧ (((xs.take i).map prOf).map (·.1)).Pairwise (· < ·) ∧ ∀ g : Nat, lst < (g : Int) ↔ ∀ a ∈ ((xs.take i).map prOf).map (·.1), a < g
theorem zip_ascp {cs : List (Nat × Rat)} : ((cs.zip cs.tail).all fun p => decide (p.1.1 < p.2.1)) = decide ((cs.map (·.1)).Pairwise (· < ·)) := by
  rw [← zip_asc, ← List.map_drop, List.zip_map, List.all_map, List.drop_one]
  rfl
end Dh
namespace WW
open PySem PySem.Spec L2 PySem.W Dh
section
variable {s : Sto}
theorem e_chancesA {K W n : Nat} {x : PyData} (hx : szW K W x = true) (hK : K ≤ 400) (hW : W ≤ 1000) (hn : 1 ≤ n) (hn8 : n ≤ 8) : f_are_chances [.d x, .d (.int (n : Int))] s = some (.d (.bool (chcB n x)), s) := by
  refine WF.eq (WF.body rfl ?_)
  cases x with
  | tuple xs =>
    have hs := szW_tup.mp hx
    simp [m_are_chances, List.replicate_succ, fIsi, isA, isN, tyName]
    refine WLc_all (fun y => PyData.bool (twoB y)) xs (fun y hy => ?_) ?_
    · simp
      refine WF.of e_is_tupleA ?_
      simp
      cases y <;> rfl
    refine ⟨szle (by rw [List.length_map]; omega), ?_⟩
    simp [fAll_of]
    by_cases h2 : xs.all twoB = true
    · simp [h2]
      refine WLc_all (fun y => PyData.bool (pairB n y)) xs (fun y hy => ?_) ?_
      · obtain ⟨a, q, rfl⟩ := twoB_of (List.all_eq_true.mp h2 y hy)
        simp
        refine WF.of e_is_betweenG ?_
        rw [betG_idx]
        by_cases hi : idxB n a = true
        · simp [hi]
          refine WF.of e_is_ratioA ?_
          by_cases hf : fracB q = true
          · have ef : pairB n (.tuple [a, q]) = decide (0 < (qOf q).num) := by simp [pairB, hi, hf]
            rw [ef, hf]
            have e := fracB_of hf
            generalize qOf q = r at *
            subst e
            simp [pQ]
          · simp [hf, pairB, hi]
        · simp [hi, pairB]
      refine ⟨szle (by rw [List.length_map]; omega), ?_⟩
      simp [fAll_of]
      by_cases hp : xs.all (pairB n) = true
      · simp [hp]
        have ex := chs_of hp
        have hpy := List.all_eq_true.mp hp
        have ql : ∀ c ∈ xs.map prOf, QLt K c.2 := fun c hc => by
          obtain ⟨y, hy, rfl⟩ := List.mem_map.mp hc
          exact pr_lt (hs.2 y hy) (hpy y hy)
        have ib : ∀ c ∈ xs.map prOf, c.1 < n := fun c hc => by
          obtain ⟨y, hy, rfl⟩ := List.mem_map.mp hc
          exact (pairB_of (hpy y hy)).2.1
        have lcs : (xs.map prOf).length = xs.length := List.length_map _
        have ech : chcB n (.tuple xs) = (decide (((xs.map prOf).map (·.1)).Pairwise (· < ·)) && decide (qsum ((xs.map prOf).map (·.2)) = 1)) := by
          rw [List.map_map, List.map_map]
          simp [chcB, hp]
          rfl
        rw [ech]
        have hl := hs.1
        clear ech hp h2 hpy hs
        generalize hc : xs.map prOf = cs at *
        subst ex
        clear hc
        rw [List.length_map] at lcs hl
        refine WLc_map pCh (fun c => PyData.int (c.1 : Nat)) cs (fun x hx => ?_) ?_
        · simp [pCh]
        refine ⟨szle (by rw [List.length_map]; omega), ?_⟩
        simp [frzs, frz1, fSl, cutD_tail]
        rw [← List.map_tail, pairs_map]
        refine WLc_map (p2 (fun c : Nat × Rat => PyData.int (c.1 : Nat)) (fun c : Nat × Rat => PyData.int (c.1 : Nat))) (fun p => PyData.bool (decide (p.1.1 < p.2.1))) (cs.zip cs.tail) (fun x hx => ?_) ?_
        · simp [p2]
        refine ⟨szle (by rw [List.length_map, List.length_zip]; omega), ?_⟩
        simp [fAll_of, zip_ascp]
        by_cases ha : (cs.map (·.1)).Pairwise (· < ·)
        · have lc := asc_le (n := n) 0 ha (fun k hk => by
            obtain ⟨c, hc, rfl⟩ := List.mem_map.mp hk
            exact ⟨Nat.zero_le _, ib c hc⟩)
          rw [List.length_map] at lc
          simp [ha]
          refine WLc_map pCh (fun c => pQ c.2) cs (fun x hx => ?_) ?_
          · simp [pCh]
          refine ⟨szle (by rw [List.length_map]; omega), ?_⟩
          simp
          refine WF.of (e_total (l := cs.map (·.2)) (k := K) (by rw [List.map_map]; rfl) (fun q hq => by
            obtain ⟨c, hc, rfl⟩ := List.mem_map.mp hq
            exact ql c hc) (by
              rw [List.length_map]
              have := Nat.mul_le_mul_left (K + 1) (show cs.length ≤ 8 by omega)
              omega)) ?_
          simp [show k_ONE = pQ 1 from rfl, fEq_pQ]
          exact fun _ => ha
        · simp [ha]
      · simp [hp, chcB]
    · have hp : ¬ xs.all (pairB n) = true := fun hp => h2 (List.all_eq_true.mpr fun y hy => by
        obtain ⟨a, q, rfl⟩ := pairB_two (List.all_eq_true.mp hp y hy)
        rfl)
      simp [h2, chcB, hp]
  | _ => simp [m_are_chances, List.replicate_succ, fIsi, isA, isN, tyName, chcB]
theorem e_lchancesA {K W n : Nat} {x : PyData} (hx : szW K W x = true) (hK : K ≤ 400) (hn : 1 ≤ n) (hn8 : n ≤ 8) : f_law_is_chances [.d x, .d (.int (n : Int))] s = some (.d (.bool (chcB n x)), s) := by
  refine WF.eq (WF.body rfl ?_)
  cases x with
  | tuple xs =>
    have hs := szW_tup.mp hx
    simp [m_law_is_chances, List.replicate_succ, fIsi, isA, isN, tyName, fNeg, sz2]
    refine WFor_A (WFor_inv (fun y : PyData => y) xs (fun i ρ s' => s' = s ∧ ∃ (lst : Int) (tq : Rat) (c4 : Option Cl), ρ = [some (.d (.tuple xs)), some (.d (.int (n : Int))), some (.d (.int lst)), some (.d (pQ tq)), c4] ∧ chJ n xs i lst tq) ⟨rfl, -1, 0, none, rfl, ⟨rfl, Nat.zero_le _, by simp, by simp, fun g => by simp; omega⟩⟩ ?_ ?_)
    · rintro i y ρ s' hy ⟨rfl, lst, tq, c4, rfl, hj⟩
      obtain ⟨etq, hi, hall, hpw, hlst⟩ := id hj
      have hym := List.mem_of_getElem? hy
      have ht := take_snoc hy
      have bad : pairB n y = false ∨ ¬ lst < ((prOf y).1 : Int) → chcB n (.tuple xs) = false := fun hb => by
        apply Bool.eq_false_iff.mpr
        intro hc
        simp only [chcB, Bool.and_eq_true, decide_eq_true_eq] at hc
        obtain ⟨c1, c2, _⟩ := hc
        rcases hb with hb | hb
        · rw [List.all_eq_true.mp c1 y hym] at hb
          cases hb
        · apply hb
          rw [hlst]
          intro a ha
          have e : xs = xs.take i ++ y :: xs.drop (i + 1) := by
            have h1 : (xs.take (i + 1)) ++ xs.drop (i + 1) = xs := List.take_append_drop _ _
            rw [ht, List.append_assoc] at h1
            exact h1.symm
          rw [e, List.map_append, List.pairwise_append] at c2
          refine c2.2.2 a ?_ _ (by simp)
          rw [List.map_map] at ha
          exact ha
      cases y with
      | tuple zs =>
        by_cases hz : zs.length = 2
        · obtain ⟨a, q, rfl⟩ : ∃ a q, zs = [a, q] := by
            match zs, hz with
            | [a, q], _ => exact ⟨a, q, rfl⟩
          have hsy := (szW_tup.mp (hs.2 _ hym)).2
          have hq := hsy q (by simp)
          simp [fIsi, isA, isN, tyName, fEq_int]
          refine WF.of e_lindexA ?_
          by_cases hia : idxB n a = true
          · obtain ⟨g, rfl, hg⟩ := idxB_of hia
            have eg : (prOf (.tuple [iN g, q])).1 = g := by simp [prOf, iN]
            simp [hia]
            by_cases hl : lst < (g : Int)
            · simp [show ¬ (g : Int) ≤ lst by omega, iN]
              refine WF.of (e_lfracA hq (by omega)) ?_
              by_cases hf : fracB q = true
              · have qlt := szW_q hq hf
                obtain ⟨r, rfl⟩ : ∃ r, q = pQ r := ⟨_, fracB_of hf⟩
                rw [qOf_pQ] at qlt
                have ef : pairB n (.tuple [iN g, pQ r]) = decide (0 < r.num) := by simp [pairB, hia, hf, qOf_pQ]
                rw [hf]
                have ex : ∀ c : PyData, atI [PyData.int r.num, c] 0 = some (.int r.num) := fun c => rfl
                simp [show pQ r = .tuple [.int r.num, .int (r.den : Int)] from rfl]
                by_cases hp : 0 < r.num
                · simp [show ¬ r.num ≤ 0 by omega]
                  have hpb : pairB n (.tuple [iN g, pQ r]) = true := by rw [ef]; exact decide_eq_true hp
                  have e2 : (prOf (.tuple [iN g, pQ r])).2 = r := by simp [prOf, iN, qOf_pQ]
                  have hln : (((xs.take i).map prOf).map (·.1)).length ≤ n - 0 := asc_le 0 hpw fun k hk => by
                    rw [List.map_map] at hk
                    obtain ⟨y, hy, rfl⟩ := List.mem_map.mp hk
                    exact ⟨Nat.zero_le _, (pairB_of (hall y hy)).2.1⟩
                  have hall2 : ∀ y ∈ xs.take (i + 1), pairB n y = true := fun y hy => by
                    rw [ht] at hy
                    rcases List.mem_append.mp hy with hy | hy
                    · exact hall y hy
                    · rw [List.mem_singleton.mp hy]; exact hpb
                  have hpw2 : (((xs.take (i + 1)).map prOf).map (·.1)).Pairwise (· < ·) := by
                    rw [ht, List.map_append, List.map_append, List.pairwise_append]
                    refine ⟨hpw, by simp, fun a ha b hb => ?_⟩
                    simp [eg] at hb
                    subst hb
                    exact (hlst _).mp hl a ha
                  have hln2 : (((xs.take (i + 1)).map prOf).map (·.1)).length ≤ n - 0 := asc_le 0 hpw2 fun k hk => by
                    rw [List.map_map] at hk
                    obtain ⟨y, hy, rfl⟩ := List.mem_map.mp hk
                    exact ⟨Nat.zero_le _, (pairB_of (hall2 y hy)).2.1⟩
                  have hil : i < xs.length := (List.getElem?_eq_some_iff.mp hy).1
                  simp only [List.length_map, List.length_take] at hln2
                  have qb := qsum_lt (k := K) (l := ((xs.take i).map prOf).map (·.2)) (fun p hp => by
                    rw [List.map_map] at hp
                    obtain ⟨y, hy, rfl⟩ := List.mem_map.mp hp
                    exact pr_lt (hs.2 y (List.mem_of_mem_take hy)) (hall y hy))
                  have qm := Nat.mul_le_mul_left (K + 1) (show (((xs.take i).map prOf).map (·.2)).length ≤ 8 by simp only [List.length_map, List.length_take]; omega)
                  rw [← etq] at qb
                  refine WF.of (e_lplus (p := tq) (q := r) ?_ ?_) ?_
                  · exact qb.bd (by omega)
                  · exact qlt.bd (by omega)
                  simp
                  refine ⟨(g : Int), tq + r, ⟨rfl, rfl⟩, ?_, by omega, hall2, hpw2, fun g' => ?_⟩
                  · rw [ht, List.map_append, List.map_append, List.map_singleton, List.map_singleton, qsum_snoc, e2, etq]
                  · rw [ht, List.map_append, List.map_append]
                    simp only [List.map_cons, List.map_nil, eg, List.mem_append, List.mem_singleton]
                    constructor
                    · rintro h a (ha | rfl)
                      · have := (hlst g).mp hl a ha; omega
                      · omega
                    · intro h
                      have := h g (.inr rfl)
                      omega
                · simp [show r.num ≤ 0 by omega, bad (.inl (by rw [ef]; exact decide_eq_false hp))]
              · simp [hf, bad (.inl (by simp [pairB, hf]))]
            · simp [show (g : Int) ≤ lst by omega, iN, bad (.inr (by rw [eg]; exact hl))]
          · simp [hia, bad (.inl (by simp [pairB, hia]))]
        · have e : pairB n (.tuple zs) = false := by
            apply Bool.eq_false_iff.mpr
            intro h
            obtain ⟨a, q, e⟩ := pairB_two h
            cases e
            exact hz rfl
          simp [fIsi, isA, isN, tyName, fEq_int, show ¬ (zs.length : Int) = 2 by omega, bad (.inl e)]
      | _ => simp [fIsi, isA, isN, tyName, bad (.inl rfl)]
    · rintro ρ s' ⟨rfl, lst, tq, c4, rfl, hj⟩
      obtain ⟨etq, hi, hall, hpw, hlst⟩ := id hj
      rw [List.take_length] at hall hpw
      have e1 : xs.all (pairB n) = true := List.all_eq_true.mpr hall
      rw [List.map_map] at hpw
      have hpw2 : (xs.map fun y => (prOf y).1).Pairwise (· < ·) := hpw
      simp [show (PyData.tuple [.int 1, .int 1]) = pQ 1 from rfl, fEq_pQ, chcB, e1, hpw2, sz2]
      rw [etq, List.take_length, List.map_map]
      rfl
  | _ => simp [m_law_is_chances, List.replicate_succ, fIsi, isA, isN, tyName, chcB]
end
end WW
namespace WW
open PySem PySem.Spec L2 PySem.W Dh
section
variable {s : Sto}
theorem e_is_deedA {K W n p : Nat} {x : PyData} (hx : szW K W x = true) (hK : K ≤ 400) (hW : W ≤ 1000) (hn : 1 ≤ n) (hn8 : n ≤ 8) (hp : p ≤ 4) : f_is_deed [.d x, .d (.int (p : Int)), .d (.int (n : Int))] s = some (.d (.bool (deedB p n x)), s) := by
  refine WF.eq (WF.body rfl ?_)
  simp [m_is_deed]
  refine WF.of e_is_tupleA ?_
  cases x with
  | tuple zs =>
    by_cases hz : zs.length = 2
    · obtain ⟨c, g, rfl⟩ : ∃ c g, zs = [c, g] := by
        match zs, hz with
        | [c, g], _ => exact ⟨c, g, rfl⟩
      have hs := (szW_tup.mp hx).2
      simp
      refine WF.of (e_chancesA (hs c (by simp)) hK hW hn hn8) ?_
      by_cases hc : chcB n c = true
      · simp [hc]
        refine WF.of (e_is_rowA (by omega)) ?_
        simp [deedB, hc]
      · simp [hc, deedB]
    · simp [show ¬ (zs.length : Int) = 2 by omega, deedB_no hz]
  | _ => simp [deedB]
theorem e_is_standA {K W n p : Nat} {x : PyData} (hx : szW K W x = true) (hK : K ≤ 400) (hW : W ≤ 1000) (hn : 1 ≤ n) (hn8 : n ≤ 8) (hp : p ≤ 4) : f_is_stand [.d x, .d (.int (p : Int)), .d (.int (n : Int))] s = some (.d (.bool (standB p n x)), s) := by
  refine WF.eq (WF.body rfl ?_)
  cases x with
  | tuple zs =>
    have hs := szW_tup.mp hx
    simp [m_is_stand, List.replicate_succ, fIsi, isA, isN, tyName]
    refine WF.of e_is_betweenG ?_
    by_cases hl : 1 ≤ zs.length ∧ zs.length ≤ 4
    · have e : betG 1 4 (.int (zs.length : Int)) = true := by simp [betG]; omega
      simp [e]
      refine WLc_all (fun y => PyData.bool (deedB p n y)) zs (fun y hy => ?_) ?_
      · simp
        exact WF.of (e_is_deedA (hs.2 y hy) hK hW hn hn8 hp) (by simp)
      refine ⟨szle (by rw [List.length_map]; omega), ?_⟩
      simp [fAll_of, standB, hl]
    · have e : betG 1 4 (.int (zs.length : Int)) = false := by
        apply Bool.eq_false_iff.mpr
        simp [betG]; omega
      simp [e, standB]
      intro h1 h2
      omega
  | _ => simp [m_is_stand, List.replicate_succ, fIsi, isA, isN, tyName, standB]
theorem e_is_shareA {x : PyData} : f_is_share [.d x] s = some (.d (.bool (shareB x)), s) := by
  refine WF.eq (WF.body rfl ?_)
  simp [m_is_share]
  refine WF.of e_is_ratioA ?_
  by_cases hf : fracB x = true
  · obtain ⟨r, rfl⟩ : ∃ r, x = pQ r := ⟨_, fracB_of hf⟩
    unfold shareB
    rw [hf, qOf_pQ]
    simp [pQ]
    by_cases h0 : 0 ≤ r <;> simp [h0]
  · simp [hf, shareB]
theorem e_is_house_byA {K W : Nat} {x : PyData} (hx : szW K W x = true) (hK : K ≤ 400) (hW : W ≤ 1000) : f_is_house_by [.d x] s = some (.d (.bool (houseB x)), s) := by
  refine WF.eq (WF.body rfl ?_)
  simp [m_is_house_by, List.replicate_succ]
  refine WF.of e_is_tupleA ?_
  cases x with
  | tuple zs =>
    by_cases hz : zs.length = 3
    · obtain ⟨c, b, d, rfl⟩ : ∃ c b d, zs = [c, b, d] := by
        match zs, hz with
        | [c, b, d], _ => exact ⟨c, b, d, rfl⟩
      have hs := (szW_tup.mp hx).2
      have hd := hs d (by simp)
      simp
      refine WF.of e_is_shareA ?_
      by_cases hc : shareB c = true
      · simp [hc]
        refine WF.of e_is_betweenG ?_
        by_cases hb : betG 1 4 b = true
        · obtain ⟨eb, b1, b4⟩ := betG_of (k := 4) hb
          have eh : houseB (.tuple [c, b, d]) = standsB (natOf b) d := by simp [houseB, hc, hb]
          rw [eh, hb]
          generalize natOf b = p at *
          subst eb
          cases d with
          | tuple sts =>
            have hs := szW_tup.mp hd
            simp [fIsi, isA, isN, tyName, iN]
            refine WF.of e_is_betweenG ?_
            by_cases hl : 1 ≤ sts.length ∧ sts.length ≤ 8
            · have e : betG 1 8 (.int (sts.length : Int)) = true := by simp [betG]; omega
              simp [e]
              refine WLc_all (fun y => PyData.bool (standB p sts.length y)) sts (fun y hy => ?_) ?_
              · simp
                exact WF.of (e_is_standA (hs.2 y hy) hK hW hl.1 hl.2 b4) (by simp)
              refine ⟨szle (by rw [List.length_map]; omega), ?_⟩
              simp [fAll_of, standsB, hl]
            · have e : betG 1 8 (.int (sts.length : Int)) = false := by
                apply Bool.eq_false_iff.mpr
                simp [betG]; omega
              simp [e, standsB]
              intro h1 h2
              omega
          | _ => simp [fIsi, isA, isN, tyName, standsB]
        · simp [hb, houseB]
      · simp [hc, houseB]
    · simp [show ¬ (zs.length : Int) = 3 by omega, houseB_no hz]
  | _ => simp [houseB]
theorem e_lbelow1 {r : Rat} (h : QLt 4500 r) : f_law_below [.d (pQ r), .d (.tuple [.int 1, .int 1])] s = some (.d (.bool (decide (r.num < (r.den : Int)))), s) := by
  refine WF.eq (WF.body rfl ?_)
  have m1 : mulOk r.num 1 = true := mulOk_of (b := 1) h.1 (by decide) (by omega)
  have m2 : mulOk 1 (r.den : Int) = true := mulOk_of (a := 1) (by decide) h.den' (by omega)
  simp [m_law_below, pQ, fMul_ok, m1, m2]
theorem e_lbuiltA {K W : Nat} {x : PyData} (hx : szW K W x = true) (hK : K ≤ 400) (hW : W ≤ 1000) : f_law_is_built [.d x, .d (.bool false)] s = some (.d (.bool (houseB x)), s) := by
  refine WF.eq (WF.body rfl ?_)
  cases x with
  | tuple zs =>
    by_cases hz : zs.length = 3
    · obtain ⟨c, b, d, rfl⟩ : ∃ c b d, zs = [c, b, d] := by
        match zs, hz with
        | [c, b, d], _ => exact ⟨c, b, d, rfl⟩
      have hs := (szW_tup.mp hx).2
      have hd := hs d (by simp)
      have hc := hs c (by simp)
      simp [m_law_is_built, List.replicate_succ, fIsi, isA, isN, tyName, fEq_int]
      refine WF.of (e_lfracA hc (by omega)) ?_
      by_cases hf : fracB c = true
      · have ql := szW_q hc hf
        obtain ⟨r, rfl⟩ : ∃ r, c = pQ r := ⟨_, fracB_of hf⟩
        rw [qOf_pQ] at ql
        have esh : shareB (pQ r) = (decide (0 ≤ r) && decide (r.num < (r.den : Int))) := by
          unfold shareB
          rw [hf, qOf_pQ]
          simp
        have eh : houseB (.tuple [pQ r, b, d]) = ((decide (0 ≤ r) && decide (r.num < (r.den : Int))) && (betG 1 4 b && standsB (natOf b) d)) := by
          rw [← esh]; simp [houseB]
        rw [hf, eh]
        clear eh esh
        simp [pQ]
        by_cases h0 : 0 ≤ r
        · have hn : ¬ r.num < 0 := by have := Rat.num_nonneg.mpr h0; omega
          simp [h0, hn, sz2]
          refine WF.of (e_lbelow1 (r := r) (ql.mono (by omega))) ?_
          by_cases h1 : r.num < (r.den : Int)
          · simp [h1]
            refine WF.of (e_lindexA (n := 5)) ?_
            by_cases hi : idxB 5 b = true
            · obtain ⟨p, rfl, hp⟩ := idxB_of hi
              rw [hi]
              by_cases hp0 : p = 0
              · subst hp0
                simp [iN, fEq_int, betG]
              · have hb : betG 1 4 (iN p) = true := by simp [betG, iN]; omega
                rw [hb]
                simp [fEq_int, hp0, iN, natOf]
                cases d with
                | tuple sts =>
                  have hs := szW_tup.mp hd
                  simp [fIsi, isA, isN, tyName]
                  by_cases hl : 1 ≤ sts.length ∧ sts.length ≤ 8
                  · have l1 : (1 : Int) ≤ (sts.length : Int) := by omega
                    have l2 : (sts.length : Int) ≤ 8 := by omega
                    have eS : standsB p (.tuple sts) = sts.all (standB p sts.length) := by simp [standsB, hl]
                    rw [eS]
                    simp [l1, l2]
                    refine WFor_A (WFor_inv (fun y : PyData => y) sts (fun i ρ s' => s' = s ∧ ∃ c3 c4 : Option Cl, ρ = [some (.d (.tuple [.tuple [.int r.num, .int (r.den : Int)], .int (p : Int), .tuple sts])), some (.d (.bool false)), some (.d (.int (sts.length : Int))), c3, c4] ∧ ∀ y ∈ sts.take i, standB p sts.length y = true) ⟨rfl, none, none, rfl, by simp⟩ ?_ ?_)
                    · rintro i y ρ s' hy ⟨rfl, c3, c4, rfl, hall⟩
                      have hym := List.mem_of_getElem? hy
                      have ht := take_snoc hy
                      have hsy := hs.2 y hym
                      have bad : standB p sts.length y = false → sts.all (standB p sts.length) = false := fun hb => by
                        apply Bool.eq_false_iff.mpr
                        intro h
                        rw [List.all_eq_true.mp h y hym] at hb
                        cases hb
                      generalize sts.all (standB p sts.length) = RES at *
                      cases y with
                      | tuple ds =>
                        have hsd := szW_tup.mp hsy
                        simp [fIsi, isA, isN, tyName]
                        by_cases hd4 : 1 ≤ ds.length ∧ ds.length ≤ 4
                        · have l3 : (1 : Int) ≤ (ds.length : Int) := by omega
                          have l4 : (ds.length : Int) ≤ 4 := by omega
                          have eS : standB p sts.length (.tuple ds) = ds.all (deedB p sts.length) := by simp [standB, hd4]
                          rw [eS] at bad
                          simp [l3, l4]
                          refine WFor_A (WFor_inv (fun y : PyData => y) ds (fun t ρ s2 => s2 = s' ∧ ∃ c4 : Option Cl, ρ = [some (.d (.tuple [.tuple [.int r.num, .int (r.den : Int)], .int (p : Int), .tuple sts])), some (.d (.bool false)), some (.d (.int (sts.length : Int))), some (.d (.tuple ds)), c4] ∧ ∀ y ∈ ds.take t, deedB p sts.length y = true) ⟨rfl, c4, rfl, by simp⟩ ?_ ?_)
                          · rintro t z ρ s2 hzz ⟨rfl, c4, rfl, hallz⟩
                            have hzm := List.mem_of_getElem? hzz
                            have htz := take_snoc hzz
                            have hsz := hsd.2 z hzm
                            have badz : deedB p sts.length z = false → RES = false := fun hb => bad (by
                              apply Bool.eq_false_iff.mpr
                              intro h
                              rw [List.all_eq_true.mp h z hzm] at hb
                              cases hb)
                            cases z with
                            | tuple us =>
                              by_cases hu : us.length = 2
                              · obtain ⟨c, g, rfl⟩ : ∃ c g, us = [c, g] := by
                                  match us, hu with
                                  | [c, g], _ => exact ⟨c, g, rfl⟩
                                have hu2 := (szW_tup.mp hsz).2
                                simp [fIsi, isA, isN, tyName, fEq_int]
                                refine WF.of (e_lrowA (m := p) (hu2 g (by simp)) (by omega) (by omega)) ?_
                                by_cases hg : rowB p g = true
                                · simp [hg]
                                  refine WF.of (e_lchancesA (n := sts.length) (hu2 c (by simp)) hK hl.1 hl.2) ?_
                                  by_cases hcc : chcB sts.length c = true
                                  · simp [hcc]
                                    rw [htz]
                                    intro y hy
                                    rcases List.mem_append.mp hy with hy | hy
                                    · exact hallz y hy
                                    · rw [List.mem_singleton.mp hy]; simp [deedB, hg, hcc]
                                  · simp [hcc, badz (by simp [deedB, hcc])]
                                · simp [hg, badz (by simp [deedB, hg])]
                              · simp [fIsi, isA, isN, tyName, fEq_int, show ¬ (us.length : Int) = 2 by omega, badz (deedB_no hu)]
                            | _ => simp [fIsi, isA, isN, tyName, badz rfl]
                          · rintro ρ s2 ⟨rfl, c4, rfl, hallz⟩
                            rw [List.take_length] at hallz
                            have hyb : standB p sts.length (.tuple ds) = true := by rw [eS]; exact List.all_eq_true.mpr hallz
                            simp
                            rw [ht]
                            intro y hy
                            rcases List.mem_append.mp hy with hy | hy
                            · exact hall y hy
                            · rw [List.mem_singleton.mp hy]; exact hyb
                        · have eS : standB p sts.length (.tuple ds) = false := by
                            apply Bool.eq_false_iff.mpr
                            intro h
                            simp only [standB, Bool.and_eq_true, decide_eq_true_eq] at h
                            exact hd4 ⟨h.1, h.2.1⟩
                          by_cases l3 : (1 : Int) ≤ (ds.length : Int)
                          · have l4 : ¬ (ds.length : Int) ≤ 4 := by omega
                            simp [l3, l4, bad eS]
                          · simp [l3, bad eS]
                      | _ => simp [fIsi, isA, isN, tyName, bad rfl]
                    · rintro ρ s' ⟨rfl, c3, c4, rfl, hall⟩
                      rw [List.take_length] at hall
                      rw [List.all_eq_true.mpr hall]
                      simp [h0, h1]
                  · have eS : standsB p (.tuple sts) = false := by
                      apply Bool.eq_false_iff.mpr
                      intro h
                      simp only [standsB, Bool.and_eq_true, decide_eq_true_eq] at h
                      exact hl ⟨h.1, h.2.1⟩
                    rw [eS]
                    by_cases l1 : (1 : Int) ≤ (sts.length : Int)
                    · have l2 : ¬ (sts.length : Int) ≤ 8 := by omega
                      simp [l1, l2]
                    · simp [l1]
                | _ => simp [fIsi, isA, isN, tyName, standsB]
            · have hb : betG 1 4 b = false := by
                apply Bool.eq_false_iff.mpr
                intro h
                apply hi
                obtain ⟨e, e1, e2⟩ := betG_of (k := 4) h
                rw [e, idxB_iN]
                exact decide_eq_true (by omega)
              simp [hi, hb]
          · simp [h1]
        · have hn : r.num < 0 := by
            have := (Rat.num_nonneg (q := r)).mp
            apply Classical.byContradiction
            intro h
            exact h0 (this (by omega))
          simp [h0, hn]
      · simp [hf, houseB, shareB]
    · simp [m_law_is_built, List.replicate_succ, fIsi, isA, isN, tyName, fEq_int, show ¬ (zs.length : Int) = 3 by omega, houseB_no hz]
  | _ => simp [m_law_is_built, List.replicate_succ, fIsi, isA, isN, tyName, houseB]
end
end WW
namespace Dh
open PySem PySem.Spec L2 PySem.W
structure RS where
  st : Nat
  lo : Rat
  hi : Rat
def pRS (x : RS) : PyData := .tuple [.int (x.st : Nat), pQ x.lo, pQ x.hi]
def pStr (l : List RS) : PyData := .tuple (l.map pRS)
/-- a stretch of a row, numbers over D -/
structure EndOk (D : Nat) (x : RS) : Prop where
  s8 : x.st < 8
  l0 : 0 ≤ x.lo
  lh : x.lo ≤ x.hi
  h1 : x.hi ≤ 1
  cl : CD D (3 * D) x.lo
  ch : CD D (3 * D) x.hi
theorem EndOk.ql {D : Nat} {x : RS} (h : EndOk D x) (h0 : 0 < D) (h30 : D ≤ 30) : QLt 10 x.lo ∧ QLt 10 x.hi :=
  ⟨h.cl.qlt h0 (Nat.lt_of_le_of_lt h30 (by decide)) (Nat.lt_of_le_of_lt (Nat.mul_le_mul_left 3 h30) (by decide)), h.ch.qlt h0 (Nat.lt_of_le_of_lt h30 (by decide)) (Nat.lt_of_le_of_lt (Nat.mul_le_mul_left 3 h30) (by decide))⟩
theorem divInt_01 {n S : Nat} (h : 0 < S) (k : n ≤ S) : 0 ≤ Rat.divInt (n : Nat) (S : Nat) ∧ Rat.divInt (n : Nat) (S : Nat) ≤ 1 := by
  have hS : (0 : Rat) < ((S : Int) : Rat) := Rat.intCast_pos.mpr (by omega)
  rw [Rat.divInt_eq_div]
  constructor
  · rw [← Rat.not_lt, Rat.div_lt_iff hS, Rat.zero_mul, Rat.not_lt]
    exact Rat.intCast_nonneg.mpr (by omega)
  · rw [← Rat.not_lt, Rat.lt_div_iff hS, Rat.one_mul, Rat.not_lt]
    exact Rat.intCast_le_intCast.mpr (by omega)
/-- what is drawn for one part -/
theorem end_of {k n S t u : Nat} (hS : 0 < S) (hn : n ≤ S) (hk : k < 8) (ht : t ≤ 2) (hu : u ≤ 2) :
    EndOk (S * 2) ⟨k, Rat.divInt (n : Nat) (S : Nat) * Rat.divInt (t : Nat) (2 : Nat), Rat.divInt (n : Nat) (S : Nat) + (1 - Rat.divInt (n : Nat) (S : Nat)) * Rat.divInt (u : Nat) (2 : Nat)⟩ ∧ Rat.divInt (n : Nat) (S : Nat) * Rat.divInt (t : Nat) (2 : Nat) ≤ Rat.divInt (n : Nat) (S : Nat) ∧ Rat.divInt (n : Nat) (S : Nat) ≤ Rat.divInt (n : Nat) (S : Nat) + (1 - Rat.divInt (n : Nat) (S : Nat)) * Rat.divInt (u : Nat) (2 : Nat) := by
  have c := CD_divInt hS hn
  have ct := CD_divInt (S := 2) (by decide) ht
  have cu := CD_divInt (S := 2) (by decide) hu
  obtain ⟨c0, c1⟩ := divInt_01 hS hn
  obtain ⟨t0, t1⟩ := divInt_01 (S := 2) (by decide) ht
  obtain ⟨u0, u1⟩ := divInt_01 (S := 2) (by decide) hu
  generalize Rat.divInt (n : Nat) (S : Nat) = C at *
  generalize Rat.divInt (t : Nat) (2 : Nat) = T at *
  generalize Rat.divInt (u : Nat) (2 : Nat) = U at *
  have a1 : C * T ≤ C := by
    have := Rat.mul_le_mul_of_nonneg_left t1 c0
    rwa [Rat.mul_one] at this
  have a0 : 0 ≤ C * T := Rat.mul_nonneg c0 t0
  have d0 : 0 ≤ 1 - C := by grind
  have b0 : 0 ≤ (1 - C) * U := Rat.mul_nonneg d0 u0
  have b1 : (1 - C) * U ≤ 1 - C := by
    have := Rat.mul_le_mul_of_nonneg_left u1 d0
    rwa [Rat.mul_one] at this
  refine ⟨⟨hk, a0, by show C * T ≤ C + (1 - C) * U; grind, by show C + (1 - C) * U ≤ 1; grind, (c.mul ct).mono (by omega), ?_⟩, a1, by grind⟩
  show CD (S * 2) (3 * (S * 2)) (C + (1 - C) * U)
  have e1 : CD S (S + S) (1 - C) := (CD_1 (Nat.le_refl S)).sub c
  have := (c.up 2).add (e1.mul cu)
  exact this.mono (by omega)
theorem end_at {k n S : Nat} (hS : 0 < S) (hn : n ≤ S) (hk : k < 8) : EndOk (S * 2) ⟨k, Rat.divInt (n : Nat) (S : Nat), Rat.divInt (n : Nat) (S : Nat)⟩ := by
  have c := CD_divInt hS hn
  obtain ⟨c0, c1⟩ := divInt_01 hS hn
  exact ⟨hk, c0, Rat.le_refl, c1, (c.up 2).mono (by omega), (c.up 2).mono (by omega)⟩
theorem end_all {k S : Nat} (hS : 0 < S) (hk : k < 8) : EndOk (S * 2) ⟨k, 0, 1⟩ := ⟨hk, Rat.le_refl, (by show (0 : Rat) ≤ 1; decide), Rat.le_refl, CD_0, CD_1 (by omega)⟩
/-- so far -/
structure StJ (T ns : List Nat) (i : Nat) (rs : List RS) : Prop where
  mem : ∀ x ∈ rs, x.st ∈ T.take i
  asc : rs.Pairwise fun a b => a.st < b.st
  each : ∀ x ∈ rs, EndOk (ns.sum * 2) x
  low : qsum (rs.map (·.lo)) ≤ qsum ((ns.take i).map fun n => Rat.divInt (n : Nat) (ns.sum : Nat))
  high : qsum ((ns.take i).map fun n => Rat.divInt (n : Nat) (ns.sum : Nat)) ≤ qsum (rs.map (·.hi))
  len : rs.length ≤ i
theorem StJ.skip {T ns : List Nat} {i : Nat} {rs : List RS} (h : StJ T ns i rs) {k : Nat} (hk : T[i]? = some k) (hn : ns[i]? = some 0) : StJ T ns (i + 1) rs := by
  have et := take_snoc hk
  have en := take_snoc hn
  have e0 : qsum ((ns.take (i + 1)).map fun n => Rat.divInt (n : Nat) (ns.sum : Nat)) = qsum ((ns.take i).map fun n => Rat.divInt (n : Nat) (ns.sum : Nat)) := by
    rw [en, List.map_append, List.map_singleton, qsum_snoc]
    rw [show Rat.divInt ((0 : Nat) : Int) (ns.sum : Nat) = 0 by simp, Rat.add_zero]
  exact ⟨fun x hx => by rw [et]; exact List.mem_append_left _ (h.mem x hx), h.asc, h.each, by rw [e0]; exact h.low, by rw [e0]; exact h.high, Nat.le_succ_of_le h.len⟩
theorem StJ.add {T ns : List Nat} (hT : T.Pairwise (· < ·)) {i : Nat} {rs : List RS} (h : StJ T ns i rs) {k n : Nat} (hk : T[i]? = some k) (hn : ns[i]? = some n) {lo hi : Rat} (e : EndOk (ns.sum * 2) ⟨k, lo, hi⟩) (h1 : lo ≤ Rat.divInt (n : Nat) (ns.sum : Nat)) (h2 : Rat.divInt (n : Nat) (ns.sum : Nat) ≤ hi) : StJ T ns (i + 1) (rs ++ [⟨k, lo, hi⟩]) := by
  have et := take_snoc hk
  have en := take_snoc hn
  have e0 : qsum ((ns.take (i + 1)).map fun n => Rat.divInt (n : Nat) (ns.sum : Nat)) = qsum ((ns.take i).map fun n => Rat.divInt (n : Nat) (ns.sum : Nat)) + Rat.divInt (n : Nat) (ns.sum : Nat) := by
    rw [en, List.map_append, List.map_singleton, qsum_snoc]
  have lt : ∀ z ∈ T.take i, z < k := fun z hz => by
    have p : (T.take (i + 1)).Pairwise (· < ·) := hT.sublist (List.take_sublist _ _)
    rw [et, List.pairwise_append] at p
    exact p.2.2 z hz k (by simp)
  refine ⟨fun x hx => ?_, ?_, fun x hx => ?_, ?_, ?_, by rw [List.length_append]; have := h.len; simp; omega⟩
  · rw [et]
    rcases List.mem_append.mp hx with hx | hx
    · exact List.mem_append_left _ (h.mem x hx)
    · rw [List.mem_singleton.mp hx]; simp
  · rw [List.pairwise_append]
    refine ⟨h.asc, by simp, fun a ha b hb => ?_⟩
    rw [List.mem_singleton.mp hb]
    exact lt _ (h.mem a ha)
  · rcases List.mem_append.mp hx with hx | hx
    · exact h.each x hx
    · rw [List.mem_singleton.mp hx]; exact e
  · rw [e0, List.map_append, List.map_singleton, qsum_snoc]
    have := h.low
    grind
  · rw [e0, List.map_append, List.map_singleton, qsum_snoc]
    have := h.high
    grind
theorem sum_divInt (S : Nat) : ∀ ns : List Nat, qsum (ns.map fun n => Rat.divInt (n : Nat) (S : Nat)) = Rat.divInt (ns.sum : Nat) (S : Nat)
  | [] => by simp [qsum]
  | n :: ns => by
    rw [List.map_cons, qsum_cons, sum_divInt S ns, divInt_add, List.sum_cons, Int.natCast_add]
end Dh
namespace Dh
open PySem PySem.Spec L2 PySem.W
theorem atI_getD {α : Type} {f : α → PyData} {l : List α} {d : α} {i : Nat} (hi : i < l.length) : atI (l.map f) (i : Int) = some (f (l.getD i d)) := by
  rw [atI_ofNat (by rw [List.length_map]; exact hi), List.getElem?_map, List.getD_eq_getElem?_getD, List.getElem?_eq_getElem hi]; rfl
theorem getD_of {α : Type} {l : List α} {i : Nat} {x d : α} (h : l[i]? = some x) : l.getD i d = x := by rw [List.getD_eq_getElem?_getD, h]; rfl
theorem getD_mem {α : Type} {l : List α} {i : Nat} {d : α} (h : i < l.length) : l.getD i d ∈ l := by
  rw [List.getD_eq_getElem?_getD, List.getElem?_eq_getElem h]; exact List.getElem_mem h
theorem lt_of {α : Type} {l : List α} {i : Nat} {x : α} (h : l[i]? = some x) : i < l.length := (List.getElem?_eq_some_iff.mp h).1
theorem any_iN {g : Nat} {l : List Nat} : ((l.map iN).any fun z => PyData.eqv z (.int (g : Nat))) = decide (g ∈ l) := by
  rw [Bool.eq_iff_iff, List.any_eq_true, decide_eq_true_iff]
  constructor
  · rintro ⟨z, hz, e⟩
    obtain ⟨r, hr, rfl⟩ := List.mem_map.mp hz
    unfold iN at e
    rw [eqv_int, decide_eq_true_iff] at e
    have : r = g := by omega
    exact this ▸ hr
  · intro h
    exact ⟨_, List.mem_map_of_mem h, by unfold iN; rw [eqv_int]; simp⟩
theorem eqOk_iNs {l : List Nat} : eqOk (.list (l.map iN)) = true := by
  have nd : noDicts (l.map iN) = true := all_nd fun x hx => by obtain ⟨q, _, rfl⟩ := List.mem_map.mp hx; rfl
  have lay : PyData.canLayAll0 (l.map iN) = true := all_lay fun x hx => by obtain ⟨q, _, rfl⟩ := List.mem_map.mp hx; rfl
  have dep : PyData.depthAll (l.map iN) ≤ 1 := all_dep fun x hx => by obtain ⟨q, _, rfl⟩ := List.mem_map.mp hx; simp [iN, PyData.depth]
  unfold eqOk SeqAt.shaped
  simp [Dh.noDict, PyData.canLay0, PyData.depth, nd, lay]
  omega
theorem fIn_iNf {g : Nat} {l : List Nat} : fIn false (.d (.int (g : Nat))) (.f (l.map iN)) = some (.d (.bool (decide (g ∈ l)))) := by
  show (if eqOk (.int (g : Nat)) = true ∧ eqOk (.list (l.map iN)) = true then some (R.d (.bool (if false then !((l.map iN).any fun z => PyData.eqv z (.int (g : Nat))) else (l.map iN).any fun z => PyData.eqv z (.int (g : Nat))))) else none) = _
  rw [if_pos ⟨eqOk_int, eqOk_iNs⟩, any_iN]
  rfl
theorem bools_map {α : Type} (c : α → Bool) : ∀ l : List α, boolsOf (l.map fun x => PyData.bool (c x)) = some (l.map c)
  | [] => rfl
  | x :: l => by
    show (boolsOf (l.map fun x => PyData.bool (c x))).map (c x :: ·) = _
    rw [bools_map c l]; rfl
theorem fMul_repL {x : PyData} {n : Nat} (h : n ≤ 1000) : fMul (.f [x]) (.d (.int (n : Int))) = some (.f (List.replicate n x)) := by
  have h63 : (2 : Int) ^ 63 = 9223372036854775808 := by decide
  unfold fMul
  dsimp only
  rw [Int.toNat_natCast, if_pos ⟨by omega, by omega, by rw [List.length_singleton, Nat.one_mul]; exact szle h⟩, flat_one]
theorem cut_from {xs : List PyData} {k : Nat} : cutD xs (some (k : Int)) none = xs.drop k := by
  unfold cutD
  have h2 : HT.sIx xs.length xs.length none = xs.length := rfl
  rw [HT.sIx_nat, h2]
  by_cases h : k ≤ xs.length
  · rw [Nat.min_eq_left h, List.take_of_length_le (by rw [List.length_drop]; omega)]
  · rw [Nat.min_eq_right (by omega), List.drop_eq_nil_of_le (Nat.le_refl _), List.drop_eq_nil_of_le (by omega)]
    simp
theorem getD_snoc {α : Type} {ps : List α} {x d : α} {j : Nat} (hj : j < ps.length + 1) : (ps ++ [x]).getD j d = if j < ps.length then ps.getD j d else x := by
  by_cases h : j < ps.length
  · rw [if_pos h, List.getD_eq_getElem?_getD, List.getElem?_append_left h, ← List.getD_eq_getElem?_getD]
  · rw [if_neg h, List.getD_eq_getElem?_getD, List.getElem?_append_right (by omega), show j - ps.length = 0 by omega]; rfl
end Dh
namespace Dh
open PySem PySem.Spec L2 PySem.W
structure RVD where
  ss : List RS
  gs : List Rat
structure RVag where
  share : Rat
  pays : Nat
  stands : List (List RVD)
def pVD (d : RVD) : PyData := .tuple [pStr d.ss, pQs d.gs]
def pVS (st : List RVD) : PyData := .tuple (st.map pVD)
def pVag (v : RVag) : PyData := .tuple [pQ v.share, .int (v.pays : Nat), .tuple (v.stands.map pVS)]
structure SEnd (n b : Nat) (x : RS) : Prop where
  st : x.st < n
  l0 : 0 ≤ x.lo
  lh : x.lo ≤ x.hi
  h1 : x.hi ≤ 1
  ql : QLt b x.lo
  qh : QLt b x.hi
structure SOk (n b : Nat) (l : List RS) : Prop where
  asc : l.Pairwise fun a b => a.st < b.st
  each : ∀ x ∈ l, SEnd n b x
  low : qsum (l.map (·.lo)) ≤ 1
  high : 1 ≤ qsum (l.map (·.hi))
structure VDOk (n p b g : Nat) (d : RVD) : Prop where
  ss : SOk n b d.ss
  len : d.gs.length = p
  gain : ∀ q ∈ d.gs, QLt g q
structure VagOk (N D P b g : Nat) (v : RVag) : Prop where
  s0 : 0 ≤ v.share
  s1 : v.share < 1
  sb : QLt 7 v.share
  p1 : 1 ≤ v.pays
  pP : v.pays ≤ P
  n1 : 1 ≤ v.stands.length
  nN : v.stands.length ≤ N
  each : ∀ st ∈ v.stands, 1 ≤ st.length ∧ st.length ≤ D ∧ ∀ d ∈ st, VDOk v.stands.length v.pays b g d
theorem SOk.len {n b : Nat} {l : List RS} (o : SOk n b l) : l.length ≤ n := by
  have h := asc_len (n := n) (cs := l.map fun x => (x.st, (0 : Rat))) 0 (List.pairwise_map.mpr o.asc) (fun c hc => by
    obtain ⟨x, hx, rfl⟩ := List.mem_map.mp hc
    exact ⟨Nat.zero_le _, (o.each x hx).st⟩)
  rw [List.length_map] at h
  exact h
end Dh
namespace WW
open PySem PySem.Spec L2 PySem.W Dh
section
variable {s : Sto} {n b g p : Nat} {l : List RS}
theorem e_is_end {q : Rat} (h0 : 0 ≤ q) (h1 : q ≤ 1) : f_is_end [.d (pQ q)] s = some (.d (.bool true), s) := by
  have a : 0 ≤ q.num := Rat.num_nonneg.mpr h0
  have b : q.num ≤ (q.den : Int) := by
    have := (Rat.le_iff q 1).mp h1
    simpa using this
  refine WF.eq (WF.body rfl ?_)
  simp [m_is_end]
  refine WF.of e_is_ratio ?_
  simp [pQ, h0, b]
theorem e_is_stretch {x : RS} (o : SEnd n b x) (hb : b ≤ 300) : f_is_stretch [.d (pRS x), .d (.int (n : Nat))] s = some (.d (.bool true), s) := by
  have sn := o.st
  refine WF.eq (WF.body rfl ?_)
  simp [m_is_stretch, pRS]
  refine WF.of (e_is_tuple_of rfl) ?_
  simp
  refine WF.of (e_is_between (by omega) (by omega)) ?_
  simp
  refine WF.of (e_is_end o.l0 (Rat.le_trans o.lh o.h1)) ?_
  simp
  refine WF.of (e_is_end (Rat.le_trans o.l0 o.lh) o.h1) ?_
  simp
  refine WF.of (e_is_less (o.qh.bd (by omega)) (o.ql.bd (by omega))) ?_
  simp [Rat.not_lt.mpr o.lh]
theorem SOk.lows (o : SOk n b l) : (∀ q ∈ l.map (·.lo), QLt b q) ∧ (∀ q ∈ l.map (·.hi), QLt b q) := by
  constructor
  · intro q hq
    obtain ⟨x, hx, rfl⟩ := List.mem_map.mp hq
    exact (o.each x hx).ql
  · intro q hq
    obtain ⟨x, hx, rfl⟩ := List.mem_map.mp hq
    exact (o.each x hx).qh
theorem e_are_stretches (o : SOk n b l) (hn : n ≤ 8) (hb : b ≤ 300) : f_are_stretches [.d (pStr l), .d (.int (n : Nat))] s = some (.d (.bool true), s) := by
  have ll := o.len
  obtain ⟨ql, qh⟩ := SOk.lows o
  have bm : (b + 1) * l.length ≤ 301 * 8 := Nat.mul_le_mul (by omega) (by omega)
  have b1 : QLt 10 1 := (CD_1 (D := 1) (M := 1) (by decide)).qlt (by decide) (by decide) (by decide)
  refine WF.eq (WF.body rfl ?_)
  simp [m_are_stretches, List.replicate_succ, pStr, fIsi, isA, isN, tyName]
  refine WLc_map pRS (fun _ => PyData.bool true) l (fun x hx => ?_) ?_
  · simp
    exact WF.of (e_is_stretch (o.each x hx) hb) (by simp)
  refine ⟨szle (by rw [List.length_map]; omega), ?_⟩
  simp [fAll_true]
  refine WLc_map pRS (fun c => PyData.int (c.st : Nat)) l (fun x hx => ?_) ?_
  · simp [pRS]
  refine ⟨szle (by rw [List.length_map]; omega), ?_⟩
  simp [frzs, frz1, fSl, cutD_tail]
  rw [← List.map_tail, pairs_map]
  refine WLc_map (p2 (fun c : RS => PyData.int (c.st : Nat)) (fun c : RS => PyData.int (c.st : Nat))) (fun _ => PyData.bool true) (l.zip l.tail) (fun x hx => ?_) ?_
  · have : x.1.st < x.2.st := by
      obtain ⟨i, hi⟩ := List.getElem?_of_mem hx
      rw [List.getElem?_zip_eq_some, List.getElem?_tail] at hi
      obtain ⟨g1, g2⟩ := List.getElem?_eq_some_iff.mp hi.1
      obtain ⟨g3, g4⟩ := List.getElem?_eq_some_iff.mp hi.2
      rw [← g2, ← g4]
      exact List.pairwise_iff_getElem.mp o.asc i (i + 1) g1 g3 (by omega)
    simp [p2, this]
  refine ⟨szle (by rw [List.length_map, List.length_zip]; omega), ?_⟩
  simp [fAll_true]
  refine WLc_map pRS (fun c => pQ c.lo) l (fun x hx => ?_) ?_
  · simp [pRS]
  refine ⟨szle (by rw [List.length_map]; omega), ?_⟩
  simp
  refine WF.of (e_total (l := l.map (·.lo)) (k := b) (by rw [List.map_map]; rfl) ql (by rw [List.length_map]; omega)) ?_
  simp
  refine WLc_map pRS (fun c => pQ c.hi) l (fun x hx => ?_) ?_
  · simp [pRS]
  refine ⟨szle (by rw [List.length_map]; omega), ?_⟩
  simp
  refine WF.of (e_total (l := l.map (·.hi)) (k := b) (by rw [List.map_map]; rfl) qh (by rw [List.length_map]; omega)) ?_
  simp
  have sl := qsum_lt ql
  have sh := qsum_lt qh
  rw [List.length_map] at sl sh
  refine WF.of (e_is_less (p := 1) b1.bd (sl.bd (by omega))) ?_
  simp [Rat.not_lt.mpr o.low]
  refine WF.of (e_is_less (q := 1) (sh.bd (by omega)) b1.bd) ?_
  simp [Rat.not_lt.mpr o.high]
theorem e_is_vague_deed {d : RVD} (h : VDOk n p b g d) (hn : n ≤ 8) (hb : b ≤ 300) (hp : p ≤ 9) : f_is_vague_deed [.d (pVD d), .d (.int (p : Int)), .d (.int (n : Int))] s = some (.d (.bool true), s) := by
  refine WF.eq (WF.body rfl ?_)
  simp [m_is_vague_deed, pVD]
  refine WF.of (e_is_tuple_of rfl) ?_
  simp
  refine WF.of (e_are_stretches h.ss hn hb) ?_
  simp
  refine WF.of (e_is_row (by rw [h.len]) (by rw [h.len]; omega)) ?_
  simp
theorem e_is_vague_stand {st : List RVD} (h : ∀ d ∈ st, VDOk n p b g d) (h1 : 1 ≤ st.length) (h4 : st.length ≤ 4) (hn : n ≤ 8) (hb : b ≤ 300) (hp : p ≤ 9) : f_is_vague_stand [.d (pVS st), .d (.int (p : Int)), .d (.int (n : Int))] s = some (.d (.bool true), s) := by
  refine WF.eq (WF.body rfl ?_)
  simp [m_is_vague_stand, List.replicate_succ, pVS, k_MOST_DEEDS, fIsi, isA, isN, tyName]
  refine WF.of (e_is_between (by omega) (by omega)) ?_
  simp
  refine WLc_map pVD (fun _ => PyData.bool true) st (fun x hx => ?_) ?_
  · simp
    exact WF.of (e_is_vague_deed (h x hx) hn hb hp) (by simp)
  refine ⟨szle (by rw [List.length_map]; omega), ?_⟩
  simp [fAll_true]
theorem e_is_share {q : Rat} (h0 : 0 ≤ q) (h1 : q < 1) : f_is_share [.d (pQ q)] s = some (.d (.bool true), s) := by
  refine WF.eq (WF.body rfl ?_)
  simp [m_is_share]
  refine WF.of e_is_ratio ?_
  have a := Rat.num_nonneg.mpr h0
  have b := (Rat.lt_iff _ _).mp h1
  simp at b
  simp [pQ, h0, b]
theorem e_is_vague_by {N D P : Nat} {v : RVag} (ok : VagOk N D P b g v) (hN : N ≤ 8) (hD : D ≤ 4) (hP : P ≤ 4) (hb : b ≤ 300) : f_is_vague_by [.d (pVag v)] s = some (.d (.bool true), s) := by
  have hn1 := ok.n1
  have hn := ok.nN
  have hp1 := ok.p1
  have hp := ok.pP
  refine WF.eq (WF.body rfl ?_)
  simp [m_is_vague_by, List.replicate_succ, pVag, k_MOST_PAYS, k_MOST_STANDS]
  refine WF.of (e_is_tuple_of rfl) ?_
  simp
  refine WF.of (e_is_share ok.s0 ok.s1) ?_
  simp
  refine WF.of (e_is_between (by omega) (by omega)) ?_
  simp [fIsi, isA, isN, tyName]
  refine WF.of (e_is_between (by omega) (by omega)) ?_
  simp
  refine WLc_map pVS (fun _ => PyData.bool true) v.stands (fun x hx => ?_) ?_
  · obtain ⟨h1, h2, h3⟩ := ok.each x hx
    simp
    exact WF.of (e_is_vague_stand h3 h1 (by omega) (by omega) hb (by omega)) (by simp)
  refine ⟨szle (by rw [List.length_map]; omega), ?_⟩
  simp [fAll_true]
theorem e_check_vague {N D P : Nat} {v : RVag} (ok : VagOk N D P b g v) (hN : N ≤ 8) (hD : D ≤ 4) (hP : P ≤ 4) (hb : b ≤ 300) : f_check_vague [.d (pVag v)] s = some (.d .none, s) := by
  refine WF.eq (WF.body rfl ?_)
  simp [m_check_vague]
  exact WF.of (e_is_vague_by ok hN hD hP hb) (by simp)
end
end WW
namespace Dh
open PySem PySem.Spec L2 PySem.W
def vd0 : RVD := ⟨[], []⟩
def stV (v : RVag) (a : Nat) : List RVD := v.stands.getD a []
def dV (v : RVag) (a b : Nat) : RVD := (stV v a).getD b vd0
theorem VagOk.st {N D P b g : Nat} {v : RVag} (ok : VagOk N D P b g v) {i : Nat} (hi : i < v.stands.length) : 1 ≤ (stV v i).length ∧ (stV v i).length ≤ D ∧ ∀ d ∈ stV v i, VDOk v.stands.length v.pays b g d := by
  have : stV v i ∈ v.stands := by
    unfold stV
    rw [List.getD_eq_getElem?_getD, List.getElem?_eq_getElem hi]
    exact List.getElem_mem hi
  exact ok.each _ this
theorem VagOk.dd {N D P b g : Nat} {v : RVag} (ok : VagOk N D P b g v) {i j : Nat} (hi : i < v.stands.length) (hj : j < (stV v i).length) : VDOk v.stands.length v.pays b g (dV v i j) := by
  refine (ok.st hi).2.2 _ ?_
  unfold dV
  rw [List.getD_eq_getElem?_getD, List.getElem?_eq_getElem hj]
  exact List.getElem_mem hj
theorem cut2 {xs : List PyData} : cutD xs none (some 2) = xs.take 2 := cut_to (k := 2)
end Dh
namespace Dh
open PySem PySem.Spec L2 PySem.W
theorem sum_le_q {α : Type} {f g : α → Rat} : ∀ {l : List α}, (∀ x ∈ l, f x ≤ g x) → qsum (l.map f) ≤ qsum (l.map g)
  | [], _ => Rat.le_refl
  | x :: l, h => by
    have a := h x List.mem_cons_self
    have b := sum_le_q (l := l) fun y hy => h y (List.mem_cons_of_mem _ hy)
    rw [List.map_cons, List.map_cons, qsum_cons, qsum_cons]
    grind
theorem SOk.mono {n b c : Nat} {l : List RS} (o : SOk n b l) (h : b ≤ c) : SOk n c l := ⟨o.asc, fun x hx => { o.each x hx with ql := (o.each x hx).ql.mono h, qh := (o.each x hx).qh.mono h }, o.low, o.high⟩
end Dh
namespace Dh
open PySem PySem.Spec L2 PySem.W
/-- the chance of a stand, 0 where it is not told -/
def chF (cs : List (Nat × Rat)) (k : Nat) : Rat := ((cs.find? fun c => decide (c.1 = k)).map (·.2)).getD 0
def goB (ss : List RS) (k : Nat) : Bool := decide (k ∈ ss.map (·.st))
def inS (ss : List RS) (cs : List (Nat × Rat)) : Bool := (cs.all fun c => goB ss c.1) && ss.all fun x => !decide (chF cs x.st < x.lo) && !decide (x.hi < chF cs x.st)
def inD (d : RVD) (e : RDeed) : Bool := decide (d.gs = e.gs) && inS d.ss e.ch
def fitB (v : RVag) (h : RHouse) : Bool := decide (v.share = h.share) && decide (v.pays = h.pays) && decide (v.stands.map (·.length) = h.stands.map (·.length)) && (v.stands.zip h.stands).all fun p => (p.1.zip p.2).all fun q => inD q.1 q.2
theorem chF_lt {cs : List (Nat × Rat)} {b k : Nat} (h : ∀ c ∈ cs, QLt b c.2) (hb : 0 < b) : QLt b (chF cs k) := by
  unfold chF
  cases e : cs.find? fun c => decide (c.1 = k) with
  | none => exact QLt_0
  | some c => exact h c (List.mem_of_find?_eq_some e)
theorem fAll_map {α : Type} (c : α → Bool) (l : List α) : fAll [.f (l.map fun x => PyData.bool (c x))] = some (.d (.bool (l.all c))) := by
  show (match rdL (.f (l.map fun x => PyData.bool (c x))) with | some xs => (boolsOf xs).map fun bs : List Bool => R.d (.bool (bs.all id)) | none => none) = _
  rw [ev_rdL2]
  dsimp only
  rw [bools_map, Option.map_some, List.all_map]
  rfl
theorem pairP_ch (c : Nat × Rat) : pairP (pCh c) = some (Sum.inl (c.1 : Int), pQ c.2) := rfl
theorem fEq_hd {a c : Rat} {b d : Nat} {neg : Bool} : fEq neg (.d (.tuple [pQ a, .int (b : Nat)])) (.d (.tuple [pQ c, .int (d : Nat)])) = some (.d (.bool (if neg then !(decide (a = c) && decide (b = d)) else (decide (a = c) && decide (b = d))))) := by
  have k : ∀ (a : Rat) (b : Nat), eqOk (.tuple [pQ a, .int (b : Nat)]) = true := fun a b => by
    unfold pQ eqOk SeqAt.shaped
    simp [noDict, noDicts, PyData.canLay0, PyData.canLayAll0, PyData.depth, PyData.depthAll]
  have e : PyData.eqv (.tuple [pQ a, .int (b : Nat)]) (.tuple [pQ c, .int (d : Nat)]) = (decide (a = c) && decide (b = d)) := by
    simp only [PyData.eqv, PyData.eqvAll, eqv_pQ, Bool.and_true]
    rw [Bool.eq_iff_iff]
    simp
    intro _
    omega
  show (if eqOk (.tuple [pQ a, .int (b : Nat)]) = true ∧ eqOk (.tuple [pQ c, .int (d : Nat)]) = true then some (R.d (.bool (if neg then !PyData.eqv (.tuple [pQ a, .int (b : Nat)]) (.tuple [pQ c, .int (d : Nat)]) else PyData.eqv (.tuple [pQ a, .int (b : Nat)]) (.tuple [pQ c, .int (d : Nat)])))) else none) = _
  rw [if_pos ⟨k a b, k c d⟩, e]
theorem eqvAll_map {α : Type} [DecidableEq α] {f : α → PyData} (hf : ∀ a b, PyData.eqv (f a) (f b) = decide (a = b)) : ∀ {l m : List α}, PyData.eqvAll (l.map f) (m.map f) = decide (l = m)
  | [], [] => by simp [PyData.eqvAll]
  | [], _ :: _ => by simp [PyData.eqvAll]
  | _ :: _, [] => by simp [PyData.eqvAll]
  | a :: l, b :: m => by
    rw [List.map_cons, List.map_cons, PyData.eqvAll, hf, eqvAll_map hf, Bool.eq_iff_iff]
    simp
theorem fEq_lens {l m : List Nat} {neg : Bool} : fEq neg (.f (l.map iN)) (.f (m.map iN)) = some (.d (.bool (if neg then !decide (l = m) else decide (l = m)))) := by
  show (if eqOk (.list (l.map iN)) = true ∧ eqOk (.list (m.map iN)) = true then some (R.d (.bool (if neg then !PyData.eqv (.list (l.map iN)) (.list (m.map iN)) else PyData.eqv (.list (l.map iN)) (.list (m.map iN))))) else none) = _
  rw [if_pos ⟨eqOk_iNs, eqOk_iNs⟩, show PyData.eqv (.list (l.map iN)) (.list (m.map iN)) = PyData.eqvAll (l.map iN) (m.map iN) by simp only [PyData.eqv], eqvAll_map fun a b => by
    unfold iN
    rw [eqv_int, Bool.eq_iff_iff, decide_eq_true_iff, decide_eq_true_iff]
    omega]
theorem fEq_qs {l m : List Rat} {neg : Bool} (h1 : ∀ q ∈ l, QLt 100 q) (h2 : ∀ q ∈ m, QLt 100 q) (hl : l.length ≤ 8) (hm : m.length ≤ 8) : fEq neg (.d (pQs l)) (.d (pQs m)) = some (.d (.bool (if neg then !decide (l = m) else decide (l = m)))) := by
  have p1 : Pn 100 2 24 (pQs l) := Pn.qs0 (B := 100) (by decide) (by decide) h1 hl
  have p2 : Pn 100 2 24 (pQs m) := Pn.qs0 (B := 100) (by decide) (by decide) h2 hm
  show (if eqOk (pQs l) = true ∧ eqOk (pQs m) = true then some (R.d (.bool (if neg then !PyData.eqv (pQs l) (pQs m) else PyData.eqv (pQs l) (pQs m)))) else none) = _
  rw [if_pos ⟨p1.eqOk (by decide), p2.eqOk (by decide)⟩]
  unfold pQs
  rw [show PyData.eqv (.tuple (l.map pQ)) (.tuple (m.map pQ)) = PyData.eqvAll (l.map pQ) (m.map pQ) by simp only [PyData.eqv], eqvAll_map fun a b => eqv_pQ]
end Dh
namespace WW
open PySem PySem.Spec L2 PySem.W Dh
theorem val_chz {cs : List (Nat × Rat)} {k : Nat} : ((valP (cs.map fun c => ((Sum.inl (c.1 : Int) : Key), pQ c.2)) (Sum.inl (k : Int))).getD k_ZERO) = pQ (chF cs k) := by
  have e := valP_map (kf := fun c : Nat × Rat => (Sum.inl (c.1 : Int) : Key)) (vf := fun c => pQ c.2) (l := cs) (k := Sum.inl (k : Int))
  rw [e]
  unfold chF
  have f : (fun c : Nat × Rat => decide ((Sum.inl (c.1 : Int) : Key) = Sum.inl (k : Int))) = fun c => decide (c.1 = k) := by
    funext c
    rw [Bool.eq_iff_iff]
    simp
    omega
  rw [f]
  cases cs.find? fun c => decide (c.1 = k) with
  | none => rfl
  | some c => rfl
section
variable {s : Sto} {n b : Nat} {ss : List RS} {cs : List (Nat × Rat)}
theorem e_do_chances_fit (o : SOk n b ss) (hn : n ≤ 8) (hb : b ≤ 300) (asc : cs.Pairwise fun a b => a.1 < b.1) (hl : cs.length ≤ 8) (hq : ∀ c ∈ cs, QLt 300 c.2) : f_do_chances_fit [.d (pStr ss), .d (.tuple (cs.map pCh))] s = some (.d (.bool (inS ss cs)), s) := by
  have ll := o.len
  have nd : (cs.map fun c => (Sum.inl (c.1 : Int) : Key)).Nodup := List.pairwise_map.mpr (asc.imp fun {a b} h e => by
    have : (a.1 : Int) = (b.1 : Int) := Sum.inl.inj e
    omega)
  refine WF.eq (WF.body rfl ?_)
  simp [m_do_chances_fit, List.replicate_succ, fDictP_new pairP_ch nd]
  refine ⟨rfl, ?_⟩
  refine WLc_map (fun c : Nat × Rat => PyData.int (c.1 : Nat)) (fun c => PyData.bool (goB ss c.1)) cs (fun c hc => ?_) ?_
  · simp [pStr]
    refine WLc_map pRS (fun x => iN x.st) ss (fun x hx => ?_) ?_
    · simp [pRS, iN]
    refine ⟨szle (by rw [List.length_map]; omega), ?_⟩
    have fi := fIn_iNf (g := c.1) (l := ss.map (·.st))
    rw [List.map_map] at fi
    have fi' : fIn false (.d (.int (c.1 : Nat))) (.f (ss.map fun x => iN x.st)) = some (.d (.bool (goB ss c.1))) := fi
    simp [fi']
  refine ⟨⟨szle (by rw [List.length_map]; omega), all_nd fun x hx => ?_⟩, ?_⟩
  · obtain ⟨c, _, rfl⟩ := List.mem_map.mp hx
    rfl
  have fa := fAll_map (fun c : Nat × Rat => goB ss c.1) cs
  unfold inS
  generalize (cs.all fun c => goB ss c.1) = A at *
  cases A with
  | false => simp [fa]
  | true =>
    simp [fa, pStr]
    refine WFor_inv pRS ss (fun i ρ s' => s' = s ∧ (∀ x ∈ ss.take i, (!decide (chF cs x.st < x.lo) && !decide (x.hi < chF cs x.st)) = true) ∧ ∃ c3 c4 c5 c6 : Option Cl, ρ = [some (.d (pStr ss)), some (.d (.tuple (cs.map pCh))), some (.m (cs.map fun c => ((Sum.inl (c.1 : Int) : Key), pQ c.2))), c3, c4, c5, c6, none]) ⟨rfl, by simp, none, none, none, none, rfl⟩ ?_ ?_
    · rintro i x ρ s' hx ⟨rfl, hall, c3, c4, c5, c6, rfl⟩
      have hm := List.mem_of_getElem? hx
      have oe := o.each x hm
      have ql := chF_lt (k := x.st) hq (by decide)
      simp [pRS, val_chz]
      refine WF.of (e_is_less (ql.bd (by omega)) (oe.ql.bd (by omega))) ?_
      have bad : (!decide (chF cs x.st < x.lo) && !decide (x.hi < chF cs x.st)) = false → (ss.all fun x => !decide (chF cs x.st < x.lo) && !decide (x.hi < chF cs x.st)) = false := fun q => by
        rw [Bool.eq_false_iff]
        intro t
        rw [List.all_eq_true.mp t x hm] at q
        cases q
      by_cases h1 : chF cs x.st < x.lo
      · rw [bad (by simp [h1])]
        simp [h1]
      · simp [h1]
        refine WF.of (e_is_less (oe.qh.bd (by omega)) (ql.bd (by omega))) ?_
        by_cases h2 : x.hi < chF cs x.st
        · rw [bad (by simp [h2])]
          simp [h2]
        · simp [h2]
          intro y hy
          rw [take_snoc hx] at hy
          rcases List.mem_append.mp hy with hy | hy
          · simpa using hall y hy
          · rw [List.mem_singleton.mp hy]
            simp [h1, h2]
    · rintro ρ s' ⟨rfl, hall, c3, c4, c5, c6, rfl⟩
      rw [List.take_length] at hall
      have : (ss.all fun x => !decide (chF cs x.st < x.lo) && !decide (x.hi < chF cs x.st)) = true := List.all_eq_true.mpr hall
      simp
      exact fun x hx => by simpa using hall x hx
end
end WW
namespace Dh
open PySem PySem.Spec L2 PySem.W
/-- enough of a house to be held beside a vague one -/
structure HFit (h : RHouse) : Prop where
  n8 : h.stands.length ≤ 8
  each : ∀ st ∈ h.stands, ∀ d ∈ st, d.ch.Pairwise (fun a b => a.1 < b.1) ∧ d.ch.length ≤ 8 ∧ (∀ c ∈ d.ch, QLt 300 c.2) ∧ d.gs.length ≤ 8 ∧ ∀ q ∈ d.gs, QLt 100 q
theorem HFit.of {N D P g : Nat} {h : RHouse} (hk : HouseOk N D P h g) (hN : N ≤ 8) (hP : P ≤ 4) (hg : g ≤ 100) : HFit h where
  n8 := Nat.le_trans hk.nN hN
  each := fun st hst d hd => by
    have c := (hk.each st hst).2.2 d hd
    have n := hk.nN
    have l := c.ch.len
    have p := hk.pP
    exact ⟨c.ch.asc, by omega, fun x hx => (c.ch.each x hx).2.2.mono (by decide), by rw [c.len]; omega, fun q hq => (c.gain q hq).mono hg⟩
end Dh
namespace WW
open PySem PySem.Spec L2 PySem.W Dh
section
variable {s : Sto} {N D P b g N' D' P' g' : Nat} {v : RVag} {h : RHouse}
theorem e_does_fit (ok : VagOk N D P b g v) (hf : HFit h) (hN : N ≤ 8) (hD : D ≤ 4) (hP : P ≤ 4) (hb : b ≤ 300) (hg : g ≤ 100) : f_does_fit [.d (pVag v), .d (pHouse h)] s = some (.d (.bool (fitB v h)), s) := by
  have nN := ok.nN
  have nN' := hf.n8
  have pP := ok.pP
  refine WF.eq (WF.body rfl ?_)
  simp [m_does_fit, List.replicate_succ, pVag, pHouse, fSl, cut2, fEq_hd, sz2]
  unfold fitB
  by_cases h1 : h.share = v.share ∧ h.pays = v.pays
  rotate_left
  · have e : (decide (v.share = h.share) && decide (v.pays = h.pays)) = false := by
      rw [Bool.eq_false_iff]
      intro q
      simp at q
      exact h1 ⟨q.1.symm, q.2.symm⟩
    have e' : (!decide (h.share = v.share) || !decide (h.pays = v.pays)) = true := by
      by_cases a : h.share = v.share
      · have : ¬ h.pays = v.pays := fun c => h1 ⟨a, c⟩
        simp [this]
      · simp [a]
    rw [e]
    simp [e']
  obtain ⟨h1, h2⟩ := h1
  rw [decide_eq_true h1.symm, decide_eq_true h2.symm]
  simp [h1, h2]
  refine WLc_map pStand (fun st => iN st.length) h.stands (fun st hst => ?_) ?_
  · simp [pStand, iN]
  refine ⟨szle (by rw [List.length_map]; omega), ?_⟩
  simp
  refine WLc_map pVS (fun st => iN st.length) v.stands (fun st hst => ?_) ?_
  · simp [pVS, iN]
  refine ⟨szle (by rw [List.length_map]; omega), ?_⟩
  have fl := fEq_lens (l := h.stands.map (·.length)) (m := v.stands.map (·.length)) (neg := true)
  rw [List.map_map, List.map_map] at fl
  have fl' : fEq true (.f (h.stands.map fun st => iN st.length)) (.f (v.stands.map fun st => iN st.length)) = some (.d (.bool (if true then !decide (h.stands.map (·.length) = v.stands.map (·.length)) else decide (h.stands.map (·.length) = v.stands.map (·.length))))) := fl
  by_cases h3 : h.stands.map (·.length) = v.stands.map (·.length)
  rotate_left
  · have h3' : ¬ v.stands.map (·.length) = h.stands.map (·.length) := fun q => h3 q.symm
    rw [decide_eq_false h3] at fl'
    rw [decide_eq_false h3']
    simp [fl']
  rw [decide_eq_true h3] at fl'
  rw [decide_eq_true h3.symm]
  simp [fl']
  rw [pairs_map]
  have fin : ∀ p ∈ v.stands.zip h.stands, ((p.1.zip p.2).all fun q => inD q.1 q.2) = false → ((v.stands.zip h.stands).all fun p => (p.1.zip p.2).all fun q => inD q.1 q.2) = false := fun p hp q => by
    rw [Bool.eq_false_iff]
    intro t
    rw [List.all_eq_true.mp t p hp] at q
    cases q
  refine WFor_inv (p2 pVS pStand) (v.stands.zip h.stands) (fun i ρ s' => s' = s ∧ (∀ p ∈ (v.stands.zip h.stands).take i, ((p.1.zip p.2).all fun q => inD q.1 q.2) = true) ∧ ∃ c2 c3 c4 c5 c6 c7 : Option Cl, ρ = [some (.d (pVag v)), some (.d (pHouse h)), c2, c3, c4, c5, c6, c7]) ⟨rfl, by simp, none, none, none, none, none, none, rfl⟩ ?_ ?_
  · rintro i p ρ s' hp ⟨rfl, hall, c2, c3, c4, c5, c6, c7, rfl⟩
    have hm := List.mem_of_getElem? hp
    obtain ⟨m1, m2⟩ := List.of_mem_zip (a := p.1) (b := p.2) hm
    obtain ⟨_, t2, t3⟩ := ok.each _ m1
    simp [p2, pVS, pStand]
    rw [pairs_map]
    refine WFor_inv (p2 pVD pDeed) (p.1.zip p.2) (fun j ρ s'' => s'' = s' ∧ (∀ q ∈ (p.1.zip p.2).take j, inD q.1 q.2 = true) ∧ ∃ c4 c5 c6 c7 : Option Cl, ρ = [some (.d (pVag v)), some (.d (pHouse h)), some (.d (pVS p.1)), some (.d (pStand p.2)), c4, c5, c6, c7]) ⟨rfl, by simp, _, _, _, _, rfl⟩ ?_ ?_
    · rintro j q ρ s'' hq ⟨rfl, hall2, c4, c5, c6, c7, rfl⟩
      have hmq := List.mem_of_getElem? hq
      obtain ⟨n1, n2⟩ := List.of_mem_zip (a := q.1) (b := q.2) hmq
      have a := t3 _ n1
      obtain ⟨c1, c2, c3, c4', c5'⟩ := hf.each _ m2 _ n2
      have al := a.ss.len
      have feq := fEq_qs (l := q.1.gs) (m := q.2.gs) (neg := true) (fun x hx => (a.gain x hx).mono hg) c5' (by rw [a.len]; omega) c4'
      have bad : inD q.1 q.2 = false → ((v.stands.zip h.stands).all fun p => (p.1.zip p.2).all fun q => inD q.1 q.2) = false := fun z => by
        refine fin p hm ?_
        rw [Bool.eq_false_iff]
        intro t
        rw [List.all_eq_true.mp t q hmq] at z
        cases z
      simp [p2, pVD, pDeed]
      by_cases g1 : q.1.gs = q.2.gs
      · rw [decide_eq_true g1] at feq
        simp [feq]
        refine WF.of (e_do_chances_fit a.ss (by omega) hb c1 c2 c3) ?_
        have iv : inD q.1 q.2 = inS q.1.ss q.2.ch := by unfold inD; rw [decide_eq_true g1, Bool.true_and]
        cases hi : inS q.1.ss q.2.ch with
        | false =>
          rw [bad (by rw [iv, hi])]
          simp
        | true =>
          simp
          intro y z hy
          rw [take_snoc hq] at hy
          rcases List.mem_append.mp hy with hy | hy
          · exact hall2 _ hy
          · cases List.mem_singleton.mp hy
            exact iv.trans hi
      · have iv : inD q.1 q.2 = false := by unfold inD; rw [decide_eq_false g1, Bool.false_and]
        rw [decide_eq_false g1] at feq
        rw [bad iv]
        simp [feq]
    · rintro ρ s'' ⟨rfl, hall2, c4, c5, c6, c7, rfl⟩
      rw [List.take_length] at hall2
      simp
      intro y z hy
      rw [take_snoc hp] at hy
      rcases List.mem_append.mp hy with hy | hy
      · exact fun a b hab => List.all_eq_true.mp (hall _ hy) (a, b) hab
      · cases List.mem_singleton.mp hy
        exact fun a b hab => hall2 _ hab
  · rintro ρ s' ⟨rfl, hall, c2, c3, c4, c5, c6, c7, rfl⟩
    rw [List.take_length] at hall
    have : ((v.stands.zip h.stands).all fun p => (p.1.zip p.2).all fun q => inD q.1 q.2) = true := List.all_eq_true.mpr hall
    rw [this]
    simp
end
end WW
namespace Dh
open PySem PySem.Spec L2 PySem.W
def endB (x : PyData) : Bool := fracB x && (decide (0 ≤ qOf x) && decide (qOf x ≤ 1))
def trpB (n : Nat) : PyData → Bool
  | .tuple [a, p, q] => idxB n a && (endB p && (endB q && !decide (qOf q < qOf p)))
  | _ => false
def rsOf : PyData → RS
  | .tuple [.int i, p, q] => ⟨i.toNat, qOf p, qOf q⟩
  | _ => ⟨0, 0, 0⟩
theorem endB_of {x : PyData} (h : endB x = true) : x = pQ (qOf x) ∧ 0 ≤ qOf x ∧ qOf x ≤ 1 := by
  unfold endB at h
  simp only [Bool.and_eq_true, decide_eq_true_eq] at h
  exact ⟨fracB_of h.1, h.2.1, h.2.2⟩
theorem trpB_three {n : Nat} {y : PyData} (h : trpB n y = true) : ∃ a p q, y = .tuple [a, p, q] := by
  unfold trpB at h
  split at h
  · exact ⟨_, _, _, rfl⟩
  · cases h
theorem trpB_of {n : Nat} {y : PyData} (h : trpB n y = true) : y = pRS (rsOf y) ∧ (rsOf y).st < n ∧ 0 ≤ (rsOf y).lo ∧ (rsOf y).lo ≤ (rsOf y).hi ∧ (rsOf y).hi ≤ 1 := by
  obtain ⟨a, p, q, rfl⟩ := trpB_three h
  simp only [trpB, Bool.and_eq_true] at h
  obtain ⟨h1, h2, h3, h4⟩ := h
  obtain ⟨i, rfl, hi⟩ := idxB_of h1
  obtain ⟨p1, p2, p3⟩ := endB_of h2
  obtain ⟨q1, q2, q3⟩ := endB_of h3
  refine ⟨?_, ?_, p2, ?_, q3⟩
  · show PyData.tuple [iN i, p, q] = PyData.tuple [.int ((i : Int).toNat : Nat), pQ (qOf p), pQ (qOf q)]
    rw [← p1, ← q1]; simp [iN]
  · show (i : Int).toNat < n; omega
  · show qOf p ≤ qOf q
    exact Rat.not_lt.mp (by simpa using h4)
theorem trpB_no {n : Nat} {zs : List PyData} (h : zs.length ≠ 3) : trpB n (.tuple zs) = false := by
  apply Bool.eq_false_iff.mpr
  intro t
  obtain ⟨a, p, q, e⟩ := trpB_three t
  cases e
  exact h rfl
def strB (n : Nat) : PyData → Bool
  | .tuple xs => xs.all (trpB n) && (decide (((xs.map rsOf).map (·.st)).Pairwise (· < ·)) && (decide (qsum ((xs.map rsOf).map (·.lo)) ≤ 1) && decide (1 ≤ qsum ((xs.map rsOf).map (·.hi)))))
  | _ => false
theorem strB_t {n : Nat} {xs : List PyData} : strB n (.tuple xs) = (xs.all (trpB n) && (decide (((xs.map rsOf).map (·.st)).Pairwise (· < ·)) && (decide (qsum ((xs.map rsOf).map (·.lo)) ≤ 1) && decide (1 ≤ qsum ((xs.map rsOf).map (·.hi)))))) := rfl
theorem rs_of {n : Nat} {xs : List PyData} (h : xs.all (trpB n) = true) : xs = (xs.map rsOf).map pRS := by
  rw [List.map_map]
  have := List.all_eq_true.mp h
  refine (List.map_id xs).symm.trans (List.map_congr_left fun y hy => ?_)
  exact (trpB_of (this y hy)).1
theorem rs_lt {K W n : Nat} {y : PyData} (hs : szW K W y = true) (h : trpB n y = true) : QLt K (rsOf y).lo ∧ QLt K (rsOf y).hi := by
  obtain ⟨a, p, q, rfl⟩ := trpB_three h
  simp only [trpB, Bool.and_eq_true] at h
  obtain ⟨h1, h2, h3, _⟩ := h
  obtain ⟨i, rfl, hi⟩ := idxB_of h1
  have c := (szW_tup.mp hs).2
  unfold endB at h2 h3
  rw [Bool.and_eq_true] at h2 h3
  exact ⟨szW_q (c p (by simp)) h2.1, szW_q (c q (by simp)) h3.1⟩
theorem zip_ascs {cs : List RS} : ((cs.zip cs.tail).all fun p => decide (p.1.st < p.2.st)) = decide ((cs.map (·.st)).Pairwise (· < ·)) := by
  have key : ∀ l : List Nat, ((l.zip (l.drop 1)).all fun p => decide (p.1 < p.2)) = decide (l.Pairwise (· < ·)) := zip_asc
  rw [← key, ← List.map_drop, List.zip_map, List.all_map, List.drop_one]
  rfl
def stJ (n : Nat) (xs : List PyData) (i : Nat) (lst : Int) (lq hq : Rat) : Prop := lq = qsum (((xs.take i).map rsOf).map (·.lo)) ∧ hq = qsum (((xs.take i).map rsOf).map (·.hi)) ∧
      (∀ y ∈ xs.take i, trpB n y = true) ∧ (((xs.take i).map rsOf).map (·.st)).Pairwise (· < ·) ∧ ∀ g : Nat, lst < (g : Int) ↔ ∀ a ∈ ((xs.take i).map rsOf).map (·.st), a < g
end Dh
namespace WW
open PySem PySem.Spec L2 PySem.W Dh
section
variable {s : Sto}
theorem e_is_endA {x : PyData} : f_is_end [.d x] s = some (.d (.bool (endB x)), s) := by
  refine WF.eq (WF.body rfl ?_)
  simp [m_is_end]
  refine WF.of e_is_ratioA ?_
  by_cases hf : fracB x = true
  · obtain ⟨r, rfl⟩ : ∃ r, x = pQ r := ⟨_, fracB_of hf⟩
    unfold endB
    rw [hf, qOf_pQ]
    have e1 : (0 ≤ r) ↔ 0 ≤ r.num := Rat.num_nonneg.symm
    have e2 : r ≤ 1 ↔ r.num ≤ (r.den : Int) := by
      rw [Rat.le_iff]
      simp
    simp [pQ]
    by_cases h0 : 0 ≤ r
    · simp [h0, e2]
    · simp [h0]
  · simp [hf, endB]
theorem e_is_stretchA {K W n : Nat} {x : PyData} (hx : szW K W x = true) (hK : K ≤ 400) : f_is_stretch [.d x, .d (.int (n : Nat))] s = some (.d (.bool (trpB n x)), s) := by
  refine WF.eq (WF.body rfl ?_)
  simp [m_is_stretch]
  refine WF.of e_is_tupleA ?_
  cases x with
  | tuple zs =>
    by_cases hz : zs.length = 3
    · obtain ⟨a, p, q, rfl⟩ : ∃ a p q, zs = [a, p, q] := by
        match zs, hz with
        | [a, p, q], _ => exact ⟨a, p, q, rfl⟩
      have hs := (szW_tup.mp hx).2
      simp
      refine WF.of e_is_betweenG ?_
      rw [betG_idx]
      by_cases hi : idxB n a = true
      · simp [hi]
        refine WF.of e_is_endA ?_
        by_cases hp : endB p = true
        · simp [hp]
          refine WF.of e_is_endA ?_
          by_cases hq : endB q = true
          · simp [hq]
            have qp : QLt K (qOf p) := szW_q (hs p (by simp)) (by unfold endB at hp; rw [Bool.and_eq_true] at hp; exact hp.1)
            have qq : QLt K (qOf q) := szW_q (hs q (by simp)) (by unfold endB at hq; rw [Bool.and_eq_true] at hq; exact hq.1)
            have et : trpB n (.tuple [a, p, q]) = !decide (qOf q < qOf p) := by simp [trpB, hi, hp, hq]
            rw [et]
            obtain ⟨ep, _, _⟩ := endB_of hp
            obtain ⟨eq, _, _⟩ := endB_of hq
            generalize qOf p = P at *
            generalize qOf q = Q at *
            subst ep eq
            refine WF.of (e_is_less (qq.bd (by omega)) (qp.bd (by omega))) ?_
            simp
          · simp [hq, trpB, hi, hp]
        · simp [hp, trpB, hi]
      · simp [hi, trpB]
    · simp [show ¬ (zs.length : Int) = 3 by omega, trpB_no hz]
  | _ => simp [trpB]
theorem e_stretchesA {K W n : Nat} {x : PyData} (hx : szW K W x = true) (hK : K ≤ 400) (hW : W ≤ 1000) (hn : 1 ≤ n) (hn8 : n ≤ 8) : f_are_stretches [.d x, .d (.int (n : Int))] s = some (.d (.bool (strB n x)), s) := by
  refine WF.eq (WF.body rfl ?_)
  cases x with
  | tuple xs =>
    have hs := szW_tup.mp hx
    simp [m_are_stretches, List.replicate_succ, fIsi, isA, isN, tyName]
    refine WLc_all (fun y => PyData.bool (trpB n y)) xs (fun y hy => ?_) ?_
    · simp
      exact WF.of (e_is_stretchA (hs.2 y hy) hK) (by simp)
    refine ⟨szle (by rw [List.length_map]; omega), ?_⟩
    simp [fAll_of]
    by_cases hp : xs.all (trpB n) = true
    · simp [hp]
      have ex := rs_of hp
      have hpy := List.all_eq_true.mp hp
      have ql : ∀ c ∈ xs.map rsOf, QLt K c.lo ∧ QLt K c.hi := fun c hc => by
        obtain ⟨y, hy, rfl⟩ := List.mem_map.mp hc
        exact rs_lt (hs.2 y hy) (hpy y hy)
      have ib : ∀ c ∈ xs.map rsOf, c.st < n := fun c hc => by
        obtain ⟨y, hy, rfl⟩ := List.mem_map.mp hc
        exact (trpB_of (hpy y hy)).2.1
      have lcs : (xs.map rsOf).length = xs.length := List.length_map _
      have ech : strB n (.tuple xs) = (decide (((xs.map rsOf).map (·.st)).Pairwise (· < ·)) && (decide (qsum ((xs.map rsOf).map (·.lo)) ≤ 1) && decide (1 ≤ qsum ((xs.map rsOf).map (·.hi))))) := by
        rw [strB_t, hp, Bool.true_and]
      rw [ech]
      have hl := hs.1
      clear ech hp hpy hs
      generalize hc : xs.map rsOf = cs at *
      subst ex
      clear hc
      rw [List.length_map] at lcs hl
      refine WLc_map pRS (fun c => PyData.int (c.st : Nat)) cs (fun x hx => ?_) ?_
      · simp [pRS]
      refine ⟨szle (by rw [List.length_map]; omega), ?_⟩
      simp [frzs, frz1, fSl, cutD_tail]
      rw [← List.map_tail, pairs_map]
      refine WLc_map (p2 (fun c : RS => PyData.int (c.st : Nat)) (fun c : RS => PyData.int (c.st : Nat))) (fun p => PyData.bool (decide (p.1.st < p.2.st))) (cs.zip cs.tail) (fun x hx => ?_) ?_
      · simp [p2]
      refine ⟨szle (by rw [List.length_map, List.length_zip]; omega), ?_⟩
      simp [fAll_of, zip_ascs]
      by_cases ha : (cs.map (·.st)).Pairwise (· < ·)
      · have lc := asc_le (n := n) 0 ha (fun k hk => by
          obtain ⟨c, hc, rfl⟩ := List.mem_map.mp hk
          exact ⟨Nat.zero_le _, ib c hc⟩)
        rw [List.length_map] at lc
        have km := Nat.mul_le_mul_left (K + 1) (show cs.length ≤ 8 by omega)
        have b1 : QLt 10 1 := (CD_1 (D := 1) (M := 1) (by decide)).qlt (by decide) (by decide) (by decide)
        have q1 : ∀ q ∈ cs.map (·.lo), QLt K q := fun q hq => by
          obtain ⟨c, hc, rfl⟩ := List.mem_map.mp hq
          exact (ql c hc).1
        have q2 : ∀ q ∈ cs.map (·.hi), QLt K q := fun q hq => by
          obtain ⟨c, hc, rfl⟩ := List.mem_map.mp hq
          exact (ql c hc).2
        rw [decide_eq_true ha]
        simp
        refine WLc_map pRS (fun c => pQ c.lo) cs (fun x hx => ?_) ?_
        · simp [pRS]
        refine ⟨szle (by rw [List.length_map]; omega), ?_⟩
        simp
        refine WF.of (e_total (l := cs.map (·.lo)) (k := K) (by rw [List.map_map]; rfl) q1 (by rw [List.length_map]; omega)) ?_
        simp
        refine WLc_map pRS (fun c => pQ c.hi) cs (fun x hx => ?_) ?_
        · simp [pRS]
        refine ⟨szle (by rw [List.length_map]; omega), ?_⟩
        simp
        refine WF.of (e_total (l := cs.map (·.hi)) (k := K) (by rw [List.map_map]; rfl) q2 (by rw [List.length_map]; omega)) ?_
        simp
        have sl := qsum_lt q1
        have sh := qsum_lt q2
        rw [List.length_map] at sl sh
        refine WF.of (e_is_less (p := 1) b1.bd (sl.bd (by omega))) ?_
        by_cases g1 : 1 < qsum (cs.map (·.lo))
        · simp [g1, Rat.not_le.mpr g1]
        · simp [g1, Rat.not_lt.mp g1]
          refine WF.of (e_is_less (q := 1) (sh.bd (by omega)) b1.bd) ?_
          by_cases g2 : qsum (cs.map (·.hi)) < 1
          · simp [g2, Rat.not_le.mpr g2]
          · simp [g2, Rat.not_lt.mp g2]
            exact Rat.not_lt.mp g1
      · rw [decide_eq_false ha]
        simp
    · simp [hp, strB]
  | _ => simp [m_are_stretches, List.replicate_succ, fIsi, isA, isN, tyName, strB]
end
end WW
namespace Dh
open PySem PySem.Spec L2 PySem.W
theorem stJ_len {n : Nat} {xs : List PyData} {i : Nat} (hall : ∀ y ∈ xs.take i, trpB n y = true) (hpw : (((xs.take i).map rsOf).map (·.st)).Pairwise (· < ·)) : (xs.take i).length ≤ n := by
  have := asc_le (n := n) 0 hpw fun k hk => by
    rw [List.map_map] at hk
    obtain ⟨y, hy, rfl⟩ := List.mem_map.mp hk
    exact ⟨Nat.zero_le _, (trpB_of (hall y hy)).2.1⟩
  rw [List.length_map, List.length_map] at this
  omega
end Dh
namespace WW
open PySem PySem.Spec L2 PySem.W Dh
section
variable {s : Sto}
theorem e_lbelow {p q : Rat} (hp : Bd p) (hq : Bd q) : f_law_below [.d (pQ p), .d (pQ q)] s = some (.d (.bool (decide (p < q))), s) := by
  refine WF.eq (WF.body rfl ?_)
  simp [m_law_below, pQ, fMul_ok, mulOk_nd hp hq, mulOk_nd hq hp, Rat.lt_iff]
theorem e_lstretchesA {K W n : Nat} {x : PyData} (hx : szW K W x = true) (hK : K ≤ 400) (hn : 1 ≤ n) (hn8 : n ≤ 8) : f_law_is_stretches [.d x, .d (.int (n : Int))] s = some (.d (.bool (strB n x)), s) := by
  have b1 : QLt 10 1 := (CD_1 (D := 1) (M := 1) (by decide)).qlt (by decide) (by decide) (by decide)
  have p1 : PyData.tuple [.int 1, .int 1] = pQ 1 := rfl
  refine WF.eq (WF.body rfl ?_)
  cases x with
  | tuple xs =>
    have hs := szW_tup.mp hx
    simp [m_law_is_stretches, List.replicate_succ, fIsi, isA, isN, tyName, fNeg, sz2, sz3]
    refine WFor_A (WFor_inv (fun y : PyData => y) xs (fun i ρ s' => s' = s ∧ ∃ (lst : Int) (lq hq : Rat) (c5 : Option Cl), ρ = [some (.d (.tuple xs)), some (.d (.int (n : Int))), some (.d (.int lst)), some (.d (pQ lq)), some (.d (pQ hq)), c5] ∧ stJ n xs i lst lq hq) ⟨rfl, -1, 0, 0, none, rfl, ⟨rfl, rfl, by simp, by simp, fun g => by simp; omega⟩⟩ ?_ ?_)
    · rintro i y ρ s' hy ⟨rfl, lst, lq, hq, c5, rfl, hj⟩
      obtain ⟨elq, ehq, hall, hpw, hlst⟩ := id hj
      have hym := List.mem_of_getElem? hy
      have ht := take_snoc hy
      have bad : trpB n y = false ∨ ¬ lst < ((rsOf y).st : Int) → strB n (.tuple xs) = false := fun hb => by
        apply Bool.eq_false_iff.mpr
        intro hc
        simp only [strB, Bool.and_eq_true, decide_eq_true_eq] at hc
        obtain ⟨c1, c2, _⟩ := hc
        rcases hb with hb | hb
        · rw [List.all_eq_true.mp c1 y hym] at hb
          cases hb
        · apply hb
          rw [hlst]
          intro a ha
          have e : xs = xs.take i ++ y :: xs.drop (i + 1) := by
            have h1 : (xs.take (i + 1)) ++ xs.drop (i + 1) = xs := List.take_append_drop _ _
            rw [ht, List.append_assoc] at h1
            exact h1.symm
          rw [e, List.map_append, List.map_append, List.pairwise_append] at c2
          exact c2.2.2 a ha _ (by simp)
      cases y with
      | tuple zs =>
        by_cases hz : zs.length = 3
        · obtain ⟨a, p, q, rfl⟩ : ∃ a p q, zs = [a, p, q] := by
            match zs, hz with
            | [a, p, q], _ => exact ⟨a, p, q, rfl⟩
          have hsy := (szW_tup.mp (hs.2 _ hym)).2
          have hp := hsy p (by simp)
          have hqs := hsy q (by simp)
          simp [fIsi, isA, isN, tyName, fEq_int]
          refine WF.of e_lindexA ?_
          by_cases hia : idxB n a = true
          · obtain ⟨g, rfl, hg⟩ := idxB_of hia
            have eg : (rsOf (.tuple [iN g, p, q])).st = g := by simp [rsOf, iN]
            simp [hia]
            by_cases hl : lst < (g : Int)
            · simp [show ¬ (g : Int) ≤ lst by omega, iN]
              refine WF.of (e_lfracA hp (by omega)) ?_
              by_cases hf : fracB p = true
              · simp [hf]
                refine WF.of (e_lfracA hqs (by omega)) ?_
                by_cases hf2 : fracB q = true
                · have plt := szW_q hp hf
                  have qlt := szW_q hqs hf2
                  obtain ⟨r, rfl⟩ : ∃ r, p = pQ r := ⟨_, fracB_of hf⟩
                  obtain ⟨t, rfl⟩ : ∃ t, q = pQ t := ⟨_, fracB_of hf2⟩
                  rw [qOf_pQ] at plt qlt
                  have ef : trpB n (.tuple [iN g, pQ r, pQ t]) = ((decide (0 ≤ r) && decide (r ≤ 1)) && ((decide (0 ≤ t) && decide (t ≤ 1)) && !decide (t < r))) := by simp [trpB, endB, hia, hf, hf2, qOf_pQ]
                  rw [hf2]
                  have ix : ∀ s : Sto, fIx s (.d (pQ r)) (.d (.int 0)) = some (.d (.int r.num)) := fun s => by simp [pQ]
                  simp [ix]
                  by_cases h0 : r.num < 0
                  · have : ¬ 0 ≤ r := fun z => by have := Rat.num_nonneg.mpr z; omega
                    simp [h0, bad (.inl (by rw [ef]; simp [this]))]
                  · have r0 : 0 ≤ r := Rat.num_nonneg.mp (by omega)
                    simp [h0]
                    refine WF.of (e_lbelow (qlt.bd (by omega)) (plt.bd (by omega))) ?_
                    by_cases h1 : t < r
                    · simp [h1, bad (.inl (by rw [ef]; simp [h1]))]
                    · simp [h1, sz2, p1]
                      refine WF.of (e_lbelow b1.bd (qlt.bd (by omega))) ?_
                      by_cases h2 : 1 < t
                      · simp [h2, bad (.inl (by rw [ef]; simp [Rat.not_le.mpr h2]))]
                      · have hrt := Rat.not_lt.mp h1
                        have ht1 := Rat.not_lt.mp h2
                        have hpb : trpB n (.tuple [iN g, pQ r, pQ t]) = true := by
                          rw [ef]
                          simp [r0, ht1, hrt, Rat.le_trans hrt ht1, Rat.le_trans r0 hrt]
                          exact h1
                        have e2 : (rsOf (.tuple [iN g, pQ r, pQ t])).lo = r := by simp [rsOf, iN, qOf_pQ]
                        have e3 : (rsOf (.tuple [iN g, pQ r, pQ t])).hi = t := by simp [rsOf, iN, qOf_pQ]
                        have hln := stJ_len hall hpw
                        have hall2 : ∀ y ∈ xs.take (i + 1), trpB n y = true := fun y hy => by
                          rw [ht] at hy
                          rcases List.mem_append.mp hy with hy | hy
                          · exact hall y hy
                          · rw [List.mem_singleton.mp hy]; exact hpb
                        have hpw2 : (((xs.take (i + 1)).map rsOf).map (·.st)).Pairwise (· < ·) := by
                          rw [ht, List.map_append, List.map_append, List.pairwise_append]
                          refine ⟨hpw, by simp, fun a ha b hb => ?_⟩
                          simp [eg] at hb
                          subst hb
                          exact (hlst _).mp hl a ha
                        have qb1 := qsum_lt (k := K) (l := ((xs.take i).map rsOf).map (·.lo)) (fun p hp => by
                          rw [List.map_map] at hp
                          obtain ⟨y, hy, rfl⟩ := List.mem_map.mp hp
                          exact (rs_lt (hs.2 y (List.mem_of_mem_take hy)) (hall y hy)).1)
                        have qb2 := qsum_lt (k := K) (l := ((xs.take i).map rsOf).map (·.hi)) (fun p hp => by
                          rw [List.map_map] at hp
                          obtain ⟨y, hy, rfl⟩ := List.mem_map.mp hp
                          exact (rs_lt (hs.2 y (List.mem_of_mem_take hy)) (hall y hy)).2)
                        rw [List.length_map, List.length_map] at qb1 qb2
                        have qm := Nat.mul_le_mul_left (K + 1) (show (xs.take i).length ≤ 8 by omega)
                        rw [← elq] at qb1
                        rw [← ehq] at qb2
                        simp [h2]
                        refine WF.of (e_lplus (p := lq) (q := r) (qb1.bd (by omega)) (plt.bd (by omega))) ?_
                        simp
                        refine WF.of (e_lplus (p := hq) (q := t) (qb2.bd (by omega)) (qlt.bd (by omega))) ?_
                        simp
                        refine ⟨(g : Int), lq + r, hq + t, ⟨rfl, rfl, rfl⟩, ?_, ?_, hall2, hpw2, fun g' => ?_⟩
                        · rw [ht, List.map_append, List.map_append, List.map_singleton, List.map_singleton, qsum_snoc, e2, elq]
                        · rw [ht, List.map_append, List.map_append, List.map_singleton, List.map_singleton, qsum_snoc, e3, ehq]
                        · rw [ht, List.map_append, List.map_append]
                          simp only [List.map_cons, List.map_nil, eg, List.mem_append, List.mem_singleton]
                          constructor
                          · rintro h a (ha | rfl)
                            · have := (hlst g).mp hl a ha; omega
                            · omega
                          · intro h
                            have := h g (.inr rfl)
                            omega
                · simp [hf2, bad (.inl (by simp [trpB, endB, hf2]))]
              · simp [hf, bad (.inl (by simp [trpB, endB, hf]))]
            · simp [show (g : Int) ≤ lst by omega, iN, bad (.inr (by rw [eg]; exact hl))]
          · simp [hia, bad (.inl (by simp [trpB, hia]))]
        · simp [fIsi, isA, isN, tyName, fEq_int, show ¬ (zs.length : Int) = 3 by omega, bad (.inl (trpB_no hz))]
      | _ => simp [fIsi, isA, isN, tyName, bad (.inl rfl)]
    · rintro ρ s' ⟨rfl, lst, lq, hq, c5, rfl, hj⟩
      obtain ⟨elq, ehq, hall, hpw, hlst⟩ := id hj
      have hln := stJ_len hall hpw
      have qb1 := qsum_lt (k := K) (l := ((xs.take xs.length).map rsOf).map (·.lo)) (fun p hp => by
        rw [List.map_map] at hp
        obtain ⟨y, hy, rfl⟩ := List.mem_map.mp hp
        exact (rs_lt (hs.2 y (List.mem_of_mem_take hy)) (hall y hy)).1)
      have qb2 := qsum_lt (k := K) (l := ((xs.take xs.length).map rsOf).map (·.hi)) (fun p hp => by
        rw [List.map_map] at hp
        obtain ⟨y, hy, rfl⟩ := List.mem_map.mp hp
        exact (rs_lt (hs.2 y (List.mem_of_mem_take hy)) (hall y hy)).2)
      rw [List.length_map, List.length_map] at qb1 qb2
      have qm := Nat.mul_le_mul_left (K + 1) (show (xs.take xs.length).length ≤ 8 by omega)
      rw [← elq] at qb1
      rw [← ehq] at qb2
      rw [List.take_length] at elq ehq hall hpw
      have est : strB n (.tuple xs) = (decide (lq ≤ 1) && decide (1 ≤ hq)) := by
        rw [strB_t, List.all_eq_true.mpr hall, decide_eq_true hpw, elq, ehq, Bool.true_and, Bool.true_and]
      rw [est]
      simp [sz2, p1]
      refine WF.of (e_lbelow b1.bd (qb1.bd (by omega))) ?_
      by_cases g1 : 1 < lq
      · simp [g1, Rat.not_le.mpr g1]
      · simp [g1, Rat.not_lt.mp g1, sz2, p1]
        refine WF.of (e_lbelow (qb2.bd (by omega)) b1.bd) ?_
        by_cases g2 : hq < 1
        · simp [g2, Rat.not_le.mpr g2]
        · simp [g2, Rat.not_lt.mp g2]
          exact Rat.not_lt.mp g1
  | _ => simp [m_law_is_stretches, List.replicate_succ, fIsi, isA, isN, tyName, strB]
end
end WW
namespace Dh
open PySem PySem.Spec L2 PySem.W
def vdB (p n : Nat) : PyData → Bool
  | .tuple [c, g] => strB n c && rowB p g
  | _ => false
def vsB (p n : Nat) : PyData → Bool
  | .tuple ds => decide (1 ≤ ds.length) && (decide (ds.length ≤ 4) && ds.all (vdB p n))
  | _ => false
def vssB (p : Nat) : PyData → Bool
  | .tuple l => decide (1 ≤ l.length) && (decide (l.length ≤ 8) && l.all (vsB p l.length))
  | _ => false
def vagB : PyData → Bool
  | .tuple [s, p, sts] => shareB s && (betG 1 4 p && vssB (natOf p) sts)
  | _ => false
theorem vdB_no {p n : Nat} {xs : List PyData} (h : xs.length ≠ 2) : vdB p n (.tuple xs) = false := by
  unfold vdB
  split
  · rename_i heq
    injection heq with heq
    subst heq
    exact absurd rfl h
  · rfl
theorem vagB_no {xs : List PyData} (h : xs.length ≠ 3) : vagB (.tuple xs) = false := by
  unfold vagB
  split
  · rename_i heq
    injection heq with heq
    subst heq
    exact absurd rfl h
  · rfl
end Dh
namespace WW
open PySem PySem.Spec L2 PySem.W Dh
section
variable {s : Sto}
theorem e_is_vdA {K W n p : Nat} {x : PyData} (hx : szW K W x = true) (hK : K ≤ 400) (hW : W ≤ 1000) (hn : 1 ≤ n) (hn8 : n ≤ 8) (hp : p ≤ 4) : f_is_vague_deed [.d x, .d (.int (p : Int)), .d (.int (n : Int))] s = some (.d (.bool (vdB p n x)), s) := by
  refine WF.eq (WF.body rfl ?_)
  simp [m_is_vague_deed]
  refine WF.of e_is_tupleA ?_
  cases x with
  | tuple zs =>
    by_cases hz : zs.length = 2
    · obtain ⟨c, g, rfl⟩ : ∃ c g, zs = [c, g] := by
        match zs, hz with
        | [c, g], _ => exact ⟨c, g, rfl⟩
      have hs := (szW_tup.mp hx).2
      simp
      refine WF.of (e_stretchesA (hs c (by simp)) hK hW hn hn8) ?_
      by_cases hc : strB n c = true
      · simp [hc]
        refine WF.of (e_is_rowA (by omega)) ?_
        simp [vdB, hc]
      · simp [hc, vdB]
    · simp [show ¬ (zs.length : Int) = 2 by omega, vdB_no hz]
  | _ => simp [vdB]
theorem e_is_vsA {K W n p : Nat} {x : PyData} (hx : szW K W x = true) (hK : K ≤ 400) (hW : W ≤ 1000) (hn : 1 ≤ n) (hn8 : n ≤ 8) (hp : p ≤ 4) : f_is_vague_stand [.d x, .d (.int (p : Int)), .d (.int (n : Int))] s = some (.d (.bool (vsB p n x)), s) := by
  refine WF.eq (WF.body rfl ?_)
  cases x with
  | tuple zs =>
    have hs := szW_tup.mp hx
    simp [m_is_vague_stand, List.replicate_succ, fIsi, isA, isN, tyName]
    refine WF.of e_is_betweenG ?_
    by_cases hl : 1 ≤ zs.length ∧ zs.length ≤ 4
    · have e : betG 1 4 (.int (zs.length : Int)) = true := by simp [betG]; omega
      simp [e]
      refine WLc_all (fun y => PyData.bool (vdB p n y)) zs (fun y hy => ?_) ?_
      · simp
        exact WF.of (e_is_vdA (hs.2 y hy) hK hW hn hn8 hp) (by simp)
      refine ⟨szle (by rw [List.length_map]; omega), ?_⟩
      simp [fAll_of, vsB, hl]
    · have e : betG 1 4 (.int (zs.length : Int)) = false := by
        apply Bool.eq_false_iff.mpr
        simp [betG]; omega
      simp [e, vsB]
      intro h1 h2
      omega
  | _ => simp [m_is_vague_stand, List.replicate_succ, fIsi, isA, isN, tyName, vsB]
theorem e_is_vagA {K W : Nat} {x : PyData} (hx : szW K W x = true) (hK : K ≤ 400) (hW : W ≤ 1000) : f_is_vague_by [.d x] s = some (.d (.bool (vagB x)), s) := by
  refine WF.eq (WF.body rfl ?_)
  simp [m_is_vague_by, List.replicate_succ]
  refine WF.of e_is_tupleA ?_
  cases x with
  | tuple zs =>
    by_cases hz : zs.length = 3
    · obtain ⟨c, b, d, rfl⟩ : ∃ c b d, zs = [c, b, d] := by
        match zs, hz with
        | [c, b, d], _ => exact ⟨c, b, d, rfl⟩
      have hs := (szW_tup.mp hx).2
      have hd := hs d (by simp)
      simp
      refine WF.of e_is_shareA ?_
      by_cases hc : shareB c = true
      · simp [hc]
        refine WF.of e_is_betweenG ?_
        by_cases hb : betG 1 4 b = true
        · obtain ⟨eb, b1, b4⟩ := betG_of (k := 4) hb
          have eh : vagB (.tuple [c, b, d]) = vssB (natOf b) d := by simp [vagB, hc, hb]
          rw [eh, hb]
          generalize natOf b = p at *
          subst eb
          cases d with
          | tuple sts =>
            have hs := szW_tup.mp hd
            simp [fIsi, isA, isN, tyName, iN]
            refine WF.of e_is_betweenG ?_
            by_cases hl : 1 ≤ sts.length ∧ sts.length ≤ 8
            · have e : betG 1 8 (.int (sts.length : Int)) = true := by simp [betG]; omega
              simp [e]
              refine WLc_all (fun y => PyData.bool (vsB p sts.length y)) sts (fun y hy => ?_) ?_
              · simp
                exact WF.of (e_is_vsA (hs.2 y hy) hK hW hl.1 hl.2 b4) (by simp)
              refine ⟨szle (by rw [List.length_map]; omega), ?_⟩
              simp [fAll_of, vssB, hl]
            · have e : betG 1 8 (.int (sts.length : Int)) = false := by
                apply Bool.eq_false_iff.mpr
                simp [betG]; omega
              simp [e, vssB]
              intro h1 h2
              omega
          | _ => simp [fIsi, isA, isN, tyName, vssB]
        · simp [hb, vagB]
      · simp [hc, vagB]
    · simp [show ¬ (zs.length : Int) = 3 by omega, vagB_no hz]
  | _ => simp [vagB]
theorem e_lbuiltV {K W : Nat} {x : PyData} (hx : szW K W x = true) (hK : K ≤ 400) (hW : W ≤ 1000) : f_law_is_built [.d x, .d (.bool true)] s = some (.d (.bool (vagB x)), s) := by
  refine WF.eq (WF.body rfl ?_)
  cases x with
  | tuple zs =>
    by_cases hz : zs.length = 3
    · obtain ⟨c, b, d, rfl⟩ : ∃ c b d, zs = [c, b, d] := by
        match zs, hz with
        | [c, b, d], _ => exact ⟨c, b, d, rfl⟩
      have hs := (szW_tup.mp hx).2
      have hd := hs d (by simp)
      have hc := hs c (by simp)
      simp [m_law_is_built, List.replicate_succ, fIsi, isA, isN, tyName, fEq_int]
      refine WF.of (e_lfracA hc (by omega)) ?_
      by_cases hf : fracB c = true
      · have ql := szW_q hc hf
        obtain ⟨r, rfl⟩ : ∃ r, c = pQ r := ⟨_, fracB_of hf⟩
        rw [qOf_pQ] at ql
        have esh : shareB (pQ r) = (decide (0 ≤ r) && decide (r.num < (r.den : Int))) := by
          unfold shareB
          rw [hf, qOf_pQ]
          simp
        have eh : vagB (.tuple [pQ r, b, d]) = ((decide (0 ≤ r) && decide (r.num < (r.den : Int))) && (betG 1 4 b && vssB (natOf b) d)) := by
          rw [← esh]; simp [vagB]
        rw [hf, eh]
        clear eh esh
        simp [pQ]
        by_cases h0 : 0 ≤ r
        · have hn : ¬ r.num < 0 := by have := Rat.num_nonneg.mpr h0; omega
          simp [h0, hn, sz2]
          refine WF.of (e_lbelow1 (r := r) (ql.mono (by omega))) ?_
          by_cases h1 : r.num < (r.den : Int)
          · simp [h1]
            refine WF.of (e_lindexA (n := 5)) ?_
            by_cases hi : idxB 5 b = true
            · obtain ⟨p, rfl, hp⟩ := idxB_of hi
              rw [hi]
              by_cases hp0 : p = 0
              · subst hp0
                simp [iN, fEq_int, betG]
              · have hb : betG 1 4 (iN p) = true := by simp [betG, iN]; omega
                rw [hb]
                simp [fEq_int, hp0, iN, natOf]
                cases d with
                | tuple sts =>
                  have hs := szW_tup.mp hd
                  simp [fIsi, isA, isN, tyName]
                  by_cases hl : 1 ≤ sts.length ∧ sts.length ≤ 8
                  · have l1 : (1 : Int) ≤ (sts.length : Int) := by omega
                    have l2 : (sts.length : Int) ≤ 8 := by omega
                    have eS : vssB p (.tuple sts) = sts.all (vsB p sts.length) := by simp [vssB, hl]
                    rw [eS]
                    simp [l1, l2]
                    refine WFor_A (WFor_inv (fun y : PyData => y) sts (fun i ρ s' => s' = s ∧ ∃ c3 c4 : Option Cl, ρ = [some (.d (.tuple [.tuple [.int r.num, .int (r.den : Int)], .int (p : Int), .tuple sts])), some (.d (.bool true)), some (.d (.int (sts.length : Int))), c3, c4] ∧ ∀ y ∈ sts.take i, vsB p sts.length y = true) ⟨rfl, none, none, rfl, by simp⟩ ?_ ?_)
                    · rintro i y ρ s' hy ⟨rfl, c3, c4, rfl, hall⟩
                      have hym := List.mem_of_getElem? hy
                      have ht := take_snoc hy
                      have hsy := hs.2 y hym
                      have bad : vsB p sts.length y = false → sts.all (vsB p sts.length) = false := fun hb => by
                        apply Bool.eq_false_iff.mpr
                        intro h
                        rw [List.all_eq_true.mp h y hym] at hb
                        cases hb
                      generalize sts.all (vsB p sts.length) = RES at *
                      cases y with
                      | tuple ds =>
                        have hsd := szW_tup.mp hsy
                        simp [fIsi, isA, isN, tyName]
                        by_cases hd4 : 1 ≤ ds.length ∧ ds.length ≤ 4
                        · have l3 : (1 : Int) ≤ (ds.length : Int) := by omega
                          have l4 : (ds.length : Int) ≤ 4 := by omega
                          have eS : vsB p sts.length (.tuple ds) = ds.all (vdB p sts.length) := by simp [vsB, hd4]
                          rw [eS] at bad
                          simp [l3, l4]
                          refine WFor_A (WFor_inv (fun y : PyData => y) ds (fun t ρ s2 => s2 = s' ∧ ∃ c4 : Option Cl, ρ = [some (.d (.tuple [.tuple [.int r.num, .int (r.den : Int)], .int (p : Int), .tuple sts])), some (.d (.bool true)), some (.d (.int (sts.length : Int))), some (.d (.tuple ds)), c4] ∧ ∀ y ∈ ds.take t, vdB p sts.length y = true) ⟨rfl, c4, rfl, by simp⟩ ?_ ?_)
                          · rintro t z ρ s2 hzz ⟨rfl, c4, rfl, hallz⟩
                            have hzm := List.mem_of_getElem? hzz
                            have htz := take_snoc hzz
                            have hsz := hsd.2 z hzm
                            have badz : vdB p sts.length z = false → RES = false := fun hb => bad (by
                              apply Bool.eq_false_iff.mpr
                              intro h
                              rw [List.all_eq_true.mp h z hzm] at hb
                              cases hb)
                            cases z with
                            | tuple us =>
                              by_cases hu : us.length = 2
                              · obtain ⟨c, g, rfl⟩ : ∃ c g, us = [c, g] := by
                                  match us, hu with
                                  | [c, g], _ => exact ⟨c, g, rfl⟩
                                have hu2 := (szW_tup.mp hsz).2
                                simp [fIsi, isA, isN, tyName, fEq_int]
                                refine WF.of (e_lrowA (m := p) (hu2 g (by simp)) (by omega) (by omega)) ?_
                                by_cases hg : rowB p g = true
                                · simp [hg]
                                  refine WF.of (e_lstretchesA (n := sts.length) (hu2 c (by simp)) hK hl.1 hl.2) ?_
                                  by_cases hcc : strB sts.length c = true
                                  · simp [hcc]
                                    rw [htz]
                                    intro y hy
                                    rcases List.mem_append.mp hy with hy | hy
                                    · exact hallz y hy
                                    · rw [List.mem_singleton.mp hy]; simp [vdB, hg, hcc]
                                  · simp [hcc, badz (by simp [vdB, hcc])]
                                · simp [hg, badz (by simp [vdB, hg])]
                              · simp [fIsi, isA, isN, tyName, fEq_int, show ¬ (us.length : Int) = 2 by omega, badz (vdB_no hu)]
                            | _ => simp [fIsi, isA, isN, tyName, badz rfl]
                          · rintro ρ s2 ⟨rfl, c4, rfl, hallz⟩
                            rw [List.take_length] at hallz
                            have hyb : vsB p sts.length (.tuple ds) = true := by rw [eS]; exact List.all_eq_true.mpr hallz
                            simp
                            rw [ht]
                            intro y hy
                            rcases List.mem_append.mp hy with hy | hy
                            · exact hall y hy
                            · rw [List.mem_singleton.mp hy]; exact hyb
                        · have eS : vsB p sts.length (.tuple ds) = false := by
                            apply Bool.eq_false_iff.mpr
                            intro h
                            simp only [vsB, Bool.and_eq_true, decide_eq_true_eq] at h
                            exact hd4 ⟨h.1, h.2.1⟩
                          by_cases l3 : (1 : Int) ≤ (ds.length : Int)
                          · have l4 : ¬ (ds.length : Int) ≤ 4 := by omega
                            simp [l3, l4, bad eS]
                          · simp [l3, bad eS]
                      | _ => simp [fIsi, isA, isN, tyName, bad rfl]
                    · rintro ρ s' ⟨rfl, c3, c4, rfl, hall⟩
                      rw [List.take_length] at hall
                      rw [List.all_eq_true.mpr hall]
                      simp [h0, h1]
                  · have eS : vssB p (.tuple sts) = false := by
                      apply Bool.eq_false_iff.mpr
                      intro h
                      simp only [vssB, Bool.and_eq_true, decide_eq_true_eq] at h
                      exact hl ⟨h.1, h.2.1⟩
                    rw [eS]
                    by_cases l1 : (1 : Int) ≤ (sts.length : Int)
                    · have l2 : ¬ (sts.length : Int) ≤ 8 := by omega
                      simp [l1, l2]
                    · simp [l1]
                | _ => simp [fIsi, isA, isN, tyName, vssB]
            · have hb : betG 1 4 b = false := by
                apply Bool.eq_false_iff.mpr
                intro h
                apply hi
                obtain ⟨e, e1, e2⟩ := betG_of (k := 4) h
                rw [e, idxB_iN]
                exact decide_eq_true (by omega)
              simp [hi, hb]
          · simp [h1]
        · have hn : r.num < 0 := by
            have := (Rat.num_nonneg (q := r)).mp
            apply Classical.byContradiction
            intro h
            exact h0 (this (by omega))
          simp [h0, hn]
      · simp [hf, vagB, shareB]
    · simp [m_law_is_built, List.replicate_succ, fIsi, isA, isN, tyName, fEq_int, show ¬ (zs.length : Int) = 3 by omega, vagB_no hz]
  | _ => simp [m_law_is_built, List.replicate_succ, fIsi, isA, isN, tyName, vagB]
end
end WW
namespace Dh
open PySem PySem.Spec L2 PySem.W
def tl : PyData → List PyData
  | .tuple xs => xs
  | _ => []
end Dh
namespace WW
open PySem PySem.Spec L2 PySem.W Dh
theorem qsum_const0 {α : Type} : ∀ l : List α, qsum (l.map fun _ => (0 : Rat)) = 0
  | [] => rfl
  | x :: l => by rw [List.map_cons, qsum_cons, qsum_const0 l, Rat.add_zero]
end WW
namespace Dh
open PySem PySem.Spec L2
section
variable {ρ : Ev} {s : Sto} {i : Nat} {QS : Out → Ev → Sto → Prop} {Q : R → Sto → Prop} {a ix ma mb : Mx} {as : Ma}
@[simp] theorem ev_rdCl_m {acc : List (Key × PyData)} : rdCl (.m acc) = .n acc := rfl
@[simp] theorem ev_toArgD_n {acc : List (Key × PyData)} : toArgD (.n acc) = some (.d (dOf acc)) := rfl
@[simp] theorem ev_toArgD_d {x : PyData} : toArgD (.d x) = some (.d x) := rfl
@[simp] theorem ev_toArgD_s : toArgD .s = some .s := rfl
@[simp] theorem ev_toArgDs0 : toArgDs [] = some [] := rfl
@[simp] theorem ev_toArgDs1 {x : R} {rs : List R} : toArgDs (x :: rs) = (match toArgD x, toArgDs rs with | some x, some xs => some (x :: xs) | _, _ => none) := rfl
@[simp] theorem ev_fLenM {acc : List (Key × PyData)} : fLenM [.n acc] = some (.d (.int acc.length)) := rfl
@[simp] theorem ev_fIxM {acc : List (Key × PyData)} {k : Int} : fIxM (.n acc) (.d (.int k)) = (valP acc (.inl k)).map R.d := rfl
@[simp] theorem ev_fInM {acc : List (Key × PyData)} {k : Int} {neg : Bool} : fInM neg (.d (.int k)) (.n acc) = some (.d (.bool (if neg then !(valP acc (.inl k)).isSome else (valP acc (.inl k)).isSome))) := rfl
@[simp] theorem ev_frg0 : frgM [] = [] := rfl
@[simp] theorem ev_frgD {x : PyData} : frgM (some (.d x) :: ρ) = some (.d x) :: frgM ρ := rfl
@[simp] theorem ev_frgO {x : List PyData} : frgM (some (.o x) :: ρ) = some (.o x) :: frgM ρ := rfl
@[simp] theorem ev_frgS : frgM (some .s :: ρ) = some .s :: frgM ρ := rfl
@[simp] theorem ev_frgM {acc : List (Key × PyData)} : frgM (some (.m acc) :: ρ) = none :: frgM ρ := rfl
@[simp] theorem ev_frgN : frgM (none :: ρ) = none :: frgM ρ := rfl
def ownM (c : Cl) : Option (List (Key × PyData)) := match c with | .m acc => some acc | _ => none
@[simp] theorem ownM_m {acc : List (Key × PyData)} : ownM (.m acc) = some acc := rfl
@[simp] theorem keyP_i {k : Int} : keyP (.d (.int k)) = some (.inl k) := rfl
@[simp ↓] theorem ws_setDc {it : Mi} {vs : List Nat} {g : Gx} {t : Mt} {ek ev : Mx} : WS (mSetDc i it vs g t ek ev) ρ s QS = WI it ρ s fun xs s1 => WDc vs g t ek ev xs [] ρ s1 fun acc s2 => QS .nx (ρ.set i (some (.m acc))) s2 := by
  apply propext
  unfold WS WDc WI mSetDc
  rcases it ρ s with _ | ⟨xs, s1⟩
  · simp
  · dsimp only
    rcases h : dcRun vs g t ek ev xs [] ρ s1 with _ | ⟨acc, s2⟩ <;> simp [h]
@[simp ↓] theorem ws_putM : WS (mPutM i ix a) ρ s QS = WX a ρ s fun r s1 => WX ix ρ s1 fun rk s2 => WO (getC ρ i) fun c => WO (ownM c) fun acc => WO (keyP rk) fun k => WO (toD r) fun x => acc.length < sizeLine ∧ WO (some ((frgM ρ).set i (some (.m (putP acc k x))))) fun ρ1 => QS .nx ρ1 s2 := by
  apply propext
  unfold WS WX WO mPutM
  rcases a ρ s with _ | ⟨r, s1⟩
  · simp
  · dsimp only
    rcases hi : ix ρ s1 with _ | ⟨z, s2⟩
    · simp [hi]
    · constructor
      · rintro ⟨o, ρ', s', e, q⟩
        dsimp only at e
        split at e
        · rename_i acc k x e1 e2 e3
          split at e
          · rename_i hz
            cases e
            exact ⟨r, s1, rfl, z, s2, hi, _, getC_of e1, acc, rfl, k, e2, x, e3, hz, _, rfl, q⟩
          · cases e
        · cases e
      · rintro ⟨r', s1', h1, z', s2', h2, c, hc, acc, ha, k, hk, x, hx, hz, ρ1, hρ, q⟩
        cases h1
        rw [hi] at h2; cases h2
        cases hρ
        have g := of_getC hc
        cases c with
        | m acc' =>
          cases ha
          exact ⟨_, _, _, by simp only [g, hk, hx, if_pos hz], q⟩
        | d _ => cases ha
        | o _ => cases ha
        | s => cases ha
        | t _ => cases ha
        | h _ => cases ha
@[simp ↓] theorem wx_callD {g : Fx} : WX (mCallD g as) ρ s Q = WA as ρ s fun rs s1 => WO (toArgDs rs) fun cs => WF g cs s1 fun r s2 => ∃ x, r = .d x ∧ flatD x = true ∧ Q r s2 := by
  apply propext
  unfold WX WA WO WF mCallD
  rw [ev_bnd]
  rcases as ρ s with _ | ⟨x, s1⟩
  · simp
  · dsimp only
    rcases h : toArgDs x with _ | cs
    · simp [h]
    · dsimp only
      rcases hg : g cs s1 with _ | ⟨r, s2⟩
      · simp [h, hg]
      · constructor
        · rintro ⟨r', s', e, q⟩
          cases r with
          | d y =>
            dsimp only at e
            split at e
            · rename_i hf
              cases e
              exact ⟨x, s1, rfl, cs, h, _, _, hg, y, rfl, hf, q⟩
            · cases e
          | _ => cases e
        · rintro ⟨x', s1', h1, cs', h2, r', s', h3, y, e, hf, q⟩
          cases h1
          rw [h] at h2; cases h2
          rw [hg] at h3; cases h3
          subst e
          exact ⟨_, _, by dsimp only; rw [if_pos hf], q⟩
end
end Dh
namespace Dh
open PySem PySem.Spec L2
section
variable {ρ : Ev} {s : Sto} {i : Nat} {QS : Out → Ev → Sto → Prop} {as : Ma}
def insK (ρ : Ev) (i : Nat) (rs : List R) : Option Ev := match rs with
  | [.d (.int k), r] => match toD r, ρ[i]? with
    | some z, some (some (.o xs)) => if xs.length < sizeLine ∧ 0 ≤ k ∧ k < 2 ^ 63 then some (ρ.set i (some (.o (xs.take k.toNat ++ [z] ++ xs.drop k.toNat)))) else none
    | _, _ => none
  | _ => none
theorem mIns_eq {x : List R} {s1 : Sto} (e : as ρ s = some (x, s1)) : mIns i as ρ s = (insK ρ i x).map fun ρ1 => (.nx, ρ1, s1) := by
  unfold mIns insK
  rw [e]
  rcases x with _ | ⟨a, _ | ⟨b, _ | ⟨c, l⟩⟩⟩
  · rfl
  · cases a with
    | d y => cases y <;> rfl
    | _ => rfl
  · cases a with
    | d y =>
      cases y with
      | int k =>
        dsimp only
        cases toD b with
        | none => rfl
        | some z =>
          cases ρ[i]? with
          | none => rfl
          | some oc =>
            cases oc with
            | none => rfl
            | some c =>
              cases c with
              | o xs => dsimp only; split <;> rfl
              | _ => rfl
      | _ => rfl
    | _ => rfl
  · cases a with
    | d y => cases y <;> rfl
    | _ => rfl
@[simp ↓] theorem ws_ins : WS (mIns i as) ρ s QS = WA as ρ s fun rs s1 => WO (insK ρ i rs) fun ρ1 => QS .nx ρ1 s1 := by
  apply propext
  unfold WS WA WO
  constructor
  · rintro ⟨o, ρ', s', e, q⟩
    rcases h : as ρ s with _ | ⟨x, s1⟩
    · unfold mIns at e; rw [h] at e; cases e
    · rw [mIns_eq h] at e
      obtain ⟨ρ1, e1, e2⟩ := Option.map_eq_some_iff.mp e
      cases e2
      exact ⟨x, _, rfl, _, e1, q⟩
  · rintro ⟨x, s1, h, ρ1, e1, q⟩
    exact ⟨_, _, _, by rw [mIns_eq h, e1]; rfl, q⟩
variable {Q : R → Sto → Prop} {QI : List PyData → Sto → Prop} {a : Mx}
@[simp] theorem ev_itemsB {xs : List PyData} : itemsB (.b xs) = some xs := rfl
@[simp ↓] theorem wi_seqB : WI (mSeqB a) ρ s QI = WX a ρ s fun x s1 => WO (itemsB x) fun xs => QI xs s1 := by
  unfold WI WX mSeqB
  simp only [wbnd, wret]
@[simp] theorem ev_toArgB_b {xs : List PyData} : toArgB (.b xs) = some (.d (.list xs)) := rfl
@[simp] theorem ev_toArgB_d {x : PyData} : toArgB (.d x) = some (.d x) := rfl
@[simp] theorem ev_toArgB_s : toArgB .s = some .s := rfl
@[simp] theorem ev_toArgBs0 : toArgBs [] = some [] := rfl
@[simp] theorem ev_toArgBs1 {x : R} {rs : List R} : toArgBs (x :: rs) = (match toArgB x, toArgBs rs with | some x, some xs => some (x :: xs) | _, _ => none) := rfl
@[simp ↓] theorem wx_callB {g : Fx} : WX (mCallB g as) ρ s Q = WA as ρ s fun rs s1 => WO (toArgBs rs) fun cs => WF g cs s1 fun r s2 => ∃ x, r = .d x ∧ flatT x = true ∧ Q r s2 := by
  apply propext
  unfold WX WA WO WF mCallB
  rw [ev_bnd]
  rcases as ρ s with _ | ⟨x, s1⟩
  · simp
  · dsimp only
    rcases h : toArgBs x with _ | cs
    · simp [h]
    · dsimp only
      rcases hg : g cs s1 with _ | ⟨r, s2⟩
      · simp [h, hg]
      · constructor
        · rintro ⟨r', s', e, q⟩
          cases r with
          | d y =>
            dsimp only at e
            split at e
            · rename_i hf
              cases e
              exact ⟨x, s1, rfl, cs, h, _, _, hg, y, rfl, hf, q⟩
            · cases e
          | _ => cases e
        · rintro ⟨x', s1', h1, cs', h2, r', s', h3, y, e, hf, q⟩
          cases h1
          rw [h] at h2; cases h2
          rw [hg] at h3; cases h3
          subst e
          exact ⟨_, _, by dsimp only; rw [if_pos hf], q⟩
end
end Dh
namespace Dh
open PySem PySem.Spec L2 PySem.W
theorem getD_mapf {α β : Type} {f : α → β} {l : List α} {i : Nat} {d : α} {e : β} (h : f d = e) : (l.map f).getD i e = f (l.getD i d) := by
  rw [List.getD_eq_getElem?_getD, List.getD_eq_getElem?_getD, List.getElem?_map]
  cases l[i]? with
  | none => exact h.symm
  | some x => rfl
theorem qsum_put : ∀ {F : List Rat} {j : Nat} {x : Rat}, j < F.length → qsum (F.set j x) = qsum F - F.getD j 0 + x
  | q :: F, 0, x, _ => by
    rw [List.set_cons_zero, qsum_cons, qsum_cons]
    show x + qsum F = q + qsum F - q + x
    grind
  | q :: F, j + 1, x, h => by
    have ih := qsum_put (F := F) (j := j) (x := x) (by simpa using h)
    rw [List.set_cons_succ, qsum_cons, qsum_cons, ih]
    show q + (qsum F - F.getD j 0 + x) = q + qsum F - F.getD j 0 + x
    grind
theorem getD_put {F : List Rat} {j k : Nat} {x : Rat} (hj : j < F.length) : (F.set j x).getD k 0 = if k = j then x else F.getD k 0 := by
  rw [List.getD_eq_getElem?_getD, List.getElem?_set]
  by_cases h : j = k
  · subst h
    simp [hj]
  · have : ¬ k = j := fun e => h e.symm
    rw [if_neg h, if_neg this, List.getD_eq_getElem?_getD]
theorem cd_01 {D M : Nat} {q : Rat} (h : CD D M q) (h0 : 0 ≤ q) (h1 : q ≤ 1) : CD D D q := by
  obtain ⟨z, e, _⟩ := h
  have hD : (0 : Rat) ≤ (D : Rat) := by
    have : (0 : Rat) ≤ ((D : Int) : Rat) := Rat.intCast_nonneg.mpr (by omega)
    rwa [Rat.intCast_natCast] at this
  refine ⟨z, e, ?_⟩
  have a : 0 ≤ (D : Rat) * q := Rat.mul_nonneg hD h0
  have b : (D : Rat) * q ≤ (D : Rat) := by
    have := Rat.mul_le_mul_of_nonneg_left h1 hD
    rwa [Rat.mul_one] at this
  rw [e] at a b
  have a' : 0 ≤ z := Rat.intCast_nonneg.mp a
  have b' : z ≤ (D : Int) := by
    rw [← Rat.intCast_natCast] at b
    exact Rat.intCast_le_intCast.mp b
  omega
structure FillOk (D : Nat) (ss : List RS) (F : List Rat) : Prop where
  len : F.length = ss.length
  lo : ∀ j, j < ss.length → (ss.getD j ⟨0, 0, 0⟩).lo ≤ F.getD j 0 ∧ F.getD j 0 ≤ (ss.getD j ⟨0, 0, 0⟩).hi
  one : qsum F = 1
  cd : ∀ q ∈ F, CD D D q
def DenOk (D : Nat) (ss : List RS) : Prop := ∀ x ∈ ss, CD D D x.lo ∧ CD D D x.hi
structure FJ (D : Nat) (ss : List RS) (vis : List Nat) (F : List Rat) (r : Rat) : Prop where
  len : F.length = ss.length
  lo : ∀ j, j < ss.length → (ss.getD j ⟨0, 0, 0⟩).lo ≤ F.getD j 0 ∧ F.getD j 0 ≤ (ss.getD j ⟨0, 0, 0⟩).hi
  new : ∀ j, j < ss.length → j ∉ vis → F.getD j 0 = (ss.getD j ⟨0, 0, 0⟩).lo
  rest : r = 1 - qsum F
  r0 : 0 ≤ r
  full : r = 0 ∨ ∀ j ∈ vis, F.getD j 0 = (ss.getD j ⟨0, 0, 0⟩).hi
  cd : ∀ q ∈ F, CD D D q
theorem gd_mem {ss : List RS} {j : Nat} (h : j < ss.length) : ss.getD j ⟨0, 0, 0⟩ ∈ ss := getD_mem h
theorem FJ.start {n b D : Nat} {ss : List RS} (o : SOk n b ss) (d : DenOk D ss) : FJ D ss [] (ss.map (·.lo)) (1 - qsum (ss.map (·.lo))) where
  len := List.length_map _
  lo := fun j hj => by
    have e : (ss.map (·.lo)).getD j 0 = (ss.getD j ⟨0, 0, 0⟩).lo := getD_mapf rfl
    rw [e]
    exact ⟨Rat.le_refl, (o.each _ (gd_mem hj)).lh⟩
  new := fun j hj _ => getD_mapf rfl
  rest := rfl
  r0 := by have := o.low; grind
  full := .inr fun j hj => by simp at hj
  cd := fun q hq => by
    obtain ⟨x, hx, rfl⟩ := List.mem_map.mp hq
    exact (d x hx).1
/-- how much is given -/
def moreF (x : RS) (r : Rat) : Rat := if x.hi - x.lo < r then x.hi - x.lo else r
theorem qs01 {n b D : Nat} {ss : List RS} {vis : List Nat} {F : List Rat} {r : Rat} (o : SOk n b ss) (J : FJ D ss vis F r) : ∀ q ∈ F, 0 ≤ q := fun q hq => by
  obtain ⟨j, hj, rfl⟩ := List.getElem_of_mem hq
  have hj' : j < ss.length := by rw [← J.len]; exact hj
  have := (J.lo j hj').1
  have e : F.getD j 0 = F[j] := by rw [List.getD_eq_getElem?_getD, List.getElem?_eq_getElem hj]; rfl
  rw [e] at this
  exact Rat.le_trans (o.each _ (gd_mem hj')).l0 this
theorem FJ.r1 {n b D : Nat} {ss : List RS} {vis : List Nat} {F : List Rat} {r : Rat} (o : SOk n b ss) (J : FJ D ss vis F r) : r ≤ 1 := by
  have nn : 0 ≤ qsum F := by
    have h := sum_le_q (f := fun _ : Rat => (0 : Rat)) (g := fun q => q) (l := F) (qs01 o J)
    rw [WW.qsum_const0, List.map_id'] at h
    exact h
  have := J.rest
  grind
theorem FJ.rcd {n b D : Nat} {ss : List RS} {vis : List Nat} {F : List Rat} {r : Rat} (o : SOk n b ss) (J : FJ D ss vis F r) : CD D D r := by
  have c := (CD_1 (D := D) (M := D) (Nat.le_refl _)).sub (CD_sum J.cd)
  rw [← J.rest] at c
  exact cd_01 c J.r0 (J.r1 o)
theorem FJ.step {n b D : Nat} {ss : List RS} {vis : List Nat} {F : List Rat} {r : Rat} {j : Nat} (o : SOk n b ss) (d : DenOk D ss) (J : FJ D ss vis F r) (hj : j < ss.length) (hv : j ∉ vis) :
    FJ D ss (vis ++ [j]) (F.set j (F.getD j 0 + moreF (ss.getD j ⟨0, 0, 0⟩) r)) (r - moreF (ss.getD j ⟨0, 0, 0⟩) r) := by
  have hx := gd_mem hj
  have e0 := J.new j hj hv
  have ox := o.each _ hx
  obtain ⟨d1, d2⟩ := d _ hx
  have rc := J.rcd o
  have r0 := J.r0
  have hF : j < F.length := by rw [J.len]; exact hj
  have rest := J.rest
  have full := J.full
  generalize hxe : ss.getD j ⟨0, 0, 0⟩ = x at *
  have l0 := ox.l0
  have lh := ox.lh
  have h1 := ox.h1
  have m0 : 0 ≤ moreF x r := by unfold moreF; split <;> grind
  have m1 : moreF x r ≤ x.hi - x.lo := by unfold moreF; split <;> grind
  have m2 : moreF x r ≤ r := by unfold moreF; split <;> grind
  have mc : CD D (D + D) (x.lo + moreF x r) := by
    unfold moreF
    split
    · have : x.lo + (x.hi - x.lo) = x.hi := by grind
      rw [this]
      exact d2.mono (by omega)
    · exact d1.add rc
  rw [e0]
  refine ⟨by rw [List.length_set]; exact J.len, fun k hk => ?_, fun k hk hv' => ?_, ?_, by grind, ?_, fun q hq => ?_⟩
  · rw [getD_put hF]
    by_cases h : k = j
    · subst h
      rw [if_pos rfl]
      rw [hxe]
      constructor <;> grind
    · rw [if_neg h]
      exact J.lo k hk
  · rw [getD_put hF, if_neg (fun e => hv' (by rw [e]; simp))]
    exact J.new k hk fun z => hv' (List.mem_append_left _ z)
  · rw [qsum_put hF, e0, rest]
    grind
  · by_cases c : x.hi - x.lo < r
    · have em : moreF x r = x.hi - x.lo := if_pos c
      rw [em]
      rcases full with f | f
      · left; grind
      · right
        intro k hk
        rw [getD_put hF]
        rcases List.mem_append.mp hk with hk | hk
        · have : ¬ k = j := fun e => hv (e ▸ hk)
          rw [if_neg this]
          exact f k hk
        · rw [List.mem_singleton.mp hk, if_pos rfl]
          rw [hxe]
          grind
    · have em : moreF x r = r := if_neg c
      rw [em]
      left; grind
  · rcases List.mem_or_eq_of_mem_set hq with hq | rfl
    · exact J.cd q hq
    · exact cd_01 mc (by grind) (by grind)
theorem FJ.fin {n b D : Nat} {ss : List RS} {vis : List Nat} {F : List Rat} {r : Rat} (o : SOk n b ss) (J : FJ D ss vis F r) (hv : ∀ j, j < ss.length → j ∈ vis) : FillOk D ss F := by
  refine ⟨J.len, J.lo, ?_, J.cd⟩
  have rest := J.rest
  rcases J.full with f | f
  · grind
  · have e : F = ss.map (·.hi) := by
      apply List.ext_getElem
      · rw [List.length_map]; exact J.len
      · intro j h1 h2
        have hj : j < ss.length := by rw [← J.len]; exact h1
        have := f j (hv j hj)
        rw [List.getD_eq_getElem?_getD, List.getElem?_eq_getElem h1] at this
        rw [List.getElem_map]
        have g : ss.getD j ⟨0, 0, 0⟩ = ss[j] := by rw [List.getD_eq_getElem?_getD, List.getElem?_eq_getElem hj]; rfl
        rw [g] at this
        exact this
    have h := o.high
    rw [← e] at h
    have r0 := J.r0
    grind
end Dh
namespace WW
open PySem PySem.Spec L2 PySem.W Dh
theorem e_ltot {x : PyData} {l : List Rat} {k : Nat} {s : Sto} (hx : itemsOf (.d x) = some (l.map pQ)) (hl : ∀ q ∈ l, QLt k q) (h : 1 + (k + 1) * l.length + k ≤ 4500) : f_law_total [.d x] s = some (.d (pQ (qsum l)), s) := by
  refine WF.eq (WF.body rfl ?_)
  simp [m_law_total, List.replicate_succ, sz2, hx]
  refine WFor_inv pQ l (fun i ρ s' => s' = s ∧ ∃ c, ρ = [some (.d x), some (.d (pQ (qsum (l.take i)))), c]) ⟨rfl, none, rfl⟩ ?_ ?_
  · rintro i q ρ s' hq' ⟨rfl, c, rfl⟩
    simp
    have sl := qsum_take_lt (i := i) hl
    refine WF.of (e_lplus (sl.bd (by omega)) ((hl q (List.mem_of_getElem? hq')).bd (by omega))) ?_
    rw [take_snoc hq', qsum_snoc]
    simp
  · rintro ρ s' ⟨rfl, c, rfl⟩
    simp
section
variable {n b D m : Nat} {s : Sto} {ss : List RS}
theorem dlt {D : Nat} {q : Rat} (h : CD D D q) (h0 : 0 < D) (hD : D < 2 ^ 20) : QLt 20 q := h.qlt h0 hD hD
theorem w_lfill {ord : List Nat} (o : SOk n b ss) (d : DenOk D ss) (h0 : 0 < D) (hD : D < 2 ^ 20) (hn : n ≤ 8) (hp : ord.Perm (List.range ss.length)) : ∃ F, FillOk D ss F ∧ f_law_fill [.d (pStr ss), .d (.list (ord.map iN))] s = some (.f (F.map pQ), s) := by
  have sl := o.len
  have b1 : QLt 10 1 := (CD_1 (D := 1) (M := 1) (by decide)).qlt (by decide) (by decide) (by decide)
  have ql : ∀ q ∈ ss.map (·.lo), QLt 20 q := fun q hq => by
    obtain ⟨x, hx, rfl⟩ := List.mem_map.mp hq
    exact dlt (d x hx).1 h0 hD
  have qs := qsum_lt ql
  rw [List.length_map] at qs
  have key : WF f_law_fill [.d (pStr ss), .d (.list (ord.map iN))] s fun r s' => s' = s ∧ ∃ F, FillOk D ss F ∧ r = .f (F.map pQ) := by
    refine WF.body rfl ?_
    simp [m_law_fill, List.replicate_succ, pStr, sz2]
    refine WLc_map pRS (fun c => pQ c.lo) ss (fun x hx => ?_) ?_
    · simp [pRS]
    refine ⟨szle (by rw [List.length_map]; omega), ?_⟩
    simp
    refine ⟨sz2, WF.of (e_ltot (l := ss.map (·.lo)) (k := 20) (by rw [List.map_map]; rfl) ql (by rw [List.length_map]; omega)) ?_⟩
    refine ⟨_, rfl, rfl, ?_⟩
    simp
    have hmi := e_lminus (s := s) (p := 1) (q := qsum (ss.map (·.lo))) b1.bd (qs.bd (by omega))
    refine WF.of hmi ?_
    clear hmi
    simp
    refine WFor_inv iN ord (fun t ρ s' => s' = s ∧ ∃ (F : List Rat) (r : Rat) (c4 c5 c6 : Option Cl), ρ = [some (.d (pStr ss)), some (.d (.list (ord.map iN))), some (.o (F.map pQ)), some (.d (pQ r)), c4, c5, c6, none] ∧ FJ D ss (ord.take t) F r) ⟨rfl, ss.map (·.lo), _, none, none, none, by rw [List.map_map]; rfl, by rw [List.take_zero]; exact FJ.start o d⟩ ?_ ?_
    · rintro t i ρ s' ht ⟨rfl, F, r, c4, c5, c6, rfl, J⟩
      have hts := take_snoc ht
      have hil : i < ss.length := List.mem_range.mp (hp.mem_iff.mp (List.mem_of_getElem? ht))
      have nmem : i ∉ ord.take t := fun q => by
        have p : (ord.take (t + 1)).Nodup := (hp.nodup_iff.mpr List.nodup_range).sublist (List.take_sublist _ _)
        rw [hts, List.nodup_append] at p
        exact p.2.2 i q i (by simp) rfl
      have J2 := J.step o d hil nmem
      have hx := gd_mem hil
      have ea : atI (ss.map pRS) (i : Int) = some (pRS (ss.getD i ⟨0, 0, 0⟩)) := atI_getD hil
      have ef : atI (F.map pQ) (i : Int) = some (pQ (F.getD i 0)) := atI_getD (by rw [J.len]; exact hil)
      have q1 := dlt (d _ hx).1 h0 hD
      have q2 := dlt (d _ hx).2 h0 hD
      have qr := dlt (J.rcd o) h0 hD
      have qf : QLt 20 (F.getD i 0) := dlt (J.cd _ (getD_mem (by rw [J.len]; exact hil))) h0 hD
      rw [hts]
      have fl := J.len
      generalize ss.getD i ⟨0, 0, 0⟩ = x at *
      have qroom := QLt_sub q2 q1
      have ixn := ixN_ofNat (n := F.length) (i := i) (by omega)
      simp [iN, pStr, ea, pRS, -List.getD_eq_getElem?_getD]
      refine WF.of (e_lminus (q2.bd) (q1.bd)) ?_
      simp [-List.getD_eq_getElem?_getD]
      refine WF.of (e_lbelow (qroom.bd) (qr.bd)) ?_
      by_cases hm : x.hi - x.lo < r
      · have em : moreF x r = x.hi - x.lo := if_pos hm
        rw [em] at J2
        simp [hm, ef, -List.getD_eq_getElem?_getD]
        refine WF.of (e_lplus (qf.bd) (qroom.bd)) ?_
        simp [Dh.putL, ixn, -List.getD_eq_getElem?_getD]
        refine WF.of (e_lminus (qr.bd) (qroom.bd)) ?_
        simp [-List.getD_eq_getElem?_getD]
        exact ⟨_, _, ⟨by rw [List.map_set], rfl⟩, J2⟩
      · have em : moreF x r = r := if_neg hm
        rw [em] at J2
        simp [hm, ef, -List.getD_eq_getElem?_getD]
        refine WF.of (e_lplus (qf.bd) (qr.bd)) ?_
        simp [Dh.putL, ixn, -List.getD_eq_getElem?_getD]
        refine WF.of (e_lminus (qr.bd) (qr.bd)) ?_
        simp [-List.getD_eq_getElem?_getD]
        exact ⟨_, _, ⟨by rw [List.map_set], rfl⟩, J2⟩
    · rintro ρ s' ⟨rfl, F, r, c4, c5, c6, rfl, J⟩
      rw [List.take_length] at J
      simp
      exact ⟨F, J.fin o fun j hj => hp.mem_iff.mpr (List.mem_range.mpr hj), rfl⟩
  obtain ⟨r, s', e, rfl, F, f, rfl⟩ := key
  exact ⟨F, f, e⟩
end
end WW
namespace Dh
open PySem PySem.Spec L2 PySem.W
def d0 : RDeed := ⟨[], []⟩
def stD (h : RHouse) (s : Nat) : List RDeed := h.stands.getD s []
def deedAt (h : RHouse) (st a : Nat) : RDeed := (stD h st).getD a d0
structure ChB (n : Nat) (cs : List (Nat × Rat)) : Prop where
  asc : cs.Pairwise fun a b => a.1 < b.1
  each : ∀ c ∈ cs, c.1 < n ∧ 0 < c.2 ∧ QLt 40 c.2
  one : qsum (cs.map (·.2)) = 1
theorem ChB.len {n : Nat} {cs : List (Nat × Rat)} (h : ChB n cs) : cs.length ≤ n := by
  have := asc_len 0 h.asc fun c hc => ⟨Nat.zero_le _, (h.each c hc).1⟩
  omega
structure DeedB (n p : Nat) (d : RDeed) (g : Nat) : Prop where
  ch : ChB n d.ch
  len : d.gs.length = p
  gain : ∀ q ∈ d.gs, QLt g q
structure HouseB (N D P : Nat) (h : RHouse) (g : Nat) : Prop where
  s0 : 0 ≤ h.share
  s1 : h.share < 1
  sb : QLt 7 h.share
  p1 : 1 ≤ h.pays
  pP : h.pays ≤ P
  n1 : 1 ≤ h.stands.length
  nN : h.stands.length ≤ N
  each : ∀ st ∈ h.stands, 1 ≤ st.length ∧ st.length ≤ D ∧ ∀ d ∈ st, DeedB h.stands.length h.pays d g
theorem HouseB.fit {N D P g : Nat} {h : RHouse} (hk : HouseB N D P h g) (hN : N ≤ 8) (hP : P ≤ 4) (hg : g ≤ 100) : HFit h where
  n8 := Nat.le_trans hk.nN hN
  each := fun st hst d hd => by
    have c := (hk.each st hst).2.2 d hd
    have n := hk.nN
    have l := c.ch.len
    have p := hk.pP
    exact ⟨c.ch.asc, by omega, fun x hx => (c.ch.each x hx).2.2.mono (by decide), by rw [c.len]; omega, fun q hq => (c.gain q hq).mono hg⟩
def frCh (cs : List (Nat × Rat)) (l : List Rat) : List (Nat × Rat) := (cs.zip l).filterMap fun p => if 0 < p.2 then some (p.1.1, p.2) else none
theorem frCh_mem {cs : List (Nat × Rat)} {l : List Rat} {c : Nat × Rat} (h : c ∈ frCh cs l) : c.1 ∈ cs.map (·.1) ∧ c.2 ∈ l ∧ 0 < c.2 := by
  unfold frCh at h
  obtain ⟨p, hp, e⟩ := List.mem_filterMap.mp h
  obtain ⟨m1, m2⟩ := List.of_mem_zip (a := p.1) (b := p.2) hp
  split at e
  · rename_i q
    cases e
    exact ⟨(show p.1.1 ∈ cs.map (·.1) from List.mem_map_of_mem m1), m2, q⟩
  · cases e
theorem frCh_len {cs : List (Nat × Rat)} {l : List Rat} : (frCh cs l).length ≤ cs.length := by
  unfold frCh
  exact Nat.le_trans (List.length_filterMap_le _ _) (by rw [List.length_zip]; omega)
theorem frCh_sum : ∀ {cs : List (Nat × Rat)} {l : List Rat}, l.length = cs.length → (∀ q ∈ l, 0 ≤ q) → qsum ((frCh cs l).map (·.2)) = qsum l
  | [], [], _, _ => rfl
  | [], _ :: _, h, _ => by simp at h
  | _ :: _, [], h, _ => by simp at h
  | c :: cs, q :: l, hl, h => by
    have ih := frCh_sum (cs := cs) (l := l) (by simpa using hl) fun x hx => h x (List.mem_cons_of_mem _ hx)
    unfold frCh at ih ⊢
    rw [List.zip_cons_cons, List.filterMap_cons]
    by_cases p : 0 < q
    · simp only [p, if_true]
      rw [List.map_cons, qsum_cons, qsum_cons, ih]
    · simp only [p, if_false]
      have : q = 0 := Rat.le_antisymm (Rat.not_lt.mp p) (h q List.mem_cons_self)
      rw [ih, qsum_cons, this, Rat.zero_add]
end Dh
namespace WW
open PySem PySem.Spec L2 PySem.W Dh
theorem e_chancesB {n : Nat} {cs : List (Nat × Rat)} {s : Sto} (h : ChB n cs) (hn : n ≤ 9) : f_are_chances [.d (.tuple (cs.map pCh)), .d (.int (n : Int))] s = some (.d (.bool true), s) := by
  have hl := h.len
  refine WF.eq (WF.body rfl ?_)
  simp [m_are_chances, List.replicate_succ]
  refine WLc_map pCh (fun _ => PyData.bool true) cs (fun x hx => ?_) ?_
  · simp [pCh]
    exact WF.of (e_is_tuple_of rfl) (by simp)
  refine ⟨szle (by rw [List.length_map]; omega), ?_⟩
  simp [fAll_true]
  refine WLc_map pCh (fun _ => PyData.bool true) cs (fun x hx => ?_) ?_
  · obtain ⟨h1, h2, h3⟩ := h.each x hx
    simp [pCh]
    refine WF.of (e_is_between (by omega) (by omega)) ?_
    simp
    refine WF.of e_is_ratio ?_
    simp [pQ]
    have a := Rat.num_nonneg.mpr (Rat.le_of_lt h2)
    have b : x.2.num ≠ 0 := fun z => Rat.ne_of_gt h2 (Rat.num_eq_zero.mp z)
    omega
  refine ⟨szle (by rw [List.length_map]; omega), ?_⟩
  simp [fAll_true]
  refine WLc_map pCh (fun c => PyData.int (c.1 : Nat)) cs (fun x hx => ?_) ?_
  · simp [pCh]
  refine ⟨szle (by rw [List.length_map]; omega), ?_⟩
  simp [frzs, frz1, fSl, cutD_tail]
  rw [← List.map_tail, pairs_map]
  refine WLc_map (p2 (fun c : Nat × Rat => PyData.int (c.1 : Nat)) (fun c : Nat × Rat => PyData.int (c.1 : Nat))) (fun _ => PyData.bool true) (cs.zip cs.tail) (fun x hx => ?_) ?_
  · have := pw_tail h.asc x hx
    simp [p2, this]
  refine ⟨szle (by rw [List.length_map, List.length_zip]; omega), ?_⟩
  simp [fAll_true]
  refine WLc_map pCh (fun c => pQ c.2) cs (fun x hx => ?_) ?_
  · simp [pCh]
  refine ⟨szle (by rw [List.length_map]; omega), ?_⟩
  simp
  refine WF.of (e_total (l := cs.map (·.2)) (k := 40) (by rw [List.map_map]; rfl) (fun q hq => by
    obtain ⟨c, hc, rfl⟩ := List.mem_map.mp hq
    exact (h.each c hc).2.2) (by rw [List.length_map]; omega)) ?_
  rw [h.one]
  simp [show k_ONE = pQ 1 from rfl, fEq_pQ]
theorem e_deedC {n p g : Nat} {d : RDeed} {s : Sto} (h : DeedB n p d g) (hn : n ≤ 9) (hp : p ≤ 9) : f_is_deed [.d (pDeed d), .d (.int (p : Int)), .d (.int (n : Int))] s = some (.d (.bool true), s) := by
  refine WF.eq (WF.body rfl ?_)
  simp [m_is_deed, pDeed]
  refine WF.of (e_is_tuple_of rfl) ?_
  simp
  refine WF.of (e_chancesB h.ch hn) ?_
  simp
  refine WF.of (e_is_row (by rw [h.len]) (by rw [h.len]; omega)) ?_
  simp
theorem e_standC {n p g : Nat} {st : List RDeed} {s : Sto} (h : ∀ d ∈ st, DeedB n p d g) (h1 : 1 ≤ st.length) (h4 : st.length ≤ 4) (hn : n ≤ 9) (hp : p ≤ 9) : f_is_stand [.d (pStand st), .d (.int (p : Int)), .d (.int (n : Int))] s = some (.d (.bool true), s) := by
  refine WF.eq (WF.body rfl ?_)
  simp [m_is_stand, List.replicate_succ, pStand, k_MOST_DEEDS]
  refine WF.of (e_is_between (by omega) (by omega)) ?_
  simp
  refine WLc_map pDeed (fun _ => PyData.bool true) st (fun x hx => ?_) ?_
  · simp
    exact WF.of (e_deedC (h x hx) hn hp) (by simp)
  refine ⟨szle (by rw [List.length_map]; omega), ?_⟩
  simp [fAll_true]
theorem e_houseC {N D P g : Nat} {h : RHouse} {s : Sto} (ok : HouseB N D P h g) (hN : N ≤ 8) (hD : D ≤ 4) (hP : h.pays ≤ 4) : f_is_house_by [.d (pHouse h)] s = some (.d (.bool true), s) := by
  have hn1 := ok.n1
  have hn := ok.nN
  have hp1 := ok.p1
  refine WF.eq (WF.body rfl ?_)
  simp [m_is_house_by, List.replicate_succ, pHouse, k_MOST_PAYS, k_MOST_STANDS]
  refine WF.of (e_is_tuple_of rfl) ?_
  simp
  refine WF.of (e_is_share ok.s0 ok.s1) ?_
  simp
  refine WF.of (e_is_between (by omega) (by omega)) ?_
  simp
  refine WF.of (e_is_between (by omega) (by omega)) ?_
  simp
  refine WLc_map pStand (fun _ => PyData.bool true) h.stands (fun x hx => ?_) ?_
  · obtain ⟨h1, h2, h3⟩ := ok.each x hx
    simp
    exact WF.of (e_standC h3 h1 (by omega) (by omega) (by omega)) (by simp)
  refine ⟨szle (by rw [List.length_map]; omega), ?_⟩
  simp [fAll_true]
end WW
namespace Dh
open PySem PySem.Spec L2 PySem.W
def goC (ss : List RS) : List (Nat × Rat) := ss.map fun x => (x.st, 0)
structure InD (D : Nat) (d : RVD) (e : RDeed) : Prop where
  gs : e.gs = d.gs
  ch : ∃ F, FillOk D d.ss F ∧ e.ch = frCh (goC d.ss) F
structure InH (Df : Nat → Nat → Nat) (v : RVag) (h : RHouse) : Prop where
  share : h.share = v.share
  pays : h.pays = v.pays
  len : h.stands.length = v.stands.length
  stl : ∀ a, a < v.stands.length → (stD h a).length = (stV v a).length
  dd : ∀ a b, a < v.stands.length → b < (stV v a).length → InD (Df a b) (dV v a b) (deedAt h a b)
theorem mixq {p r : Rat} : ∀ {X Y : List Rat}, X.length = Y.length → qsum ((X.zip Y).map fun z => p * z.1 + r * z.2) = p * qsum X + r * qsum Y
  | [], [], _ => by
    show (0 : Rat) = p * 0 + r * 0
    rw [Rat.mul_zero, Rat.mul_zero, Rat.add_zero]
  | [], _ :: _, h => by simp at h
  | _ :: _, [], h => by simp at h
  | x :: X, y :: Y, h => by
    have ih := mixq (p := p) (r := r) (X := X) (Y := Y) (by simpa using h)
    rw [List.zip_cons_cons, List.map_cons, qsum_cons, qsum_cons, qsum_cons, ih]
    grind
theorem FillOk.f0 {n b D : Nat} {ss : List RS} {F : List Rat} (o : SOk n b ss) (f : FillOk D ss F) : ∀ q ∈ F, 0 ≤ q ∧ q ≤ 1 := fun q hq => by
  obtain ⟨j, hj, rfl⟩ := List.getElem_of_mem hq
  have hj' : j < ss.length := by rw [← f.len]; exact hj
  obtain ⟨l, h⟩ := f.lo j hj'
  have e : F.getD j 0 = F[j] := by rw [List.getD_eq_getElem?_getD, List.getElem?_eq_getElem hj]; rfl
  rw [e] at l h
  have ox := o.each _ (gd_mem hj')
  exact ⟨Rat.le_trans ox.l0 l, Rat.le_trans h ox.h1⟩
theorem FillOk.up {D : Nat} {ss : List RS} {F : List Rat} (f : FillOk D ss F) : FillOk (D * 4) ss F := ⟨f.len, f.lo, f.one, fun q hq => (f.cd q hq).up 4⟩
theorem FillOk.mix {n b D : Nat} {ss : List RS} {X Y : List Rat} {p : Rat} (o : SOk n b ss) (fx : FillOk D ss X) (fy : FillOk D ss Y) (p0 : 0 ≤ p) (p1 : p ≤ 1) (hp : CD 4 4 p) : FillOk (D * 4) ss ((X.zip Y).map fun z => p * z.1 + (1 - p) * z.2) := by
  have lx := fx.len
  have ly := fy.len
  have r0 : 0 ≤ 1 - p := by grind
  have zl : ((X.zip Y).map fun z => p * z.1 + (1 - p) * z.2).length = ss.length := by rw [List.length_map, List.length_zip]; omega
  have bet : ∀ lo hi x y : Rat, lo ≤ x → x ≤ hi → lo ≤ y → y ≤ hi → lo ≤ p * x + (1 - p) * y ∧ p * x + (1 - p) * y ≤ hi := fun lo hi x y h1 h2 h3 h4 => by
    have a1 := Rat.mul_le_mul_of_nonneg_left h1 p0
    have a2 := Rat.mul_le_mul_of_nonneg_left h2 p0
    have a3 := Rat.mul_le_mul_of_nonneg_left h3 r0
    have a4 := Rat.mul_le_mul_of_nonneg_left h4 r0
    have e1 : p * lo + (1 - p) * lo = lo := by grind
    have e2 : p * hi + (1 - p) * hi = hi := by grind
    constructor <;> grind
  refine ⟨zl, fun j hj => ?_, ?_, fun q hq => ?_⟩
  · have e : ((X.zip Y).map fun z => p * z.1 + (1 - p) * z.2).getD j 0 = p * X.getD j 0 + (1 - p) * Y.getD j 0 := by
      rw [List.getD_eq_getElem?_getD, List.getElem?_eq_getElem (by rw [zl]; exact hj), List.getElem_map, List.getElem_zip, List.getD_eq_getElem?_getD, List.getElem?_eq_getElem (show j < X.length by omega), List.getD_eq_getElem?_getD, List.getElem?_eq_getElem (show j < Y.length by omega)]
      rfl
    rw [e]
    obtain ⟨x1, x2⟩ := fx.lo j hj
    obtain ⟨y1, y2⟩ := fy.lo j hj
    exact bet _ _ _ _ x1 x2 y1 y2
  · rw [mixq (by omega), fx.one, fy.one]
    grind
  · obtain ⟨z, hz, rfl⟩ := List.mem_map.mp hq
    obtain ⟨m1, m2⟩ := List.of_mem_zip (a := z.1) (b := z.2) hz
    obtain ⟨x0, x1⟩ := fx.f0 o _ m1
    obtain ⟨y0, y1⟩ := fy.f0 o _ m2
    have c1 := hp.mul (fx.cd _ m1)
    have c2 := ((CD_1 (D := 4) (M := 4) (Nat.le_refl _)).sub hp).mul (fy.cd _ m2)
    have c := c1.add c2
    rw [Nat.mul_comm 4 D] at c
    obtain ⟨b1, b2⟩ := bet 0 1 z.1 z.2 x0 x1 y0 y1
    exact cd_01 c b1 b2
theorem goC_st {ss : List RS} : (goC ss).map (·.1) = ss.map (·.st) := by
  unfold goC
  rw [List.map_map]
  rfl
theorem frCh_asc {ss : List RS} {n b : Nat} {F : List Rat} (o : SOk n b ss) (hl : F.length = ss.length) : (frCh (goC ss) F).Pairwise fun a b => a.1 < b.1 := by
  have gl : (goC ss).length = ss.length := List.length_map _
  have p : ((goC ss).zip F).Pairwise fun a b => a.1.1 < b.1.1 := by
    have : (goC ss).Pairwise fun a b => a.1 < b.1 := List.pairwise_map.mpr o.asc
    rw [← List.map_fst_zip (l₁ := goC ss) (l₂ := F) (by omega), List.pairwise_map] at this
    exact this
  unfold frCh
  rw [List.pairwise_filterMap]
  refine p.imp fun {a b} h x hx y hy => ?_
  split at hx
  · split at hy
    · cases hx; cases hy; exact h
    · cases hy
  · cases hx
theorem fill_ch {n b D : Nat} {ss : List RS} {F : List Rat} (o : SOk n b ss) (f : FillOk D ss F) (h0 : 0 < D) (hD : D < 2 ^ 40) : ChB n (frCh (goC ss) F) where
  asc := frCh_asc o f.len
  each := fun c hc => by
    obtain ⟨a, b', p⟩ := frCh_mem hc
    rw [goC_st] at a
    obtain ⟨x, hx, e⟩ := List.mem_map.mp a
    exact ⟨by rw [← e]; exact (o.each x hx).st, p, (f.cd _ b').qlt h0 hD hD⟩
  one := by
    rw [frCh_sum (by rw [f.len]; exact (List.length_map _).symm) fun q hq => (f.f0 o q hq).1]
    exact f.one
theorem InH.house {N D' P b g : Nat} {Df : Nat → Nat → Nat} {v : RVag} {h : RHouse} (ok : VagOk N D' P b g v) (i : InH Df v h) (hD : ∀ a c, 0 < Df a c ∧ Df a c < 2 ^ 40) : HouseB N D' P h g where
  s0 := by rw [i.share]; exact ok.s0
  s1 := by rw [i.share]; exact ok.s1
  sb := by rw [i.share]; exact ok.sb
  p1 := by rw [i.pays]; exact ok.p1
  pP := by rw [i.pays]; exact ok.pP
  n1 := by rw [i.len]; exact ok.n1
  nN := by rw [i.len]; exact ok.nN
  each := fun st hst => by
    obtain ⟨a, ha, rfl⟩ := List.getElem_of_mem hst
    have e : h.stands[a] = stD h a := by unfold stD; rw [List.getD_eq_getElem?_getD, List.getElem?_eq_getElem ha]; rfl
    have ha' : a < v.stands.length := by rw [← i.len]; exact ha
    obtain ⟨t1, t2, t3⟩ := ok.st ha'
    have sl := i.stl a ha'
    rw [e, sl]
    refine ⟨t1, t2, fun d hd => ?_⟩
    obtain ⟨c, hc, rfl⟩ := List.getElem_of_mem hd
    have e2 : (stD h a)[c] = deedAt h a c := by unfold deedAt; rw [List.getD_eq_getElem?_getD, List.getElem?_eq_getElem hc]; rfl
    have hc' : c < (stV v a).length := by rw [← sl]; exact hc
    have dk := ok.dd ha' hc'
    have id := i.dd a c ha' hc'
    rw [e2, i.len, i.pays]
    obtain ⟨F, f, ec⟩ := id.ch
    exact ⟨by rw [ec]; exact fill_ch dk.ss f (hD a c).1 (hD a c).2, by rw [id.gs]; exact dk.len, by rw [id.gs]; exact dk.gain⟩
end Dh
namespace WW
open PySem PySem.Spec L2 PySem.W Dh
section
variable {n b D m : Nat} {s : Sto} {ss : List RS}
theorem w_within (o : SOk n b ss) (d : DenOk D ss) (h0 : 0 < D) (hD : D < 2 ^ 20) (hn : n ≤ 8) (v : Vs (m + 20) s) : WF f_law_within [.s, .d (pStr ss)] s fun r s' => ∃ F, r = .f (F.map pQ) ∧ FillOk (D * 4) ss F ∧ Vs m s' := by
  have sl := o.len
  have b1 : QLt 10 1 := (CD_1 (D := 1) (M := 1) (by decide)).qlt (by decide) (by decide) (by decide)
  refine WF.body rfl ?_
  simp [m_law_within, List.replicate_succ, pStr]
  refine WF.use (w_shuffled (n := ss.length) (m := m + 12) (by omega) v.mono) ?_
  rintro _ s1 ⟨ord, rfl, hp, v1⟩
  obtain ⟨X, fx, ex⟩ := w_lfill (s := s1) o d h0 hD hn hp
  simp
  refine WF.of ex ?_
  simp
  refine WF.use (w_take (l := 2) (m := m + 11) v1.mono (by decide) (by decide)) ?_
  rintro _ s2 ⟨c, rfl, c0, c1, v2⟩
  simp [fEq_int]
  by_cases hc : c = 0
  · simp [hc]
    exact ⟨X, rfl, fx.up, v2.mono⟩
  · simp [hc]
    refine WF.use (w_shuffled (n := ss.length) (m := m + 1) (by omega) v2.mono) ?_
    rintro _ s3 ⟨ord2, rfl, hp2, v3⟩
    obtain ⟨Y, fy, ey⟩ := w_lfill (s := s3) o d h0 hD hn hp2
    simp
    refine WF.of ey ?_
    simp
    refine WF.use (w_take (l := 3) (m := m) v3.mono (by decide) (by decide)) ?_
    rintro _ s4 ⟨t, rfl, t0, t1, v4⟩
    obtain ⟨T, et, T3⟩ : ∃ T : Nat, (1 : Int) + t = (T : Int) ∧ T ≤ 4 := ⟨(1 + t).toNat, by omega, by omega⟩
    have cp := CD_divInt (S := 4) (a := T) (by decide) T3
    obtain ⟨p0, p1⟩ := divInt_01 (n := T) (S := 4) (by decide) T3
    simp [et, sz2]
    refine WF.of (e_frac0 (t := (T : Int)) (l := 4) (by decide) (by decide)) ?_
    have e4 : Rat.divInt (T : Int) 4 = Rat.divInt (T : Int) ((4 : Nat) : Int) := rfl
    rw [e4]
    generalize Rat.divInt (T : Int) ((4 : Nat) : Int) = p at *
    have qp : QLt 10 p := cp.qlt (by decide) (by decide) (by decide)
    have qr : QLt 30 (1 - p) := (QLt_sub b1 qp).mono (by decide)
    simp [sz2]
    refine WF.of (e_lminus (p := 1) (q := p) b1.bd qp.bd) ?_
    simp [frzs, frz1, pairs_map]
    refine WLc_map (p2 pQ pQ) (fun z => pQ (p * z.1 + (1 - p) * z.2)) (X.zip Y) (fun z hz => ?_) ?_
    · obtain ⟨m1, m2⟩ := List.of_mem_zip (a := z.1) (b := z.2) hz
      have q1 := dlt (fx.cd _ m1) h0 hD
      have q2 := dlt (fy.cd _ m2) h0 hD
      simp [p2]
      refine WF.of (e_ltimes qp.bd q1.bd) ?_
      simp
      refine WF.of (e_ltimes qr.bd q2.bd) ?_
      simp
      refine WF.of (e_lplus ((QLt_mul qp q1).bd) ((QLt_mul qr q2).bd)) ?_
      simp
    refine ⟨szle (by rw [List.length_map, List.length_zip, fx.len]; omega), ?_⟩
    simp
    exact ⟨(X.zip Y).map fun z => p * z.1 + (1 - p) * z.2, by rw [List.map_map]; rfl, fx.mix o fy p0 p1 cp, v4⟩
theorem e_known {F : List Rat} (hl : F.length = ss.length) (h8 : ss.length ≤ 8) : f_law_known [.d (pStr ss), .d (.list (F.map pQ))] s = some (.d (.tuple ((frCh (goC ss) F).map pCh)), s) := by
  refine WF.eq (WF.body rfl ?_)
  simp [m_law_known, List.replicate_succ, pStr, pairs_map]
  refine WLc_map (p2 pRS pQ) (fun z => pCh (z.1.st, z.2)) (ss.zip F) (fun z hz => ?_) ?_
  · simp [p2, pRS, pCh, sz2]
  refine ⟨szle (by rw [List.length_map, List.length_zip]; omega), ?_⟩
  simp [frzs, frz1]
  have em : (ss.zip F).map (fun z => pCh (z.1.st, z.2)) = ((goC ss).zip F).map fun z => pCh (z.1.1, z.2) := by
    unfold goC
    rw [List.zip_map_left, List.map_map]
    rfl
  rw [em]
  refine WLc_opt (fun z : (Nat × Rat) × Rat => pCh (z.1.1, z.2)) (fun z => if 0 < z.2 then some (pCh (z.1.1, z.2)) else none) ((goC ss).zip F) (fun z hz => ?_) ?_
  · have e : 0 < z.2.num ↔ 0 < z.2 := by rw [Rat.lt_iff]; simp
    by_cases h : 0 < z.2
    · simp [pCh, h, e.mpr h, pQ]
    · have : ¬ 0 < z.2.num := fun q => h (e.mp q)
      simp [pCh, h, this, pQ]
  have ef : (((goC ss).zip F).filterMap fun z => if 0 < z.2 then some (pCh (z.1.1, z.2)) else none) = (frCh (goC ss) F).map pCh := by
    unfold frCh
    rw [List.map_filterMap]
    congr 1
    funext z
    split <;> rfl
  rw [ef]
  have fl := frCh_len (cs := goC ss) (l := F)
  have gl : (goC ss).length = ss.length := List.length_map _
  refine ⟨szle (by rw [List.length_map]; omega), ?_⟩
  simp
end
end WW
namespace Dh
open PySem PySem.Spec L2 PySem.W
theorem chF_snoc {l : List (Nat × Rat)} {c : Nat × Rat} {k : Nat} (h : ∀ x ∈ l, x.1 ≠ c.1) : chF (l ++ [c]) k = if k = c.1 then c.2 else chF l k := by
  unfold chF
  rw [List.find?_append]
  by_cases e : k = c.1
  · subst e
    have n : l.find? (fun x => decide (x.1 = c.1)) = none := by
      rw [List.find?_eq_none]
      intro x hx
      simpa using h x hx
    simp [n]
  · rw [if_neg e]
    cases l.find? (fun x => decide (x.1 = k)) with
    | some x => rfl
    | none =>
      have : ¬ c.1 = k := fun z => e z.symm
      simp [this]
end Dh
namespace WW
open PySem PySem.Spec L2 PySem.W Dh
section
variable {s : Sto} {N D P b g : Nat} {v : RVag} {h : RHouse} {W : List (Nat × Nat × Nat)} {α : Rat}
theorem e_lfull {cs : List (Nat × Rat)} (asc : cs.Pairwise fun a b => a.1 < b.1) (h8 : ∀ c ∈ cs, c.1 < 8) : ∃ L : List Rat, L.length = 8 ∧ (∀ k, k < 8 → L.getD k 0 = chF cs k) ∧ f_law_full [.d (.tuple (cs.map pCh)), .d (.int 8)] s = some (.f (L.map pQ), s) := by
  have key : WF f_law_full [.d (.tuple (cs.map pCh)), .d (.int 8)] s fun r s' => s' = s ∧ ∃ L : List Rat, L.length = 8 ∧ (∀ k, k < 8 → L.getD k 0 = chF cs k) ∧ r = .f (L.map pQ) := by
    have fm := fMul_repL (x := PyData.tuple [.int 0, .int 1]) (n := 8) (by decide)
    have e0 : List.replicate 8 (PyData.tuple [.int 0, .int 1]) = (List.replicate 8 (0 : Rat)).map pQ := by rw [List.map_replicate]; rfl
    refine WF.body rfl ?_
    simp [m_law_full, List.replicate_succ, sz1, sz2]
    have fm' : fMul (.f [PyData.tuple [.int 0, .int 1]]) (.d (.int 8)) = some (.f ((List.replicate 8 (0 : Rat)).map pQ)) := by rw [← e0]; exact fm
    rw [fm']
    simp
    refine WFor_inv pCh cs (fun i ρ s' => s' = s ∧ ∃ (L : List Rat) (c3 c4 : Option Cl), ρ = [some (.d (.tuple (cs.map pCh))), some (.d (.int 8)), some (.o (L.map pQ)), c3, c4] ∧ L.length = 8 ∧ ∀ k, k < 8 → L.getD k 0 = chF (cs.take i) k) ⟨rfl, List.replicate 8 0, none, none, by simp, by simp, fun k hk => ?_⟩ ?_ ?_
    · rw [List.getD_eq_getElem?_getD, List.getElem?_replicate, if_pos hk]
      rfl
    · rintro i c ρ s' hc ⟨rfl, L, c3, c4, rfl, ll, lv⟩
      have c8 := h8 c (List.mem_of_getElem? hc)
      have ht := take_snoc hc
      have ne : ∀ x ∈ cs.take i, x.1 ≠ c.1 := fun x hx => by
        have p : (cs.take (i + 1)).Pairwise fun a b => a.1 < b.1 := asc.sublist (List.take_sublist _ _)
        rw [ht, List.pairwise_append] at p
        have := p.2.2 x hx c (by simp)
        omega
      simp [pCh, Dh.putL, ixN_ofNat (n := L.length) (i := c.1) (by omega), -List.getD_eq_getElem?_getD]
      refine ⟨L.set c.1 c.2, by rw [List.map_set], by rw [List.length_set]; exact ll, fun k hk => ?_⟩
      rw [getD_put (by omega), ht, chF_snoc ne]
      split
      · rfl
      · exact lv k hk
    · rintro ρ s' ⟨rfl, L, c3, c4, rfl, ll, lv⟩
      rw [List.take_length] at lv
      simp [-List.getD_eq_getElem?_getD]
      exact ⟨L, ll, lv, rfl⟩
  obtain ⟨r, s', e, rfl, L, h1, h2, rfl⟩ := key
  exact ⟨L, h1, h2, e⟩
end
end WW
namespace Dh
open PySem PySem.Spec L2 PySem.W
theorem gDat {α : Type} {l : List α} {i : Nat} {d : α} (hi : i < l.length) : l[i]? = some (l.getD i d) := by
  rw [List.getD_eq_getElem?_getD, List.getElem?_eq_getElem hi]; rfl
theorem atI_any {ts : List PyData} {q : Nat} (h : q < ts.length) : atI ts (q : Int) = some (ts.getD q .none) := by
  rw [atI_ofNat h, gDat (d := .none) h]
@[simp] theorem fEqE_tt {xs : List PyData} : fEqE false (.d (.tuple xs)) (.d (.tuple [])) = some (.d (.bool xs.isEmpty)) := rfl
/-- not deeper than so many tuples -/
def Dp : Nat → PyData → Prop
  | 0, x => ∀ xs, x ≠ .tuple xs
  | n + 1, x => ∀ xs, x = .tuple xs → ∀ y ∈ xs, Dp n y
theorem Dp.succ : ∀ {n : Nat} {x : PyData}, Dp n x → Dp (n + 1) x
  | 0, _, h => fun xs e => absurd e (h xs)
  | n + 1, _, h => fun xs e y hy => Dp.succ (h xs e y hy)
theorem Dp.mono {n m : Nat} {x : PyData} (h : Dp n x) (k : n ≤ m) : Dp m x := by
  induction m with
  | zero => rwa [show n = 0 by omega] at h
  | succ m ih =>
    by_cases e : n = m + 1
    · rwa [e] at h
    · exact (ih (by omega)).succ
theorem Dp.int {n : Nat} {i : Int} : Dp n (.int i) := by
  cases n with
  | zero => exact fun xs e => by cases e
  | succ n => exact fun xs e => by cases e
theorem Dp.lst {n : Nat} {l : List PyData} : Dp n (.list l) := by
  cases n with
  | zero => exact fun xs e => by cases e
  | succ n => exact fun xs e => by cases e
theorem Dp.tup {n : Nat} {xs : List PyData} (h : ∀ y ∈ xs, Dp n y) : Dp (n + 1) (.tuple xs) := fun ys e y hy => by
  cases e; exact h y hy
mutual
def dpB : Nat → PyData → Bool
  | 0, .tuple _ => false
  | n + 1, .tuple xs => dpBs n xs
  | _, _ => true
def dpBs : Nat → List PyData → Bool
  | _, [] => true
  | n, x :: xs => dpB n x && dpBs n xs
end
mutual
theorem dpB_of : ∀ (x : PyData) (n : Nat), dpB n x = true → Dp n x
  | .tuple xs, 0, h => by simp [dpB] at h
  | .tuple xs, n + 1, h => Dp.tup (dpBs_of xs n (by simpa [dpB] using h))
  | .int _, n, _ => Dp.int
  | .list _, n, _ => Dp.lst
  | .none, 0, _ => fun xs e => by cases e
  | .none, n + 1, _ => fun xs e => by cases e
  | .bool _, 0, _ => fun xs e => by cases e
  | .bool _, n + 1, _ => fun xs e => by cases e
  | .str _, 0, _ => fun xs e => by cases e
  | .str _, n + 1, _ => fun xs e => by cases e
  | .dict _, 0, _ => fun xs e => by cases e
  | .dict _, n + 1, _ => fun xs e => by cases e
theorem dpBs_of : ∀ (xs : List PyData) (n : Nat), dpBs n xs = true → ∀ y ∈ xs, Dp n y
  | [], _, _ => by simp
  | x :: xs, n, h => fun y hy => by
    simp only [dpBs, Bool.and_eq_true] at h
    rcases List.mem_cons.mp hy with e | hy
    · rw [e]; exact dpB_of x n h.1
    · exact dpBs_of xs n h.2 y hy
end
/-- what comes of a bending: a look, small, not deep -/
def OddR (K W n : Nat) (r : R) : Prop := ∃ y, (r = .d y ∨ ∃ xs, r = .f xs ∧ y = .list xs) ∧ szW K W y = true ∧ Dp n y
theorem OddR.mk {K W n : Nat} {y : PyData} (h : szW K W y = true) (d : Dp n y) : OddR K W n (.d y) := ⟨y, .inl rfl, h, d⟩
theorem OddR.mono {K W n K2 W2 m : Nat} {r : R} (h : OddR K W n r) (hK : K ≤ K2) (hW : W ≤ W2) (hn : n ≤ m) : OddR K2 W2 m r := by
  obtain ⟨y, e, h1, h2⟩ := h
  exact ⟨y, e, szW_mono hK hW y h1, h2.mono hn⟩
theorem WO_ret {K W n : Nat} {r : R} {Q : R → Prop} (o : OddR K W n r) (h : ∀ r', OddR K W n r' → Q r') : WO (retK r) Q := by
  obtain ⟨y, er, h1, h2⟩ := o
  rcases er with rfl | ⟨l, rfl, rfl⟩
  · simp; exact h _ (.mk h1 h2)
  · simp; exact h _ ⟨_, .inr ⟨_, rfl, rfl⟩, h1, h2⟩
theorem szW_lst {K W : Nat} {xs : List PyData} : szW K W (.list xs) = true := by simp [szW]
theorem cutD_mem {xs : List PyData} {lo hi : Option Int} {y : PyData} (h : y ∈ cutD xs lo hi) : y ∈ xs := by
  unfold cutD at h
  exact List.mem_of_mem_drop (List.mem_of_mem_take h)
theorem cutD_le {xs : List PyData} {lo hi : Option Int} : (cutD xs lo hi).length ≤ xs.length := by
  unfold cutD
  rw [List.length_take, List.length_drop]
  omega
@[simp] theorem fAdd_bf {xs ys : List PyData} : fAdd (.b xs) (.f ys) = if xs.length + ys.length ≤ sizeLine then some (.f (xs ++ ys)) else none := rfl
end Dh
namespace WW
open PySem PySem.Spec L2 PySem.W Dh
section
variable {s : Sto}
theorem w_pickL {xs : List PyData} {m : Nat} (v : Vs (m + 1) s) (h : 0 < xs.length) (hl : xs.length ≤ 1000) : WF f_law_pick [.s, .d (.list xs)] s fun r s' => ∃ x ∈ xs, r = .d x ∧ Vs m s' := by
  refine WF.body rfl ?_
  simp [m_law_pick]
  refine WF.use (w_take v (by omega) (by omega)) ?_
  rintro _ s' ⟨d, rfl, h1, h2, v'⟩
  obtain ⟨x, hx, e⟩ := atI_pick h1 h2
  simp [e]
  exact ⟨x, hx, rfl, v'⟩
theorem w_oddA {m : Nat} (v : Vs (m + 1) s) : WF f_law_odd [.s] s fun r s' => ∃ x, r = .d x ∧ szW 100 9 x = true ∧ Dp 3 x ∧ Vs m s' := by
  refine WF.body rfl ?_
  simp [m_law_odd, List.replicate_succ, sz1, sz2, sz3, fNeg, gPow, szle (show 20 ≤ 1000 by decide), szle (show 10 ≤ 1000 by decide), szle (show 30 ≤ 1000 by decide), szle (show 7 ≤ 1000 by decide), szle (show 37 ≤ 1000 by decide), szle (show 5 ≤ 1000 by decide), szle (show 42 ≤ 1000 by decide)]
  refine WF.use (w_pickL (m := m) v (by simp) (by simp)) ?_
  rintro _ s1 ⟨x, hx, rfl, v1⟩
  simp
  have key : ∀ L : List PyData, L.all (fun x => szW 100 9 x && dpB 3 x) = true → x ∈ L → szW 100 9 x = true ∧ Dp 3 x := fun L a b => by
    have := List.all_eq_true.mp a x b
    rw [Bool.and_eq_true] at this
    exact ⟨this.1, dpB_of _ _ this.2⟩
  refine ⟨?_, ?_, v1⟩
  · refine (key _ ?_ hx).1
    simp [szW, szWs, dpB, dpBs]
  · refine (key _ ?_ hx).2
    simp [szW, szWs, dpB, dpBs]
theorem w_bent {K W : Nat} (hK : 100 ≤ K) (hW : 9 ≤ W) (hW2 : W ≤ 900) : ∀ (n : Nat) {f : Nat} {s : Sto} {m : Nat} {x : PyData}, n + 1 ≤ f → Dp n x → szW K W x = true → Vs (m + 4 * (n + 1)) s → WF (f_law_bent f) [.s, .d x] s fun r s' => OddR K (W + 1) (n + 3) r ∧ Vs m s' := by
  intro n
  induction n with
  | zero =>
    intro f s m x hf hd hs v
    obtain ⟨f, rfl⟩ : ∃ g, f = g + 1 := ⟨f - 1, by omega⟩
    refine WF.body rfl ?_
    have fin : WF f_law_odd [.s] s fun r s' => OddR K (W + 1) (0 + 3) r ∧ Vs m s' := by
      refine WF.use (w_oddA (m := m) v.mono) ?_
      rintro _ s2 ⟨x, rfl, e, d, v2⟩
      exact ⟨.mk (szW_mono hK (by omega) x e) d, v2⟩
    cases x with
    | tuple xs => exact absurd rfl (hd xs)
    | _ =>
      simp [m_law_bent, List.replicate_succ, fIsi, isA, isN, tyName]
      refine WF.use fin ?_
      rintro r s2 ⟨o, v2⟩
      exact WO_ret o fun r' o' => ⟨o', v2⟩
  | succ n ih =>
    intro f s m x hf hd hs v
    obtain ⟨f, rfl⟩ : ∃ g, f = g + 1 := ⟨f - 1, by omega⟩
    have fin : ∀ (s : Sto), Vs (m + 1) s → WF f_law_odd [.s] s fun r s' => OddR K (W + 1) (n + 1 + 3) r ∧ Vs m s' := fun s v => by
      refine WF.use (w_oddA (m := m) v) ?_
      rintro _ s2 ⟨x, rfl, e, d, v2⟩
      exact ⟨.mk (szW_mono hK (by omega) x e) (d.mono (by omega)), v2⟩
    refine WF.body rfl ?_
    cases x with
    | tuple xs =>
      obtain ⟨hl, hsx⟩ := szW_tup.mp hs
      have hdx := hd xs rfl
      simp [m_law_bent, List.replicate_succ, fIsi, isA, isN, tyName]
      by_cases hne : xs.isEmpty = true
      · simp [hne]
        refine WF.use (fin s v.mono) ?_
        rintro r s2 ⟨o, v2⟩
        exact WO_ret o fun r' o' => ⟨o', v2⟩
      · have l0 : 0 < xs.length := by
          cases xs with
          | nil => exact absurd rfl hne
          | cons a l => exact Nat.succ_pos _
        have up : ∀ y ∈ xs, szW K (W + 1) y = true ∧ Dp (n + 3) y := fun y hy => ⟨szW_mono (Nat.le_refl _) (by omega) y (hsx y hy), (hdx y hy).mono (by omega)⟩
        have mk : ∀ ys : List PyData, ys.length ≤ W + 1 → (∀ y ∈ ys, szW K (W + 1) y = true ∧ Dp (n + 3) y) → OddR K (W + 1) (n + 1 + 3) (.d (.tuple ys)) := fun ys h1 h2 =>
          .mk (szW_tup.mpr ⟨h1, fun y hy => (h2 y hy).1⟩) (Dp.tup (n := n + 3) fun y hy => (h2 y hy).2)
        simp [hne]
        refine WF.use (w_take (m := m + 4 * (n + 1) + 3) v.mono (by omega) (by omega)) ?_
        rintro _ s1 ⟨d, rfl, d0, d1, v1⟩
        simp [fEq_int]
        by_cases hd0 : d = 0
        · simp [hd0]
          refine WF.use (fin s1 v1.mono) ?_
          rintro r s2 ⟨o, v2⟩
          exact WO_ret o fun r' o' => ⟨o', v2⟩
        · simp [hd0]
          refine WF.use (w_take (m := m + 4 * (n + 1) + 2) v1 (by omega) (by omega)) ?_
          rintro _ s2 ⟨a, rfl, a0, a1, v2⟩
          obtain ⟨a, rfl⟩ := Int.eq_ofNat_of_zero_le a0
          have al : a < xs.length := by omega
          have e1 := atI_any (ts := xs) (q := a) al
          have hmem := List.mem_of_getElem? (gDat (d := PyData.none) al)
          have c1 := cutD_le (xs := xs) (lo := none) (hi := some (a : Int))
          have c2 := cutD_le (xs := xs) (lo := some ((a : Int) + 1)) (hi := none)
          have c3 := cutD_le (xs := xs) (lo := some (a : Int)) (hi := none)
          have c4 : (cutD xs none (some (a : Int))).length = a := by rw [cut_to, List.length_take]; omega
          have c5 : (cutD xs (some (a : Int)) none).length = xs.length - a := by rw [cut_from, List.length_drop]
          have c6 : (cutD xs (some ((a : Int) + 1)) none).length = xs.length - (a + 1) := by
            rw [show (a : Int) + 1 = ((a + 1 : Nat) : Int) by omega, cut_from, List.length_drop]
          simp
          refine WF.use (w_take (m := m + 4 * (n + 1) + 1) v2 (by omega) (by omega)) ?_
          rintro _ s3 ⟨w, rfl, w0, w1, v3⟩
          simp [gLt, fEq_int]
          by_cases hw8 : w < 8
          · generalize xs.getD a .none = z at *
            simp [hw8, fSl, e1, -List.getD_eq_getElem?_getD]
            refine WF.use (ih (f := f) (m := m) (by omega) (hdx _ hmem) (hsx _ hmem) v3.mono) ?_
            rintro r s4 ⟨⟨y, er, y1, y2⟩, v4⟩
            have ed : toD r = some y := by
              rcases er with rfl | ⟨l, rfl, rfl⟩ <;> rfl
            simp [ed, fSl, sz1, szle (show (cutD xs none (some (a : Int))).length + 1 ≤ 1000 by omega), szle (show (cutD xs none (some (a : Int))).length + 1 + (cutD xs (some ((a : Int) + 1)) none).length ≤ 1000 by omega)]
            refine ⟨mk _ (by simp; omega) fun z' hz => ?_, v4⟩
            simp at hz
            rcases hz with hz | rfl | hz
            · exact up _ (cutD_mem hz)
            · exact ⟨y1, y2⟩
            · exact up _ (cutD_mem hz)
          · simp [hw8]
            by_cases h8 : w = 8
            · simp [h8, fEq_int, fSl, szle (show (cutD xs none (some (a : Int))).length + (cutD xs (some ((a : Int) + 1)) none).length ≤ 1000 by omega)]
              refine ⟨mk _ (by simp; omega) fun z' hz => ?_, v3.mono⟩
              rcases List.mem_append.mp hz with hz | hz
              · exact up _ (cutD_mem hz)
              · exact up _ (cutD_mem hz)
            · simp [h8, fEq_int]
              by_cases h9 : w = 9
              · generalize xs.getD a .none = z at *
                simp [h9, fEq_int, fSl, e1, sz1, szle (show (cutD xs none (some (a : Int))).length + 1 ≤ 1000 by omega), szle (show (cutD xs none (some (a : Int))).length + 1 + (cutD xs (some (a : Int)) none).length ≤ 1000 by omega)]
                refine ⟨mk _ (by simp; omega) fun z' hz => ?_, v3.mono⟩
                simp at hz
                rcases hz with hz | rfl | hz
                · exact up _ (cutD_mem hz)
                · exact up _ hmem
                · exact up _ (cutD_mem hz)
              · simp [h9, fEq_int]
                by_cases h10 : w = 10
                · simp [h10, fEq_int, fLstOf, szle (show xs.length ≤ 1000 by omega)]
                  exact ⟨⟨_, .inr ⟨_, rfl, rfl⟩, szW_lst, Dp.lst⟩, v3.mono⟩
                · simp [h10, fEq_int]
                  by_cases h11 : w = 11
                  · simp [h11, fEq_int]
                    refine WF.use (w_oddA (m := m) v3.mono) ?_
                    rintro _ s4 ⟨y, rfl, y1, y2, v4⟩
                    simp [sz1, szle (show xs.length + 1 ≤ 1000 by omega)]
                    refine ⟨mk _ (by simp; omega) fun z' hz => ?_, v4⟩
                    simp at hz
                    rcases hz with hz | rfl
                    · exact up _ hz
                    · exact ⟨szW_mono hK (by omega) _ y1, y2.mono (by omega)⟩
                  · simp [h11, fEq_int, fSl, szle (show (cutD xs (some (a : Int)) none).length + (cutD xs none (some (a : Int))).length ≤ 1000 by omega)]
                    refine ⟨mk _ (by simp; omega) fun z' hz => ?_, v3.mono⟩
                    rcases List.mem_append.mp hz with hz | hz
                    · exact up _ (cutD_mem hz)
                    · exact up _ (cutD_mem hz)
    | _ =>
      simp [m_law_bent, List.replicate_succ, fIsi, isA, isN, tyName]
      refine WF.use (fin s v.mono) ?_
      rintro r s2 ⟨o, v2⟩
      exact WO_ret o fun r' o' => ⟨o', v2⟩
end
end WW
namespace Dh
open PySem PySem.Spec L2 PySem.W
theorem szW_pQ {K W : Nat} {q : Rat} (h : QLt K q) (hW : 2 ≤ W) : szW K W (pQ q) = true := szW_tup.mpr ⟨hW, fun y hy => by
  simp only [List.mem_cons, List.not_mem_nil, or_false] at hy
  rcases hy with rfl | rfl
  · simp only [szW, decide_eq_true_eq]; exact h.1
  · simp only [szW, decide_eq_true_eq]; exact h.den'⟩
theorem szW_nat {W k : Nat} (h : k ≤ 1000) : szW 100 W (iN k) = true := by
  simp only [iN, szW, decide_eq_true_eq]
  rw [Int.natAbs_natCast]
  exact Nat.lt_of_le_of_lt h (by decide)
theorem dp_pQ {q : Rat} : Dp 1 (pQ q) := Dp.tup fun y hy => by
  simp only [List.mem_cons, List.not_mem_nil, or_false] at hy
  rcases hy with rfl | rfl
  · exact Dp.int
  · exact Dp.int
/-- small and not deep -/
def SD (n : Nat) (x : PyData) : Prop := szW 100 9 x = true ∧ Dp n x
theorem SD.tup {n : Nat} {xs : List PyData} (hl : xs.length ≤ 9) (h : ∀ y ∈ xs, SD n y) : SD (n + 1) (.tuple xs) := ⟨szW_tup.mpr ⟨hl, fun y hy => (h y hy).1⟩, Dp.tup fun y hy => (h y hy).2⟩
theorem SD.q {q : Rat} (h : QLt 100 q) : SD 1 (pQ q) := ⟨szW_pQ h (by decide), dp_pQ⟩
theorem SD.nat {k n : Nat} (h : k ≤ 1000) : SD n (iN k) := ⟨szW_nat h, Dp.int⟩
theorem SD.mono {n m : Nat} {x : PyData} (h : SD n x) (k : n ≤ m) : SD m x := ⟨h.1, h.2.mono k⟩
theorem SD.ch {c : Nat × Rat} {n : Nat} (hn : n ≤ 9) (h1 : c.1 < n) (h2 : QLt 10 c.2) : SD 2 (pCh c) := SD.tup (by simp) fun y hy => by
  simp only [List.mem_cons, List.not_mem_nil, or_false] at hy
  rcases hy with rfl | rfl
  · exact SD.nat (by omega)
  · exact SD.q (h2.mono (by decide))
theorem SD.deed {n p g : Nat} {d : RDeed} (o : DeedOk n p d g) (hn : n ≤ 9) (hp : p ≤ 9) (hg : g ≤ 100) : SD 4 (pDeed d) := SD.tup (by simp) fun y hy => by
  simp only [List.mem_cons, List.not_mem_nil, or_false] at hy
  rcases hy with rfl | rfl
  · refine SD.tup (n := 2) (by rw [List.length_map]; have := o.ch.len; omega) fun z hz => ?_
    obtain ⟨c, hc, rfl⟩ := List.mem_map.mp hz
    exact SD.ch hn (o.ch.each c hc).1 (o.ch.each c hc).2.2
  · refine (SD.tup (n := 1) (by rw [List.length_map, o.len]; omega) fun z hz => ?_ : SD 2 (pQs d.gs)).mono (by decide)
    obtain ⟨q, hq, rfl⟩ := List.mem_map.mp hz
    exact SD.q ((o.gain q hq).mono hg)
theorem SD.house {N D P g : Nat} {h : RHouse} (o : HouseOk N D P h g) (hN : N ≤ 8) (hD : D ≤ 8) (hP : P ≤ 8) (hg : g ≤ 100) : SD 7 (pHouse h) := by
  have hn := o.nN
  have hp := o.pP
  refine SD.tup (n := 6) (by simp) fun y hy => ?_
  simp only [List.mem_cons, List.not_mem_nil, or_false] at hy
  rcases hy with rfl | rfl | rfl
  · exact (SD.q (o.sb.mono (by decide))).mono (by decide)
  · exact SD.nat (by omega)
  · refine SD.tup (n := 5) (by rw [List.length_map]; omega) fun z hz => ?_
    obtain ⟨st, hst, rfl⟩ := List.mem_map.mp hz
    obtain ⟨s1, s2, s3⟩ := o.each st hst
    refine SD.tup (n := 4) (by rw [List.length_map]; omega) fun z hz => ?_
    obtain ⟨d, hd, rfl⟩ := List.mem_map.mp hz
    exact SD.deed (s3 d hd) (by omega) (by omega) hg
theorem fEq_strs {a : Str} {neg : Bool} : fEq neg (.d (.str a)) (.d (.str a)) = some (.d (.bool (!neg))) := by
  show some (R.d (.bool (if neg then !(a == a) else a == a))) = _
  rw [beq_self_eq_true]
  cases neg <;> rfl
theorem Pn.str {B : Nat} {t : Str} {w : Nat} (h : PyData.canLay0 (.str t) = true) (h2 : PyData.leavesShort (B + 1) (.str t) = true) (h3 : t.cps.size ≤ w) : Pn B 0 w (.str t) where
  nd := rfl
  lay := h
  dep := Nat.le_refl _
  sh := rfl
  short := h2
  wt := h3
theorem pn_two {B k w : Nat} {x y : PyData} (hx : Pn B k w x) (hy : Pn B k w y) : Pn B (k + 1) (2 * (w + 1)) (.tuple [x, y]) := Pn.tup (fun z hz => by
  simp only [List.mem_cons, List.not_mem_nil, or_false] at hz
  rcases hz with rfl | rfl
  · exact hx
  · exact hy) (by simp)
theorem pn_three {B k w : Nat} {x y z : PyData} (hx : Pn B k w x) (hy : Pn B k w y) (hz : Pn B k w z) : Pn B (k + 1) (3 * (w + 1)) (.tuple [x, y, z]) := Pn.tup (fun t ht => by
  simp only [List.mem_cons, List.not_mem_nil, or_false] at ht
  rcases ht with rfl | rfl | rfl
  · exact hx
  · exact hy
  · exact hz) (by simp)
theorem pn_nat {n : Nat} (h : n ≤ 1000 := by omega) : Pn 300 0 0 (.int (n : Nat)) := Pn.int0 (by decide) (by decide) (by
  rw [Int.natAbs_natCast]
  exact Nat.lt_of_lt_of_le (show n < 2 ^ 10 by omega) (Nat.pow_le_pow_right (by decide) (by decide)))
theorem pn_map {α : Type} {B k w n : Nat} {f : α → PyData} {l : List α} (h : ∀ x ∈ l, Pn B k w (f x)) (hn : l.length ≤ n) : Pn B (k + 1) (n * (w + 1)) (.tuple (l.map f)) := Pn.tup (fun x hx => by
  obtain ⟨y, hy, rfl⟩ := List.mem_map.mp hx
  exact h y hy) (by rw [List.length_map]; exact hn)
theorem pn_q {k : Nat} {q : Rat} (h : QLt k q) (hk : k ≤ 300 := by omega) : Pn 300 1 2 (pQ q) := Pn.q0 (by decide) (by decide) (h.mono hk)
theorem pn_qs {k n : Nat} {l : List Rat} (h : ∀ q ∈ l, QLt k q) (hn : l.length ≤ n) (hk : k ≤ 300 := by omega) : Pn 300 2 (n * 3) (pQs l) := Pn.qs0 (by decide) (by decide) (fun q hq => (h q hq).mono hk) hn
theorem shown_ne {a b : Bool} : fEq true (.d (.str (boolT a))) (.d (.str (boolT b))) = some (.d (.bool (decide (a ≠ b)))) := by
  cases a <;> cases b <;> rfl
theorem SD.rs {n b : Nat} {x : RS} (o : SEnd n b x) (hn : n ≤ 9) (hb : b ≤ 100) : SD 2 (pRS x) := SD.tup (by simp) fun y hy => by
  have := o.st
  simp only [List.mem_cons, List.not_mem_nil, or_false] at hy
  rcases hy with rfl | rfl | rfl
  · exact SD.nat (k := x.st) (by omega)
  · exact SD.q (o.ql.mono hb)
  · exact SD.q (o.qh.mono hb)
theorem SD.vag {N D P b g : Nat} {v : RVag} (o : VagOk N D P b g v) (hN : N ≤ 8) (hD : D ≤ 8) (hP : P ≤ 8) (hb : b ≤ 100) (hg : g ≤ 100) : SD 7 (pVag v) := by
  have hn := o.nN
  have hp := o.pP
  refine SD.tup (n := 6) (by simp) fun y hy => ?_
  simp only [List.mem_cons, List.not_mem_nil, or_false] at hy
  rcases hy with rfl | rfl | rfl
  · exact (SD.q (o.sb.mono (by decide))).mono (by decide)
  · exact SD.nat (k := v.pays) (by omega)
  · refine SD.tup (n := 5) (by rw [List.length_map]; omega) fun z hz => ?_
    obtain ⟨st, hst, rfl⟩ := List.mem_map.mp hz
    obtain ⟨s1, s2, s3⟩ := o.each st hst
    refine SD.tup (n := 4) (by rw [List.length_map]; omega) fun z hz => ?_
    obtain ⟨d, hd, rfl⟩ := List.mem_map.mp hz
    have dk := s3 d hd
    have dl := dk.ss.len
    refine SD.tup (n := 3) (by simp) fun y hy => ?_
    simp only [List.mem_cons, List.not_mem_nil, or_false] at hy
    rcases hy with rfl | rfl
    · refine SD.tup (n := 2) (by rw [List.length_map]; omega) fun z hz => ?_
      obtain ⟨x, hx, rfl⟩ := List.mem_map.mp hz
      exact SD.rs (dk.ss.each x hx) (by omega) hb
    · refine (SD.tup (n := 1) (by rw [List.length_map, dk.len]; omega) fun z hz => ?_ : SD 2 (pQs d.gs)).mono (by decide)
      obtain ⟨q, hq, rfl⟩ := List.mem_map.mp hz
      exact SD.q ((dk.gain q hq).mono hg)
end Dh
namespace Dh
open PySem PySem.Spec L2 PySem.W
def arg1 (rs : List R) : Option PyData := match toArgs rs with
  | some [.d y] => some y
  | _ => none
@[simp] theorem arg1_d {y : PyData} : arg1 [.d y] = some y := rfl
@[simp] theorem dOnly_d {y : PyData} : dOnly (some (.d y)) = some y := rfl
@[simp] theorem dOnly_n : dOnly none = none := rfl
@[simp] theorem dOnly_s : dOnly (some .s) = none := rfl
@[simp] theorem dOnly_o {xs : List PyData} : dOnly (some (.o xs)) = none := rfl
section
variable {ρ : Ev} {s : Sto} {i : Nat} {l : Lam} {G : PyData → Sto → Option (R × Sto)} {ma : Ma} {Q : R → Sto → Prop}
theorem wx_hc (h : getC ρ i = some (.h l)) (w : WA ma ρ s fun rs s1 => WO (arg1 rs) fun y => ∃ r s2, G y s1 = some (r, s2) ∧ Q r s2) : WX (mHC i l G ma) ρ s Q := by
  obtain ⟨rs, s1, e1, y, e2, r, s2, e3, q⟩ := w
  refine ⟨r, s2, ?_, q⟩
  have hg := of_getC h
  unfold mHC
  rw [hg]
  dsimp only
  rw [if_pos rfl, e1]
  dsimp only
  unfold arg1 at e2
  split at e2
  · rename_i y' e4
    cases e2
    first | exact e3 | (rw [e4]; exact e3)
  · cases e2
/-- a call with a lambda -/
theorem wx_lam {n r : Nat} {mwd : (Ma → Mx) → Ms} {m0 mb : Mx} (w : WX m0 ρ s fun x s1 => WO (toArg x) fun c => ∃ z s2, (∀ l, run n (mwd (mHC 1 l (lamG (ρ.map dOnly) r mb))) [c, .h l] s1 = some (z, s2)) ∧ Q z s2) : WX (mLam n mwd r m0 mb) ρ s Q := by
  obtain ⟨x, s1, e1, c, e2, z, s2, e3, q⟩ := w
  refine ⟨z, s2, ?_, q⟩
  unfold mLam bnd
  rw [e1]
  dsimp only
  rw [e2]
  exact uniq_of e3
theorem lamG_of {xs : List (Option PyData)} {r : Nat} {mb : Mx} {y : PyData} {z : R} {s2 : Sto} (w : WX mb (xs.map (Option.map Cl.d) ++ some (.d y) :: List.replicate r none) s fun r s' => r = z ∧ s' = s2) : lamG xs r mb y s = some (z, s2) := by
  obtain ⟨r, s', e, rfl, rfl⟩ := w
  exact e
theorem run_of {n : Nat} {m : Ms} {cs : List Cl} {z : R} {s2 : Sto} (w : WS m (cs.map some ++ List.replicate (n - cs.length) none) s (endK fun r s' => r = z ∧ s' = s2)) : run n m cs s = some (z, s2) := by
  obtain ⟨o, ρ', s', e, k⟩ := w
  unfold run
  rw [e]
  cases o with
  | rt r =>
    obtain ⟨rfl, rfl⟩ := k
    rfl
  | nx =>
    obtain ⟨rfl, rfl⟩ := k
    rfl
  | bk => exact False.elim k
  | ct => exact False.elim k
end
end Dh
namespace Dh
open PySem PySem.Spec L2 PySem.W
structure StOk8 (D : Nat) (l : List RS) : Prop where
  D0 : 0 < D
  D30 : D ≤ 48
  asc : l.Pairwise fun a b => a.st < b.st
  each : ∀ x ∈ l, EndOk D x
  low : qsum (l.map (·.lo)) ≤ 1
  high : 1 ≤ qsum (l.map (·.hi))
  n1 : 1 ≤ l.length
  n5 : l.length ≤ 8
theorem EndOk.ql8 {D : Nat} {x : RS} (h : EndOk D x) (h0 : 0 < D) (h30 : D ≤ 48) : QLt 10 x.lo ∧ QLt 10 x.hi :=
  ⟨h.cl.qlt h0 (Nat.lt_of_le_of_lt h30 (by decide)) (Nat.lt_of_le_of_lt (Nat.mul_le_mul_left 3 h30) (by decide)), h.ch.qlt h0 (Nat.lt_of_le_of_lt h30 (by decide)) (Nat.lt_of_le_of_lt (Nat.mul_le_mul_left 3 h30) (by decide))⟩
/-- the numbers of a row over one number -/
def DenR (ss : List RS) : Prop := ∃ D, 0 < D ∧ D ≤ 48 ∧ DenOk D ss
def Den8 (w : RVag) : Prop := ∀ st ∈ w.stands, ∀ d ∈ st, DenR d.ss
theorem den_of8 {D : Nat} {l : List RS} (o : StOk8 D l) : DenR l := ⟨D, o.D0, o.D30, fun x hx => by
  have e := o.each x hx
  exact ⟨cd_01 e.cl e.l0 (Rat.le_trans e.lh e.h1), cd_01 e.ch (Rat.le_trans e.l0 e.lh) e.h1⟩⟩
end Dh
namespace WW
open PySem PySem.Spec L2 PySem.W Dh
theorem w_stretches8 {n0 L0 : Nat} {s : Sto} {m : Nat} (hn1 : 1 ≤ n0) (hn8 : n0 ≤ 8) (hL1 : 1 ≤ L0) (hL5 : L0 ≤ 8) (v : Vs (m + 70) s) : WF f_law_stretches [.s, .d (.int (n0 : Int)), .d (.int (L0 : Int))] s fun r s' => ∃ (D : Nat) (l : List RS), r = .d (pStr l) ∧ StOk8 D l ∧ (∀ x ∈ l, x.st < n0) ∧ Vs m s' := by
  obtain ⟨L, hL, l1, l5, ln⟩ : ∃ L : Nat, (if L0 < n0 then (L0 : Int) else (n0 : Int)) = (L : Int) ∧ 1 ≤ L ∧ L ≤ 8 ∧ L ≤ n0 := by
    by_cases h : L0 < n0
    · exact ⟨L0, if_pos h, hL1, hL5, by omega⟩
    · exact ⟨n0, if_neg h, hn1, by omega, by omega⟩
  refine WF.body rfl ?_
  simp [m_law_stretches, List.replicate_succ, fMin2, hL]
  refine WF.use (w_shuffled (n := n0) (m := m + 60) (by omega) v.mono) ?_
  rintro _ s1 ⟨l, rfl, hp, v1⟩
  simp
  refine WF.use (w_take (l := (L : Int)) (m := m + 59) v1.mono (by omega) (by omega)) ?_
  rintro _ s2 ⟨a, rfl, a1, a2, v2⟩
  simp
  refine WF.use (w_take (l := (L : Int)) (m := m + 58) v2.mono (by omega) (by omega)) ?_
  rintro _ s3 ⟨b, rfl, b1, b2, v3⟩
  obtain ⟨k, hk, k1, k3⟩ : ∃ k : Nat, 1 + (if b > a then b else a) = (k : Int) ∧ 1 ≤ k ∧ k ≤ L := by
    by_cases h : b > a
    · exact ⟨(1 + b).toNat, by rw [if_pos h]; omega, by omega, by omega⟩
    · exact ⟨(1 + a).toNat, by rw [if_neg h]; omega, by omega, by omega⟩
  simp only [gt_iff_lt] at hk
  have ll : l.length = n0 := by rw [hp.length_eq, List.length_range]
  obtain ⟨T, tp, ts⟩ := sort_nat (l.take k)
  have tl : T.length = k := by rw [tp.length_eq, List.length_take]; omega
  have tn : T.Nodup := tp.nodup_iff.mpr ((hp.nodup_iff.mpr List.nodup_range).sublist (List.take_sublist k l))
  have tr : ∀ x ∈ T, x < n0 := fun x hx => List.mem_range.mp (hp.mem_iff.mp (List.mem_of_mem_take (tp.mem_iff.mp hx)))
  have tlt := le_lt ts tn
  simp [fMax2, hk, fSl, cut_to]
  rw [← List.map_take, fSorted_f tp ts]
  simp
  refine WF.use (w_lot (n := T.length) (m := m + 30) (by omega) (by omega) v3.mono) ?_
  rintro _ s4 ⟨ns, rfl, nl, nq, nsum, v4⟩
  have h2 := sum_le ns nq
  have h3 : ns.sum ≤ 24 := by omega
  simp
  refine WF.use (w_take (l := 6) (m := m + 29) v4.mono (by decide) (by decide)) ?_
  rintro _ s5 ⟨w, rfl, w0, w1, v5⟩
  simp [fSum_b, frzs, frz1, pairs_map]
  refine WFor_inv (p2 iN iN) (T.zip ns) (fun i ρ s' => ∃ (rs : List RS) (c9 c10 c11 c12 c13 : Option Cl), ρ = [some .s, some (.d (.int (n0 : Int))), some (.d (.int (L0 : Int))), some (.d (.int (L : Int))), some (.d (.list (T.map iN))), some (.d (.list (ns.map iN))), some (.d (.int w)), some (.o (rs.map pRS)), some (.d (.int (ns.sum : Int))), c9, c10, c11, c12, c13] ∧ StJ T ns i rs ∧ Vs (m + 10 + 2 * (T.length - i)) s') ⟨[], none, none, none, none, none, by simp, ⟨by simp, by simp, by simp, by simp [qsum], by simp [qsum], by simp⟩, v5.mono⟩ ?_ ?_
  · rintro i ⟨k, n⟩ ρ s' hz ⟨rs, c9, c10, c11, c12, c13, rfl, j, v⟩
    rw [List.getElem?_zip_eq_some] at hz
    obtain ⟨hk, hn⟩ := hz
    have hi : i < T.length := (List.getElem?_eq_some_iff.mp hk).1
    have hk8 : k < 8 := by have := tr k (List.mem_of_getElem? hk); omega
    have hnS : n ≤ ns.sum := le_sum (List.mem_of_getElem? hn)
    have hn3 := nq n (List.mem_of_getElem? hn)
    have hlen := j.len
    have bS : QLt 100 (Rat.divInt (n : Nat) (ns.sum : Nat)) := (end_at (k := k) nsum hnS hk8).ql8 (by omega) (by omega) |>.1.mono (by decide)
    have h01 := divInt_01 nsum hnS
    simp [p2, iN]
    refine WF.of (e_frac0 (by omega) (lt_monoB (a := 10) (by omega) (by decide))) ?_
    simp [fEq_int]
    by_cases hw0 : w = 0
    · subst hw0
      by_cases n0 : 0 < n
      · simp [n0, fEq_int, sz3, szlt (show rs.length ≤ 1000 by omega)]
        exact ⟨rs ++ [⟨k, _, _⟩], by simp [pRS], j.add tlt hk hn (end_at nsum hnS hk8) Rat.le_refl Rat.le_refl, v.mono⟩
      · simp [n0, fEq_int]
        have e0 : n = 0 := by omega
        subst e0
        exact ⟨rs, rfl, j.skip hk hn, v.mono⟩
    · by_cases hw1 : w = 1
      · simp [hw1, sz2, sz3, szlt (show rs.length ≤ 1000 by omega), fEq_int]
        exact ⟨rs ++ [⟨k, 0, 1⟩], by simp [pRS]; exact ⟨rfl, rfl⟩, j.add tlt hk hn (end_all nsum hk8) h01.1 h01.2, v.mono⟩
      · simp [hw0, hw1, show 1 < w by omega, fEq_int]
        refine WF.use (w_take (l := 3) (m := m + 10 + 2 * (T.length - (i + 1)) + 1) v.mono (by decide) (by decide)) ?_
        rintro _ s6 ⟨t, rfl, t0, t1, v6⟩
        obtain ⟨t, rfl⟩ := Int.eq_ofNat_of_zero_le t0
        simp
        refine WF.of (e_frac0 (by omega) (by decide)) ?_
        simp
        refine WF.of (e_ltimes (bS.bd) (QLt.bd (k := 10) (QLt_divInt (by omega) (by omega) (by omega)))) ?_
        simp [sz2]
        refine WF.of (e_lminus (p := 1) (q := Rat.divInt (n : Nat) (ns.sum : Nat)) (QLt.bd (k := 10) (CD_1 (D := 1) (M := 1) (by decide) |>.qlt (by decide) (by decide) (by decide))) (bS.bd)) ?_
        simp
        refine WF.use (w_take (l := 3) (m := m + 10 + 2 * (T.length - (i + 1))) v6.mono (by decide) (by decide)) ?_
        rintro _ s7 ⟨u, rfl, u0, u1, v7⟩
        obtain ⟨u, rfl⟩ := Int.eq_ofNat_of_zero_le u0
        simp
        refine WF.of (e_frac0 (by omega) (by decide)) ?_
        simp
        obtain ⟨eo, eo1, eo2⟩ := end_of (k := k) (n := n) (S := ns.sum) (t := t) (u := u) nsum hnS hk8 (by omega) (by omega)
        have bC : QLt 101 (1 - Rat.divInt (n : Nat) (ns.sum : Nat)) := ((CD_1 (Nat.le_refl ns.sum)).sub (CD_divInt nsum hnS)).qlt nsum (by omega) (by omega)
        have bU : QLt 10 (Rat.divInt (u : Nat) (2 : Nat)) := QLt_divInt (by omega) (by omega) (by omega)
        have cU := ((CD_1 (Nat.le_refl ns.sum)).sub (CD_divInt nsum hnS)).mul (CD_divInt (S := 2) (a := u) (by decide) (by omega))
        refine WF.of (e_ltimes (p := 1 - Rat.divInt (n : Nat) (ns.sum : Nat)) (q := Rat.divInt (u : Nat) (2 : Nat)) bC.bd bU.bd) ?_
        simp
        refine WF.of (e_lplus (p := Rat.divInt (n : Nat) (ns.sum : Nat)) (q := (1 - Rat.divInt (n : Nat) (ns.sum : Nat)) * Rat.divInt (u : Nat) (2 : Nat)) bS.bd (QLt.bd (k := 100) (cU.qlt (by omega) (by omega) (by omega)))) ?_
        simp [sz3, szlt (show rs.length ≤ 1000 by omega)]
        exact ⟨rs ++ [⟨k, Rat.divInt (n : Nat) (ns.sum : Nat) * Rat.divInt (t : Nat) (2 : Nat), Rat.divInt (n : Nat) (ns.sum : Nat) + (1 - Rat.divInt (n : Nat) (ns.sum : Nat)) * Rat.divInt (u : Nat) (2 : Nat)⟩], by simp [pRS], j.add tlt hk hn eo eo1 eo2, v7⟩
  · rintro ρ s' ⟨rs, c9, c10, c11, c12, c13, rfl, j, v⟩
    have zl : (T.zip ns).length = T.length := by rw [List.length_zip]; omega
    rw [zl] at j
    have et : ns.take T.length = ns := List.take_of_length_le (by omega)
    have one : qsum (ns.map fun n => Rat.divInt (n : Nat) (ns.sum : Nat)) = 1 := by
      rw [sum_divInt]; exact Rat.divInt_self' (by omega)
    have j1 := j.low
    have j2 := j.high
    have j3 := j.len
    rw [et, one] at j1 j2
    simp
    refine ⟨ns.sum * 2, rs, rfl, ⟨by omega, by omega, j.asc, j.each, j1, j2, ?_, by omega⟩, fun x hx => tr _ (List.mem_of_mem_take (j.mem x hx)), v.mono⟩
    cases rs with
    | nil => simp [qsum] at j2; exact absurd j2 (by decide)
    | cons x l => simp
theorem sok_of8 {D n : Nat} {l : List RS} (o : StOk8 D l) (hn : ∀ x ∈ l, x.st < n) : SOk n 10 l where
  asc := o.asc
  each := fun x hx => by
    have e := o.each x hx
    obtain ⟨q1, q2⟩ := e.ql8 o.D0 o.D30
    exact ⟨hn x hx, e.l0, e.lh, e.h1, q1, q2⟩
  low := o.low
  high := o.high
theorem w_vague8 {xs : List PyData} {L : Nat} {s : Sto} {m : Nat} (hx0 : 0 < xs.length) (hx : xs.length ≤ 100) (hxs : ∀ x ∈ xs, ∃ k : Nat, x = .int (k : Nat) ∧ 1 ≤ k ∧ k ≤ 8) (hL1 : 1 ≤ L) (hL5 : L ≤ 8) (v : Vs (m + 4500) s) : WF f_law_vague [.s, .d (.tuple xs), .d (.int (L : Int))] s fun r s' => ∃ w, r = .d (pVag w) ∧ VagOk 8 4 4 10 70 w ∧ Den8 w ∧ Vs m s' := by
  refine WF.body rfl ?_
  simp [m_law_vague, List.replicate_succ]
  refine WF.use (w_pickT (m := m + 4400) v.mono hx0 (by omega)) ?_
  rintro _ s1 ⟨y, hy, rfl, v1⟩
  obtain ⟨n, rfl, n1, n4⟩ := hxs y hy
  simp [szle (show 7 ≤ 1000 by decide)]
  refine WF.use (w_pickT (m := m + 4300) v1.mono (by simp) (by simp)) ?_
  rintro _ s2 ⟨y, hy2, rfl, v2⟩
  obtain ⟨p, rfl, p1, p4⟩ : ∃ p : Nat, y = .int (p : Nat) ∧ 1 ≤ p ∧ p ≤ 4 := by
    simp only [List.mem_cons, List.not_mem_nil, or_false] at hy2
    rcases hy2 with rfl | rfl | rfl | rfl | rfl | rfl | rfl <;> first | exact ⟨1, rfl, by decide, by decide⟩ | exact ⟨2, rfl, by decide, by decide⟩ | exact ⟨3, rfl, by decide, by decide⟩ | exact ⟨4, rfl, by decide, by decide⟩
  simp
  refine WF.use (w_share (m := m + 4200) v2.mono) ?_
  rintro _ s3 ⟨q, rfl, q0, q1, qb, v3⟩
  simp [range1_nat (n := n) (by omega)]
  refine WFor_inv (fun i : Nat => PyData.int i) (List.range n) (fun i ρ s' => ∃ (rows : List (List RVD)) (c7 c8 c9 : Option Cl), ρ = [some .s, some (.d (.tuple xs)), some (.d (.int (L : Int))), some (.d (.int (n : Nat))), some (.d (.int (p : Nat))), some (.d (pQ q)), some (.o (rows.map pVS)), c7, c8, c9] ∧ rows.length = i ∧ (∀ st ∈ rows, 1 ≤ st.length ∧ st.length ≤ 4 ∧ ∀ d ∈ st, VDOk n p 10 70 d ∧ DenR d.ss) ∧ Vs (m + 500 * (8 - i)) s') ⟨[], none, none, none, rfl, rfl, by simp, v3.mono⟩ ?_ ?_
  · rintro i x ρ s' hi ⟨rows, c7, c8, c9, rfl, rl, hr, v⟩
    obtain ⟨rfl, hi⟩ := range_at hi
    simp [szle (show 8 ≤ 1000 by decide)]
    refine WF.use (w_pickT (m := m + 500 * (8 - (x + 1)) + 490) v.mono (by simp) (by simp)) ?_
    rintro _ s4 ⟨y, hy4, rfl, v4⟩
    obtain ⟨k, rfl, k1, k4⟩ : ∃ p : Nat, y = .int (p : Nat) ∧ 1 ≤ p ∧ p ≤ 4 := by
      simp only [List.mem_cons, List.not_mem_nil, or_false] at hy4
      rcases hy4 with rfl | rfl | rfl | rfl | rfl | rfl | rfl | rfl <;> first | exact ⟨1, rfl, by decide, by decide⟩ | exact ⟨2, rfl, by decide, by decide⟩ | exact ⟨3, rfl, by decide, by decide⟩ | exact ⟨4, rfl, by decide, by decide⟩
    simp [range1_nat (n := k) (by omega)]
    refine WFor_inv (fun i : Nat => PyData.int i) (List.range k) (fun j ρ s'' => ∃ (ds : List RVD) (c9 : Option Cl), ρ = [some .s, some (.d (.tuple xs)), some (.d (.int (L : Int))), some (.d (.int (n : Nat))), some (.d (.int (p : Nat))), some (.d (pQ q)), some (.o (rows.map pVS)), some (.d (.int (x : Nat))), some (.o (ds.map pVD)), c9] ∧ ds.length = j ∧ (∀ d ∈ ds, VDOk n p 10 70 d ∧ DenR d.ss) ∧ Vs (m + 500 * (8 - (x + 1)) + 110 * (4 - j)) s'') ⟨[], c9, rfl, rfl, by simp, v4.mono⟩ ?_ ?_
    · rintro j z ρ s'' hj ⟨ds, c9, rfl, dl, hd, v⟩
      obtain ⟨rfl, hj⟩ := range_at hj
      simp
      refine WF.use (w_stretches8 (m := m + 500 * (8 - (x + 1)) + 110 * (4 - (z + 1)) + 25) n1 (by omega) hL1 hL5 v.mono) ?_
      rintro _ s5 ⟨D, l, rfl, so, sn, v5⟩
      simp
      refine WF.use (w_gains (p := p) (m := m + 500 * (8 - (x + 1)) + 110 * (4 - (z + 1))) (by omega) v5.mono) ?_
      rintro _ s6 ⟨gs, rfl, gl, gq, v6⟩
      simp [sz2, dl]
      refine ⟨szlt (by omega), ds ++ [⟨l, gs⟩], by simp [pVD], by simp [dl], fun d hdm => ?_, v6.mono⟩
      rcases List.mem_append.mp hdm with hdm | hdm
      · exact hd d hdm
      · rw [List.mem_singleton.mp hdm]
        exact ⟨⟨sok_of8 so sn, gl, fun q hq => (gq q hq).1⟩, den_of8 so⟩
    · rintro ρ s'' ⟨ds, c9, rfl, dl, hd, v⟩
      rw [List.length_range] at dl
      simp [rl]
      refine ⟨szlt (by omega), rows ++ [ds], by simp [pVS], by simp [rl], fun st hst => ?_, v.mono⟩
      rcases List.mem_append.mp hst with hst | hst
      · exact hr st hst
      · rw [List.mem_singleton.mp hst]
        exact ⟨by omega, by omega, hd⟩
  · rintro ρ s' ⟨rows, c7, c8, c9, rfl, rl, hr, v⟩
    rw [List.length_range] at rl
    simp [sz3]
    refine ⟨⟨q, p, rows⟩, rfl, ⟨q0, q1, qb, p1, p4, by show 1 ≤ rows.length; omega, by show rows.length ≤ 8; omega, fun st hst => ?_⟩, fun st hst d hd => ((hr st hst).2.2 d hd).2, v.mono⟩
    show 1 ≤ st.length ∧ st.length ≤ 4 ∧ ∀ d ∈ st, VDOk rows.length p 10 70 d
    rw [rl]
    exact ⟨(hr st hst).1, (hr st hst).2.1, fun d hd => ((hr st hst).2.2 d hd).1⟩
end WW
namespace WW
open PySem PySem.Spec L2 PySem.W Dh
section
variable {s : Sto}
theorem run_with {α : Type} {l : Lam} {G : PyData → Sto → Option (R × Sto)} {x y : PyData} {f g k : α → PyData} {rows : List (List α)} (hn : rows.length ≤ 8) (hm : ∀ st ∈ rows, st.length ≤ 8) (hG : ∀ st ∈ rows, ∀ d ∈ st, G (f d) s = some (.d (k d), s)) :
    run 6 (m_with_deeds (mHC 1 l G)) [.d (.tuple [x, y, .tuple (rows.map fun st => .tuple (st.map fun d => .tuple [f d, g d]))]), .h l] s = some (.d (.tuple [x, y, .tuple (rows.map fun st => .tuple (st.map fun d => .tuple [k d, g d]))]), s) := by
  refine run_of ?_
  simp [m_with_deeds, List.replicate_succ]
  refine WLc_map (fun st => PyData.tuple (st.map fun d => .tuple [f d, g d])) (fun st => PyData.tuple (st.map fun d => .tuple [k d, g d])) rows (fun st hst => ?_) ?_
  · simp
    refine WLc_map (fun d => PyData.tuple [f d, g d]) (fun d => PyData.tuple [k d, g d]) st (fun d hd => ?_) ?_
    · simp
      refine wx_hc rfl ?_
      simp
      exact ⟨_, s, hG st hst d hd, by simp [sz2]⟩
    · have := hm st hst
      simp
      exact szle (by omega)
  · simp [sz3]
    exact szle (by omega)
end
end WW
namespace Dh
open PySem PySem.Spec L2 PySem.W
theorem qsum_nonneg {l : List Rat} (h : ∀ q ∈ l, 0 ≤ q) : 0 ≤ qsum l := by
  induction l with
  | nil => exact Rat.le_refl
  | cons x l ih =>
    rw [qsum_cons]
    exact Rat.add_nonneg (h x List.mem_cons_self) (ih fun q hq => h q (List.mem_cons_of_mem _ hq))
theorem le_qsum : ∀ {r : List Rat}, (∀ q ∈ r, 0 ≤ q) → ∀ q ∈ r, q ≤ qsum r
  | [], _, q, h => by cases h
  | x :: r, hr, q, h => by
    have ih := le_qsum (r := r) fun q hq => hr q (List.mem_cons_of_mem _ hq)
    have n := qsum_nonneg (l := r) fun q hq => hr q (List.mem_cons_of_mem _ hq)
    have x0 := hr x List.mem_cons_self
    rw [qsum_cons]
    rcases List.mem_cons.mp h with rfl | h
    · grind
    · have := ih q h
      grind
/-- the vague house that a house alone fits -/
def tiD (d : RDeed) : RVD := ⟨d.ch.map fun c => ⟨c.1, c.2, c.2⟩, d.gs⟩
def tiV (h : RHouse) : RVag := ⟨h.share, h.pays, h.stands.map fun st => st.map tiD⟩
theorem pVag_ti {h : RHouse} : pVag (tiV h) = .tuple [pQ h.share, .int (h.pays : Nat), .tuple (h.stands.map fun st => .tuple (st.map fun d => .tuple [.tuple (d.ch.map fun c => .tuple [.int (c.1 : Nat), pQ c.2, pQ c.2]), pQs d.gs]))] := by
  unfold pVag tiV pVS
  simp only [List.map_map]
  refine congrArg (fun z => PyData.tuple [pQ h.share, .int (h.pays : Nat), .tuple z]) (List.map_congr_left fun st _ => ?_)
  simp [pVD, pStr, pRS, tiD, Function.comp]
theorem tiV_ok {N D P g : Nat} {h : RHouse} (k : HouseB N D P h g) : VagOk N D P 40 g (tiV h) where
  s0 := k.s0
  s1 := k.s1
  sb := k.sb
  p1 := k.p1
  pP := k.pP
  n1 := by unfold tiV; simpa using k.n1
  nN := by unfold tiV; simpa using k.nN
  each := fun st hst => by
    unfold tiV at hst ⊢
    obtain ⟨t, ht, rfl⟩ := List.mem_map.mp hst
    obtain ⟨h1, h2, h3⟩ := k.each t ht
    refine ⟨by rw [List.length_map]; exact h1, by rw [List.length_map]; exact h2, fun d hd => ?_⟩
    obtain ⟨e, he, rfl⟩ := List.mem_map.mp hd
    have db := h3 e he
    simp only [List.length_map]
    have el : ((e.ch.map fun c => (⟨c.1, c.2, c.2⟩ : RS)).map (·.lo)) = e.ch.map (·.2) := by rw [List.map_map]; rfl
    have eh : ((e.ch.map fun c => (⟨c.1, c.2, c.2⟩ : RS)).map (·.hi)) = e.ch.map (·.2) := by rw [List.map_map]; rfl
    have le1 : ∀ c ∈ e.ch, c.2 ≤ 1 := fun c hc => by
      rw [← db.ch.one]
      exact le_qsum (fun q hq => by obtain ⟨z, hz, rfl⟩ := List.mem_map.mp hq; exact Rat.le_of_lt (db.ch.each z hz).2.1) _ (List.mem_map_of_mem hc)
    refine ⟨⟨List.pairwise_map.mpr db.ch.asc, fun x hx => ?_, ?_, ?_⟩, db.len, db.gain⟩
    · obtain ⟨c, hc, rfl⟩ := List.mem_map.mp hx
      obtain ⟨a1, a2, a3⟩ := db.ch.each c hc
      exact ⟨a1, Rat.le_of_lt a2, Rat.le_refl, le1 c hc, a3, a3⟩
    · show qsum ((e.ch.map fun c => (⟨c.1, c.2, c.2⟩ : RS)).map (·.lo)) ≤ 1
      rw [el, db.ch.one]; exact Rat.le_refl
    · show 1 ≤ qsum ((e.ch.map fun c => (⟨c.1, c.2, c.2⟩ : RS)).map (·.hi))
      rw [eh, db.ch.one]; exact Rat.le_refl
end Dh
namespace WW
open PySem PySem.Spec L2 PySem.W Dh
section
variable {s : Sto} {N D P g : Nat} {h : RHouse}
theorem e_vague_by (k : HouseB N D P h g) (hN : N ≤ 8) (hD : D ≤ 8) : f_vague_by [.d (pHouse h)] s = some (.d (pVag (tiV h)), s) := by
  have nN := k.nN
  refine WF.eq (WF.body rfl ?_)
  simp [m_vague_by, List.replicate_succ]
  refine wx_lam ?_
  simp
  refine ⟨_, s, fun l => run_with (f := fun d : RDeed => .tuple (d.ch.map pCh)) (g := fun d => pQs d.gs) (k := fun d => .tuple (d.ch.map fun c => .tuple [.int (c.1 : Nat), pQ c.2, pQ c.2])) (rows := h.stands) (by omega) (fun st hst => ?_) (fun st hst d hd => ?_), ?_⟩
  · have := (k.each st hst).2.1
    omega
  · have dl := ((k.each st hst).2.2 d hd).ch.len
    refine lamG_of ?_
    simp [List.replicate_succ]
    refine WLc_map pCh (fun c => PyData.tuple [.int (c.1 : Nat), pQ c.2, pQ c.2]) d.ch (fun c hc => ?_) ?_
    · simp [pCh, sz3]
    · simp
      have n := k.nN
      exact szle (by omega)
  · simp [pVag_ti]
end
end WW
namespace Dh
open PySem PySem.Spec L2 PySem.W
theorem ex_map {β : Type} {P : β → Prop} {f : β → PyData} : ∀ {l : List PyData}, (∀ x ∈ l, ∃ y, x = f y ∧ P y) → ∃ ys : List β, l = ys.map f ∧ ∀ y ∈ ys, P y
  | [], _ => ⟨[], rfl, fun _ h => by cases h⟩
  | x :: l, h => by
    obtain ⟨y, rfl, py⟩ := h x List.mem_cons_self
    obtain ⟨ys, rfl, pys⟩ := ex_map (l := l) fun z hz => h z (List.mem_cons_of_mem _ hz)
    refine ⟨y :: ys, rfl, fun z hz => ?_⟩
    rcases List.mem_cons.mp hz with rfl | hz
    · exact py
    · exact pys z hz
theorem fm_empty {α : Type} {p : α → Bool} {f : α → PyData} : ∀ l : List α, (l.filterMap fun x => if p x = true then some (f x) else none).isEmpty = l.all fun x => !p x
  | [] => rfl
  | x :: l => by
    rw [List.filterMap_cons, List.all_cons, ← fm_empty (f := f) l]
    cases p x <;> simp
theorem all_both {α : Type} {p q : α → Bool} : ∀ l : List α, (l.all fun x => p x && q x) = (l.all p && l.all q)
  | [] => rfl
  | x :: l => by
    rw [List.all_cons, List.all_cons, List.all_cons, all_both l]
    cases p x <;> cases q x <;> simp
theorem fIn_iNt {g : Nat} {l : List Nat} : fIn true (.d (.int (g : Nat))) (.d (.list (l.map iN))) = some (.d (.bool (!decide (g ∈ l)))) := by
  show (if eqOk (.int (g : Nat)) = true ∧ eqOk (.list (l.map iN)) = true then some (R.d (.bool (if true then !((l.map iN).any fun z => PyData.eqv z (.int (g : Nat))) else (l.map iN).any fun z => PyData.eqv z (.int (g : Nat))))) else none) = _
  rw [if_pos ⟨eqOk_int, eqOk_iNs⟩, any_iN]
  rfl
/-- a deed of anything -/
structure DAny (n p : Nat) (d : RDeed) : Prop where
  asc : d.ch.Pairwise fun a b => a.1 < b.1
  each : ∀ c ∈ d.ch, c.1 < n ∧ QLt 100 c.2
  len : d.gs.length = p
  gain : ∀ q ∈ d.gs, QLt 100 q
theorem deedB_any {W p n : Nat} {x : PyData} (hs : szW 100 W x = true) (h : deedB p n x = true) : ∃ d, x = pDeed d ∧ DAny n p d := by
  unfold deedB at h
  split at h
  · rename_i c g
    obtain ⟨h1, h2⟩ := Bool.and_eq_true_iff.mp h
    have hss := (szW_tup.mp hs).2
    have hc := hss c (by simp)
    have hg := hss g (by simp)
    obtain ⟨eg, lg⟩ := rowB_of h2
    unfold chcB at h1
    split at h1
    · rename_i xs
      obtain ⟨a1, a2⟩ := Bool.and_eq_true_iff.mp h1
      obtain ⟨a3, _⟩ := Bool.and_eq_true_iff.mp a2
      have ex := chs_of a1
      have hxs := (szW_tup.mp hc).2
      refine ⟨⟨xs.map prOf, rowOf g⟩, ?_, ?_, fun c hc => ?_, lg, fun q hq => ?_⟩
      · unfold pDeed
        dsimp only
        rw [← ex, ← eg]
      · have := of_decide_eq_true a3
        rw [List.pairwise_map] at this
        exact List.pairwise_map.mpr this
      · obtain ⟨y, hy, rfl⟩ := List.mem_map.mp hc
        have py := List.all_eq_true.mp a1 y hy
        exact ⟨(pairB_of py).2.1, pr_lt (hxs y hy) py⟩
      · rw [eg] at hg
        have hq2 := (szW_tup.mp hg).2 (pQ q) (List.mem_map_of_mem hq)
        have := szW_q hq2 (fracB_pQ q)
        rwa [qOf_pQ] at this
    · cases h1
  · cases h
/-- a house of anything -/
structure HAny (h : RHouse) : Prop where
  n8 : h.stands.length ≤ 8
  p4 : h.pays ≤ 4
  each : ∀ st ∈ h.stands, st.length ≤ 4 ∧ ∀ d ∈ st, DAny h.stands.length h.pays d
theorem houseB_any {W : Nat} {x : PyData} (hs : szW 100 W x = true) (h : houseB x = true) : ∃ h, x = pHouse h ∧ HAny h := by
  unfold houseB at h
  split at h
  · rename_i sh p sts
    obtain ⟨h1, h2⟩ := Bool.and_eq_true_iff.mp h
    obtain ⟨h3, h4⟩ := Bool.and_eq_true_iff.mp h2
    have f1 : fracB sh = true := (Bool.and_eq_true_iff.mp h1).1
    obtain ⟨ep, p1, p4⟩ := betG_of (k := 4) h3
    unfold standsB at h4
    split at h4
    · rename_i l
      obtain ⟨a1, a2⟩ := Bool.and_eq_true_iff.mp h4
      obtain ⟨a3, a4⟩ := Bool.and_eq_true_iff.mp a2
      have hl := (szW_tup.mp ((szW_tup.mp hs).2 (.tuple l) (by simp))).2
      obtain ⟨rows, er, hr⟩ := ex_map (P := fun st : List RDeed => st.length ≤ 4 ∧ ∀ d ∈ st, DAny l.length (natOf p) d) (f := pStand) (l := l) fun y hy => by
        have sy := List.all_eq_true.mp a4 y hy
        unfold standB at sy
        split at sy
        · rename_i ds
          obtain ⟨b1, b2⟩ := Bool.and_eq_true_iff.mp sy
          obtain ⟨b3, b4⟩ := Bool.and_eq_true_iff.mp b2
          have hds := (szW_tup.mp (hl _ hy)).2
          obtain ⟨es, ee, he⟩ := ex_map (P := DAny l.length (natOf p)) (f := pDeed) (l := ds) fun z hz => deedB_any (hds z hz) (List.all_eq_true.mp b4 z hz)
          refine ⟨es, by rw [ee]; rfl, ?_, he⟩
          have := of_decide_eq_true b3
          rw [ee, List.length_map] at this
          exact this
        · cases sy
      have ll : l.length = rows.length := by rw [er, List.length_map]
      refine ⟨⟨qOf sh, natOf p, rows⟩, ?_, ?_, p4, fun st hst => ?_⟩
      · unfold pHouse
        dsimp only
        rw [← er, ← fracB_of f1]
        rw [show PyData.int ((natOf p : Nat) : Int) = p from ep.symm]
      · have := of_decide_eq_true a3
        show rows.length ≤ 8
        omega
      · have := hr st hst
        rw [ll] at this
        exact this
    · cases h4
  · cases h
theorem HAny.len {h : RHouse} (k : HAny h) {st : List RDeed} (hst : st ∈ h.stands) {d : RDeed} (hd : d ∈ st) : d.ch.length ≤ 8 := by
  have a := (k.each st hst).2 d hd
  have := asc_len (n := h.stands.length) 0 a.asc fun c hc => ⟨Nat.zero_le _, (a.each c hc).1⟩
  have := k.n8
  omega
theorem HAny.fit {h : RHouse} (k : HAny h) : HFit h where
  n8 := k.n8
  each := fun st hst d hd => by
    have a := (k.each st hst).2 d hd
    exact ⟨a.asc, k.len hst hd, fun c hc => (a.each c hc).2.mono (by decide), by rw [a.len]; have := k.p4; omega, a.gain⟩
end Dh
namespace WW
open PySem PySem.Spec L2 PySem.W Dh
section
variable {s : Sto} {n b : Nat} {ss : List RS} {cs : List (Nat × Rat)}
theorem e_lwithin2 (o : SOk n b ss) (hn : n ≤ 8) (hb : b ≤ 300) (asc : cs.Pairwise fun a b => a.1 < b.1) (hl : cs.length ≤ 8) (hq : ∀ c ∈ cs, c.1 < 8 ∧ QLt 300 c.2) : f_law_is_within [.d (pStr ss), .d (.tuple (cs.map pCh))] s = some (.d (.bool (inS ss cs)), s) := by
  have ll := o.len
  obtain ⟨L, l8, lv, el⟩ := e_lfull (s := s) asc fun c hc => (hq c hc).1
  refine WF.eq (WF.body rfl ?_)
  simp [m_law_is_within, List.replicate_succ, pStr]
  refine WLc_map pRS (fun x => iN x.st) ss (fun x hx => ?_) ?_
  · simp [pRS, iN]
  refine ⟨szle (by rw [List.length_map]; omega), ?_⟩
  simp
  refine WF.of el ?_
  simp [sz2]
  have fn : ∀ c : Nat × Rat, fIn true (.d (.int (c.1 : Nat))) (.d (.list (ss.map fun x => iN x.st))) = some (.d (.bool (!goB ss c.1))) := fun c => by
    have := fIn_iNt (g := c.1) (l := ss.map (·.st))
    rw [List.map_map] at this
    exact this
  refine WLc_opt pCh (fun c => if (!goB ss c.1) = true then some (pCh c) else none) cs (fun c hc => ?_) ?_
  · simp [pCh, fn]
    cases goB ss c.1 <;> simp
  refine ⟨szle (Nat.le_trans (List.length_filterMap_le _ _) (by omega)), ?_⟩
  have e1 := fm_empty (p := fun c : Nat × Rat => !goB ss c.1) (f := pCh) cs
  have e1' : (cs.all fun c => !!goB ss c.1) = cs.all fun c => goB ss c.1 := by simp
  rw [e1'] at e1
  unfold inS
  rw [all_both]
  clear e1'
  generalize (cs.all fun c => goB ss c.1) = A at *
  generalize (List.filterMap (fun c : Nat × Rat => if (!goB ss c.1) = true then some (pCh c) else none) cs) = F at *
  cases A with
  | false => simp [e1]
  | true =>
    simp [e1]
    have at_ : ∀ x ∈ ss, atI (L.map pQ) (x.st : Int) = some (pQ (chF cs x.st)) := fun x hx => by
      have x8 : x.st < 8 := Nat.lt_of_lt_of_le (o.each x hx).st hn
      unfold atI
      rw [ixN_ofNat (by rw [List.length_map]; omega)]
      show (L.map pQ)[x.st]? = _
      rw [List.getElem?_map, ← lv x.st x8, List.getD_eq_getElem?_getD, List.getElem?_eq_getElem (by omega)]
      rfl
    have lt : ∀ x ∈ ss, Bd (chF cs x.st) ∧ Bd x.lo ∧ Bd x.hi := fun x hx => by
      have oe := o.each x hx
      have ql := chF_lt (k := x.st) (fun c hc => (hq c hc).2) (by decide)
      exact ⟨ql.bd (by omega), oe.ql.bd (by omega), oe.qh.bd (by omega)⟩
    refine WLc_opt pRS (fun x => if (decide (chF cs x.st < x.lo)) = true then some (pRS x) else none) ss (fun x hx => ?_) ?_
    · have i1 := at_ x hx
      obtain ⟨b1, b2, b3⟩ := lt x hx
      simp [pRS, i1]
      refine WF.of (e_lbelow b1 b2) ?_
      simp
      by_cases q : chF cs x.st < x.lo <;> simp [q, pRS]
    have e2 := fm_empty (p := fun x : RS => decide (chF cs x.st < x.lo)) (f := pRS) ss
    have e3 := fm_empty (p := fun x : RS => decide (x.hi < chF cs x.st)) (f := pRS) ss
    refine ⟨szle (Nat.le_trans (List.length_filterMap_le _ _) (by omega)), ?_⟩
    generalize (List.filterMap (fun x : RS => if (decide (chF cs x.st < x.lo)) = true then some (pRS x) else none) ss) = F1 at *
    simp
    refine WLc_opt pRS (fun x => if (decide (x.hi < chF cs x.st)) = true then some (pRS x) else none) ss (fun x hx => ?_) ?_
    · have i1 := at_ x hx
      obtain ⟨b1, b2, b3⟩ := lt x hx
      simp [pRS, i1]
      refine WF.of (e_lbelow b3 b1) ?_
      simp
      by_cases q : x.hi < chF cs x.st <;> simp [q, pRS]
    refine ⟨szle (Nat.le_trans (List.length_filterMap_le _ _) (by omega)), ?_⟩
    generalize (List.filterMap (fun x : RS => if (decide (x.hi < chF cs x.st)) = true then some (pRS x) else none) ss) = F2 at *
    rw [← e2, ← e3]
    simp
    cases F1.isEmpty <;> simp
theorem e_lfits2 {N D P b g : Nat} {v : RVag} {h : RHouse} (ok : VagOk N D P b g v) (hf : HFit h) (h8 : ∀ st ∈ h.stands, ∀ d ∈ st, ∀ c ∈ d.ch, c.1 < 8) (hh : ∀ s, f_law_is_built [.d (pHouse h), .d (.bool false)] s = some (.d (.bool true), s)) (hN : N ≤ 8) (hD : D ≤ 4) (hP : P ≤ 4) (hb : b ≤ 300) (hg : g ≤ 100) : f_law_fits [.d (pVag v), .d (pHouse h)] s = some (.d (.bool (fitB v h)), s) := by
  have nN := ok.nN
  have nN' := hf.n8
  have pP := ok.pP
  refine WF.eq (WF.body rfl ?_)
  simp [m_law_fits, List.replicate_succ]
  refine WF.of (hh _) ?_
  simp [pVag, pHouse, fSl, cut2, fEq_hd, sz2]
  unfold fitB
  by_cases h1 : h.share = v.share ∧ h.pays = v.pays
  rotate_left
  · have e : (decide (v.share = h.share) && decide (v.pays = h.pays)) = false := by
      rw [Bool.eq_false_iff]
      intro q
      simp at q
      exact h1 ⟨q.1.symm, q.2.symm⟩
    have e' : (!decide (h.share = v.share) || !decide (h.pays = v.pays)) = true := by
      by_cases a : h.share = v.share
      · have : ¬ h.pays = v.pays := fun c => h1 ⟨a, c⟩
        simp [this]
      · simp [a]
    rw [e]
    simp [e']
  obtain ⟨h1, h2⟩ := h1
  rw [decide_eq_true h1.symm, decide_eq_true h2.symm]
  simp [h1, h2]
  by_cases h3 : h.stands.length = v.stands.length
  rotate_left
  · have h3' : ¬ v.stands.map (·.length) = h.stands.map (·.length) := fun q => h3 (by
      have := congrArg List.length q
      rw [List.length_map, List.length_map] at this
      exact this.symm)
    rw [decide_eq_false h3']
    simp [fEq_int, show ¬ (h.stands.length : Int) = (v.stands.length : Int) by omega]
  simp [fEq_int, show (h.stands.length : Int) = (v.stands.length : Int) by omega]
  rw [pairs_map]
  have zl : (v.stands.zip h.stands).length = v.stands.length := by rw [List.length_zip]; omega
  have bad1 : ∀ p ∈ v.stands.zip h.stands, p.1.length ≠ p.2.length → (decide (v.stands.map (·.length) = h.stands.map (·.length)) && (v.stands.zip h.stands).all fun p => (p.1.zip p.2).all fun q => inD q.1 q.2) = false := fun p hp n => by
    rw [decide_eq_false, Bool.false_and]
    intro q
    obtain ⟨i, hi, e⟩ := List.getElem_of_mem hp
    rw [List.getElem_zip] at e
    have hi1 : i < v.stands.length := by omega
    have hi2 : i < h.stands.length := by omega
    have q1 : (v.stands.map (·.length))[i]? = (h.stands.map (·.length))[i]? := by rw [q]
    rw [List.getElem?_map, List.getElem?_map, List.getElem?_eq_getElem hi1, List.getElem?_eq_getElem hi2] at q1
    rw [← e] at n
    exact n (Option.some.inj q1)
  have bad2 : ∀ p ∈ v.stands.zip h.stands, ∀ q ∈ p.1.zip p.2, inD q.1 q.2 = false → (decide (v.stands.map (·.length) = h.stands.map (·.length)) && (v.stands.zip h.stands).all fun p => (p.1.zip p.2).all fun q => inD q.1 q.2) = false := fun p hp q hq z => by
    have : ((v.stands.zip h.stands).all fun p => (p.1.zip p.2).all fun q => inD q.1 q.2) = false := by
      rw [Bool.eq_false_iff]
      intro t
      rw [List.all_eq_true.mp (List.all_eq_true.mp t p hp) q hq] at z
      cases z
    rw [this, Bool.and_false]
  have good : (∀ p ∈ v.stands.zip h.stands, p.1.length = p.2.length ∧ ∀ q ∈ p.1.zip p.2, inD q.1 q.2 = true) → (decide (v.stands.map (·.length) = h.stands.map (·.length)) && (v.stands.zip h.stands).all fun p => (p.1.zip p.2).all fun q => inD q.1 q.2) = true := fun k => by
    rw [Bool.and_eq_true]
    refine ⟨decide_eq_true ?_, List.all_eq_true.mpr fun p hp => List.all_eq_true.mpr (k p hp).2⟩
    refine List.ext_getElem (by rw [List.length_map, List.length_map]; omega) fun i h1 h2 => ?_
    rw [List.length_map] at h1 h2
    rw [List.getElem_map, List.getElem_map]
    have := (k (v.stands[i], h.stands[i]) (by rw [← List.getElem_zip (h := by rw [zl]; exact h1)]; exact List.getElem_mem _)).1
    exact this
  generalize (decide (v.stands.map (·.length) = h.stands.map (·.length)) && (v.stands.zip h.stands).all fun p => (p.1.zip p.2).all fun q => inD q.1 q.2) = RES at *
  refine WFor_inv (p2 pVS pStand) (v.stands.zip h.stands) (fun i ρ s' => s' = s ∧ (∀ p ∈ (v.stands.zip h.stands).take i, p.1.length = p.2.length ∧ ∀ q ∈ p.1.zip p.2, inD q.1 q.2 = true) ∧ ∃ c2 c3 c4 c5 : Option Cl, ρ = [some (.d (pVag v)), some (.d (pHouse h)), c2, c3, c4, c5]) ⟨rfl, by simp, none, none, none, none, rfl⟩ ?_ ?_
  · rintro i p ρ s' hp ⟨rfl, hall, c2, c3, c4, c5, rfl⟩
    have hm := List.mem_of_getElem? hp
    obtain ⟨m1, m2⟩ := List.of_mem_zip (a := p.1) (b := p.2) hm
    obtain ⟨_, t2, t3⟩ := ok.each _ m1
    simp [p2, pVS, pStand]
    by_cases hl : p.1.length = p.2.length
    rotate_left
    · rw [bad1 p hm hl]
      simp [fEq_int, show ¬ (p.1.length : Int) = (p.2.length : Int) by omega]
    simp [fEq_int, hl]
    rw [pairs_map]
    refine WFor_inv (p2 pVD pDeed) (p.1.zip p.2) (fun j ρ s'' => s'' = s' ∧ (∀ q ∈ (p.1.zip p.2).take j, inD q.1 q.2 = true) ∧ ∃ c4 c5 : Option Cl, ρ = [some (.d (pVag v)), some (.d (pHouse h)), some (.d (pVS p.1)), some (.d (pStand p.2)), c4, c5]) ⟨rfl, by simp, _, _, rfl⟩ ?_ ?_
    · rintro j q ρ s'' hq ⟨rfl, hall2, c4, c5, rfl⟩
      have hmq := List.mem_of_getElem? hq
      obtain ⟨n1, n2⟩ := List.of_mem_zip (a := q.1) (b := q.2) hmq
      have a := t3 _ n1
      obtain ⟨c1, c2, c3, c4', c5'⟩ := hf.each _ m2 _ n2
      have al := a.ss.len
      have feq := fEq_qs (l := q.1.gs) (m := q.2.gs) (neg := true) (fun x hx => (a.gain x hx).mono hg) c5' (by rw [a.len]; omega) c4'
      simp [p2, pVD, pDeed]
      by_cases g1 : q.1.gs = q.2.gs
      · rw [decide_eq_true g1] at feq
        simp [feq]
        refine WF.of (e_lwithin2 a.ss (by omega) hb c1 c2 fun c hc => ⟨h8 _ m2 _ n2 c hc, c3 c hc⟩) ?_
        have iv : inD q.1 q.2 = inS q.1.ss q.2.ch := by unfold inD; rw [decide_eq_true g1, Bool.true_and]
        cases hi : inS q.1.ss q.2.ch with
        | false =>
          rw [bad2 p hm q hmq (by rw [iv, hi])]
          simp
        | true =>
          simp
          intro y z hy
          rw [take_snoc hq] at hy
          rcases List.mem_append.mp hy with hy | hy
          · exact hall2 _ hy
          · cases List.mem_singleton.mp hy
            exact iv.trans hi
      · have iv : inD q.1 q.2 = false := by unfold inD; rw [decide_eq_false g1, Bool.false_and]
        rw [decide_eq_false g1] at feq
        rw [bad2 p hm q hmq iv]
        simp [feq]
    · rintro ρ s'' ⟨rfl, hall2, c4, c5, rfl⟩
      rw [List.take_length] at hall2
      simp
      intro y z hy
      rw [take_snoc hp] at hy
      rcases List.mem_append.mp hy with hy | hy
      · exact ⟨(hall _ hy).1, fun a b hab => (hall _ hy).2 (a, b) hab⟩
      · cases List.mem_singleton.mp hy
        exact ⟨hl, fun a b hab => hall2 _ hab⟩
  · rintro ρ s' ⟨rfl, hall, c2, c3, c4, c5, rfl⟩
    rw [List.take_length] at hall
    rw [good hall]
    simp
end
section
variable {N D P b g W : Nat} {v : RVag} {x : PyData}
/-- what the program and the law say of anything beside a vague house -/
theorem fits_any (ok : VagOk N D P b g v) (hs : szW 100 W x = true) (hW : W ≤ 1000) (hN : N ≤ 8) (hD : D ≤ 4) (hP : P ≤ 4) (hb : b ≤ 100) (hg : g ≤ 100) (hv : ∀ s, f_check_vague [.d (pVag v)] s = some (.d .none, s)) :
    ∃ B : Bool, (∀ s, f_fits [.d (pVag v), .d x] s = some (.d (.bool B), s)) ∧ ∀ s, f_law_fits [.d (pVag v), .d x] s = some (.d (.bool B), s) := by
  have hH := fun s => e_is_house_byA (s := s) hs (by decide) hW
  have hL := fun s => e_lbuiltA (s := s) hs (by decide) hW
  cases hB : houseB x with
  | false =>
    rw [hB] at hH hL
    refine ⟨false, fun s => ?_, fun s => ?_⟩
    · refine WF.eq (WF.body rfl ?_)
      simp [m_fits]
      refine WF.of (hv s) ?_
      simp
      refine WF.of (hH s) ?_
      simp
    · refine WF.eq (WF.body rfl ?_)
      simp [m_law_fits, List.replicate_succ]
      refine WF.of (hL s) ?_
      simp
  | true =>
    obtain ⟨h, rfl, ha⟩ := houseB_any hs hB
    rw [hB] at hH hL
    refine ⟨fitB v h, fun s => ?_, fun s => ?_⟩
    · refine WF.eq (WF.body rfl ?_)
      simp [m_fits]
      refine WF.of (hv s) ?_
      simp
      refine WF.of (hH s) ?_
      simp
      refine WF.of (e_does_fit ok ha.fit hN hD hP (by omega) hg) ?_
      simp
    · exact e_lfits2 ok ha.fit (fun st hst d hd c hc => by
        have := (((ha.each st hst).2 d hd).each c hc).1
        have := ha.n8
        omega) hL hN hD hP (by omega) hg
end
end WW
namespace Dh
open PySem PySem.Spec L2 PySem.W
/-- chances over one number -/
structure ChC (n D M : Nat) (cs : List (Nat × Rat)) : Prop where
  asc : cs.Pairwise fun a b => a.1 < b.1
  each : ∀ c ∈ cs, c.1 < n ∧ 0 < c.2 ∧ CD D M c.2
theorem ChC.len {n D M : Nat} {cs : List (Nat × Rat)} (h : ChC n D M cs) : cs.length ≤ n := by
  have := asc_len 0 h.asc fun c hc => ⟨Nat.zero_le _, (h.each c hc).1⟩
  omega
theorem chF_or (cs : List (Nat × Rat)) (k : Nat) : chF cs k = 0 ∨ ∃ c ∈ cs, c.1 = k ∧ chF cs k = c.2 := by
  unfold chF
  cases h : cs.find? (fun x => decide (x.1 = k)) with
  | none => exact .inl rfl
  | some c =>
    have h1 := List.find?_some h
    exact .inr ⟨c, List.mem_of_find?_eq_some h, of_decide_eq_true h1, rfl⟩
end Dh
namespace WW
open PySem PySem.Spec L2 PySem.W Dh
section
variable {s : Sto}
theorem e_lfullN {n : Nat} {cs : List (Nat × Rat)} (asc : cs.Pairwise fun a b => a.1 < b.1) (h8 : ∀ c ∈ cs, c.1 < n) (h100 : n ≤ 100) : ∃ L : List Rat, L.length = n ∧ (∀ k, k < n → L.getD k 0 = chF cs k) ∧ f_law_full [.d (.tuple (cs.map pCh)), .d (.int (n : Int))] s = some (.f (L.map pQ), s) := by
  have key : WF f_law_full [.d (.tuple (cs.map pCh)), .d (.int (n : Int))] s fun r s' => s' = s ∧ ∃ L : List Rat, L.length = n ∧ (∀ k, k < n → L.getD k 0 = chF cs k) ∧ r = .f (L.map pQ) := by
    have fm := fMul_repL (x := PyData.tuple [.int 0, .int 1]) (n := n) (by omega)
    have e0 : List.replicate n (PyData.tuple [.int 0, .int 1]) = (List.replicate n (0 : Rat)).map pQ := by rw [List.map_replicate]; rfl
    refine WF.body rfl ?_
    simp [m_law_full, List.replicate_succ, sz1, sz2]
    have fm' : fMul (.f [PyData.tuple [.int 0, .int 1]]) (.d (.int (n : Int))) = some (.f ((List.replicate n (0 : Rat)).map pQ)) := by rw [← e0]; exact fm
    rw [fm']
    simp
    refine WFor_inv pCh cs (fun i ρ s' => s' = s ∧ ∃ (L : List Rat) (c3 c4 : Option Cl), ρ = [some (.d (.tuple (cs.map pCh))), some (.d (.int (n : Int))), some (.o (L.map pQ)), c3, c4] ∧ L.length = n ∧ ∀ k, k < n → L.getD k 0 = chF (cs.take i) k) ⟨rfl, List.replicate n 0, none, none, by simp, by simp, fun k hk => ?_⟩ ?_ ?_
    · rw [List.getD_eq_getElem?_getD, List.getElem?_replicate, if_pos hk]
      rfl
    · rintro i c ρ s' hc ⟨rfl, L, c3, c4, rfl, ll, lv⟩
      have c8 := h8 c (List.mem_of_getElem? hc)
      have ht := take_snoc hc
      have ne : ∀ x ∈ cs.take i, x.1 ≠ c.1 := fun x hx => by
        have p : (cs.take (i + 1)).Pairwise fun a b => a.1 < b.1 := asc.sublist (List.take_sublist _ _)
        rw [ht, List.pairwise_append] at p
        have := p.2.2 x hx c (by simp)
        omega
      simp [pCh, Dh.putL, ixN_ofNat (n := L.length) (i := c.1) (by omega), -List.getD_eq_getElem?_getD]
      refine ⟨L.set c.1 c.2, by rw [List.map_set], by rw [List.length_set]; exact ll, fun k hk => ?_⟩
      rw [getD_put (by omega), ht, chF_snoc ne]
      split
      · rfl
      · exact lv k hk
    · rintro ρ s' ⟨rfl, L, c3, c4, rfl, ll, lv⟩
      rw [List.take_length] at lv
      simp [-List.getD_eq_getElem?_getD]
      exact ⟨L, ll, lv, rfl⟩
  obtain ⟨r, s', e, rfl, L, h1, h2, rfl⟩ := key
  exact ⟨L, h1, h2, e⟩
theorem w_moved {n D M m : Nat} {cs : List (Nat × Rat)} {s : Sto} (o : ChC n D M cs) (h0 : 0 < D) (hD : D < 2 ^ 20) (hM : M < 2 ^ 20) (hn : n ≤ 9) (hc : cs ≠ []) (v : Vs (m + 10) s) : WF f_law_moved [.s, .d (.tuple (cs.map pCh)), .d (.int (n : Int))] s fun r s' => ∃ ds, r = .d (.tuple (ds.map pCh)) ∧ ChC n (D * 4) (M * 12) ds ∧ ds ≠ [] ∧ Vs m s' := by
  have cl := o.len
  have cp : 0 < cs.length := List.length_pos_iff.mpr hc
  obtain ⟨L, ll, lv, el⟩ := e_lfullN (s := s) o.asc (fun c h => (o.each c h).1) (by omega)
  refine WF.body rfl ?_
  simp [m_law_moved, List.replicate_succ]
  refine WF.of el ?_
  simp
  refine WF.use (w_take (l := (cs.length : Int)) (m := m + 8) v.mono (by omega) (by omega)) ?_
  rintro _ s1 ⟨a, rfl, a0, a1, v1⟩
  obtain ⟨a, rfl⟩ := Int.eq_ofNat_of_zero_le a0
  simp
  refine WF.use (w_take (l := (n : Int)) (m := m + 7) v1.mono (by omega) (by omega)) ?_
  rintro _ s2 ⟨t, rfl, t0, t1, v2⟩
  obtain ⟨t, rfl⟩ := Int.eq_ofNat_of_zero_le t0
  have ha : a < cs.length := by omega
  have ht : t < n := by omega
  obtain ⟨c, hcm, ec⟩ : ∃ c ∈ cs, atI (cs.map pCh) (a : Int) = some (pCh c) := ⟨cs[a], List.getElem_mem ha, by
    rw [atI_ofNat (by rw [List.length_map]; exact ha), List.getElem?_map, List.getElem?_eq_getElem ha]; rfl⟩
  obtain ⟨c1, c2, c3⟩ := o.each c hcm
  have qc : QLt 20 c.2 := c3.qlt h0 hD hM
  simp [perm, ec, pCh]
  refine WF.use (w_take (l := 4) (m := m + 6) v2.mono (by decide) (by decide)) ?_
  rintro _ s3 ⟨j, rfl, j0, j1, v3⟩
  obtain ⟨j, rfl⟩ := Int.eq_ofNat_of_zero_le j0
  simp
  refine WF.of (e_frac0 (t := 1 + (j : Int)) (l := 4) (by decide) (by decide)) ?_
  have ej : Rat.divInt (1 + (j : Int)) 4 = Rat.divInt ((1 + j : Nat) : Int) ((4 : Nat) : Int) := by
    congr 1
  have cp4 : CD 4 4 (Rat.divInt ((1 + j : Nat) : Int) ((4 : Nat) : Int)) := CD_divInt (S := 4) (a := 1 + j) (by decide) (by omega)
  have pos : 0 < Rat.divInt ((1 + j : Nat) : Int) ((4 : Nat) : Int) := by
    rw [Rat.divInt_eq_div, Rat.lt_div_iff (by decide), Rat.zero_mul]
    exact Rat.intCast_pos.mpr (by omega)
  have le1 := (divInt_01 (n := 1 + j) (S := 4) (by decide) (by omega)).2
  rw [ej]
  generalize Rat.divInt ((1 + j : Nat) : Int) ((4 : Nat) : Int) = p at *
  have qp : QLt 10 p := cp4.qlt (by decide) (by decide) (by decide)
  simp
  refine WF.of (e_ltimes (p := c.2) (q := p) (qc.bd) qp.bd) ?_
  have cpart : CD (D * 4) (M * 4) (c.2 * p) := c3.mul cp4
  have ppos : 0 < c.2 * p := Rat.mul_pos c2 pos
  have ple : c.2 * p ≤ c.2 := by
    have := Rat.mul_le_mul_of_nonneg_left le1 (Rat.le_of_lt c2)
    rwa [Rat.mul_one] at this
  generalize c.2 * p = w at *
  have qw : QLt 30 w := cpart.qlt (by omega) (by omega) (by omega)
  simp
  refine WF.of (e_lminus (p := c.2) (q := w) (qc.bd) qw.bd) ?_
  simp [Dh.putL, ixN_ofNat (n := L.length) (i := c.1) (by omega), -List.getD_eq_getElem?_getD]
  have old : ∀ k, k < n → 0 ≤ L.getD k 0 ∧ CD (D * 4) (M * 4) (L.getD k 0) := fun k hk => by
    rw [lv k hk]
    rcases chF_or cs k with e | ⟨x, hx, e1, e2⟩
    · rw [e]; exact ⟨Rat.le_refl, CD_0⟩
    · rw [e2]; exact ⟨Rat.le_of_lt (o.each x hx).2.1, (o.each x hx).2.2.up 4⟩
  have g1 : ∀ k, (L.set c.1 (c.2 - w)).getD k 0 = if k = c.1 then c.2 - w else L.getD k 0 := fun k => getD_put (by omega)
  have new1 : ∀ k, k < n → 0 ≤ (L.set c.1 (c.2 - w)).getD k 0 ∧ CD (D * 4) (M * 8) ((L.set c.1 (c.2 - w)).getD k 0) := fun k hk => by
    rw [g1]
    split
    · exact ⟨by grind, ((c3.up 4).sub cpart).mono (by omega)⟩
    · exact ⟨(old k hk).1, (old k hk).2.mono (by omega)⟩
  have l1 : (L.set c.1 (c.2 - w)).length = n := by rw [List.length_set]; exact ll
  rw [← List.map_set]
  generalize L.set c.1 (c.2 - w) = L1 at *
  clear g1
  have at1 := atI_getD (f := pQ) (l := L1) (d := 0) (i := t) (by omega)
  simp [at1, -List.getD_eq_getElem?_getD]
  obtain ⟨n0, nc⟩ := new1 t ht
  have qt : QLt 30 (L1.getD t 0) := nc.qlt (by omega) (by omega) (by omega)
  refine WF.of (e_lplus (p := L1.getD t 0) (q := w) (qt.bd) qw.bd) ?_
  simp [Dh.putL, ixN_ofNat (n := L1.length) (i := t) (by omega), -List.getD_eq_getElem?_getD]
  have g2 : ∀ k, (L1.set t (L1.getD t 0 + w)).getD k 0 = if k = t then L1.getD t 0 + w else L1.getD k 0 := fun k => getD_put (by omega)
  have new2 : ∀ k, k < n → 0 ≤ (L1.set t (L1.getD t 0 + w)).getD k 0 ∧ CD (D * 4) (M * 12) ((L1.set t (L1.getD t 0 + w)).getD k 0) := fun k hk => by
    rw [g2]
    split
    · exact ⟨by grind, (nc.add cpart).mono (by omega)⟩
    · exact ⟨(new1 k hk).1, (new1 k hk).2.mono (by omega)⟩
  have at2 : 0 < (L1.set t (L1.getD t 0 + w)).getD t 0 := by
    rw [g2, if_pos rfl]; grind
  have l2 : (L1.set t (L1.getD t 0 + w)).length = n := by rw [List.length_set]; exact l1
  rw [← List.map_set]
  generalize L1.set t (L1.getD t 0 + w) = L2 at *
  clear g2
  simp [range1_nat (n := n) (by omega)]
  refine WLc_opt (fun k : Nat => PyData.int k) (fun k => if 0 < L2.getD k 0 then some (pCh (k, L2.getD k 0)) else none) (List.range n) (fun k hk => ?_) ?_
  · have hk := List.mem_range.mp hk
    have a2 := atI_getD (f := pQ) (l := L2) (d := 0) (i := k) (by omega)
    have en : 0 < (L2.getD k 0).num ↔ 0 < L2.getD k 0 := by rw [Rat.lt_iff]; simp
    simp [a2, -List.getD_eq_getElem?_getD]
    generalize L2.getD k 0 = q at *
    by_cases h : 0 < q
    · simp [h, en.mpr h, a2, pCh, pQ, sz2]
    · have : ¬ 0 < q.num := fun z => h (en.mp z)
      have h' : q ≤ 0 := Rat.not_lt.mp h
      have t' : q.num ≤ 0 := Int.not_lt.mp this
      rw [if_neg h]
      simp [pQ, Int.not_lt.mpr t']
  have em : ((List.range n).filterMap fun k => if 0 < L2.getD k 0 then some (pCh (k, L2.getD k 0)) else none) = ((List.range n).filterMap fun k => if 0 < L2.getD k 0 then some (k, L2.getD k 0) else none).map pCh := by
    rw [List.map_filterMap]
    refine congrArg (fun f => (List.range n).filterMap f) (funext fun k => ?_)
    by_cases z : 0 < L2.getD k 0
    · rw [if_pos z, if_pos z]; rfl
    · rw [if_neg z, if_neg z]; rfl
  rw [em]
  have fl := List.length_filterMap_le (fun k => if 0 < L2.getD k 0 then some (k, L2.getD k 0) else none) (List.range n)
  rw [List.length_range] at fl
  refine ⟨szle (by rw [List.length_map]; omega), ?_⟩
  simp [-List.getD_eq_getElem?_getD]
  refine ⟨_, rfl, ⟨?_, fun x hx => ?_⟩, fun z => ?_, v3.mono⟩
  · rw [List.pairwise_filterMap]
    refine List.pairwise_lt_range.imp fun {a b} h x hx y hy => ?_
    split at hx
    · split at hy
      · cases hx; cases hy; exact h
      · cases hy
    · cases hx
  · obtain ⟨k, hk, e⟩ := List.mem_filterMap.mp hx
    have hk := List.mem_range.mp hk
    split at e
    · rename_i q
      cases e
      exact ⟨hk, q, (new2 k hk).2⟩
    · cases e
  · have : (t, L2.getD t 0) ∈ ((List.range n).filterMap fun k => if 0 < L2.getD k 0 then some (k, L2.getD k 0) else none) := List.mem_filterMap.mpr ⟨t, List.mem_range.mpr ht, by rw [if_pos at2]⟩
    rw [z] at this
    cases this
end
end WW
namespace WW
open PySem PySem.Spec L2 PySem.W Dh
section
variable {N D' P b g m : Nat} {v : RVag} {s : Sto}
theorem w_inside8 {Df : Nat → Nat → Nat} (ok : VagOk N D' P b g v) (hN : N ≤ 8) (hD4 : D' ≤ 4) (h0 : ∀ a c, 0 < Df a c ∧ Df a c < 2 ^ 20) (hd : ∀ a c, a < v.stands.length → c < (stV v a).length → DenOk (Df a c) (dV v a c).ss) (vs : Vs (m + 800) s) : WF f_law_inside [.s, .d (pVag v)] s fun r s' => ∃ h, r = .d (pHouse h) ∧ h.share = v.share ∧ h.pays = v.pays ∧ h.stands.length = v.stands.length ∧ (∀ a, a < v.stands.length → (stD h a).length = (stV v a).length ∧ ∀ c, c < (stV v a).length → InD (Df a c * 4) (dV v a c) (deedAt h a c)) ∧ Vs m s' := by
  have nN := ok.nN
  refine WF.body rfl ?_
  simp [m_law_inside, List.replicate_succ, pVag]
  refine WFor_inv pVS v.stands (fun i ρ s' => ∃ (rows : List (List RDeed)) (c3 c4 c5 c6 : Option Cl), ρ = [some .s, some (.d (pVag v)), some (.o (rows.map pStand)), c3, c4, c5, c6] ∧ rows.length = i ∧ (∀ a, a < i → (rows.getD a []).length = (stV v a).length ∧ ∀ c, c < (stV v a).length → InD (Df a c * 4) (dV v a c) ((rows.getD a []).getD c d0)) ∧ Vs (m + 90 * (8 - i)) s') ⟨[], none, none, none, none, rfl, rfl, fun a ha => by omega, vs.mono⟩ ?_ ?_
  · rintro i st ρ s' hp ⟨rows, c3, c4, c5, c6, rfl, rl, like, v1⟩
    have hi := lt_of hp
    have es : stV v i = st := getD_of hp
    obtain ⟨t1, t2, t3⟩ := ok.st hi
    rw [es] at t1 t2 t3
    simp [pVS]
    refine WFor_inv pVD st (fun j ρ s'' => ∃ (ds : List RDeed) (c5 c6 : Option Cl), ρ = [some .s, some (.d (pVag v)), some (.o (rows.map pStand)), some (.d (pVS st)), some (.o (ds.map pDeed)), c5, c6] ∧ ds.length = j ∧ (∀ c, c < j → InD (Df i c * 4) (st.getD c vd0) (ds.getD c d0)) ∧ Vs (m + 90 * (8 - (i + 1)) + 20 * (4 - j)) s'') ⟨[], _, _, rfl, rfl, fun c hc => by omega, v1.mono⟩ ?_ ?_
    · rintro j d ρ s'' hq ⟨ds, c5, c6, rfl, dl, like2, v2⟩
      have hj := lt_of hq
      have ed : st.getD j vd0 = d := getD_of hq
      have dk := t3 d (List.mem_of_getElem? hq)
      have den := hd i j hi (by rw [es]; exact hj)
      have edd : dV v i j = d := by unfold dV; rw [es]; exact ed
      rw [edd] at den
      have cl := dk.ss.len
      obtain ⟨d1, d2⟩ := h0 i j
      simp [pVD]
      refine WF.use (w_within (m := m + 90 * (8 - (i + 1)) + 20 * (4 - (j + 1))) dk.ss den d1 d2 (by omega) v2.mono) ?_
      rintro _ s3 ⟨F, rfl, fo, v3⟩
      simp
      refine WF.of (e_known fo.len (by omega)) ?_
      simp [sz2, dl, -List.getD_eq_getElem?_getD]
      refine ⟨szlt (by omega), ds ++ [⟨frCh (goC d.ss) F, d.gs⟩], ?_, ?_, fun c hc => ?_, v3.mono⟩
      · rw [List.map_append]; simp [pDeed]
      · rw [List.length_append, dl]; rfl
      · rw [getD_snoc (by omega)]
        split
        · exact like2 c (by omega)
        · rw [show c = j by omega, ed]
          exact ⟨rfl, F, fo, rfl⟩
    · rintro ρ s'' ⟨ds, c5, c6, rfl, dl, like2, v2⟩
      simp [rl, -List.getD_eq_getElem?_getD]
      refine ⟨szlt (by omega), rows ++ [ds], ?_, ?_, fun a ha => ?_, v2.mono⟩
      · rw [List.map_append]; simp [pStand]
      · rw [List.length_append, rl]; rfl
      · rw [getD_snoc (by omega)]
        split
        · exact like a (by omega)
        · rw [show a = i by omega, es]
          refine ⟨dl, fun c hc => ?_⟩
          have e : dV v i c = st.getD c vd0 := by unfold dV; rw [es]
          rw [e]
          exact like2 c hc
  · rintro ρ s' ⟨rows, c3, c4, c5, c6, rfl, rl, like, v1⟩
    simp [pVag, sz3, -List.getD_eq_getElem?_getD]
    exact ⟨⟨v.share, v.pays, rows⟩, rfl, rfl, rfl, rl, like, v1.mono⟩
end
end WW
namespace Dh
open PySem PySem.Spec L2 PySem.W
structure GD (n D M G : Nat) (d : RDeed) : Prop where
  ch : ∃ D1 M1, 0 < D1 ∧ D1 ≤ D ∧ M1 ≤ M ∧ ChC n D1 M1 d.ch
  ne : d.ch ≠ []
  len : d.gs.length ≤ G
  gain : ∀ q ∈ d.gs, QLt 70 q
theorem GD.up {n n' D M G : Nat} {d : RDeed} (h : GD n D M G d) (k : n ≤ n') : GD n' (D * 4) (M * 12) (G + 1) d := by
  obtain ⟨D1, M1, h1, h2, h3, h4⟩ := h.ch
  exact ⟨⟨D1, M1, h1, by omega, by omega, ⟨h4.asc, fun c hc => ⟨Nat.lt_of_lt_of_le (h4.each c hc).1 k, (h4.each c hc).2⟩⟩⟩, h.ne, by have := h.len; omega, h.gain⟩
theorem GD.wide {n n' D M G : Nat} {d : RDeed} (h : GD n D M G d) (k : n ≤ n') : GD n' D M G d :=
  ⟨by
    obtain ⟨D1, M1, h1, h2, h3, h4⟩ := h.ch
    exact ⟨D1, M1, h1, h2, h3, ⟨h4.asc, fun c hc => ⟨Nat.lt_of_lt_of_le (h4.each c hc).1 k, (h4.each c hc).2⟩⟩⟩, h.ne, h.len, h.gain⟩
structure TH (D M G : Nat) (h : RHouse) : Prop where
  sb : QLt 7 h.share
  p4 : h.pays ≤ 4
  n1 : 1 ≤ h.stands.length
  n8 : h.stands.length ≤ 8
  each : ∀ st ∈ h.stands, 1 ≤ st.length ∧ st.length ≤ 4 ∧ ∀ d ∈ st, GD h.stands.length D M G d
theorem cut_qs {gs : List Rat} {lo hi : Option Int} : ∃ gs' : List Rat, cutD (gs.map pQ) lo hi = gs'.map pQ ∧ gs'.length ≤ gs.length ∧ ∀ q ∈ gs', q ∈ gs := by
  obtain ⟨l, e, h⟩ := ex_map (f := pQ) (P := fun q => q ∈ gs) (l := cutD (gs.map pQ) lo hi) fun x hx => by
    obtain ⟨q, hq, rfl⟩ := List.mem_map.mp (cutD_mem hx)
    exact ⟨q, rfl, hq⟩
  refine ⟨l, e, ?_, h⟩
  have := cutD_le (xs := gs.map pQ) (lo := lo) (hi := hi)
  rw [e, List.length_map, List.length_map] at this
  exact this
theorem eqOk_iNt {l : List Nat} : eqOk (.tuple (l.map iN)) = true := by
  have nd : noDicts (l.map iN) = true := all_nd fun x hx => by obtain ⟨q, _, rfl⟩ := List.mem_map.mp hx; rfl
  have lay : PyData.canLayAll0 (l.map iN) = true := all_lay fun x hx => by obtain ⟨q, _, rfl⟩ := List.mem_map.mp hx; rfl
  have dep : PyData.depthAll (l.map iN) ≤ 1 := all_dep fun x hx => by obtain ⟨q, _, rfl⟩ := List.mem_map.mp hx; simp [iN, PyData.depth]
  unfold eqOk SeqAt.shaped
  simp [Dh.noDict, PyData.canLay0, PyData.depth, nd, lay]
  omega
theorem fIn_iNtt {g : Nat} {l : List Nat} : fIn false (.d (.int (g : Nat))) (.d (.tuple (l.map iN))) = some (.d (.bool (decide (g ∈ l)))) := by
  show (if eqOk (.int (g : Nat)) = true ∧ eqOk (.tuple (l.map iN)) = true then some (R.d (.bool (if false then !((l.map iN).any fun z => PyData.eqv z (.int (g : Nat))) else (l.map iN).any fun z => PyData.eqv z (.int (g : Nat))))) else none) = _
  rw [if_pos ⟨eqOk_int, eqOk_iNt⟩, any_iN]
  rfl
theorem TH.size {D M G : Nat} {h : RHouse} (o : TH D M G h) (hD : D < 2 ^ 40) (hM : M < 2 ^ 40) (hG : G ≤ 9) : SD 7 (pHouse h) := by
  have n8 := o.n8
  have p4 := o.p4
  refine SD.tup (n := 6) (by simp) fun y hy => ?_
  simp only [List.mem_cons, List.not_mem_nil, or_false] at hy
  rcases hy with rfl | rfl | rfl
  · exact (SD.q (o.sb.mono (by decide))).mono (by decide)
  · exact SD.nat (k := h.pays) (by omega)
  · refine SD.tup (n := 5) (by rw [List.length_map]; omega) fun z hz => ?_
    obtain ⟨st, hst, rfl⟩ := List.mem_map.mp hz
    obtain ⟨s1, s2, s3⟩ := o.each st hst
    refine SD.tup (n := 4) (by rw [List.length_map]; omega) fun z hz => ?_
    obtain ⟨d, hd, rfl⟩ := List.mem_map.mp hz
    have dk := s3 d hd
    obtain ⟨D1, M1, z1, z2, z3, z4⟩ := dk.ch
    have dl := z4.len
    have gl := dk.len
    refine SD.tup (n := 3) (by simp) fun y hy => ?_
    simp only [List.mem_cons, List.not_mem_nil, or_false] at hy
    rcases hy with rfl | rfl
    · refine SD.tup (n := 2) (by rw [List.length_map]; omega) fun z hz => ?_
      obtain ⟨x, hx, rfl⟩ := List.mem_map.mp hz
      obtain ⟨a1, a2, a3⟩ := z4.each x hx
      refine SD.tup (n := 1) (by simp) fun y hy => ?_
      simp only [List.mem_cons, List.not_mem_nil, or_false] at hy
      rcases hy with rfl | rfl
      · exact SD.nat (k := x.1) (by omega)
      · exact SD.q ((a3.qlt z1 (Nat.lt_of_le_of_lt z2 hD) (Nat.lt_of_le_of_lt z3 hM)).mono (by decide))
    · refine (SD.tup (n := 1) (by rw [List.length_map]; omega) fun z hz => ?_ : SD 2 (pQs d.gs)).mono (by decide)
      obtain ⟨q, hq, rfl⟩ := List.mem_map.mp hz
      exact SD.q ((dk.gain q hq).mono (by decide))
end Dh
namespace WW
open PySem PySem.Spec L2 PySem.W Dh
section
variable {s : Sto} {N D P g : Nat} {h : RHouse}
theorem e_ltight (k : HouseB N D P h g) (hN : N ≤ 8) (hD : D ≤ 8) : f_law_tight [.d (pHouse h)] s = some (.d (pVag (tiV h)), s) := by
  have nN := k.nN
  refine WF.eq (WF.body rfl ?_)
  simp [m_law_tight, List.replicate_succ, pHouse]
  let F : RDeed → PyData := fun d => .tuple [.tuple (d.ch.map fun c => .tuple [.int (c.1 : Nat), pQ c.2, pQ c.2]), pQs d.gs]
  refine WFor_inv pStand h.stands (fun i ρ s' => s' = s ∧ ∃ (rows : List PyData) (c2 c3 c4 c5 c6 : Option Cl), ρ = [some (.d (pHouse h)), some (.o rows), c2, c3, c4, c5, c6] ∧ rows = (h.stands.take i).map fun st => PyData.tuple (st.map F)) ⟨rfl, [], none, none, none, none, none, rfl, rfl⟩ ?_ ?_
  · rintro i st ρ s' hp ⟨rfl, rows, c2, c3, c4, c5, c6, rfl, er⟩
    have hst := List.mem_of_getElem? hp
    have hi := lt_of hp
    obtain ⟨_, t2, t3⟩ := k.each st hst
    have rl : rows.length = i := by rw [er, List.length_map, List.length_take]; omega
    simp [pStand]
    refine WFor_inv pDeed st (fun j ρ s'' => s'' = s' ∧ ∃ (ds : List PyData) (c4 c5 c6 : Option Cl), ρ = [some (.d (pHouse h)), some (.o rows), some (.d (pStand st)), some (.o ds), c4, c5, c6] ∧ ds = (st.take j).map F) ⟨rfl, [], _, _, _, rfl, rfl⟩ ?_ ?_
    · rintro j d ρ s'' hq ⟨rfl, ds, c4, c5, c6, rfl, ed⟩
      have hd := List.mem_of_getElem? hq
      have hj := lt_of hq
      have dl := (t3 d hd).ch.len
      have dsl : ds.length = j := by rw [ed, List.length_map, List.length_take]; omega
      simp [pDeed]
      refine WLc_map pCh (fun c => PyData.tuple [.int (c.1 : Nat), pQ c.2, pQ c.2]) d.ch (fun c hc => ?_) ?_
      · simp [pCh, sz3]
      refine ⟨szle (by rw [List.length_map]; omega), ?_⟩
      simp [sz2, dsl]
      refine ⟨szlt (by omega), ?_⟩
      rw [← List.map_take, take_snoc hq, List.map_append, ed]
      rfl
    · rintro ρ s'' ⟨rfl, ds, c4, c5, c6, rfl, ed⟩
      rw [List.take_length] at ed
      simp [rl]
      refine ⟨szlt (by omega), ?_⟩
      rw [← List.map_take, take_snoc hp, List.map_append, er, ed]
      rfl
  · rintro ρ s' ⟨rfl, rows, c2, c3, c4, c5, c6, rfl, er⟩
    rw [List.take_length] at er
    rw [pVag_ti]
    simp [pHouse, sz3, er]
    exact fun _ _ _ _ => rfl
theorem w_turned {D M G m : Nat} {h : RHouse} {s : Sto} (o : TH D M G h) (h0 : 0 < D) (hD : D < 2 ^ 20) (hM : M < 2 ^ 20) (hM0 : 0 < M) (hG : G ≤ 8) (v : Vs (m + 40) s) : WF f_law_turned [.s, .d (pHouse h)] s fun r s' => ∃ h', r = .d (pHouse h') ∧ TH (D * 4) (M * 12) (G + 1) h' ∧ Vs m s' := by
  have n1 := o.n1
  have n8 := o.n8
  refine WF.body rfl ?_
  simp [m_law_turned, List.replicate_succ, pHouse]
  refine WF.use (w_take (l := 7) (m := m + 39) v.mono (by decide) (by decide)) ?_
  rintro _ s1 ⟨w, rfl, w0, w1, v1⟩
  obtain ⟨w, rfl⟩ := Int.eq_ofNat_of_zero_le w0
  simp
  refine WF.use (w_take (l := (h.stands.length : Int)) (m := m + 38) v1.mono (by omega) (by omega)) ?_
  rintro _ s2 ⟨a, rfl, a0, a1, v2⟩
  obtain ⟨a, rfl⟩ := Int.eq_ofNat_of_zero_le a0
  have ha : a < h.stands.length := by omega
  have ea := atI_getD (f := pStand) (l := h.stands) (d := []) (i := a) ha
  have hst : h.stands.getD a [] ∈ h.stands := getD_mem ha
  simp [ea, -List.getD_eq_getElem?_getD]
  generalize h.stands.getD a [] = st at *
  obtain ⟨t1, t2, t3⟩ := o.each st hst
  simp [pStand]
  refine WF.use (w_take (l := (st.length : Int)) (m := m + 37) v2.mono (by omega) (by omega)) ?_
  rintro _ s3 ⟨b, rfl, b0, b1, v3⟩
  obtain ⟨b, rfl⟩ := Int.eq_ofNat_of_zero_le b0
  have hb : b < st.length := by omega
  have eb := atI_getD (f := pDeed) (l := st) (d := d0) (i := b) hb
  have hd : st.getD b d0 ∈ st := getD_mem hb
  simp [eb, -List.getD_eq_getElem?_getD]
  generalize st.getD b d0 = d at *
  have gd := t3 d hd
  simp [pDeed, fEq_int]
  have mono : ∀ {n' : Nat}, h.stands.length ≤ n' → ∀ st' ∈ h.stands, ∀ e ∈ st', GD n' (D * 4) (M * 12) (G + 1) e := fun k st' hs e he => ((o.each st' hs).2.2 e he).up k
  by_cases hw : w = 0
  · subst hw
    simp
    refine WF.use (w_share (m := m) v3.mono) ?_
    rintro _ s4 ⟨q, rfl, q0, q1, qb, v4⟩
    simp [sz3]
    exact ⟨⟨q, h.pays, h.stands⟩, ⟨rfl, rfl, rfl⟩, ⟨qb, o.p4, n1, n8, fun st' hs => ⟨(o.each st' hs).1, (o.each st' hs).2.1, mono (Nat.le_refl _) st' hs⟩⟩, v4.mono⟩
  simp [hw]
  have fin := fIn_iNtt (g := w) (l := [2, 3, 6])
  have fin' : fIn false (.d (.int (w : Nat))) (.d (.tuple [.int 2, .int 3, .int 6])) = some (.d (.bool (decide (w ∈ [2, 3, 6])))) := fin
  have gd4 := gd.up (Nat.le_refl _)
  rcases (show w = 1 ∨ (w = 2 ∨ w = 3 ∨ w = 6) ∨ (w = 4 ∨ w = 5) by omega) with hx | hx | hx
  case' inl =>
    have e1 : fEq false (.d (.int (w : Nat))) (.d (.int 1)) = some (.d (.bool true)) := by
      rw [fEq_int]; simp; omega
    have hm : ¬ w ∈ [2, 3, 6] := by simp; omega
    rw [decide_eq_false hm] at fin'
    simp [e1]
    obtain ⟨g1, eg, gl, gm⟩ := cut_qs (gs := d.gs) (lo := none) (hi := some (-1))
    simp [pQs, fSl, eg]
    refine WF.use (w_number (m := m + 20) v3.mono) ?_
    rintro _ s9 ⟨q, rfl, gq, v9⟩
    have gl4 := gd.len
    have gd' : GD h.stands.length (D * 4) (M * 12) (G + 1) ⟨d.ch, g1 ++ [q]⟩ := ⟨gd4.ch, gd4.ne, by
      show (g1 ++ [q]).length ≤ G + 1
      rw [List.length_append, List.length_singleton]
      omega, fun x hx => by
      rcases List.mem_append.mp hx with hx | hx
      · exact gd.gain x (gm x hx)
      · rw [List.mem_singleton.mp hx]; exact gq.1⟩
    have e10 : g1.map pQ ++ [pQ q] = (g1 ++ [q]).map pQ := by rw [List.map_append]; rfl
    simp [sz1, sz3, szle (show g1.length + 1 ≤ 1000 by omega), fin']
    rw [e10]
    generalize g1 ++ [q] = gs' at *
    generalize d.ch = ch' at *
  case' inr.inl =>
    have hn : ¬ (w : Int) = 1 := by omega
    have hm : w ∈ [2, 3, 6] := by simp; exact hx
    rw [decide_eq_true hm] at fin'
    simp [hn, fEq_int, fin', sz3]
    obtain ⟨D1, M1, z1, z2, z3, z4⟩ := gd.ch
    refine WF.use (w_moved (m := m + 20) z4 z1 (Nat.lt_of_le_of_lt z2 hD) (Nat.lt_of_le_of_lt z3 hM) (by omega) gd.ne v3.mono) ?_
    rintro _ s9 ⟨ch', rfl, co, cn, v9⟩
    have gd' : GD h.stands.length (D * 4) (M * 12) (G + 1) ⟨ch', d.gs⟩ := ⟨⟨D1 * 4, M1 * 12, by omega, by omega, by omega, co⟩, cn, gd4.len, gd.gain⟩
    simp [pQs]
    generalize d.gs = gs' at *
  case' inr.inr =>
    have hn : ¬ (w : Int) = 1 := by omega
    have hm : ¬ w ∈ [2, 3, 6] := by simp; omega
    rw [decide_eq_false hm] at fin'
    simp [hn, fEq_int, fin', sz3, pQs]
    have gd' : GD h.stands.length (D * 4) (M * 12) (G + 1) ⟨d.ch, d.gs⟩ := gd4
    have v9 : Vs (m + 20) s3 := v3.mono
    generalize d.ch = ch' at *
    generalize d.gs = gs' at *
    generalize s3 = s9 at *
  all_goals clear fin fin' hw
  all_goals
    have ag := cut_to (xs := st.map pDeed) (k := b)
    have bg : cutD (st.map pDeed) (some ((b : Int) + 1)) none = (st.map pDeed).drop (b + 1) := cut_from (k := b + 1)
    obtain ⟨st', es, sl, sg⟩ : ∃ st' : List RDeed, (st.map pDeed).take b ++ PyData.tuple [.tuple (ch'.map pCh), .tuple (gs'.map pQ)] :: (st.map pDeed).drop (b + 1) = st'.map pDeed ∧ st'.length = st.length ∧ ∀ e ∈ st', GD h.stands.length (D * 4) (M * 12) (G + 1) e := by
      refine ⟨st.take b ++ ⟨ch', gs'⟩ :: st.drop (b + 1), ?_, ?_, fun e he => ?_⟩
      · rw [List.map_append, List.map_cons, List.map_take, List.map_drop]; rfl
      · rw [List.length_append, List.length_take, List.length_cons, List.length_drop]; omega
      · rcases List.mem_append.mp he with he | he
        · exact mono (Nat.le_refl _) st hst e (List.mem_of_mem_take he)
        · rcases List.mem_cons.mp he with rfl | he
          · exact gd'
          · exact mono (Nat.le_refl _) st hst e (List.mem_of_mem_drop he)
    have lone : GD h.stands.length (D * 4) (M * 12) (G + 1) ⟨[(a, 1)], gs'⟩ := ⟨⟨1, 1, by decide, by omega, by omega, ⟨by simp, fun c hc => by
      rw [List.mem_singleton.mp hc]
      exact ⟨ha, (by show (0 : Rat) < 1; decide), CD_1 (by omega)⟩⟩⟩, by simp, gd'.len, gd'.gain⟩
    have p1 : PyData.tuple [.int 1, .int 1] = pQ 1 := rfl
    first | simp [fSl, ag, sz1, sz2] | fail
    rw [bg, es]
    refine ⟨szle (by omega), szle (by rw [List.length_drop, List.length_map]; omega), ?_⟩
  all_goals
    obtain ⟨k4, f4⟩ : ∃ k4 : Bool, fEq false (.d (.int (w : Nat))) (.d (.int 4)) = some (.d (.bool k4)) := ⟨_, fEq_int⟩
    obtain ⟨k5, f5⟩ : ∃ k5 : Bool, fEq false (.d (.int (w : Nat))) (.d (.int 5)) = some (.d (.bool k5)) := ⟨_, fEq_int⟩
    have lm : PyData.tuple [.tuple [.tuple [.int (a : Nat), .tuple [.int 1, .int 1]]], .tuple (gs'.map pQ)] = pDeed ⟨[(a, 1)], gs'⟩ := rfl
    rw [lm]
    generalize (⟨[(a, 1)], gs'⟩ : RDeed) = ln at *
    simp [f4]
    have lt4 : decide ((st'.length : Int) < 4) = decide (st'.length < 4) := by
      rw [Bool.eq_iff_iff]; simp; omega
    have ag2 := cut_to (xs := h.stands.map pStand) (k := a)
    have bg2 : cutD (h.stands.map pStand) (some ((a : Int) + 1)) none = (h.stands.map pStand).drop (a + 1) := cut_from (k := a + 1)
    clear ag bg es
    cases k4
  all_goals by_cases l4 : st'.length < 4
  all_goals
    first
    | (have l4' : st'.length < 4 := l4
       have e7 : st'.map pDeed ++ [pDeed ln] = (st' ++ [ln]).map pDeed := by rw [List.map_append]; rfl
       simp [lt4, l4', fSl, ag2, sz1]
       rw [e7, bg2]
       refine ⟨szle (by omega), ?_⟩
       obtain ⟨st2, e2, s1l, s2l, s2g⟩ : ∃ st2 : List RDeed, st' ++ [ln] = st2 ∧ 1 ≤ st2.length ∧ st2.length ≤ 4 ∧ ∀ e ∈ st2, GD h.stands.length (D * 4) (M * 12) (G + 1) e := ⟨_, rfl, by simp, by simp; omega, fun e he => by
        rcases List.mem_append.mp he with he | he
        · exact sg e he
        · rw [List.mem_singleton.mp he]; exact lone⟩
       rw [e2]
       clear e2 e7 l4')
    | (simp [lt4, l4, fSl, ag2, sz1]
       rw [bg2]
       obtain ⟨st2, e2, s1l, s2l, s2g⟩ : ∃ st2 : List RDeed, st' = st2 ∧ 1 ≤ st2.length ∧ st2.length ≤ 4 ∧ ∀ e ∈ st2, GD h.stands.length (D * 4) (M * 12) (G + 1) e := ⟨_, rfl, by omega, by omega, sg⟩
       rw [e2]
       clear e2)
  all_goals
    obtain ⟨sts, es2, tl, tg⟩ : ∃ sts : List (List RDeed), (h.stands.map pStand).take a ++ PyData.tuple (st2.map pDeed) :: (h.stands.map pStand).drop (a + 1) = sts.map pStand ∧ sts.length = h.stands.length ∧ ∀ st ∈ sts, 1 ≤ st.length ∧ st.length ≤ 4 ∧ ∀ e ∈ st, GD h.stands.length (D * 4) (M * 12) (G + 1) e := by
      refine ⟨h.stands.take a ++ st2 :: h.stands.drop (a + 1), ?_, ?_, fun e he => ?_⟩
      · rw [List.map_append, List.map_cons, List.map_take, List.map_drop]; rfl
      · rw [List.length_append, List.length_take, List.length_cons, List.length_drop]; omega
      · rcases List.mem_append.mp he with he | he
        · have := List.mem_of_mem_take he
          exact ⟨(o.each e this).1, (o.each e this).2.1, mono (Nat.le_refl _) e this⟩
        · rcases List.mem_cons.mp he with rfl | he
          · exact ⟨s1l, s2l, s2g⟩
          · have := List.mem_of_mem_drop he
            exact ⟨(o.each e this).1, (o.each e this).2.1, mono (Nat.le_refl _) e this⟩
    rw [es2]
    refine ⟨szle (by omega), szle (by rw [List.length_drop, List.length_map]; omega), ?_⟩
    simp [f5]
    have lt8 : decide ((sts.length : Int) < 8) = decide (sts.length < 8) := by
      rw [Bool.eq_iff_iff]; simp; omega
    have fin2 : TH (D * 4) (M * 12) (G + 1) ⟨h.share, h.pays, sts⟩ := ⟨o.sb, o.p4, by show 1 ≤ sts.length; omega, by show sts.length ≤ 8; omega, fun st' hs => by
      show 1 ≤ st'.length ∧ st'.length ≤ 4 ∧ ∀ d ∈ st', GD sts.length (D * 4) (M * 12) (G + 1) d
      rw [tl]
      exact tg st' hs⟩
    cases k5
    · simp [sz3]
      exact ⟨⟨h.share, h.pays, sts⟩, ⟨rfl, rfl, rfl⟩, fin2, v9.mono⟩
    · by_cases l8 : sts.length < 8
      · have e8 : sts.map pStand ++ [PyData.tuple [pDeed ln]] = (sts ++ [[ln]]).map pStand := by rw [List.map_append]; rfl
        simp [lt8, l8, sz1, sz3]
        refine ⟨szle (by omega), ?_⟩
        refine ⟨⟨h.share, h.pays, sts ++ [[ln]]⟩, ⟨rfl, rfl, e8⟩, ⟨o.sb, o.p4, by show 1 ≤ (sts ++ [[ln]]).length; simp, by show (sts ++ [[ln]]).length ≤ 8; simp; omega, fun st' hs => ?_⟩, v9.mono⟩
        show 1 ≤ st'.length ∧ st'.length ≤ 4 ∧ ∀ d ∈ st', GD (sts ++ [[ln]]).length (D * 4) (M * 12) (G + 1) d
        have le : h.stands.length ≤ (sts ++ [[ln]]).length := by rw [List.length_append, tl]; omega
        rcases List.mem_append.mp hs with hs | hs
        · have := tg st' hs
          exact ⟨this.1, this.2.1, fun d hd => (this.2.2 d hd).wide le⟩
        · rw [List.mem_singleton.mp hs]
          exact ⟨by simp, by simp, fun d hd => by rw [List.mem_singleton.mp hd]; exact lone.wide le⟩
      · simp [lt8, l8, sz3]
        exact ⟨⟨h.share, h.pays, sts⟩, ⟨rfl, rfl, rfl⟩, fin2, v9.mono⟩
end
end WW
namespace Dh
open PySem PySem.Spec L2 PySem.W
theorem pn_vag8 {b : Nat} {v : RVag} (o : VagOk 8 4 4 b 70 v) (hb : b ≤ 300) : Pn 300 7 16000 (pVag v) := by
  have hn := o.nN
  have hp := o.pP
  refine (pn_three (w := 5300) (k := 6) (pn_q o.sb).mono (pn_nat (n := v.pays)).mono (pn_map (k := 5) (w := 660) (n := 8) (fun st hst => ?_) hn).mono).mono
  obtain ⟨_, s2, s3⟩ := o.each st hst
  refine (pn_map (k := 4) (w := 164) (n := 4) (fun d hd => ?_) s2).mono
  have dk := s3 d hd
  have dl := dk.ss.len
  refine (pn_two (k := 3) (w := 80) (pn_map (k := 2) (w := 9) (n := 8) (fun x hx => ?_) (by omega)).mono (pn_qs dk.gain (n := 4) (by rw [dk.len]; exact hp)).mono).mono
  have ox := dk.ss.each x hx
  have := ox.st
  exact (pn_three (k := 1) (w := 2) (pn_nat (n := x.st)).mono (pn_q ox.ql hb).mono (pn_q ox.qh hb).mono).mono
theorem rp_vag8 {b : Nat} {v : RVag} (o : VagOk 8 4 4 b 70 v) (hb : b ≤ 300) : fReprA [.d (pVag v)] = some (.d (.str (PyData.shown (pVag v)))) := fReprA_of ((pn_vag8 o hb).repr rfl rfl (by decide) (by decide) (by decide))
theorem inh_th {N D' P b g : Nat} {Df : Nat → Nat → Nat} {v : RVag} {h : RHouse} (ok : VagOk N D' P b 70 v) (i : InH Df v h) (hB : HouseB N D' P h g) (hN : N ≤ 8) (hD4 : D' ≤ 4) (hP : P ≤ 4) (hD : ∀ a c, 0 < Df a c ∧ Df a c ≤ 192) : TH 192 192 4 h where
  sb := hB.sb
  p4 := Nat.le_trans hB.pP hP
  n1 := hB.n1
  n8 := Nat.le_trans hB.nN hN
  each := fun st hst => by
    obtain ⟨t1, t2, t3⟩ := hB.each st hst
    refine ⟨t1, Nat.le_trans t2 hD4, fun d hd => ?_⟩
    have db := t3 d hd
    obtain ⟨a, ha, rfl⟩ := List.getElem_of_mem hst
    have e : h.stands[a] = stD h a := by unfold stD; rw [List.getD_eq_getElem?_getD, List.getElem?_eq_getElem ha]; rfl
    have ha' : a < v.stands.length := by rw [← i.len]; exact ha
    have sl := i.stl a ha'
    rw [e] at hd
    obtain ⟨c, hc, rfl⟩ := List.getElem_of_mem hd
    have e2 : (stD h a)[c] = deedAt h a c := by unfold deedAt; rw [List.getD_eq_getElem?_getD, List.getElem?_eq_getElem hc]; rfl
    have hc' : c < (stV v a).length := by rw [← sl]; exact hc
    have id := i.dd a c ha' hc'
    have dk := ok.dd ha' hc'
    obtain ⟨F, f, ec⟩ := id.ch
    refine ⟨⟨Df a c, Df a c, (hD a c).1, (hD a c).2, (hD a c).2, ⟨db.ch.asc, fun x hx => ⟨(db.ch.each x hx).1, (db.ch.each x hx).2.1, ?_⟩⟩⟩, fun z => ?_, ?_, ?_⟩
    · rw [e2, ec] at hx
      exact f.cd _ (frCh_mem hx).2.1
    · have one := db.ch.one
      rw [z] at one
      have : (0 : Rat) = 1 := one
      exact absurd this (by decide)
    · rw [db.len]
      exact Nat.le_trans hB.pP hP
    · rw [e2, id.gs]
      exact dk.gain
end Dh
namespace WW
open PySem PySem.Spec L2 PySem.W Dh
section
variable {v : RVag} {s : Sto} {m : Nat}
theorem w_house8 (ok : VagOk 8 4 4 10 70 v) (dn : Den8 v) (vs : Vs (m + 800) s) : WF f_law_inside [.s, .d (pVag v)] s fun r s' => ∃ h, r = .d (pHouse h) ∧ HouseB 8 4 4 h 70 ∧ TH 192 192 4 h ∧ Vs m s' := by
  have hd : ∀ a c, ∃ D, 0 < D ∧ D ≤ 48 ∧ (a < v.stands.length → c < (stV v a).length → DenOk D (dV v a c).ss) := fun a c => by
    by_cases ha : a < v.stands.length
    · by_cases hc : c < (stV v a).length
      · have m1 : stV v a ∈ v.stands := by unfold stV; exact getD_mem ha
        have m2 : dV v a c ∈ stV v a := by unfold dV; exact getD_mem hc
        obtain ⟨D, h1, h2, h3⟩ := dn _ m1 _ m2
        exact ⟨D, h1, h2, fun _ _ => h3⟩
      · exact ⟨1, by decide, by decide, fun _ z => absurd z hc⟩
    · exact ⟨1, by decide, by decide, fun z => absurd z ha⟩
  refine WF.use (w_inside8 (Df := fun a c => Classical.choose (hd a c)) ok (by decide) (by decide) (fun a c => ?_) (fun a c ha hc => ?_) vs) ?_
  · obtain ⟨h1, h2, _⟩ := Classical.choose_spec (hd a c)
    exact ⟨h1, Nat.lt_of_le_of_lt h2 (by decide)⟩
  · exact (Classical.choose_spec (hd a c)).2.2 ha hc
  rintro r s' ⟨h, rfl, h1, h2, h3, h4, v'⟩
  have i : InH (fun a c => Classical.choose (hd a c) * 4) v h := ⟨h1, h2, h3, fun a ha => (h4 a ha).1, fun a c ha hc => (h4 a ha).2 c hc⟩
  have bd : ∀ a c, 0 < Classical.choose (hd a c) * 4 ∧ Classical.choose (hd a c) * 4 ≤ 192 := fun a c => by
    obtain ⟨h1, h2, _⟩ := Classical.choose_spec (hd a c)
    omega
  have hB := i.house ok fun a c => ⟨(bd a c).1, Nat.lt_of_le_of_lt (bd a c).2 (by decide)⟩
  exact ⟨h, rfl, hB, inh_th ok i hB (by decide) (by decide) (by decide) bd, v'⟩
theorem e_is_vague {W : Nat} {x : PyData} (hx : szW 100 W x = true) (hW : W ≤ 1000) : f_is_vague [.d x] s = some (.d (.bool (vagB x)), s) := by
  refine WF.eq (WF.body rfl ?_)
  simp [m_is_vague]
  refine WF.of (e_is_vagA hx (by decide) hW) ?_
  simp
theorem e_vague_of {h : RHouse} (k : HouseB 8 4 4 h 70) : f_vague_of [.d (pHouse h)] s = some (.d (pVag (tiV h)), s) := by
  refine WF.eq (WF.body rfl ?_)
  simp [m_vague_of]
  refine WF.of (r := .d .none) (s' := s) ?_ ?_
  · refine WF.eq (WF.body rfl ?_)
    simp [m_check_house]
    refine WF.of (e_houseC k (by decide) (by decide) k.pP) ?_
    simp
  · simp
    refine WF.of (e_vague_by k (by decide) (by decide)) ?_
    simp
end
end WW
namespace Dh
open PySem PySem.Spec L2 PySem.W
theorem cut16 (xs : List PyData) : cutD xs none (some 16) = xs.take 16 := cut_to (k := 16)
end Dh
namespace WW
open PySem PySem.Spec L2 PySem.W Dh
theorem w_pot {ns : List Int} {l : Nat} (hl : l ≤ 100) {s : Sto} : WF f_law_pot [.d (.list (ns.map .int)), .d (.int (l : Int))] s fun r s' => s' = s ∧ ∃ a b : Int, r = .f [.int a, .int b, .int 0] ∧ 0 ≤ b ∧ b < 2147483543 := by
  have q : mulOk 911 (l : Int) = true := mulOk_of (a := 10) (b := 7) (by decide) (by omega) (by decide)
  have key : ∀ (x c A B C : Int), 0 ≤ x → x < 2147483543 → A.natAbs < 2 ^ 20 → B.natAbs < 2 ^ 20 → mulOk x A = true ∧ mulOk (c % 2147483489) B = true ∧ 0 ≤ (x * A + c % 2147483489 * B + C) % 2147483543 ∧ (x * A + c % 2147483489 * B + C) % 2147483543 < 2147483543 := fun x c A B C h0 h1 hA hB => by
    have r0 : 0 ≤ c % 2147483489 := Int.emod_nonneg _ (by decide)
    have r1 : c % 2147483489 < 2147483489 := Int.emod_lt_of_pos _ (by decide)
    exact ⟨mulOk_of (a := 31) (by omega) hA (by decide), mulOk_of (a := 31) (by omega) hB (by decide), Int.emod_nonneg _ (by decide), Int.emod_lt_of_pos _ (by decide)⟩
  refine WF.body rfl ?_
  simp [m_law_pot, List.replicate_succ, fMul_ok q, fSl, cut16]
  rw [← List.map_take]
  refine WFor_inv (fun z : Int => PyData.int z) (ns.take 16) (fun i ρ s' => s' = s ∧ ∃ y x3, ρ = [some (.d (.list (ns.map .int))), some (.d (.int (l : Int))), some (.d (.int y)), x3, none] ∧ 0 ≤ y ∧ y < 2147483543) ⟨rfl, 103588 + 911 * (l : Int), none, rfl, by omega, by omega⟩ ?_ ?_
  · rintro i z ρ s' hz ⟨rfl, y, x3, rfl, h0, h1⟩
    obtain ⟨k1, k2, k3, k4⟩ := key y z 50021 5 23 h0 h1 (by decide) (by decide)
    simp [gMod_pos, fMul_ok k1, fMul_ok k2]
    exact ⟨k3, k4⟩
  · rintro ρ s' ⟨rfl, y, x3, rfl, h0, h1⟩
    have gp : gPow 10 15 = some (.int (10 ^ (15 : Int).toNat)) := if_pos (by decide)
    generalize (10 : Int) ^ (15 : Int).toNat = T at gp
    have fin : ∀ o : Int, mulOk y 43 = true ∧ mulOk (o % 2147483489) 17011 = true ∧ 0 ≤ (y * 43 + o % 2147483489 * 17011 + 3) % 2147483543 ∧ (y * 43 + o % 2147483489 * 17011 + 3) % 2147483543 < 2147483543 := fun o => key y o 43 17011 3 h0 h1 (by decide) (by decide)
    by_cases h : l < ns.length
    · have e : atI (ns.map PyData.int) (l : Int) = some (.int ns[l]) := by
        rw [atI_ofNat (by simpa using h)]
        simp [h]
      obtain ⟨k1, k2, k3, k4⟩ := fin ns[l]
      simp [h, e, gMod_pos, fMul_ok k1, fMul_ok k2, gp, sz3]
      generalize (y * 43 + ns[l] % 2147483489 * 17011 + 3) % 2147483543 = b at *
      by_cases h3 : ns[l] < 0
      · simp [h3, sz3]; exact ⟨k3, k4⟩
      · by_cases h2 : T ≤ ns[l]
        · simp [gp, h3, h2, sz3]; exact ⟨k3, k4⟩
        · simp [gp, h3, h2, sz3]; exact ⟨k3, k4⟩
    · obtain ⟨k1, k2, k3, k4⟩ := fin 0
      simp at k3 k4
      simp [h, gMod_pos, fMul_ok k1, fMul_ok k2, gp, sz3]
      refine ⟨by decide, ?_⟩
      by_cases h2 : T ≤ 0
      · simp [h2, sz3]; exact ⟨k3, k4⟩
      · simp [h2, sz3]; exact ⟨k3, k4⟩
theorem w_right {s : Sto} (v : Vs 100000 s) : WF f_law_right [.s] s fun r _ => r = .d (.bool true) := by
  refine WF.body rfl ?_
  simp [m_law_right, List.replicate_succ, szle (show 8 ≤ 1000 by decide)]
  refine WF.use (w_vague8 (L := 8) (m := 90000) (by simp) (by simp) (fun x hx => ?_) (by decide) (by decide) v.mono) ?_
  · simp only [List.mem_cons, List.not_mem_nil, or_false] at hx
    rcases hx with rfl | rfl | rfl | rfl | rfl | rfl | rfl | rfl <;> first | exact ⟨1, rfl, by decide, by decide⟩ | exact ⟨2, rfl, by decide, by decide⟩ | exact ⟨3, rfl, by decide, by decide⟩ | exact ⟨4, rfl, by decide, by decide⟩ | exact ⟨8, rfl, by decide, by decide⟩
  rintro _ s1 ⟨w, rfl, ok, dn, v1⟩
  have sd := SD.vag ok (by decide) (by decide) (by decide) (by decide) (by decide)
  simp
  refine WF.use (w_house8 (m := 89000) ok dn v1.mono) ?_
  rintro _ s2 ⟨h, rfl, hB, hT, v2⟩
  have sh := hT.size (by decide) (by decide) (by decide)
  simp
  refine WF.use (w_oddA (m := 88000) v2.mono) ?_
  rintro _ s3 ⟨y2, rfl, b2, _, v3⟩
  simp
  refine WF.use (w_bent (K := 100) (W := 9) (m := 87000) (by decide) (by decide) (by decide) 7 (by decide) sd.2 sd.1 v3.mono) ?_
  rintro r3 s4 ⟨⟨y3, er3, b3, d3⟩, v4⟩
  have ed3 : toD r3 = some y3 := by
    rcases er3 with rfl | ⟨l, rfl, rfl⟩ <;> rfl
  simp [ed3, sz4, szle (show 4 ≤ 1000 by decide)]
  refine WF.use (w_bent (K := 100) (W := 9) (m := 86000) (by decide) (by decide) (by decide) 7 (by decide) sd.2 sd.1 v4.mono) ?_
  rintro r4 s5 ⟨⟨y4, er4, b4, d4⟩, v5⟩
  have ea4 : toArg r4 = some (.d y4) := by
    rcases er4 with rfl | ⟨l, rfl, rfl⟩ <;> rfl
  simp [ea4]
  refine WF.use (w_bent (K := 100) (W := 10) (m := 85000) (by decide) (by decide) (by decide) 10 (by decide) d4 b4 v5.mono) ?_
  rintro r5 s6 ⟨⟨y5, er5, b5, _⟩, v6⟩
  have ed5 : toD r5 = some y5 := by
    rcases er5 with rfl | ⟨l, rfl, rfl⟩ <;> rfl
  simp [ed5, szlt (show 4 ≤ 1000 by decide), frzs, frz1]
  have up : ∀ {x : PyData} {W : Nat}, szW 100 W x = true → W ≤ 12 → szW 100 12 x = true := fun h k => szW_mono (Nat.le_refl _) k _ h
  have hS : ∀ y ∈ [pVag w, pHouse h, y2, y3, y5], szW 100 12 y = true := fun y hy => by
    simp only [List.mem_cons, List.not_mem_nil, or_false] at hy
    rcases hy with rfl | rfl | rfl | rfl | rfl
    · exact up sd.1 (by decide)
    · exact up sh.1 (by decide)
    · exact up b2 (by decide)
    · exact up b3 (by decide)
    · exact up b5 (by decide)
  generalize [pVag w, pHouse h, y2, y3, y5] = SOME at *
  refine WFor_A (WFor_inv (fun y : PyData => y) SOME (fun i ρ s' => s' = s6 ∧ ∃ c4 : Option Cl, ρ = [some .s, some (.d (pVag w)), some (.d (pHouse h)), some (.d (.list SOME)), c4, none]) ⟨rfl, none, rfl⟩ ?_ ?_)
  · rintro i y ρ s' hy ⟨rfl, c4, rfl⟩
    have hym := hS y (List.mem_of_getElem? hy)
    simp
    refine WF.of (e_is_vague hym (by decide)) ?_
    simp
    refine WF.of (e_lbuiltV hym (by decide) (by decide)) ?_
    simp [shown_ne]
  rintro ρ s' ⟨rfl, c4, rfl⟩
  clear hS
  have hv : vagB (pVag w) = true := by
    have e1 := e_is_vagA (s := s') sd.1 (by decide) (by decide)
    rw [e_is_vague_by ok (by decide) (by decide) (by decide) (by decide)] at e1
    cases hb : vagB (pVag w) with
    | true => rfl
    | false => rw [hb] at e1; cases e1
  simp [perm]
  refine WF.of (e_is_vague sd.1 (by decide)) ?_
  have tt : fEq true (.d (.str (boolT true))) (.d (.str "True")) = some (.d (.bool false)) := fEq_strs
  rw [hv]
  simp [tt]
  refine WF.of (e_ltight hB (by decide) (by decide)) ?_
  have okt := tiV_ok hB
  have rt := rp_vag8 okt (by decide)
  simp
  refine WF.of (e_vague_of hB) ?_
  simp [rt, fEq_strs]
  refine WF.use (w_turned (m := 70000) hT (by decide) (by decide) (by decide) (by decide) (by decide) v6.mono) ?_
  rintro _ s7 ⟨h1, rfl, hT1, v7⟩
  have sh1 := hT1.size (by decide) (by decide) (by decide)
  simp
  refine WF.use (w_oddA (m := 69000) v7.mono) ?_
  rintro _ s8 ⟨y6, rfl, b6, _, v8⟩
  simp [sz4, szle (show 4 ≤ 1000 by decide)]
  refine WF.use (w_bent (K := 100) (W := 9) (m := 68000) (by decide) (by decide) (by decide) 7 (by decide) sh.2 sh.1 v8.mono) ?_
  rintro r7 s9 ⟨⟨y7, er7, b7, _⟩, v9⟩
  have ed7 : toD r7 = some y7 := by
    rcases er7 with rfl | ⟨l, rfl, rfl⟩ <;> rfl
  simp [ed7, szlt (show 4 ≤ 1000 by decide)]
  refine WF.use (w_turned (m := 67000) hT (by decide) (by decide) (by decide) (by decide) (by decide) v9.mono) ?_
  rintro _ s10 ⟨h2, rfl, hT2, v10⟩
  simp
  refine WF.use (w_turned (m := 66000) hT2 (by decide) (by decide) (by decide) (by decide) (by decide) v10.mono) ?_
  rintro _ s11 ⟨h3, rfl, hT3, v11⟩
  have sh3 := hT3.size (by decide) (by decide) (by decide)
  simp [szlt (show 5 ≤ 1000 by decide), frzs, frz1]
  have hS2 : ∀ y ∈ [pHouse h, pHouse h1, y6, pVag w, y7, pHouse h3], szW 100 12 y = true := fun y hy => by
    simp only [List.mem_cons, List.not_mem_nil, or_false] at hy
    rcases hy with rfl | rfl | rfl | rfl | rfl | rfl
    · exact up sh.1 (by decide)
    · exact up sh1.1 (by decide)
    · exact up b6 (by decide)
    · exact up sd.1 (by decide)
    · exact up b7 (by decide)
    · exact up sh3.1 (by decide)
  generalize [pHouse h, pHouse h1, y6, pVag w, y7, pHouse h3] = SOME2 at *
  refine WFor_A (WFor_inv (fun y : PyData => y) SOME2 (fun i ρ s' => s' = s11 ∧ ∃ c4 : Option Cl, ρ = [some .s, some (.d (pVag w)), some (.d (pHouse h)), some (.d (.list SOME2)), c4, some (.d (pVag (tiV h)))]) ⟨rfl, _, rfl⟩ ?_ ?_)
  · rintro i y ρ s' hy ⟨rfl, c4, rfl⟩
    have hym := hS2 y (List.mem_of_getElem? hy)
    obtain ⟨B1, f1, g1⟩ := fits_any ok hym (by decide) (by decide) (by decide) (by decide) (by decide) (by decide) fun s => e_check_vague ok (by decide) (by decide) (by decide) (by decide)
    obtain ⟨B2, f2, g2⟩ := fits_any okt hym (by decide) (by decide) (by decide) (by decide) (by decide) (by decide) fun s => e_check_vague okt (by decide) (by decide) (by decide) (by decide)
    simp
    refine WF.of (f1 _) ?_
    simp
    refine WF.of (g1 _) ?_
    simp [shown_ne, perm]
    refine WF.of (f2 _) ?_
    simp
    refine WF.of (g2 _) ?_
    simp [shown_ne]
  rintro ρ s' ⟨rfl, c5, rfl⟩
  simp
theorem plain (ns : List Int) (hn : ns.length ≤ 63) (hb : ∀ z ∈ ns, Builtin.Int.intBits z ≤ 1048576) : ∃ s', f_law [.d (.list (ns.map .int))] [] = some (.d (.bool true), s') := by
  refine ⟨[], WF.eq (WF.body rfl ?_)⟩
  obtain ⟨n, hn3, e⟩ : ∃ n : Nat, n ≤ 3 ∧ range1 [.d (.int (if (if (ns.length : Int) > 3 then (3 : Int) else (ns.length : Int)) > 1 then (if (ns.length : Int) > 3 then (3 : Int) else (ns.length : Int)) else 1))] = some ((List.range n).map fun i => PyData.int (i : Nat)) := by
    by_cases h : (ns.length : Int) > 3
    · exact ⟨3, by decide, by rw [if_pos h, if_pos (by decide)]; exact range1_nat (n := 3) (by decide)⟩
    · rw [if_neg h]
      by_cases h2 : (ns.length : Int) > 1
      · exact ⟨ns.length, by omega, by rw [if_pos h2]; exact range1_nat (n := ns.length) (by omega)⟩
      · exact ⟨1, by decide, by rw [if_neg h2]; exact range1_nat (n := 1) (by decide)⟩
  simp [m_law, fMin2, fMax2, List.replicate_succ]
  simp only [gt_iff_lt] at e
  rw [e, WO_some]
  refine WLc_map (fun i : Nat => PyData.int i) (fun _ => PyData.bool true) (List.range n) (fun i hi => ?_) ?_
  · rw [List.mem_range] at hi
    simp
    refine WF.use (w_pot (ns := ns) (by omega)) ?_
    rintro _ s' ⟨rfl, a, b, rfl, b0, b1⟩
    simp [callNK, stoOf, onlyD]
    refine WF.use (w_right (s := [a, b, 0]) ⟨a, b, 0, rfl, b0, b1, by decide, by decide⟩) ?_
    rintro _ s' rfl
    simp
  refine ⟨szle (by simp; omega), ?_⟩
  simp [fAll_true]
end WW
namespace WW
open PySem PySem.Spec L2 Dh
section
variable [LawT] {P : Program} {w : World} {K : PySem.W.Frag} {mg : Str → Option Value} {base : Heap} {ad : Nat → Addr} {fd : Nat → FuncData}
theorem sc_is_whole : FnScope n_is_whole p_is_whole (defScope s_is_whole) := ⟨rfl, rfl, rfl, by decide +kernel, rfl, by decide +kernel, by decide +kernel⟩
theorem bd_is_whole (T : Txt K mg ad fd) : Binds K (fd 0) p_is_whole [] := T.d_is_whole.binds (ps := p_is_whole) fun _ _ _ _ _ _ us hl => match us, hl with | [_], _ => rfl
theorem ok_is_whole (T : Txt K mg ad fd) (TL : TxtL K mg base fd) : FnG P w K mg base 1 (ad 0) (fd 0) p_is_whole (spOf K 1 f_is_whole) := (fnG_of (m := m_is_whole) T.d_is_whole sc_is_whole fun cdv A outer s H E hr hg =>
    (sl_one (ss_ret (se_and (se_isi (T := "int") (by decide) (se_var (i := 0)) T.b_isinstance T.b_int (by decide +kernel)) (se_one (se_not (se_isi (T := "bool") (by decide) (se_var (i := 0)) T.b_isinstance T.b_bool (by decide +kernel)))))))).imp fun _ _ _ _ => spOf_run'
theorem sc_is_between : FnScope n_is_between p_is_between (defScope s_is_between) := ⟨rfl, rfl, rfl, by decide +kernel, rfl, by decide +kernel, by decide +kernel⟩
theorem bd_is_between (T : Txt K mg ad fd) : Binds K (fd 1) p_is_between [] := T.d_is_between.binds (ps := p_is_between) fun _ _ _ _ _ _ us hl => match us, hl with | [_, _, _], _ => rfl
theorem ok_is_between (T : Txt K mg ad fd) (TL : TxtL K mg base fd) : FnG P w K mg base 2 (ad 1) (fd 1) p_is_between (spOf K 3 f_is_between) := (fnG_of (m := m_is_between) T.d_is_between sc_is_between fun cdv A outer s H E hr hg =>
    (sl_one (ss_ret (se_and (se_call (ok_is_whole T TL) (hr.mono (by omega)) hg T.m_is_whole T.d_is_whole.kp (bd_is_whole T) (sa_cons (se_var (i := 0)) sa_nil)) (se_one (se_lele (se_var (i := 1)) (se_var (i := 0)) (se_var (i := 2)))))))).imp fun _ _ _ _ => spOf_run'
theorem sc_is_tuple_of : FnScope n_is_tuple_of p_is_tuple_of (defScope s_is_tuple_of) := ⟨rfl, rfl, rfl, by decide +kernel, rfl, by decide +kernel, by decide +kernel⟩
theorem bd_is_tuple_of (T : Txt K mg ad fd) : Binds K (fd 2) p_is_tuple_of [] := T.d_is_tuple_of.binds (ps := p_is_tuple_of) fun _ _ _ _ _ _ us hl => match us, hl with | [_, _], _ => rfl
theorem ok_is_tuple_of (T : Txt K mg ad fd) (TL : TxtL K mg base fd) : FnG P w K mg base 1 (ad 2) (fd 2) p_is_tuple_of (spOf K 2 f_is_tuple_of) := (fnG_of (m := m_is_tuple_of) T.d_is_tuple_of sc_is_tuple_of fun cdv A outer s H E hr hg =>
    (sl_one (ss_ret (se_and (se_isi (T := "tuple") (by decide) (se_var (i := 0)) T.b_isinstance T.b_tuple (by decide +kernel)) (se_one (se_eq hr (se_len (sa_cons (se_var (i := 0)) sa_nil) T.b_len) (se_var (i := 1)))))))).imp fun _ _ _ _ => spOf_run'
theorem sc_is_ratio : FnScope n_is_ratio p_is_ratio (defScope s_is_ratio) := ⟨rfl, rfl, rfl, by decide +kernel, rfl, by decide +kernel, by decide +kernel⟩
theorem bd_is_ratio (T : Txt K mg ad fd) : Binds K (fd 3) p_is_ratio [] := T.d_is_ratio.binds (ps := p_is_ratio) fun _ _ _ _ _ _ us hl => match us, hl with | [_], _ => rfl
theorem ok_is_ratio (T : Txt K mg ad fd) (TL : TxtL K mg base fd) : FnG P w K mg base 2 (ad 3) (fd 3) p_is_ratio (spOf K 1 f_is_ratio) := (fnG_of (m := m_is_ratio) T.d_is_ratio sc_is_ratio fun cdv A outer s H E hr hg =>
    (sl_cons (ss_if (sb_w (sw_or (sb_not (sb_val (se_call (ok_is_tuple_of T TL) (hr.mono (by omega)) hg T.m_is_tuple_of T.d_is_tuple_of.kp (bd_is_tuple_of T) (sa_cons (se_var (i := 0)) (sa_cons se_int sa_nil))))) (sw_or (sb_not (sb_val (se_call (ok_is_whole T TL) (hr.mono (by omega)) hg T.m_is_whole T.d_is_whole.kp (bd_is_whole T) (sa_cons (se_ix (se_var (i := 0)) se_int) sa_nil)))) (sw_or1 (sb_not (sb_val (se_call (ok_is_whole T TL) (hr.mono (by omega)) hg T.m_is_whole T.d_is_whole.kp (bd_is_whole T) (sa_cons (se_ix (se_var (i := 0)) se_int) sa_nil))))))))
    (sl_one (ss_ret se_bl))
    sl_nil)
    (sl_one (ss_ret (se_and (se_gt (se_ix (se_var (i := 0)) se_int) se_int) (se_one (se_eq hr (se_gcd (sa_cons (se_ix (se_var (i := 0)) se_int) (sa_cons (se_ix (se_var (i := 0)) se_int) sa_nil)) T.b_gcd) se_int))))))).imp fun _ _ _ _ => spOf_run'
theorem sc_is_row : FnScope n_is_row p_is_row (defScope s_is_row) := ⟨rfl, rfl, rfl, by decide +kernel, rfl, by decide +kernel, by decide +kernel⟩
theorem bd_is_row (T : Txt K mg ad fd) : Binds K (fd 4) p_is_row [] := T.d_is_row.binds (ps := p_is_row) fun _ _ _ _ _ _ us hl => match us, hl with | [_, _], _ => rfl
theorem ok_is_row (T : Txt K mg ad fd) (TL : TxtL K mg base fd) : FnG P w K mg base 3 (ad 4) (fd 4) p_is_row (spOf K 2 f_is_row) := (fnG_of (m := m_is_row) T.d_is_row sc_is_row fun cdv A outer s H E hr hg =>
    (sl_one (ss_ret (se_and (se_call (ok_is_tuple_of T TL) (hr.mono (by omega)) hg T.m_is_tuple_of T.d_is_tuple_of.kp (bd_is_tuple_of T) (sa_cons (se_var (i := 0)) (sa_cons (se_var (i := 1)) sa_nil))) (se_one (se_all rfl (sa_cons (se_lc (own := [("each", 2)]) (is := [2]) rfl sc_is_row.nd (si_seq (se_var (i := 0))) (blkOk_by (own := [("each", 2)]) (N := n_is_row) (sc := defScope s_is_row) (by decide +kernel)) (by decide) (fun _ _ _ _ _ => (sg_name (i := 2) sc_is_row.nd)) (fun _ _ _ _ _ => sts_nil) (fun _ _ _ _ _ => (se_call (ok_is_ratio T TL) (hr.mono (by omega)) hg T.m_is_ratio T.d_is_ratio.kp (bd_is_ratio T) (sa_cons (se_var (i := 2)) sa_nil)))) sa_nil) T.b_all)))))).imp fun _ _ _ _ => spOf_run'
theorem sc_ratio : FnScope n_ratio p_ratio (defScope s_ratio) := ⟨rfl, rfl, rfl, by decide +kernel, rfl, by decide +kernel, by decide +kernel⟩
theorem bd_ratio (T : Txt K mg ad fd) : Binds K (fd 5) p_ratio [] := T.d_ratio.binds (ps := p_ratio) fun _ _ _ _ _ _ us hl => match us, hl with | [_, _], _ => rfl
theorem ok_ratio (T : Txt K mg ad fd) (TL : TxtL K mg base fd) : FnG P w K mg base 1 (ad 5) (fd 5) p_ratio (spOf K 2 f_ratio) := (fnG_of (m := m_ratio) T.d_ratio sc_ratio fun cdv A outer s H E hr hg =>
    (sl_cons (ss_set (i := 2) sc_ratio.nd rfl (.inl rfl) (se_if (sb_gt (se_var (i := 1)) se_int) (se_gcd (sa_cons (se_var (i := 0)) (sa_cons (se_var (i := 1)) sa_nil)) T.b_gcd) (se_neg (se_gcd (sa_cons (se_var (i := 0)) (sa_cons (se_var (i := 1)) sa_nil)) T.b_gcd))))
    (sl_one (ss_ret (se_tup (sa_cons (se_fdiv (se_var (i := 0)) (se_var (i := 2))) (sa_cons (se_fdiv (se_var (i := 1)) (se_var (i := 2))) sa_nil))))))).imp fun _ _ _ _ => spOf_run'
theorem sc_plus : FnScope n_plus p_plus (defScope s_plus) := ⟨rfl, rfl, rfl, by decide +kernel, rfl, by decide +kernel, by decide +kernel⟩
theorem bd_plus (T : Txt K mg ad fd) : Binds K (fd 6) p_plus [] := T.d_plus.binds (ps := p_plus) fun _ _ _ _ _ _ us hl => match us, hl with | [_, _], _ => rfl
theorem ok_plus (T : Txt K mg ad fd) (TL : TxtL K mg base fd) : FnG P w K mg base 2 (ad 6) (fd 6) p_plus (spOf K 2 f_plus) := (fnG_of (m := m_plus) T.d_plus sc_plus fun cdv A outer s H E hr hg =>
    (sl_one (ss_ret (se_call (ok_ratio T TL) (hr.mono (by omega)) hg T.m_ratio T.d_ratio.kp (bd_ratio T) (sa_cons (se_add (se_mul (se_ix (se_var (i := 0)) se_int) (se_ix (se_var (i := 1)) se_int)) (se_mul (se_ix (se_var (i := 1)) se_int) (se_ix (se_var (i := 0)) se_int))) (sa_cons (se_mul (se_ix (se_var (i := 0)) se_int) (se_ix (se_var (i := 1)) se_int)) sa_nil)))))).imp fun _ _ _ _ => spOf_run'
theorem sc_is_less : FnScope n_is_less p_is_less (defScope s_is_less) := ⟨rfl, rfl, rfl, by decide +kernel, rfl, by decide +kernel, by decide +kernel⟩
theorem bd_is_less (T : Txt K mg ad fd) : Binds K (fd 7) p_is_less [] := T.d_is_less.binds (ps := p_is_less) fun _ _ _ _ _ _ us hl => match us, hl with | [_, _], _ => rfl
theorem ok_is_less (T : Txt K mg ad fd) (TL : TxtL K mg base fd) : FnG P w K mg base 1 (ad 7) (fd 7) p_is_less (spOf K 2 f_is_less) := (fnG_of (m := m_is_less) T.d_is_less sc_is_less fun cdv A outer s H E hr hg =>
    (sl_one (ss_ret (se_lt (se_mul (se_ix (se_var (i := 0)) se_int) (se_ix (se_var (i := 1)) se_int)) (se_mul (se_ix (se_var (i := 1)) se_int) (se_ix (se_var (i := 0)) se_int)))))).imp fun _ _ _ _ => spOf_run'
theorem sc_total : FnScope n_total p_total (defScope s_total) := ⟨rfl, rfl, rfl, by decide +kernel, rfl, by decide +kernel, by decide +kernel⟩
theorem bd_total (T : Txt K mg ad fd) : Binds K (fd 8) p_total [] := T.d_total.binds (ps := p_total) fun _ _ _ _ _ _ us hl => match us, hl with | [_], _ => rfl
theorem ok_total (T : Txt K mg ad fd) (TL : TxtL K mg base fd) : FnG P w K mg base 3 (ad 8) (fd 8) p_total (spOf K 1 f_total) := (fnG_of (m := m_total) T.d_total sc_total fun cdv A outer s H E hr hg =>
    (sl_cons (ss_set (i := 1) sc_total.nd rfl (.inl rfl) (se_glob T.g_ZERO (by rfl)))
    (sl_cons (ss_for PassesOwn.never rfl (si_seq (se_var (i := 0))) (sg_name (i := 2) sc_total.nd)
    (sl_one (ss_set (i := 1) sc_total.nd rfl (.inl rfl) (se_call (ok_plus T TL) (hr.mono (by omega)) hg T.m_plus T.d_plus.kp (bd_plus T) (sa_cons (se_var (i := 1)) (sa_cons (se_var (i := 2)) sa_nil))))))
    (sl_one (ss_retV (i := 1)))))).imp fun _ _ _ _ => spOf_run'
theorem sc_are_chances : FnScope n_are_chances p_are_chances (defScope s_are_chances) := ⟨rfl, rfl, rfl, by decide +kernel, rfl, by decide +kernel, by decide +kernel⟩
theorem bd_are_chances (T : Txt K mg ad fd) : Binds K (fd 9) p_are_chances [] := T.d_are_chances.binds (ps := p_are_chances) fun _ _ _ _ _ _ us hl => match us, hl with | [_, _], _ => rfl
theorem ok_are_chances (T : Txt K mg ad fd) (TL : TxtL K mg base fd) : FnG P w K mg base 4 (ad 9) (fd 9) p_are_chances (spOf K 2 f_are_chances) := (fnG_of (m := m_are_chances) T.d_are_chances sc_are_chances fun cdv A outer s H E hr hg =>
    (sl_cons (ss_if (sb_w (sw_or (sb_not (sb_val (se_isi (T := "tuple") (by decide) (se_var (i := 0)) T.b_isinstance T.b_tuple (by decide +kernel)))) (sw_or1 (sb_not (sb_val (se_all rfl (sa_cons (se_lc (own := [("each", 3)]) (is := [3]) rfl sc_are_chances.nd (si_seq (se_var (i := 0))) (blkOk_by (own := [("each", 3)]) (N := n_are_chances) (sc := defScope s_are_chances) (by decide +kernel)) (by decide) (fun _ _ _ _ _ => (sg_name (i := 3) sc_are_chances.nd)) (fun _ _ _ _ _ => sts_nil) (fun _ _ _ _ _ => (se_call (ok_is_tuple_of T TL) (hr.mono (by omega)) hg T.m_is_tuple_of T.d_is_tuple_of.kp (bd_is_tuple_of T) (sa_cons (se_var (i := 3)) (sa_cons se_int sa_nil))))) sa_nil) T.b_all))))))
    (sl_one (ss_ret se_bl))
    sl_nil)
    (sl_cons (ss_if (sb_not (sb_val (se_all rfl (sa_cons (se_lc (own := [("stand", 4), ("chance", 5)]) (is := [4, 5]) rfl sc_are_chances.nd (si_seq (se_var (i := 0))) (blkOk_by (own := [("stand", 4), ("chance", 5)]) (N := n_are_chances) (sc := defScope s_are_chances) (by decide +kernel)) (by decide) (fun _ _ _ _ _ => (sg_tup rfl (sgs_cons (sg_name (i := 4) sc_are_chances.nd) (sgs_cons (sg_name (i := 5) sc_are_chances.nd) sgs_nil)))) (fun _ _ _ _ _ => sts_nil) (fun _ _ _ _ _ => (se_and (se_call (ok_is_between T TL) (hr.mono (by omega)) hg T.m_is_between T.d_is_between.kp (bd_is_between T) (sa_cons (se_var (i := 4)) (sa_cons se_int (sa_cons (se_sub (se_var (i := 1)) se_int) sa_nil)))) (se_and (se_call (ok_is_ratio T TL) (hr.mono (by omega)) hg T.m_is_ratio T.d_is_ratio.kp (bd_is_ratio T) (sa_cons (se_var (i := 5)) sa_nil)) (se_one (se_gt (se_ix (se_var (i := 5)) se_int) se_int)))))) sa_nil) T.b_all)))
    (sl_one (ss_ret se_bl))
    sl_nil)
    (sl_cons (ss_setLc (i := 2) (own := [("stand", 4), ("_", 6)]) (is := [4, 6]) rfl sc_are_chances.nd rfl rfl (sw_true rfl rfl rfl (by decide +kernel)) (si_seq (se_var (i := 0))) (blkOk_by (own := [("stand", 4), ("_", 6)]) (N := n_are_chances) (sc := defScope s_are_chances) (by decide +kernel)) (by decide) (fun _ _ _ _ _ => (sg_tup rfl (sgs_cons (sg_name (i := 4) sc_are_chances.nd) (sgs_cons (sg_name (i := 6) sc_are_chances.nd) sgs_nil)))) (fun _ _ _ _ _ => sts_nil) (fun _ _ _ _ _ => (se_var (i := 4))))
    (sl_one (ss_frz [2] (ss_ret (se_and (se_all rfl (sa_cons (se_lc (own := [("one", 7), ("two", 8)]) (is := [7, 8]) rfl sc_are_chances.nd (si_z2 (sa_cons (se_var (i := 2)) (sa_cons (se_sl (se_var (i := 2)) (so_some se_int) so_none) sa_nil)) T.b_zip) (blkOk_by (own := [("one", 7), ("two", 8)]) (N := n_are_chances) (sc := defScope s_are_chances) (by decide +kernel)) (by decide) (fun _ _ _ _ _ => (sg_tup rfl (sgs_cons (sg_name (i := 7) sc_are_chances.nd) (sgs_cons (sg_name (i := 8) sc_are_chances.nd) sgs_nil)))) (fun _ _ _ _ _ => sts_nil) (fun _ _ _ _ _ => (se_lt (se_var (i := 7)) (se_var (i := 8))))) sa_nil) T.b_all) (se_one (se_eq hr (se_call (ok_total T TL) (hr.mono (by omega)) hg T.m_total T.d_total.kp (bd_total T) (sa_cons (se_lc (own := [("_", 6), ("chance", 5)]) (is := [6, 5]) rfl sc_are_chances.nd (si_seq (se_var (i := 0))) (blkOk_by (own := [("_", 6), ("chance", 5)]) (N := n_are_chances) (sc := defScope s_are_chances) (by decide +kernel)) (by decide) (fun _ _ _ _ _ => (sg_tup rfl (sgs_cons (sg_name (i := 6) sc_are_chances.nd) (sgs_cons (sg_name (i := 5) sc_are_chances.nd) sgs_nil)))) (fun _ _ _ _ _ => sts_nil) (fun _ _ _ _ _ => (se_var (i := 5)))) sa_nil)) (se_glob T.g_ONE (by rfl)))))))))))).imp fun _ _ _ _ => spOf_run'
theorem sc_is_deed : FnScope n_is_deed p_is_deed (defScope s_is_deed) := ⟨rfl, rfl, rfl, by decide +kernel, rfl, by decide +kernel, by decide +kernel⟩
theorem bd_is_deed (T : Txt K mg ad fd) : Binds K (fd 10) p_is_deed [] := T.d_is_deed.binds (ps := p_is_deed) fun _ _ _ _ _ _ us hl => match us, hl with | [_, _, _], _ => rfl
theorem ok_is_deed (T : Txt K mg ad fd) (TL : TxtL K mg base fd) : FnG P w K mg base 5 (ad 10) (fd 10) p_is_deed (spOf K 3 f_is_deed) := (fnG_of (m := m_is_deed) T.d_is_deed sc_is_deed fun cdv A outer s H E hr hg =>
    (sl_one (ss_ret (se_and (se_call (ok_is_tuple_of T TL) (hr.mono (by omega)) hg T.m_is_tuple_of T.d_is_tuple_of.kp (bd_is_tuple_of T) (sa_cons (se_var (i := 0)) (sa_cons se_int sa_nil))) (se_and (se_call (ok_are_chances T TL) (hr.mono (by omega)) hg T.m_are_chances T.d_are_chances.kp (bd_are_chances T) (sa_cons (se_ix (se_var (i := 0)) se_int) (sa_cons (se_var (i := 2)) sa_nil))) (se_one (se_call (ok_is_row T TL) (hr.mono (by omega)) hg T.m_is_row T.d_is_row.kp (bd_is_row T) (sa_cons (se_ix (se_var (i := 0)) se_int) (sa_cons (se_var (i := 1)) sa_nil))))))))).imp fun _ _ _ _ => spOf_run'
theorem sc_is_stand : FnScope n_is_stand p_is_stand (defScope s_is_stand) := ⟨rfl, rfl, rfl, by decide +kernel, rfl, by decide +kernel, by decide +kernel⟩
theorem bd_is_stand (T : Txt K mg ad fd) : Binds K (fd 11) p_is_stand [] := T.d_is_stand.binds (ps := p_is_stand) fun _ _ _ _ _ _ us hl => match us, hl with | [_, _, _], _ => rfl
theorem ok_is_stand (T : Txt K mg ad fd) (TL : TxtL K mg base fd) : FnG P w K mg base 6 (ad 11) (fd 11) p_is_stand (spOf K 3 f_is_stand) := (fnG_of (m := m_is_stand) T.d_is_stand sc_is_stand fun cdv A outer s H E hr hg =>
    (sl_cons (ss_if (sb_w (sw_or (sb_not (sb_val (se_isi (T := "tuple") (by decide) (se_var (i := 0)) T.b_isinstance T.b_tuple (by decide +kernel)))) (sw_or1 (sb_not (sb_val (se_call (ok_is_between T TL) (hr.mono (by omega)) hg T.m_is_between T.d_is_between.kp (bd_is_between T) (sa_cons (se_len (sa_cons (se_var (i := 0)) sa_nil) T.b_len) (sa_cons se_int (sa_cons (se_glob T.g_MOST_DEEDS (by rfl)) sa_nil)))))))))
    (sl_one (ss_ret se_bl))
    sl_nil)
    (sl_one (ss_ret (se_all rfl (sa_cons (se_lc (own := [("each", 3)]) (is := [3]) rfl sc_is_stand.nd (si_seq (se_var (i := 0))) (blkOk_by (own := [("each", 3)]) (N := n_is_stand) (sc := defScope s_is_stand) (by decide +kernel)) (by decide) (fun _ _ _ _ _ => (sg_name (i := 3) sc_is_stand.nd)) (fun _ _ _ _ _ => sts_nil) (fun _ _ _ _ _ => (se_call (ok_is_deed T TL) (hr.mono (by omega)) hg T.m_is_deed T.d_is_deed.kp (bd_is_deed T) (sa_cons (se_var (i := 3)) (sa_cons (se_var (i := 1)) (sa_cons (se_var (i := 2)) sa_nil)))))) sa_nil) T.b_all))))).imp fun _ _ _ _ => spOf_run'
theorem sc_is_share : FnScope n_is_share p_is_share (defScope s_is_share) := ⟨rfl, rfl, rfl, by decide +kernel, rfl, by decide +kernel, by decide +kernel⟩
theorem bd_is_share (T : Txt K mg ad fd) : Binds K (fd 12) p_is_share [] := T.d_is_share.binds (ps := p_is_share) fun _ _ _ _ _ _ us hl => match us, hl with | [_], _ => rfl
theorem ok_is_share (T : Txt K mg ad fd) (TL : TxtL K mg base fd) : FnG P w K mg base 3 (ad 12) (fd 12) p_is_share (spOf K 1 f_is_share) := (fnG_of (m := m_is_share) T.d_is_share sc_is_share fun cdv A outer s H E hr hg =>
    (sl_one (ss_ret (se_and (se_call (ok_is_ratio T TL) (hr.mono (by omega)) hg T.m_is_ratio T.d_is_ratio.kp (bd_is_ratio T) (sa_cons (se_var (i := 0)) sa_nil)) (se_one (se_lelt se_int (se_ix (se_var (i := 0)) se_int) (se_ix (se_var (i := 0)) se_int))))))).imp fun _ _ _ _ => spOf_run'
theorem sc_is_house_by : FnScope n_is_house_by p_is_house_by (defScope s_is_house_by) := ⟨rfl, rfl, rfl, by decide +kernel, rfl, by decide +kernel, by decide +kernel⟩
theorem bd_is_house_by (T : Txt K mg ad fd) : Binds K (fd 13) p_is_house_by [] := T.d_is_house_by.binds (ps := p_is_house_by) fun _ _ _ _ _ _ us hl => match us, hl with | [_], _ => rfl
theorem ok_is_house_by (T : Txt K mg ad fd) (TL : TxtL K mg base fd) : FnG P w K mg base 7 (ad 13) (fd 13) p_is_house_by (spOf K 1 f_is_house_by) := (fnG_of (m := m_is_house_by) T.d_is_house_by sc_is_house_by fun cdv A outer s H E hr hg =>
    (sl_cons (ss_if (sb_w (sw_or (sb_not (sb_val (se_call (ok_is_tuple_of T TL) (hr.mono (by omega)) hg T.m_is_tuple_of T.d_is_tuple_of.kp (bd_is_tuple_of T) (sa_cons (se_var (i := 0)) (sa_cons se_int sa_nil))))) (sw_or (sb_not (sb_val (se_call (ok_is_share T TL) (hr.mono (by omega)) hg T.m_is_share T.d_is_share.kp (bd_is_share T) (sa_cons (se_ix (se_var (i := 0)) se_int) sa_nil)))) (sw_or1 (sb_not (sb_val (se_call (ok_is_between T TL) (hr.mono (by omega)) hg T.m_is_between T.d_is_between.kp (bd_is_between T) (sa_cons (se_ix (se_var (i := 0)) se_int) (sa_cons se_int (sa_cons (se_glob T.g_MOST_PAYS (by rfl)) sa_nil))))))))))
    (sl_one (ss_ret se_bl))
    sl_nil)
    (sl_cons (ss_set (i := 1) sc_is_house_by.nd rfl (.inr rfl) (se_ix (se_var (i := 0)) se_int))
    (sl_cons (ss_if (sb_w (sw_or (sb_not (sb_val (se_isi (T := "tuple") (by decide) (se_var (i := 1)) T.b_isinstance T.b_tuple (by decide +kernel)))) (sw_or1 (sb_not (sb_val (se_call (ok_is_between T TL) (hr.mono (by omega)) hg T.m_is_between T.d_is_between.kp (bd_is_between T) (sa_cons (se_len (sa_cons (se_var (i := 1)) sa_nil) T.b_len) (sa_cons se_int (sa_cons (se_glob T.g_MOST_STANDS (by rfl)) sa_nil)))))))))
    (sl_one (ss_ret se_bl))
    sl_nil)
    (sl_one (ss_ret (se_all rfl (sa_cons (se_lc (own := [("each", 2)]) (is := [2]) rfl sc_is_house_by.nd (si_seq (se_var (i := 1))) (blkOk_by (own := [("each", 2)]) (N := n_is_house_by) (sc := defScope s_is_house_by) (by decide +kernel)) (by decide) (fun _ _ _ _ _ => (sg_name (i := 2) sc_is_house_by.nd)) (fun _ _ _ _ _ => sts_nil) (fun _ _ _ _ _ => (se_call (ok_is_stand T TL) (hr.mono (by omega)) hg T.m_is_stand T.d_is_stand.kp (bd_is_stand T) (sa_cons (se_var (i := 2)) (sa_cons (se_ix (se_var (i := 0)) se_int) (sa_cons (se_len (sa_cons (se_var (i := 1)) sa_nil) T.b_len) sa_nil)))))) sa_nil) T.b_all))))))).imp fun _ _ _ _ => spOf_run'
theorem sc_check_house : FnScope n_check_house p_check_house (defScope s_check_house) := ⟨rfl, rfl, rfl, by decide +kernel, rfl, by decide +kernel, by decide +kernel⟩
theorem bd_check_house (T : Txt K mg ad fd) : Binds K (fd 14) p_check_house [] := T.d_check_house.binds (ps := p_check_house) fun _ _ _ _ _ _ us hl => match us, hl with | [_], _ => rfl
theorem ok_check_house (T : Txt K mg ad fd) (TL : TxtL K mg base fd) : FnG P w K mg base 8 (ad 14) (fd 14) p_check_house (spOf K 1 f_check_house) := (fnG_of (m := m_check_house) T.d_check_house sc_check_house fun cdv A outer s H E hr hg =>
    (sl_one (ss_if (sb_not (sb_val (se_call (ok_is_house_by T TL) (hr.mono (by omega)) hg T.m_is_house_by T.d_is_house_by.kp (bd_is_house_by T) (sa_cons (se_var (i := 0)) sa_nil))))
    (sl_one ss_never)
    sl_nil))).imp fun _ _ _ _ => spOf_run'
theorem sc_is_end : FnScope n_is_end p_is_end (defScope s_is_end) := ⟨rfl, rfl, rfl, by decide +kernel, rfl, by decide +kernel, by decide +kernel⟩
theorem bd_is_end (T : Txt K mg ad fd) : Binds K (fd 15) p_is_end [] := T.d_is_end.binds (ps := p_is_end) fun _ _ _ _ _ _ us hl => match us, hl with | [_], _ => rfl
theorem ok_is_end (T : Txt K mg ad fd) (TL : TxtL K mg base fd) : FnG P w K mg base 3 (ad 15) (fd 15) p_is_end (spOf K 1 f_is_end) := (fnG_of (m := m_is_end) T.d_is_end sc_is_end fun cdv A outer s H E hr hg =>
    (sl_one (ss_ret (se_and (se_call (ok_is_ratio T TL) (hr.mono (by omega)) hg T.m_is_ratio T.d_is_ratio.kp (bd_is_ratio T) (sa_cons (se_var (i := 0)) sa_nil)) (se_one (se_lele se_int (se_ix (se_var (i := 0)) se_int) (se_ix (se_var (i := 0)) se_int))))))).imp fun _ _ _ _ => spOf_run'
end
end WW
namespace WW
open PySem PySem.Spec L2 Dh
section
variable [LawT] {P : Program} {w : World} {K : PySem.W.Frag} {mg : Str → Option Value} {base : Heap} {ad : Nat → Addr} {fd : Nat → FuncData}
theorem sc_is_stretch : FnScope n_is_stretch p_is_stretch (defScope s_is_stretch) := ⟨rfl, rfl, rfl, by decide +kernel, rfl, by decide +kernel, by decide +kernel⟩
theorem bd_is_stretch (T : Txt K mg ad fd) : Binds K (fd 16) p_is_stretch [] := T.d_is_stretch.binds (ps := p_is_stretch) fun _ _ _ _ _ _ us hl => match us, hl with | [_, _], _ => rfl
theorem ok_is_stretch (T : Txt K mg ad fd) (TL : TxtL K mg base fd) : FnG P w K mg base 4 (ad 16) (fd 16) p_is_stretch (spOf K 2 f_is_stretch) := (fnG_of (m := m_is_stretch) T.d_is_stretch sc_is_stretch fun cdv A outer s H E hr hg =>
    (sl_cons (ss_if (sb_w (sw_or (sb_not (sb_val (se_call (ok_is_tuple_of T TL) (hr.mono (by omega)) hg T.m_is_tuple_of T.d_is_tuple_of.kp (bd_is_tuple_of T) (sa_cons (se_var (i := 0)) (sa_cons se_int sa_nil))))) (sw_or1 (sb_not (sb_val (se_call (ok_is_between T TL) (hr.mono (by omega)) hg T.m_is_between T.d_is_between.kp (bd_is_between T) (sa_cons (se_ix (se_var (i := 0)) se_int) (sa_cons se_int (sa_cons (se_sub (se_var (i := 1)) se_int) sa_nil)))))))))
    (sl_one (ss_ret se_bl))
    sl_nil)
    (sl_one (ss_ret (se_and (se_call (ok_is_end T TL) (hr.mono (by omega)) hg T.m_is_end T.d_is_end.kp (bd_is_end T) (sa_cons (se_ix (se_var (i := 0)) se_int) sa_nil)) (se_and (se_call (ok_is_end T TL) (hr.mono (by omega)) hg T.m_is_end T.d_is_end.kp (bd_is_end T) (sa_cons (se_ix (se_var (i := 0)) se_int) sa_nil)) (se_one (se_not (se_call (ok_is_less T TL) (hr.mono (by omega)) hg T.m_is_less T.d_is_less.kp (bd_is_less T) (sa_cons (se_ix (se_var (i := 0)) se_int) (sa_cons (se_ix (se_var (i := 0)) se_int) sa_nil))))))))))).imp fun _ _ _ _ => spOf_run'
theorem sc_are_stretches : FnScope n_are_stretches p_are_stretches (defScope s_are_stretches) := ⟨rfl, rfl, rfl, by decide +kernel, rfl, by decide +kernel, by decide +kernel⟩
theorem bd_are_stretches (T : Txt K mg ad fd) : Binds K (fd 17) p_are_stretches [] := T.d_are_stretches.binds (ps := p_are_stretches) fun _ _ _ _ _ _ us hl => match us, hl with | [_, _], _ => rfl
theorem ok_are_stretches (T : Txt K mg ad fd) (TL : TxtL K mg base fd) : FnG P w K mg base 5 (ad 17) (fd 17) p_are_stretches (spOf K 2 f_are_stretches) := (fnG_of (m := m_are_stretches) T.d_are_stretches sc_are_stretches fun cdv A outer s H E hr hg =>
    (sl_cons (ss_if (sb_w (sw_or (sb_not (sb_val (se_isi (T := "tuple") (by decide) (se_var (i := 0)) T.b_isinstance T.b_tuple (by decide +kernel)))) (sw_or1 (sb_not (sb_val (se_all rfl (sa_cons (se_lc (own := [("each", 5)]) (is := [5]) rfl sc_are_stretches.nd (si_seq (se_var (i := 0))) (blkOk_by (own := [("each", 5)]) (N := n_are_stretches) (sc := defScope s_are_stretches) (by decide +kernel)) (by decide) (fun _ _ _ _ _ => (sg_name (i := 5) sc_are_stretches.nd)) (fun _ _ _ _ _ => sts_nil) (fun _ _ _ _ _ => (se_call (ok_is_stretch T TL) (hr.mono (by omega)) hg T.m_is_stretch T.d_is_stretch.kp (bd_is_stretch T) (sa_cons (se_var (i := 5)) (sa_cons (se_var (i := 1)) sa_nil))))) sa_nil) T.b_all))))))
    (sl_one (ss_ret se_bl))
    sl_nil)
    (sl_cons (ss_setLc (i := 2) (own := [("stand", 6), ("_", 7)]) (is := [6, 7, 7]) rfl sc_are_stretches.nd rfl rfl (sw_true rfl rfl rfl (by decide +kernel)) (si_seq (se_var (i := 0))) (blkOk_by (own := [("stand", 6), ("_", 7)]) (N := n_are_stretches) (sc := defScope s_are_stretches) (by decide +kernel)) (by decide) (fun _ _ _ _ _ => (sg_tup rfl (sgs_cons (sg_name (i := 6) sc_are_stretches.nd) (sgs_cons (sg_name (i := 7) sc_are_stretches.nd) (sgs_cons (sg_name (i := 7) sc_are_stretches.nd) sgs_nil))))) (fun _ _ _ _ _ => sts_nil) (fun _ _ _ _ _ => (se_var (i := 6))))
    (sl_cons (ss_frz [2] (ss_if (sb_not (sb_val (se_all rfl (sa_cons (se_lc (own := [("one", 8), ("two", 9)]) (is := [8, 9]) rfl sc_are_stretches.nd (si_z2 (sa_cons (se_var (i := 2)) (sa_cons (se_sl (se_var (i := 2)) (so_some se_int) so_none) sa_nil)) T.b_zip) (blkOk_by (own := [("one", 8), ("two", 9)]) (N := n_are_stretches) (sc := defScope s_are_stretches) (by decide +kernel)) (by decide) (fun _ _ _ _ _ => (sg_tup rfl (sgs_cons (sg_name (i := 8) sc_are_stretches.nd) (sgs_cons (sg_name (i := 9) sc_are_stretches.nd) sgs_nil)))) (fun _ _ _ _ _ => sts_nil) (fun _ _ _ _ _ => (se_lt (se_var (i := 8)) (se_var (i := 9))))) sa_nil) T.b_all)))
    (sl_one (ss_ret se_bl))
    sl_nil))
    (sl_cons (ss_par (i := 3) (j := 4) rfl sc_are_stretches.nd (sa_cons (se_call (ok_total T TL) (hr.mono (by omega)) hg T.m_total T.d_total.kp (bd_total T) (sa_cons (se_lc (own := [("each", 5)]) (is := [5]) rfl sc_are_stretches.nd (si_seq (se_var (i := 0))) (blkOk_by (own := [("each", 5)]) (N := n_are_stretches) (sc := defScope s_are_stretches) (by decide +kernel)) (by decide) (fun _ _ _ _ _ => (sg_name (i := 5) sc_are_stretches.nd)) (fun _ _ _ _ _ => sts_nil) (fun _ _ _ _ _ => (se_ix (se_var (i := 5)) se_int))) sa_nil)) (sa_cons (se_call (ok_total T TL) (hr.mono (by omega)) hg T.m_total T.d_total.kp (bd_total T) (sa_cons (se_lc (own := [("each", 5)]) (is := [5]) rfl sc_are_stretches.nd (si_seq (se_var (i := 0))) (blkOk_by (own := [("each", 5)]) (N := n_are_stretches) (sc := defScope s_are_stretches) (by decide +kernel)) (by decide) (fun _ _ _ _ _ => (sg_name (i := 5) sc_are_stretches.nd)) (fun _ _ _ _ _ => sts_nil) (fun _ _ _ _ _ => (se_ix (se_var (i := 5)) se_int))) sa_nil)) sa_nil)))
    (sl_one (ss_ret (se_and (se_not (se_call (ok_is_less T TL) (hr.mono (by omega)) hg T.m_is_less T.d_is_less.kp (bd_is_less T) (sa_cons (se_glob T.g_ONE (by rfl)) (sa_cons (se_var (i := 3)) sa_nil)))) (se_one (se_not (se_call (ok_is_less T TL) (hr.mono (by omega)) hg T.m_is_less T.d_is_less.kp (bd_is_less T) (sa_cons (se_var (i := 4)) (sa_cons (se_glob T.g_ONE (by rfl)) sa_nil))))))))))))).imp fun _ _ _ _ => spOf_run'
theorem sc_is_vague_deed : FnScope n_is_vague_deed p_is_vague_deed (defScope s_is_vague_deed) := ⟨rfl, rfl, rfl, by decide +kernel, rfl, by decide +kernel, by decide +kernel⟩
theorem bd_is_vague_deed (T : Txt K mg ad fd) : Binds K (fd 18) p_is_vague_deed [] := T.d_is_vague_deed.binds (ps := p_is_vague_deed) fun _ _ _ _ _ _ us hl => match us, hl with | [_, _, _], _ => rfl
theorem ok_is_vague_deed (T : Txt K mg ad fd) (TL : TxtL K mg base fd) : FnG P w K mg base 6 (ad 18) (fd 18) p_is_vague_deed (spOf K 3 f_is_vague_deed) := (fnG_of (m := m_is_vague_deed) T.d_is_vague_deed sc_is_vague_deed fun cdv A outer s H E hr hg =>
    (sl_one (ss_ret (se_and (se_call (ok_is_tuple_of T TL) (hr.mono (by omega)) hg T.m_is_tuple_of T.d_is_tuple_of.kp (bd_is_tuple_of T) (sa_cons (se_var (i := 0)) (sa_cons se_int sa_nil))) (se_and (se_call (ok_are_stretches T TL) (hr.mono (by omega)) hg T.m_are_stretches T.d_are_stretches.kp (bd_are_stretches T) (sa_cons (se_ix (se_var (i := 0)) se_int) (sa_cons (se_var (i := 2)) sa_nil))) (se_one (se_call (ok_is_row T TL) (hr.mono (by omega)) hg T.m_is_row T.d_is_row.kp (bd_is_row T) (sa_cons (se_ix (se_var (i := 0)) se_int) (sa_cons (se_var (i := 1)) sa_nil))))))))).imp fun _ _ _ _ => spOf_run'
theorem sc_is_vague_stand : FnScope n_is_vague_stand p_is_vague_stand (defScope s_is_vague_stand) := ⟨rfl, rfl, rfl, by decide +kernel, rfl, by decide +kernel, by decide +kernel⟩
theorem bd_is_vague_stand (T : Txt K mg ad fd) : Binds K (fd 19) p_is_vague_stand [] := T.d_is_vague_stand.binds (ps := p_is_vague_stand) fun _ _ _ _ _ _ us hl => match us, hl with | [_, _, _], _ => rfl
theorem ok_is_vague_stand (T : Txt K mg ad fd) (TL : TxtL K mg base fd) : FnG P w K mg base 7 (ad 19) (fd 19) p_is_vague_stand (spOf K 3 f_is_vague_stand) := (fnG_of (m := m_is_vague_stand) T.d_is_vague_stand sc_is_vague_stand fun cdv A outer s H E hr hg =>
    (sl_cons (ss_if (sb_w (sw_or (sb_not (sb_val (se_isi (T := "tuple") (by decide) (se_var (i := 0)) T.b_isinstance T.b_tuple (by decide +kernel)))) (sw_or1 (sb_not (sb_val (se_call (ok_is_between T TL) (hr.mono (by omega)) hg T.m_is_between T.d_is_between.kp (bd_is_between T) (sa_cons (se_len (sa_cons (se_var (i := 0)) sa_nil) T.b_len) (sa_cons se_int (sa_cons (se_glob T.g_MOST_DEEDS (by rfl)) sa_nil)))))))))
    (sl_one (ss_ret se_bl))
    sl_nil)
    (sl_one (ss_ret (se_all rfl (sa_cons (se_lc (own := [("each", 3)]) (is := [3]) rfl sc_is_vague_stand.nd (si_seq (se_var (i := 0))) (blkOk_by (own := [("each", 3)]) (N := n_is_vague_stand) (sc := defScope s_is_vague_stand) (by decide +kernel)) (by decide) (fun _ _ _ _ _ => (sg_name (i := 3) sc_is_vague_stand.nd)) (fun _ _ _ _ _ => sts_nil) (fun _ _ _ _ _ => (se_call (ok_is_vague_deed T TL) (hr.mono (by omega)) hg T.m_is_vague_deed T.d_is_vague_deed.kp (bd_is_vague_deed T) (sa_cons (se_var (i := 3)) (sa_cons (se_var (i := 1)) (sa_cons (se_var (i := 2)) sa_nil)))))) sa_nil) T.b_all))))).imp fun _ _ _ _ => spOf_run'
theorem sc_is_vague_by : FnScope n_is_vague_by p_is_vague_by (defScope s_is_vague_by) := ⟨rfl, rfl, rfl, by decide +kernel, rfl, by decide +kernel, by decide +kernel⟩
theorem bd_is_vague_by (T : Txt K mg ad fd) : Binds K (fd 20) p_is_vague_by [] := T.d_is_vague_by.binds (ps := p_is_vague_by) fun _ _ _ _ _ _ us hl => match us, hl with | [_], _ => rfl
theorem ok_is_vague_by (T : Txt K mg ad fd) (TL : TxtL K mg base fd) : FnG P w K mg base 8 (ad 20) (fd 20) p_is_vague_by (spOf K 1 f_is_vague_by) := (fnG_of (m := m_is_vague_by) T.d_is_vague_by sc_is_vague_by fun cdv A outer s H E hr hg =>
    (sl_cons (ss_if (sb_w (sw_or (sb_not (sb_val (se_call (ok_is_tuple_of T TL) (hr.mono (by omega)) hg T.m_is_tuple_of T.d_is_tuple_of.kp (bd_is_tuple_of T) (sa_cons (se_var (i := 0)) (sa_cons se_int sa_nil))))) (sw_or (sb_not (sb_val (se_call (ok_is_share T TL) (hr.mono (by omega)) hg T.m_is_share T.d_is_share.kp (bd_is_share T) (sa_cons (se_ix (se_var (i := 0)) se_int) sa_nil)))) (sw_or1 (sb_not (sb_val (se_call (ok_is_between T TL) (hr.mono (by omega)) hg T.m_is_between T.d_is_between.kp (bd_is_between T) (sa_cons (se_ix (se_var (i := 0)) se_int) (sa_cons se_int (sa_cons (se_glob T.g_MOST_PAYS (by rfl)) sa_nil))))))))))
    (sl_one (ss_ret se_bl))
    sl_nil)
    (sl_cons (ss_set (i := 1) sc_is_vague_by.nd rfl (.inr rfl) (se_ix (se_var (i := 0)) se_int))
    (sl_cons (ss_if (sb_w (sw_or (sb_not (sb_val (se_isi (T := "tuple") (by decide) (se_var (i := 1)) T.b_isinstance T.b_tuple (by decide +kernel)))) (sw_or1 (sb_not (sb_val (se_call (ok_is_between T TL) (hr.mono (by omega)) hg T.m_is_between T.d_is_between.kp (bd_is_between T) (sa_cons (se_len (sa_cons (se_var (i := 1)) sa_nil) T.b_len) (sa_cons se_int (sa_cons (se_glob T.g_MOST_STANDS (by rfl)) sa_nil)))))))))
    (sl_one (ss_ret se_bl))
    sl_nil)
    (sl_one (ss_ret (se_all rfl (sa_cons (se_lc (own := [("each", 2)]) (is := [2]) rfl sc_is_vague_by.nd (si_seq (se_var (i := 1))) (blkOk_by (own := [("each", 2)]) (N := n_is_vague_by) (sc := defScope s_is_vague_by) (by decide +kernel)) (by decide) (fun _ _ _ _ _ => (sg_name (i := 2) sc_is_vague_by.nd)) (fun _ _ _ _ _ => sts_nil) (fun _ _ _ _ _ => (se_call (ok_is_vague_stand T TL) (hr.mono (by omega)) hg T.m_is_vague_stand T.d_is_vague_stand.kp (bd_is_vague_stand T) (sa_cons (se_var (i := 2)) (sa_cons (se_ix (se_var (i := 0)) se_int) (sa_cons (se_len (sa_cons (se_var (i := 1)) sa_nil) T.b_len) sa_nil)))))) sa_nil) T.b_all))))))).imp fun _ _ _ _ => spOf_run'
theorem sc_with_deeds : FnScope n_with_deeds p_with_deeds (defScope s_with_deeds) := ⟨rfl, rfl, rfl, by decide +kernel, rfl, by decide +kernel, by decide +kernel⟩
theorem bd_with_deeds (T : Txt K mg ad fd) : Binds K (fd 21) p_with_deeds [] := T.d_with_deeds.binds (ps := p_with_deeds) fun _ _ _ _ _ _ us hl => match us, hl with | [_, _], _ => rfl
theorem lb_with_deeds {k : Nat} (T : Txt K mg ad fd) : LamB P w K mg (k + 1) "with_deeds" s_with_deeds (ad 21) n_with_deeds 1 "made" m_with_deeds := fun base cdv A outer s H mm hr hg hmm =>
    (sl_cons (ss_set (i := 2) sc_with_deeds.nd rfl (.inl rfl) (se_tuple (sa_cons (se_lc (own := [("deeds", 3)]) (is := [3]) rfl sc_with_deeds.nd (si_seq (se_ix (se_var (i := 0)) se_int)) (blkOk_by (own := [("deeds", 3)]) (N := n_with_deeds) (sc := defScope s_with_deeds) (by decide +kernel)) (by decide) (fun _ _ _ _ _ => (sg_name (i := 3) sc_with_deeds.nd)) (fun _ _ _ _ _ => sts_nil) (fun _ _ _ _ _ => (se_tuple (sa_cons (se_lc (own := [("stretches", 4), ("gains", 5)]) (is := [4, 5]) rfl sc_with_deeds.nd (si_seq (se_var (i := 3))) (blkOk_by (own := [("stretches", 4), ("gains", 5)]) (N := n_with_deeds) (sc := relS _ (defScope s_with_deeds)) (by decide +kernel)) (by decide) (fun _ _ _ _ _ => (sg_tup rfl (sgs_cons (sg_name (i := 4) sc_with_deeds.nd) (sgs_cons (sg_name (i := 5) sc_with_deeds.nd) sgs_nil)))) (fun _ _ _ _ _ => sts_nil) (fun _ _ _ _ _ => (se_tup (sa_cons (hmm _ ⟨rfl, rfl, rfl, rfl, rfl, rfl, rfl, by first | exact Or.inl rfl | exact Or.inr (Or.inl rfl) | exact Or.inr (Or.inr rfl)⟩ (sa_cons (se_var (i := 4)) sa_nil) rfl) (sa_cons (se_var (i := 5)) sa_nil))))) sa_nil) T.b_tuple))) sa_nil) T.b_tuple))
    (sl_one (ss_ret (se_tup (sa_cons (se_ix (se_var (i := 0)) se_int) (sa_cons (se_ix (se_var (i := 0)) se_int) (sa_cons (se_var (i := 2)) sa_nil)))))))
theorem sc_vague_by : FnScope n_vague_by p_vague_by (defScope s_vague_by) := ⟨rfl, rfl, rfl, by decide +kernel, rfl, by decide +kernel, by decide +kernel⟩
theorem bd_vague_by (T : Txt K mg ad fd) : Binds K (fd 22) p_vague_by [] := T.d_vague_by.binds (ps := p_vague_by) fun _ _ _ _ _ _ us hl => match us, hl with | [_], _ => rfl
theorem ok_vague_by (T : Txt K mg ad fd) (TL : TxtL K mg base fd) : FnG P w K mg base 4 (ad 22) (fd 22) p_vague_by (spOf K 1 f_vague_by) := (fnG_ofC (m := m_vague_by) T.d_vague_by sc_vague_by fun cdv A outer s H E hcd hr hg =>
    (sl_one (ss_ret (se_lam (k := 1) (N2 := ["stand", "chance"]) T.d_with_deeds sc_with_deeds (lb_with_deeds T) (fun _ => rfl) T.m_with_deeds T.d_with_deeds.kp (bd_with_deeds T) (se_var (i := 0)) TL.l_vague_by rfl hcd.symm (hr.mono (by omega)) hg (lamS1_by (N := n_vague_by) (sc := defScope s_vague_by) (a1 := "chances") (by decide +kernel)) rfl (fun _ _ _ _ _ _ => rfl)
      (fun base A outer s H f c kk hr hg => (fun TL : TxtL K mg base fd => (se_tuple (sa_cons (se_lc (own := [("stand", 2), ("chance", 3)]) (is := [2, 3]) rfl ln_vague_by_1.nd (si_seq (se_var (i := 1))) (blkOk_by (own := [("stand", 2), ("chance", 3)]) (N := (n_vague_by ++ (["chances", "stand", "chance"] : List Str))) (sc := _) (by kernel_rfl)) (by decide) (fun _ _ _ _ _ => (sg_tup rfl (sgs_cons (sg_name (i := 2) ln_vague_by_1.nd) (sgs_cons (sg_name (i := 3) ln_vague_by_1.nd) sgs_nil)))) (fun _ _ _ _ _ => sts_nil) (fun _ _ _ _ _ => (se_tup (sa_cons (se_var (i := 2)) (sa_cons (se_var (i := 3)) (sa_cons (se_var (i := 3)) sa_nil)))))) sa_nil) T.b_tuple)) (TL.keeps kk)))))).imp fun _ _ _ _ => spOf_run'
theorem sc_do_chances_fit : FnScope n_do_chances_fit p_do_chances_fit (defScope s_do_chances_fit) := ⟨rfl, rfl, rfl, by decide +kernel, rfl, by decide +kernel, by decide +kernel⟩
theorem bd_do_chances_fit (T : Txt K mg ad fd) : Binds K (fd 23) p_do_chances_fit [] := T.d_do_chances_fit.binds (ps := p_do_chances_fit) fun _ _ _ _ _ _ us hl => match us, hl with | [_, _], _ => rfl
theorem ok_do_chances_fit (T : Txt K mg ad fd) (TL : TxtL K mg base fd) : FnG P w K mg base 2 (ad 23) (fd 23) p_do_chances_fit (spOf K 2 f_do_chances_fit) := (fnG_of (m := m_do_chances_fit) T.d_do_chances_fit sc_do_chances_fit fun cdv A outer s H E hr hg =>
    (sl_cons (ss_set (i := 2) sc_do_chances_fit.nd rfl (.inl rfl) (se_dictP rfl (sa_cons (se_var (i := 1)) sa_nil) T.b_dict))
    (sl_cons (ss_if (sb_not (sb_val (se_all rfl (sa_cons (se_lcK (i := 2) (own := [("stand", 3)]) (is := [3]) rfl sc_do_chances_fit.nd (blkOk_by (own := [("stand", 3)]) (N := n_do_chances_fit) (sc := defScope s_do_chances_fit) (by decide +kernel)) (by decide) (fun _ _ _ _ _ => (sg_name (i := 3) sc_do_chances_fit.nd)) (fun _ _ _ _ _ => sts_nil) (fun _ _ _ _ _ => (se_in hr (se_var (i := 3)) (se_lc (own := [("each", 7)]) (is := [7]) rfl sc_do_chances_fit.nd (si_seq (se_var (i := 0))) (blkOk_by (own := [("each", 7)]) (N := n_do_chances_fit) (sc := relS _ (defScope s_do_chances_fit)) (by decide +kernel)) (by decide) (fun _ _ _ _ _ => (sg_name (i := 7) sc_do_chances_fit.nd)) (fun _ _ _ _ _ => sts_nil) (fun _ _ _ _ _ => (se_ix (se_var (i := 7)) se_int)))))) sa_nil) T.b_all)))
    (sl_one (ss_ret se_bl))
    sl_nil)
    (sl_cons (ss_for PassesOwn.never rfl (si_seq (se_var (i := 0))) (sg_tup rfl (sgs_cons (sg_name (i := 3) sc_do_chances_fit.nd) (sgs_cons (sg_name (i := 4) sc_do_chances_fit.nd) (sgs_cons (sg_name (i := 5) sc_do_chances_fit.nd) sgs_nil))))
    (sl_cons (ss_set (i := 6) sc_do_chances_fit.nd rfl (.inl rfl) (se_getM hr (se_var (i := 2)) (se_var (i := 3)) (se_glob T.g_ZERO (by rfl))))
    (sl_one (ss_if (sb_w (sw_or (sb_val (se_call (ok_is_less T TL) (hr.mono (by omega)) hg T.m_is_less T.d_is_less.kp (bd_is_less T) (sa_cons (se_var (i := 6)) (sa_cons (se_var (i := 4)) sa_nil)))) (sw_or1 (sb_val (se_call (ok_is_less T TL) (hr.mono (by omega)) hg T.m_is_less T.d_is_less.kp (bd_is_less T) (sa_cons (se_var (i := 5)) (sa_cons (se_var (i := 6)) sa_nil)))))))
    (sl_one (ss_ret se_bl))
    sl_nil))))
    (sl_one (ss_ret se_bl)))))).imp fun _ _ _ _ => spOf_run'
theorem sc_does_fit : FnScope n_does_fit p_does_fit (defScope s_does_fit) := ⟨rfl, rfl, rfl, by decide +kernel, rfl, by decide +kernel, by decide +kernel⟩
theorem bd_does_fit (T : Txt K mg ad fd) : Binds K (fd 24) p_does_fit [] := T.d_does_fit.binds (ps := p_does_fit) fun _ _ _ _ _ _ us hl => match us, hl with | [_, _], _ => rfl
theorem ok_does_fit (T : Txt K mg ad fd) (TL : TxtL K mg base fd) : FnG P w K mg base 3 (ad 24) (fd 24) p_does_fit (spOf K 2 f_does_fit) := (fnG_of (m := m_does_fit) T.d_does_fit sc_does_fit fun cdv A outer s H E hr hg =>
    (sl_cons (ss_if (sb_w (sw_or (sb_ne hr (se_sl (se_var (i := 1)) so_none (so_some se_int)) (se_sl (se_var (i := 0)) so_none (so_some se_int))) (sw_or1 (sb_ne hr (se_lc (own := [("deeds", 2)]) (is := [2]) rfl sc_does_fit.nd (si_seq (se_ix (se_var (i := 1)) se_int)) (blkOk_by (own := [("deeds", 2)]) (N := n_does_fit) (sc := defScope s_does_fit) (by decide +kernel)) (by decide) (fun _ _ _ _ _ => (sg_name (i := 2) sc_does_fit.nd)) (fun _ _ _ _ _ => sts_nil) (fun _ _ _ _ _ => (se_len (sa_cons (se_var (i := 2)) sa_nil) T.b_len))) (se_lc (own := [("deeds", 2)]) (is := [2]) rfl sc_does_fit.nd (si_seq (se_ix (se_var (i := 0)) se_int)) (blkOk_by (own := [("deeds", 2)]) (N := n_does_fit) (sc := defScope s_does_fit) (by decide +kernel)) (by decide) (fun _ _ _ _ _ => (sg_name (i := 2) sc_does_fit.nd)) (fun _ _ _ _ _ => sts_nil) (fun _ _ _ _ _ => (se_len (sa_cons (se_var (i := 2)) sa_nil) T.b_len)))))))
    (sl_one (ss_ret se_bl))
    sl_nil)
    (sl_cons (ss_for PassesOwn.never rfl (si_z2 (sa_cons (se_ix (se_var (i := 0)) se_int) (sa_cons (se_ix (se_var (i := 1)) se_int) sa_nil)) T.b_zip) (sg_tup rfl (sgs_cons (sg_name (i := 2) sc_does_fit.nd) (sgs_cons (sg_name (i := 3) sc_does_fit.nd) sgs_nil)))
    (sl_one (ss_for PassesOwn.never rfl (si_z2 (sa_cons (se_var (i := 2)) (sa_cons (se_var (i := 3)) sa_nil)) T.b_zip) (sg_tup rfl (sgs_cons (sg_tup rfl (sgs_cons (sg_name (i := 4) sc_does_fit.nd) (sgs_cons (sg_name (i := 5) sc_does_fit.nd) sgs_nil))) (sgs_cons (sg_tup rfl (sgs_cons (sg_name (i := 6) sc_does_fit.nd) (sgs_cons (sg_name (i := 7) sc_does_fit.nd) sgs_nil))) sgs_nil)))
    (sl_one (ss_if (sb_w (sw_or (sb_ne hr (se_var (i := 5)) (se_var (i := 7))) (sw_or1 (sb_not (sb_val (se_call (ok_do_chances_fit T TL) (hr.mono (by omega)) hg T.m_do_chances_fit T.d_do_chances_fit.kp (bd_do_chances_fit T) (sa_cons (se_var (i := 4)) (sa_cons (se_var (i := 6)) sa_nil))))))))
    (sl_one (ss_ret se_bl))
    sl_nil)))))
    (sl_one (ss_ret se_bl))))).imp fun _ _ _ _ => spOf_run'
theorem sc_check_vague : FnScope n_check_vague p_check_vague (defScope s_check_vague) := ⟨rfl, rfl, rfl, by decide +kernel, rfl, by decide +kernel, by decide +kernel⟩
theorem bd_check_vague (T : Txt K mg ad fd) : Binds K (fd 25) p_check_vague [] := T.d_check_vague.binds (ps := p_check_vague) fun _ _ _ _ _ _ us hl => match us, hl with | [_], _ => rfl
theorem ok_check_vague (T : Txt K mg ad fd) (TL : TxtL K mg base fd) : FnG P w K mg base 9 (ad 25) (fd 25) p_check_vague (spOf K 1 f_check_vague) := (fnG_of (m := m_check_vague) T.d_check_vague sc_check_vague fun cdv A outer s H E hr hg =>
    (sl_one (ss_if (sb_not (sb_val (se_call (ok_is_vague_by T TL) (hr.mono (by omega)) hg T.m_is_vague_by T.d_is_vague_by.kp (bd_is_vague_by T) (sa_cons (se_var (i := 0)) sa_nil))))
    (sl_one ss_never)
    sl_nil))).imp fun _ _ _ _ => spOf_run'
theorem sc_is_vague : FnScope n_is_vague p_is_vague (defScope s_is_vague) := ⟨rfl, rfl, rfl, by decide +kernel, rfl, by decide +kernel, by decide +kernel⟩
theorem bd_is_vague (T : Txt K mg ad fd) : Binds K (fd 26) p_is_vague [] := T.d_is_vague.binds (ps := p_is_vague) fun _ _ _ _ _ _ us hl => match us, hl with | [_], _ => rfl
theorem kb_is_vague_0 (T : Txt K mg ad fd) : KB0 K (fd 26) p_is_vague ["value"] [0] := by
  obtain ⟨oc, od, kV, doc, pm, an, cdv, ct, osl, e, _, _⟩ := T.d_is_vague.ex
  rw [e]
  intro s ws hK hl
  match ws, hl with
  | [_], _ => exact BindsTo.of_eq rfl
theorem ok_is_vague (T : Txt K mg ad fd) (TL : TxtL K mg base fd) : FnG P w K mg base 9 (ad 26) (fd 26) p_is_vague (spOf K 1 f_is_vague) := (fnG_of (m := m_is_vague) T.d_is_vague sc_is_vague fun cdv A outer s H E hr hg =>
    (sl_one (ss_ret (se_call (ok_is_vague_by T TL) (hr.mono (by omega)) hg T.m_is_vague_by T.d_is_vague_by.kp (bd_is_vague_by T) (sa_cons (se_var (i := 0)) sa_nil))))).imp fun _ _ _ _ => spOf_run'
theorem sc_fits : FnScope n_fits p_fits (defScope s_fits) := ⟨rfl, rfl, rfl, by decide +kernel, rfl, by decide +kernel, by decide +kernel⟩
theorem bd_fits (T : Txt K mg ad fd) : Binds K (fd 27) p_fits [] := T.d_fits.binds (ps := p_fits) fun _ _ _ _ _ _ us hl => match us, hl with | [_, _], _ => rfl
theorem kb_fits_10 (T : Txt K mg ad fd) : KB0 K (fd 27) p_fits ["house", "vague"] [1, 0] := by
  obtain ⟨oc, od, kV, doc, pm, an, cdv, ct, osl, e, _, _⟩ := T.d_fits.ex
  rw [e]
  intro s ws hK hl
  match ws, hl with
  | [_, _], _ => exact BindsTo.of_eq rfl
theorem ok_fits (T : Txt K mg ad fd) (TL : TxtL K mg base fd) : FnG P w K mg base 10 (ad 27) (fd 27) p_fits (spOf K 2 f_fits) := (fnG_of (m := m_fits) T.d_fits sc_fits fun cdv A outer s H E hr hg =>
    (sl_cons (ss_drop (se_call (ok_check_vague T TL) (hr.mono (by omega)) hg T.m_check_vague T.d_check_vague.kp (bd_check_vague T) (sa_cons (se_var (i := 0)) sa_nil)))
    (sl_one (ss_ret (se_and (se_call (ok_is_house_by T TL) (hr.mono (by omega)) hg T.m_is_house_by T.d_is_house_by.kp (bd_is_house_by T) (sa_cons (se_var (i := 1)) sa_nil)) (se_one (se_call (ok_does_fit T TL) (hr.mono (by omega)) hg T.m_does_fit T.d_does_fit.kp (bd_does_fit T) (sa_cons (se_var (i := 0)) (sa_cons (se_var (i := 1)) sa_nil))))))))).imp fun _ _ _ _ => spOf_run'
theorem sc_vague_of : FnScope n_vague_of p_vague_of (defScope s_vague_of) := ⟨rfl, rfl, rfl, by decide +kernel, rfl, by decide +kernel, by decide +kernel⟩
theorem bd_vague_of (T : Txt K mg ad fd) : Binds K (fd 28) p_vague_of [] := T.d_vague_of.binds (ps := p_vague_of) fun _ _ _ _ _ _ us hl => match us, hl with | [_], _ => rfl
theorem ok_vague_of (T : Txt K mg ad fd) (TL : TxtL K mg base fd) : FnG P w K mg base 9 (ad 28) (fd 28) p_vague_of (spOf K 1 f_vague_of) := (fnG_of (m := m_vague_of) T.d_vague_of sc_vague_of fun cdv A outer s H E hr hg =>
    (sl_cons (ss_drop (se_call (ok_check_house T TL) (hr.mono (by omega)) hg T.m_check_house T.d_check_house.kp (bd_check_house T) (sa_cons (se_var (i := 0)) sa_nil)))
    (sl_one (ss_ret (se_call (ok_vague_by T TL) (hr.mono (by omega)) hg T.m_vague_by T.d_vague_by.kp (bd_vague_by T) (sa_cons (se_var (i := 0)) sa_nil)))))).imp fun _ _ _ _ => spOf_run'
theorem sc_law_pot : FnScope n_law_pot p_law_pot (defScope s_law_pot) := ⟨rfl, rfl, rfl, by decide +kernel, rfl, by decide +kernel, by decide +kernel⟩
theorem bd_law_pot (T : Txt K mg ad fd) : Binds K (fd 29) p_law_pot [] := T.d_law_pot.binds (ps := p_law_pot) fun _ _ _ _ _ _ us hl => match us, hl with | [_, _], _ => rfl
theorem ok_law_pot (T : Txt K mg ad fd) (TL : TxtL K mg base fd) : FnG P w K mg base 1 (ad 29) (fd 29) p_law_pot (spOf K 2 f_law_pot) := (fnG_of (m := m_law_pot) T.d_law_pot sc_law_pot fun cdv A outer s H E hr hg =>
    (sl_cons (ss_set (i := 2) sc_law_pot.nd rfl (.inl rfl) (se_add se_int (se_mul se_int (se_var (i := 1)))))
    (sl_cons (ss_for PassesOwn.never rfl (si_seq (se_sl (se_var (i := 0)) so_none (so_some se_int))) (sg_name (i := 3) sc_law_pot.nd)
    (sl_one (ss_set (i := 2) sc_law_pot.nd rfl (.inl rfl) (se_mod (se_toint (sa_cons (se_add (se_add (se_mul (se_var (i := 2)) se_int) (se_mul (se_mod (se_toint (sa_cons (se_var (i := 3)) sa_nil) T.b_int) se_int) se_int)) se_int) sa_nil) T.b_int) se_int))))
    (sl_cons (ss_set (i := 4) sc_law_pot.nd rfl (.inl rfl) (se_if (sb_lt (se_var (i := 1)) (se_len (sa_cons (se_var (i := 0)) sa_nil) T.b_len)) (se_toint (sa_cons (se_ix (se_var (i := 0)) (se_var (i := 1))) sa_nil) T.b_int) se_int))
    (sl_cons (ss_set (i := 2) sc_law_pot.nd rfl (.inl rfl) (se_mod (se_toint (sa_cons (se_add (se_add (se_mul (se_var (i := 2)) se_int) (se_mul (se_mod (se_toint (sa_cons (se_var (i := 4)) sa_nil) T.b_int) se_int) se_int)) se_int) sa_nil) T.b_int) se_int))
    (sl_one (ss_ret (se_lst (sa_cons (se_if (sb_w (sw_or (sb_lt (se_var (i := 4)) se_int) (sw_or1 (sb_ge (se_var (i := 4)) (se_pow se_int se_int))))) (se_abs (sa_cons (se_var (i := 4)) sa_nil) T.b_abs) se_int) (sa_cons (se_var (i := 2)) (sa_cons se_int sa_nil))))))))))).imp fun _ _ _ _ => spOf_run'
theorem sc_law_take : FnScope n_law_take p_law_take (defScope s_law_take) := ⟨rfl, rfl, rfl, by decide +kernel, rfl, by decide +kernel, by decide +kernel⟩
theorem bd_law_take (T : Txt K mg ad fd) : Binds K (fd 30) p_law_take [] := T.d_law_take.binds (ps := p_law_take) fun _ _ _ _ _ _ us hl => match us, hl with | [_, _], _ => rfl
theorem ok_law_take (T : Txt K mg ad fd) (TL : TxtL K mg base fd) : FnG P w K mg base 1 (ad 30) (fd 30) p_law_take (spOf K 2 f_law_take) := (fnG_of (m := m_law_take) T.d_law_take sc_law_take fun cdv A outer s H E hr hg =>
    (sl_cons (ss_if (sb_gt (se_ix (se_var (i := 0)) se_int) se_int)
    (sl_cons (ss_pair (i := 0) (j := 2) rfl sc_law_take.nd (se_divmod (sa_cons (se_ix (se_var (i := 0)) se_int) (sa_cons (se_var (i := 1)) sa_nil)) T.b_divmod) (pg_sub (pv 0) se_int set_list))
    (sl_one (ss_retV (i := 2))))
    sl_nil)
    (sl_cons (ss_put (i := 0) (se_add (se_ix (se_var (i := 0)) se_int) se_int) (pg_sub (pv 0) se_int set_list))
    (sl_cons (ss_set (i := 3) sc_law_take.nd rfl (.inl rfl) (se_mod (se_toint (sa_cons (se_add (se_add (se_mul (se_ix (se_var (i := 0)) se_int) se_int) (se_mul (se_ix (se_var (i := 0)) se_int) se_int)) se_int) sa_nil) T.b_int) se_int))
    (sl_cons (ss_put (i := 0) (se_var (i := 3)) (pg_sub (pv 0) se_int set_list))
    (sl_one (ss_ret (se_mod (se_toint (sa_cons (se_fdiv (se_mod (se_toint (sa_cons (se_mul (se_var (i := 3)) (se_add (se_mod (se_toint (sa_cons (se_var (i := 3)) sa_nil) T.b_int) se_int) se_int)) sa_nil) T.b_int) se_int) se_int) sa_nil) T.b_int) (se_var (i := 1)))))))))).imp fun _ _ _ _ => spOf_run'
theorem sc_law_pick : FnScope n_law_pick p_law_pick (defScope s_law_pick) := ⟨rfl, rfl, rfl, by decide +kernel, rfl, by decide +kernel, by decide +kernel⟩
theorem bd_law_pick (T : Txt K mg ad fd) : Binds K (fd 31) p_law_pick [] := T.d_law_pick.binds (ps := p_law_pick) fun _ _ _ _ _ _ us hl => match us, hl with | [_, _], _ => rfl
theorem ok_law_pick (T : Txt K mg ad fd) (TL : TxtL K mg base fd) : FnG P w K mg base 2 (ad 31) (fd 31) p_law_pick (spOf K 2 f_law_pick) := (fnG_of (m := m_law_pick) T.d_law_pick sc_law_pick fun cdv A outer s H E hr hg =>
    (sl_one (ss_ret (se_ix (se_var (i := 1)) (se_call (ok_law_take T TL) (hr.mono (by omega)) hg T.m_law_take T.d_law_take.kp (bd_law_take T) (sa_cons (se_var (i := 0)) (sa_cons (se_len (sa_cons (se_var (i := 1)) sa_nil) T.b_len) sa_nil))))))).imp fun _ _ _ _ => spOf_run'
end
end WW
namespace WW
open PySem PySem.Spec L2 Dh
section
variable [LawT] {P : Program} {w : World} {K : PySem.W.Frag} {mg : Str → Option Value} {base : Heap} {ad : Nat → Addr} {fd : Nat → FuncData}
theorem sc_law_shuffled : FnScope n_law_shuffled p_law_shuffled (defScope s_law_shuffled) := ⟨rfl, rfl, rfl, by decide +kernel, rfl, by decide +kernel, by decide +kernel⟩
theorem bd_law_shuffled (T : Txt K mg ad fd) : Binds K (fd 32) p_law_shuffled [] := T.d_law_shuffled.binds (ps := p_law_shuffled) fun _ _ _ _ _ _ us hl => match us, hl with | [_, _], _ => rfl
theorem ok_law_shuffled (T : Txt K mg ad fd) (TL : TxtL K mg base fd) : FnG P w K mg base 2 (ad 32) (fd 32) p_law_shuffled (spOf K 2 f_law_shuffled) := (fnG_of (m := m_law_shuffled) T.d_law_shuffled sc_law_shuffled fun cdv A outer s H E hr hg =>
    (sl_cons (ss_par2f (i := 2) (j := 3) rfl sc_law_shuffled.nd (sa2_cons (se_listRange rfl (se_var (i := 1)) T.b_range T.b_list) (sa2_cons (se_lst sa_nil) sa2_nil)))
    (sl_cons (ss_for PassesOwn.never rfl (si_range1 (sa_cons (se_var (i := 1)) sa_nil) T.b_range) (sg_name (i := 4) sc_law_shuffled.nd)
    (sl_one (ss_appop (i := 3) (j := 2) (se_call (ok_law_take T TL) (hr.mono (by omega)) hg T.m_law_take T.d_law_take.kp (bd_law_take T) (sa_cons (se_var (i := 0)) (sa_cons (se_len (sa_cons (se_var (i := 2)) sa_nil) T.b_len) sa_nil))))))
    (sl_one (ss_retV (i := 3)))))).imp fun _ _ _ _ => spOf_run'
theorem sc_law_low : FnScope n_law_low p_law_low (defScope s_law_low) := ⟨rfl, rfl, rfl, by decide +kernel, rfl, by decide +kernel, by decide +kernel⟩
theorem bd_law_low (T : Txt K mg ad fd) : Binds K (fd 33) p_law_low [] := T.d_law_low.binds (ps := p_law_low) fun _ _ _ _ _ _ us hl => match us, hl with | [_, _], _ => rfl
theorem ok_law_low (T : Txt K mg ad fd) (TL : TxtL K mg base fd) : FnG P w K mg base 1 (ad 33) (fd 33) p_law_low (spOf K 2 f_law_low) := (fnG_of (m := m_law_low) T.d_law_low sc_law_low fun cdv A outer s H E hr hg =>
    (sl_cons (ss_par (i := 2) (j := 3) rfl sc_law_low.nd (sa_cons (se_abs (sa_cons (se_var (i := 0)) sa_nil) T.b_abs) (sa_cons (se_abs (sa_cons (se_var (i := 1)) sa_nil) T.b_abs) sa_nil)))
    (sl_cons (ss_while PassesOwn.never (sb_gt (se_var (i := 3)) se_int)
    (sl_one (ss_par (i := 2) (j := 3) rfl sc_law_low.nd (sa_cons (se_var (i := 3)) (sa_cons (se_mod (se_toint (sa_cons (se_var (i := 2)) sa_nil) T.b_int) (se_var (i := 3))) sa_nil)))))
    (sl_one (ss_ret (se_if (sb_gt (se_var (i := 1)) se_int) (se_tup (sa_cons (se_fdiv (se_var (i := 0)) (se_var (i := 2))) (sa_cons (se_fdiv (se_var (i := 1)) (se_var (i := 2))) sa_nil))) (se_tup (sa_cons (se_sub se_int (se_fdiv (se_var (i := 0)) (se_var (i := 2)))) (sa_cons (se_sub se_int (se_fdiv (se_var (i := 1)) (se_var (i := 2)))) sa_nil))))))))).imp fun _ _ _ _ => spOf_run'
theorem sc_law_plus : FnScope n_law_plus p_law_plus (defScope s_law_plus) := ⟨rfl, rfl, rfl, by decide +kernel, rfl, by decide +kernel, by decide +kernel⟩
theorem bd_law_plus (T : Txt K mg ad fd) : Binds K (fd 34) p_law_plus [] := T.d_law_plus.binds (ps := p_law_plus) fun _ _ _ _ _ _ us hl => match us, hl with | [_, _], _ => rfl
theorem ok_law_plus (T : Txt K mg ad fd) (TL : TxtL K mg base fd) : FnG P w K mg base 2 (ad 34) (fd 34) p_law_plus (spOf K 2 f_law_plus) := (fnG_of (m := m_law_plus) T.d_law_plus sc_law_plus fun cdv A outer s H E hr hg =>
    (sl_one (ss_ret (se_call (ok_law_low T TL) (hr.mono (by omega)) hg T.m_law_low T.d_law_low.kp (bd_law_low T) (sa_cons (se_add (se_mul (se_ix (se_var (i := 0)) se_int) (se_ix (se_var (i := 1)) se_int)) (se_mul (se_ix (se_var (i := 1)) se_int) (se_ix (se_var (i := 0)) se_int))) (sa_cons (se_mul (se_ix (se_var (i := 0)) se_int) (se_ix (se_var (i := 1)) se_int)) sa_nil)))))).imp fun _ _ _ _ => spOf_run'
theorem sc_law_minus : FnScope n_law_minus p_law_minus (defScope s_law_minus) := ⟨rfl, rfl, rfl, by decide +kernel, rfl, by decide +kernel, by decide +kernel⟩
theorem bd_law_minus (T : Txt K mg ad fd) : Binds K (fd 35) p_law_minus [] := T.d_law_minus.binds (ps := p_law_minus) fun _ _ _ _ _ _ us hl => match us, hl with | [_, _], _ => rfl
theorem ok_law_minus (T : Txt K mg ad fd) (TL : TxtL K mg base fd) : FnG P w K mg base 2 (ad 35) (fd 35) p_law_minus (spOf K 2 f_law_minus) := (fnG_of (m := m_law_minus) T.d_law_minus sc_law_minus fun cdv A outer s H E hr hg =>
    (sl_one (ss_ret (se_call (ok_law_low T TL) (hr.mono (by omega)) hg T.m_law_low T.d_law_low.kp (bd_law_low T) (sa_cons (se_sub (se_mul (se_ix (se_var (i := 0)) se_int) (se_ix (se_var (i := 1)) se_int)) (se_mul (se_ix (se_var (i := 1)) se_int) (se_ix (se_var (i := 0)) se_int))) (sa_cons (se_mul (se_ix (se_var (i := 0)) se_int) (se_ix (se_var (i := 1)) se_int)) sa_nil)))))).imp fun _ _ _ _ => spOf_run'
theorem sc_law_times : FnScope n_law_times p_law_times (defScope s_law_times) := ⟨rfl, rfl, rfl, by decide +kernel, rfl, by decide +kernel, by decide +kernel⟩
theorem bd_law_times (T : Txt K mg ad fd) : Binds K (fd 36) p_law_times [] := T.d_law_times.binds (ps := p_law_times) fun _ _ _ _ _ _ us hl => match us, hl with | [_, _], _ => rfl
theorem ok_law_times (T : Txt K mg ad fd) (TL : TxtL K mg base fd) : FnG P w K mg base 2 (ad 36) (fd 36) p_law_times (spOf K 2 f_law_times) := (fnG_of (m := m_law_times) T.d_law_times sc_law_times fun cdv A outer s H E hr hg =>
    (sl_one (ss_ret (se_call (ok_law_low T TL) (hr.mono (by omega)) hg T.m_law_low T.d_law_low.kp (bd_law_low T) (sa_cons (se_mul (se_ix (se_var (i := 0)) se_int) (se_ix (se_var (i := 1)) se_int)) (sa_cons (se_mul (se_ix (se_var (i := 0)) se_int) (se_ix (se_var (i := 1)) se_int)) sa_nil)))))).imp fun _ _ _ _ => spOf_run'
theorem sc_law_below : FnScope n_law_below p_law_below (defScope s_law_below) := ⟨rfl, rfl, rfl, by decide +kernel, rfl, by decide +kernel, by decide +kernel⟩
theorem bd_law_below (T : Txt K mg ad fd) : Binds K (fd 37) p_law_below [] := T.d_law_below.binds (ps := p_law_below) fun _ _ _ _ _ _ us hl => match us, hl with | [_, _], _ => rfl
theorem ok_law_below (T : Txt K mg ad fd) (TL : TxtL K mg base fd) : FnG P w K mg base 1 (ad 37) (fd 37) p_law_below (spOf K 2 f_law_below) := (fnG_of (m := m_law_below) T.d_law_below sc_law_below fun cdv A outer s H E hr hg =>
    (sl_one (ss_ret (se_lt (se_mul (se_ix (se_var (i := 0)) se_int) (se_ix (se_var (i := 1)) se_int)) (se_mul (se_ix (se_var (i := 1)) se_int) (se_ix (se_var (i := 0)) se_int)))))).imp fun _ _ _ _ => spOf_run'
theorem sc_law_total : FnScope n_law_total p_law_total (defScope s_law_total) := ⟨rfl, rfl, rfl, by decide +kernel, rfl, by decide +kernel, by decide +kernel⟩
theorem bd_law_total (T : Txt K mg ad fd) : Binds K (fd 38) p_law_total [] := T.d_law_total.binds (ps := p_law_total) fun _ _ _ _ _ _ us hl => match us, hl with | [_], _ => rfl
theorem ok_law_total (T : Txt K mg ad fd) (TL : TxtL K mg base fd) : FnG P w K mg base 3 (ad 38) (fd 38) p_law_total (spOf K 1 f_law_total) := (fnG_of (m := m_law_total) T.d_law_total sc_law_total fun cdv A outer s H E hr hg =>
    (sl_cons (ss_set (i := 1) sc_law_total.nd rfl (.inl rfl) (se_tup (sa_cons se_int (sa_cons se_int sa_nil))))
    (sl_cons (ss_for PassesOwn.never rfl (si_seq (se_var (i := 0))) (sg_name (i := 2) sc_law_total.nd)
    (sl_one (ss_set (i := 1) sc_law_total.nd rfl (.inl rfl) (se_call (ok_law_plus T TL) (hr.mono (by omega)) hg T.m_law_plus T.d_law_plus.kp (bd_law_plus T) (sa_cons (se_var (i := 1)) (sa_cons (se_var (i := 2)) sa_nil))))))
    (sl_one (ss_retV (i := 1)))))).imp fun _ _ _ _ => spOf_run'
theorem sc_law_share : FnScope n_law_share p_law_share (defScope s_law_share) := ⟨rfl, rfl, rfl, by decide +kernel, rfl, by decide +kernel, by decide +kernel⟩
theorem bd_law_share (T : Txt K mg ad fd) : Binds K (fd 39) p_law_share [] := T.d_law_share.binds (ps := p_law_share) fun _ _ _ _ _ _ us hl => match us, hl with | [_], _ => rfl
theorem ok_law_share (T : Txt K mg ad fd) (TL : TxtL K mg base fd) : FnG P w K mg base 3 (ad 39) (fd 39) p_law_share (spOf K 1 f_law_share) := (fnG_of (m := m_law_share) T.d_law_share sc_law_share fun cdv A outer s H E hr hg =>
    (sl_cons (ss_if (sb_eq hr (se_call (ok_law_take T TL) (hr.mono (by omega)) hg T.m_law_take T.d_law_take.kp (bd_law_take T) (sa_cons (se_var (i := 0)) (sa_cons se_int sa_nil))) se_int)
    (sl_one (ss_ret (se_tup (sa_cons se_int (sa_cons se_int sa_nil)))))
    sl_nil)
    (sl_cons (ss_set (i := 1) sc_law_share.nd rfl (.inl rfl) (se_call (ok_law_pick T TL) (hr.mono (by omega)) hg T.m_law_pick T.d_law_pick.kp (bd_law_pick T) (sa_cons (se_var (i := 0)) (sa_cons (se_tup (sa_cons se_int (sa_cons se_int (sa_cons se_int (sa_cons se_int (sa_cons se_int (sa_cons se_int (sa_cons se_int (sa_cons se_int (sa_cons se_int (sa_cons se_int (sa_cons se_int (sa_cons se_int sa_nil))))))))))))) sa_nil))))
    (sl_one (ss_ret (se_call (ok_law_low T TL) (hr.mono (by omega)) hg T.m_law_low T.d_law_low.kp (bd_law_low T) (sa_cons (se_var (i := 1)) (sa_cons (se_add (se_add (se_var (i := 1)) se_int) (se_call (ok_law_take T TL) (hr.mono (by omega)) hg T.m_law_take T.d_law_take.kp (bd_law_take T) (sa_cons (se_var (i := 0)) (sa_cons se_int sa_nil)))) sa_nil)))))))).imp fun _ _ _ _ => spOf_run'
theorem sc_law_number : FnScope n_law_number p_law_number (defScope s_law_number) := ⟨rfl, rfl, rfl, by decide +kernel, rfl, by decide +kernel, by decide +kernel⟩
theorem bd_law_number (T : Txt K mg ad fd) : Binds K (fd 40) p_law_number [] := T.d_law_number.binds (ps := p_law_number) fun _ _ _ _ _ _ us hl => match us, hl with | [_], _ => rfl
theorem ok_law_number (T : Txt K mg ad fd) (TL : TxtL K mg base fd) : FnG P w K mg base 2 (ad 40) (fd 40) p_law_number (spOf K 1 f_law_number) := (fnG_of (m := m_law_number) T.d_law_number sc_law_number fun cdv A outer s H E hr hg =>
    (sl_cons (ss_set (i := 1) sc_law_number.nd rfl (.inl rfl) (se_call (ok_law_take T TL) (hr.mono (by omega)) hg T.m_law_take T.d_law_take.kp (bd_law_take T) (sa_cons (se_var (i := 0)) (sa_cons se_int sa_nil))))
    (sl_cons (ss_if (sb_eq hr (se_var (i := 1)) se_int)
    (sl_one (ss_ret (se_call (ok_law_low T TL) (hr.mono (by omega)) hg T.m_law_low T.d_law_low.kp (bd_law_low T) (sa_cons (se_sub (se_call (ok_law_take T TL) (hr.mono (by omega)) hg T.m_law_take T.d_law_take.kp (bd_law_take T) (sa_cons (se_var (i := 0)) (sa_cons se_int sa_nil))) se_int) (sa_cons (se_add se_int (se_call (ok_law_take T TL) (hr.mono (by omega)) hg T.m_law_take T.d_law_take.kp (bd_law_take T) (sa_cons (se_var (i := 0)) (sa_cons se_int sa_nil)))) sa_nil)))))
    sl_nil)
    (sl_cons (ss_if (sb_w (sw_and (sb_eq hr (se_var (i := 1)) se_int) (sw_and1 (sb_eq hr (se_call (ok_law_take T TL) (hr.mono (by omega)) hg T.m_law_take T.d_law_take.kp (bd_law_take T) (sa_cons (se_var (i := 0)) (sa_cons se_int sa_nil))) se_int))))
    (sl_one (ss_ret (se_call (ok_law_low T TL) (hr.mono (by omega)) hg T.m_law_low T.d_law_low.kp (bd_law_low T) (sa_cons (se_mul (se_sub (se_mul (se_call (ok_law_take T TL) (hr.mono (by omega)) hg T.m_law_take T.d_law_take.kp (bd_law_take T) (sa_cons (se_var (i := 0)) (sa_cons se_int sa_nil))) se_int) se_int) (se_add (se_pow se_int se_int) (se_call (ok_law_take T TL) (hr.mono (by omega)) hg T.m_law_take T.d_law_take.kp (bd_law_take T) (sa_cons (se_var (i := 0)) (sa_cons se_int sa_nil))))) (sa_cons se_int sa_nil)))))
    sl_nil)
    (sl_one (ss_ret (se_tup (sa_cons (se_sub (se_call (ok_law_take T TL) (hr.mono (by omega)) hg T.m_law_take T.d_law_take.kp (bd_law_take T) (sa_cons (se_var (i := 0)) (sa_cons se_int sa_nil))) se_int) (sa_cons se_int sa_nil))))))))).imp fun _ _ _ _ => spOf_run'
theorem sc_law_gains : FnScope n_law_gains p_law_gains (defScope s_law_gains) := ⟨rfl, rfl, rfl, by decide +kernel, rfl, by decide +kernel, by decide +kernel⟩
theorem bd_law_gains (T : Txt K mg ad fd) : Binds K (fd 41) p_law_gains [] := T.d_law_gains.binds (ps := p_law_gains) fun _ _ _ _ _ _ us hl => match us, hl with | [_, _], _ => rfl
theorem ok_law_gains (T : Txt K mg ad fd) (TL : TxtL K mg base fd) : FnG P w K mg base 3 (ad 41) (fd 41) p_law_gains (spOf K 2 f_law_gains) := (fnG_of (m := m_law_gains) T.d_law_gains sc_law_gains fun cdv A outer s H E hr hg =>
    (sl_cons (ss_set (i := 2) sc_law_gains.nd rfl (.inl rfl) (se_lst sa_nil))
    (sl_cons (ss_for PassesOwn.never rfl (si_range1 (sa_cons (se_var (i := 1)) sa_nil) T.b_range) (sg_name (i := 3) sc_law_gains.nd)
    (sl_one (ss_append (i := 2) (se_call (ok_law_number T TL) (hr.mono (by omega)) hg T.m_law_number T.d_law_number.kp (bd_law_number T) (sa_cons (se_var (i := 0)) sa_nil)))))
    (sl_one (ss_ret (se_tuple (sa_cons (se_var (i := 2)) sa_nil) T.b_tuple)))))).imp fun _ _ _ _ => spOf_run'
theorem sc_law_lot : FnScope n_law_lot p_law_lot (defScope s_law_lot) := ⟨rfl, rfl, rfl, by decide +kernel, rfl, by decide +kernel, by decide +kernel⟩
theorem bd_law_lot (T : Txt K mg ad fd) : Binds K (fd 42) p_law_lot [] := T.d_law_lot.binds (ps := p_law_lot) fun _ _ _ _ _ _ us hl => match us, hl with | [_, _], _ => rfl
theorem ok_law_lot (T : Txt K mg ad fd) (TL : TxtL K mg base fd) : FnG P w K mg base 2 (ad 42) (fd 42) p_law_lot (spOf K 2 f_law_lot) := (fnG_of (m := m_law_lot) T.d_law_lot sc_law_lot fun cdv A outer s H E hr hg =>
    (sl_cons (ss_set (i := 2) sc_law_lot.nd rfl (.inl rfl) (se_lst sa_nil))
    (sl_cons (ss_for PassesOwn.never rfl (si_range1 (sa_cons (se_var (i := 1)) sa_nil) T.b_range) (sg_name (i := 3) sc_law_lot.nd)
    (sl_one (ss_append (i := 2) (se_ix (se_tup (sa_cons se_int (sa_cons se_int (sa_cons se_int (sa_cons se_int (sa_cons se_int (sa_cons se_int sa_nil))))))) (se_call (ok_law_take T TL) (hr.mono (by omega)) hg T.m_law_take T.d_law_take.kp (bd_law_take T) (sa_cons (se_var (i := 0)) (sa_cons se_int sa_nil)))))))
    (sl_cons (ss_if (sb_eq hr (se_maxL hr rfl (sa_cons (se_var (i := 2)) sa_nil) T.b_max) se_int)
    (sl_one (ss_put (i := 2) se_int (pg_sub (pv 2) (se_call (ok_law_take T TL) (hr.mono (by omega)) hg T.m_law_take T.d_law_take.kp (bd_law_take T) (sa_cons (se_var (i := 0)) (sa_cons (se_var (i := 1)) sa_nil))) set_list)))
    sl_nil)
    (sl_one (ss_retV (i := 2))))))).imp fun _ _ _ _ => spOf_run'
theorem sc_law_stretches : FnScope n_law_stretches p_law_stretches (defScope s_law_stretches) := ⟨rfl, rfl, rfl, by decide +kernel, rfl, by decide +kernel, by decide +kernel⟩
theorem bd_law_stretches (T : Txt K mg ad fd) : Binds K (fd 43) p_law_stretches [] := T.d_law_stretches.binds (ps := p_law_stretches) fun _ _ _ _ _ _ us hl => match us, hl with | [_, _, _], _ => rfl
theorem ok_law_stretches (T : Txt K mg ad fd) (TL : TxtL K mg base fd) : FnG P w K mg base 3 (ad 43) (fd 43) p_law_stretches (spOf K 3 f_law_stretches) := (fnG_of (m := m_law_stretches) T.d_law_stretches sc_law_stretches fun cdv A outer s H E hr hg =>
    (sl_cons (ss_set (i := 3) sc_law_stretches.nd rfl (.inl rfl) (se_min2 rfl (sa_cons (se_var (i := 1)) (sa_cons (se_var (i := 2)) sa_nil)) T.b_min))
    (sl_cons (ss_set (i := 4) sc_law_stretches.nd rfl (.inl rfl) (se_sorted (sa_cons (se_sl (se_call (ok_law_shuffled T TL) (hr.mono (by omega)) hg T.m_law_shuffled T.d_law_shuffled.kp (bd_law_shuffled T) (sa_cons (se_var (i := 0)) (sa_cons (se_var (i := 1)) sa_nil))) so_none (so_some (se_add se_int (se_max2 rfl (sa_cons (se_call (ok_law_take T TL) (hr.mono (by omega)) hg T.m_law_take T.d_law_take.kp (bd_law_take T) (sa_cons (se_var (i := 0)) (sa_cons (se_var (i := 3)) sa_nil))) (sa_cons (se_call (ok_law_take T TL) (hr.mono (by omega)) hg T.m_law_take T.d_law_take.kp (bd_law_take T) (sa_cons (se_var (i := 0)) (sa_cons (se_var (i := 3)) sa_nil))) sa_nil)) T.b_max)))) sa_nil) T.b_sorted))
    (sl_cons (ss_par3g (i := 5) (j := 6) (l := 7) rfl sc_law_stretches.nd (sa2_cons (se_call (ok_law_lot T TL) (hr.mono (by omega)) hg T.m_law_lot T.d_law_lot.kp (bd_law_lot T) (sa_cons (se_var (i := 0)) (sa_cons (se_len (sa_cons (se_var (i := 4)) sa_nil) T.b_len) sa_nil))) (sa2_cons (se_call (ok_law_take T TL) (hr.mono (by omega)) hg T.m_law_take T.d_law_take.kp (bd_law_take T) (sa_cons (se_var (i := 0)) (sa_cons se_int sa_nil))) (sa2_cons (se_lst sa_nil) sa2_nil))))
    (sl_cons (ss_set (i := 8) sc_law_stretches.nd rfl (.inl rfl) (se_sum rfl (sa_cons (se_var (i := 5)) sa_nil) T.b_sum))
    (sl_cons (ss_frz [4, 5] (ss_for PassesOwn.never rfl (si_z2 (sa_cons (se_var (i := 4)) (sa_cons (se_var (i := 5)) sa_nil)) T.b_zip) (sg_tup rfl (sgs_cons (sg_name (i := 9) sc_law_stretches.nd) (sgs_cons (sg_name (i := 10) sc_law_stretches.nd) sgs_nil)))
    (sl_cons (ss_set (i := 11) sc_law_stretches.nd rfl (.inl rfl) (se_call (ok_law_low T TL) (hr.mono (by omega)) hg T.m_law_low T.d_law_low.kp (bd_law_low T) (sa_cons (se_var (i := 10)) (sa_cons (se_var (i := 8)) sa_nil))))
    (sl_cons (ss_if (sb_w (sw_and (sb_eq hr (se_var (i := 6)) se_int) (sw_and1 (sb_gt (se_var (i := 10)) se_int))))
    (sl_one (ss_append (i := 7) (se_tup (sa_cons (se_var (i := 9)) (sa_cons (se_var (i := 11)) (sa_cons (se_var (i := 11)) sa_nil))))))
    sl_nil)
    (sl_cons (ss_if (sb_eq hr (se_var (i := 6)) se_int)
    (sl_one (ss_append (i := 7) (se_tup (sa_cons (se_var (i := 9)) (sa_cons (se_tup (sa_cons se_int (sa_cons se_int sa_nil))) (sa_cons (se_tup (sa_cons se_int (sa_cons se_int sa_nil))) sa_nil))))))
    sl_nil)
    (sl_one (ss_if (sb_gt (se_var (i := 6)) se_int)
    (sl_cons (ss_set (i := 12) sc_law_stretches.nd rfl (.inl rfl) (se_call (ok_law_times T TL) (hr.mono (by omega)) hg T.m_law_times T.d_law_times.kp (bd_law_times T) (sa_cons (se_var (i := 11)) (sa_cons (se_call (ok_law_low T TL) (hr.mono (by omega)) hg T.m_law_low T.d_law_low.kp (bd_law_low T) (sa_cons (se_call (ok_law_take T TL) (hr.mono (by omega)) hg T.m_law_take T.d_law_take.kp (bd_law_take T) (sa_cons (se_var (i := 0)) (sa_cons se_int sa_nil))) (sa_cons se_int sa_nil))) sa_nil))))
    (sl_cons (ss_set (i := 13) sc_law_stretches.nd rfl (.inl rfl) (se_call (ok_law_times T TL) (hr.mono (by omega)) hg T.m_law_times T.d_law_times.kp (bd_law_times T) (sa_cons (se_call (ok_law_minus T TL) (hr.mono (by omega)) hg T.m_law_minus T.d_law_minus.kp (bd_law_minus T) (sa_cons (se_tup (sa_cons se_int (sa_cons se_int sa_nil))) (sa_cons (se_var (i := 11)) sa_nil))) (sa_cons (se_call (ok_law_low T TL) (hr.mono (by omega)) hg T.m_law_low T.d_law_low.kp (bd_law_low T) (sa_cons (se_call (ok_law_take T TL) (hr.mono (by omega)) hg T.m_law_take T.d_law_take.kp (bd_law_take T) (sa_cons (se_var (i := 0)) (sa_cons se_int sa_nil))) (sa_cons se_int sa_nil))) sa_nil))))
    (sl_one (ss_append (i := 7) (se_tup (sa_cons (se_var (i := 9)) (sa_cons (se_var (i := 12)) (sa_cons (se_call (ok_law_plus T TL) (hr.mono (by omega)) hg T.m_law_plus T.d_law_plus.kp (bd_law_plus T) (sa_cons (se_var (i := 11)) (sa_cons (se_var (i := 13)) sa_nil))) sa_nil))))))))
    sl_nil)))))))
    (sl_one (ss_ret (se_tuple (sa_cons (se_var (i := 7)) sa_nil) T.b_tuple))))))))).imp fun _ _ _ _ => spOf_run'
theorem sc_law_vague : FnScope n_law_vague p_law_vague (defScope s_law_vague) := ⟨rfl, rfl, rfl, by decide +kernel, rfl, by decide +kernel, by decide +kernel⟩
theorem bd_law_vague (T : Txt K mg ad fd) : Binds K (fd 44) p_law_vague [] := T.d_law_vague.binds (ps := p_law_vague) fun _ _ _ _ _ _ us hl => match us, hl with | [_, _, _], _ => rfl
theorem ok_law_vague (T : Txt K mg ad fd) (TL : TxtL K mg base fd) : FnG P w K mg base 4 (ad 44) (fd 44) p_law_vague (spOf K 3 f_law_vague) := (fnG_of (m := m_law_vague) T.d_law_vague sc_law_vague fun cdv A outer s H E hr hg =>
    (sl_cons (ss_par3 (i := 3) (j := 4) (l := 5) rfl sc_law_vague.nd (sa_cons (se_call (ok_law_pick T TL) (hr.mono (by omega)) hg T.m_law_pick T.d_law_pick.kp (bd_law_pick T) (sa_cons (se_var (i := 0)) (sa_cons (se_var (i := 1)) sa_nil))) (sa_cons (se_call (ok_law_pick T TL) (hr.mono (by omega)) hg T.m_law_pick T.d_law_pick.kp (bd_law_pick T) (sa_cons (se_var (i := 0)) (sa_cons (se_tup (sa_cons se_int (sa_cons se_int (sa_cons se_int (sa_cons se_int (sa_cons se_int (sa_cons se_int (sa_cons se_int sa_nil)))))))) sa_nil))) (sa_cons (se_call (ok_law_share T TL) (hr.mono (by omega)) hg T.m_law_share T.d_law_share.kp (bd_law_share T) (sa_cons (se_var (i := 0)) sa_nil)) sa_nil))))
    (sl_cons (ss_set (i := 6) sc_law_vague.nd rfl (.inl rfl) (se_lst sa_nil))
    (sl_cons (ss_for PassesOwn.never rfl (si_range1 (sa_cons (se_var (i := 3)) sa_nil) T.b_range) (sg_name (i := 7) sc_law_vague.nd)
    (sl_cons (ss_set (i := 8) sc_law_vague.nd rfl (.inl rfl) (se_lst sa_nil))
    (sl_cons (ss_for PassesOwn.never rfl (si_range1 (sa_cons (se_call (ok_law_pick T TL) (hr.mono (by omega)) hg T.m_law_pick T.d_law_pick.kp (bd_law_pick T) (sa_cons (se_var (i := 0)) (sa_cons (se_tup (sa_cons se_int (sa_cons se_int (sa_cons se_int (sa_cons se_int (sa_cons se_int (sa_cons se_int (sa_cons se_int (sa_cons se_int sa_nil))))))))) sa_nil))) sa_nil) T.b_range) (sg_name (i := 9) sc_law_vague.nd)
    (sl_one (ss_append (i := 8) (se_tup (sa_cons (se_call (ok_law_stretches T TL) (hr.mono (by omega)) hg T.m_law_stretches T.d_law_stretches.kp (bd_law_stretches T) (sa_cons (se_var (i := 0)) (sa_cons (se_var (i := 3)) (sa_cons (se_var (i := 2)) sa_nil)))) (sa_cons (se_call (ok_law_gains T TL) (hr.mono (by omega)) hg T.m_law_gains T.d_law_gains.kp (bd_law_gains T) (sa_cons (se_var (i := 0)) (sa_cons (se_var (i := 4)) sa_nil))) sa_nil))))))
    (sl_one (ss_append (i := 6) (se_tuple (sa_cons (se_var (i := 8)) sa_nil) T.b_tuple))))))
    (sl_one (ss_ret (se_tup (sa_cons (se_var (i := 5)) (sa_cons (se_var (i := 4)) (sa_cons (se_tuple (sa_cons (se_var (i := 6)) sa_nil) T.b_tuple) sa_nil)))))))))).imp fun _ _ _ _ => spOf_run'
theorem sc_law_fill : FnScope n_law_fill p_law_fill (defScope s_law_fill) := ⟨rfl, rfl, rfl, by decide +kernel, rfl, by decide +kernel, by decide +kernel⟩
theorem bd_law_fill (T : Txt K mg ad fd) : Binds K (fd 45) p_law_fill [] := T.d_law_fill.binds (ps := p_law_fill) fun _ _ _ _ _ _ us hl => match us, hl with | [_, _], _ => rfl
theorem ok_law_fill (T : Txt K mg ad fd) (TL : TxtL K mg base fd) : FnG P w K mg base 4 (ad 45) (fd 45) p_law_fill (spOf K 2 f_law_fill) := (fnG_of (m := m_law_fill) T.d_law_fill sc_law_fill fun cdv A outer s H E hr hg =>
    (sl_cons (ss_setLc (i := 2) (own := [("_law_each", 7)]) (is := [7]) rfl sc_law_fill.nd rfl rfl (sw_true rfl rfl rfl (by decide +kernel)) (si_seq (se_var (i := 0))) (blkOk_by (own := [("_law_each", 7)]) (N := n_law_fill) (sc := defScope s_law_fill) (by decide +kernel)) (by decide) (fun _ _ _ _ _ => (sg_name (i := 7) sc_law_fill.nd)) (fun _ _ _ _ _ => sts_nil) (fun _ _ _ _ _ => (se_ix (se_var (i := 7)) se_int)))
    (sl_cons (ss_set (i := 3) sc_law_fill.nd rfl (.inl rfl) (se_call (ok_law_minus T TL) (hr.mono (by omega)) hg T.m_law_minus T.d_law_minus.kp (bd_law_minus T) (sa_cons (se_tup (sa_cons se_int (sa_cons se_int sa_nil))) (sa_cons (se_callB (ok_law_total T TL) (hr.mono (by omega)) hg T.m_law_total T.d_law_total.kp (bd_law_total T) (sa_cons (se_var (i := 2)) sa_nil)) sa_nil))))
    (sl_cons (ss_for PassesOwn.never rfl (si_seq (se_var (i := 1))) (sg_name (i := 4) sc_law_fill.nd)
    (sl_cons (ss_set (i := 5) sc_law_fill.nd rfl (.inl rfl) (se_call (ok_law_minus T TL) (hr.mono (by omega)) hg T.m_law_minus T.d_law_minus.kp (bd_law_minus T) (sa_cons (se_ix (se_ix (se_var (i := 0)) (se_var (i := 4))) se_int) (sa_cons (se_ix (se_ix (se_var (i := 0)) (se_var (i := 4))) se_int) sa_nil))))
    (sl_cons (ss_set (i := 6) sc_law_fill.nd rfl (.inl rfl) (se_if (sb_val (se_call (ok_law_below T TL) (hr.mono (by omega)) hg T.m_law_below T.d_law_below.kp (bd_law_below T) (sa_cons (se_var (i := 5)) (sa_cons (se_var (i := 3)) sa_nil)))) (se_var (i := 5)) (se_var (i := 3))))
    (sl_cons (ss_put (i := 2) (se_call (ok_law_plus T TL) (hr.mono (by omega)) hg T.m_law_plus T.d_law_plus.kp (bd_law_plus T) (sa_cons (se_ix (se_var (i := 2)) (se_var (i := 4))) (sa_cons (se_var (i := 6)) sa_nil))) (pg_sub (pv 2) (se_var (i := 4)) set_list))
    (sl_one (ss_set (i := 3) sc_law_fill.nd rfl (.inl rfl) (se_call (ok_law_minus T TL) (hr.mono (by omega)) hg T.m_law_minus T.d_law_minus.kp (bd_law_minus T) (sa_cons (se_var (i := 3)) (sa_cons (se_var (i := 6)) sa_nil)))))))))
    (sl_one (ss_retV (i := 2))))))).imp fun _ _ _ _ => spOf_run'
theorem sc_law_known : FnScope n_law_known p_law_known (defScope s_law_known) := ⟨rfl, rfl, rfl, by decide +kernel, rfl, by decide +kernel, by decide +kernel⟩
theorem bd_law_known (T : Txt K mg ad fd) : Binds K (fd 46) p_law_known [] := T.d_law_known.binds (ps := p_law_known) fun _ _ _ _ _ _ us hl => match us, hl with | [_, _], _ => rfl
theorem ok_law_known (T : Txt K mg ad fd) (TL : TxtL K mg base fd) : FnG P w K mg base 1 (ad 46) (fd 46) p_law_known (spOf K 2 f_law_known) := (fnG_of (m := m_law_known) T.d_law_known sc_law_known fun cdv A outer s H E hr hg =>
    (sl_cons (ss_setLc (i := 2) (own := [("_law_each", 3), ("_law_chance", 4)]) (is := [3, 4]) rfl sc_law_known.nd rfl rfl (sw_true rfl rfl rfl (by decide +kernel)) (si_z2 (sa_cons (se_var (i := 0)) (sa_cons (se_var (i := 1)) sa_nil)) T.b_zip) (blkOk_by (own := [("_law_each", 3), ("_law_chance", 4)]) (N := n_law_known) (sc := defScope s_law_known) (by decide +kernel)) (by decide) (fun _ _ _ _ _ => (sg_tup rfl (sgs_cons (sg_name (i := 3) sc_law_known.nd) (sgs_cons (sg_name (i := 4) sc_law_known.nd) sgs_nil)))) (fun _ _ _ _ _ => sts_nil) (fun _ _ _ _ _ => (se_tup (sa_cons (se_ix (se_var (i := 3)) se_int) (sa_cons (se_var (i := 4)) sa_nil)))))
    (sl_one (ss_frz [2] (ss_ret (se_tuple (sa_cons (se_lc (own := [("_law_pair", 5)]) (is := [5]) rfl sc_law_known.nd (si_seq (se_var (i := 2))) (blkOk_by (own := [("_law_pair", 5)]) (N := n_law_known) (sc := defScope s_law_known) (by decide +kernel)) (by decide) (fun _ _ _ _ _ => (sg_name (i := 5) sc_law_known.nd)) (fun _ _ _ _ _ => sts_one (sb_gt (se_ix (se_ix (se_var (i := 5)) se_int) se_int) se_int)) (fun _ _ _ _ _ => (se_var (i := 5)))) sa_nil) T.b_tuple)))))).imp fun _ _ _ _ => spOf_run'
theorem sc_law_within : FnScope n_law_within p_law_within (defScope s_law_within) := ⟨rfl, rfl, rfl, by decide +kernel, rfl, by decide +kernel, by decide +kernel⟩
theorem bd_law_within (T : Txt K mg ad fd) : Binds K (fd 47) p_law_within [] := T.d_law_within.binds (ps := p_law_within) fun _ _ _ _ _ _ us hl => match us, hl with | [_, _], _ => rfl
theorem ok_law_within (T : Txt K mg ad fd) (TL : TxtL K mg base fd) : FnG P w K mg base 5 (ad 47) (fd 47) p_law_within (spOf K 2 f_law_within) := (fnG_of (m := m_law_within) T.d_law_within sc_law_within fun cdv A outer s H E hr hg =>
    (sl_cons (ss_set (i := 2) sc_law_within.nd rfl (.inl rfl) (se_call (ok_law_fill T TL) (hr.mono (by omega)) hg T.m_law_fill T.d_law_fill.kp (bd_law_fill T) (sa_cons (se_var (i := 1)) (sa_cons (se_call (ok_law_shuffled T TL) (hr.mono (by omega)) hg T.m_law_shuffled T.d_law_shuffled.kp (bd_law_shuffled T) (sa_cons (se_var (i := 0)) (sa_cons (se_len (sa_cons (se_var (i := 1)) sa_nil) T.b_len) sa_nil))) sa_nil))))
    (sl_cons (ss_if (sb_eq hr (se_call (ok_law_take T TL) (hr.mono (by omega)) hg T.m_law_take T.d_law_take.kp (bd_law_take T) (sa_cons (se_var (i := 0)) (sa_cons se_int sa_nil))) se_int)
    (sl_one (ss_retV (i := 2)))
    sl_nil)
    (sl_cons (ss_set (i := 3) sc_law_within.nd rfl (.inl rfl) (se_call (ok_law_fill T TL) (hr.mono (by omega)) hg T.m_law_fill T.d_law_fill.kp (bd_law_fill T) (sa_cons (se_var (i := 1)) (sa_cons (se_call (ok_law_shuffled T TL) (hr.mono (by omega)) hg T.m_law_shuffled T.d_law_shuffled.kp (bd_law_shuffled T) (sa_cons (se_var (i := 0)) (sa_cons (se_len (sa_cons (se_var (i := 1)) sa_nil) T.b_len) sa_nil))) sa_nil))))
    (sl_cons (ss_set (i := 4) sc_law_within.nd rfl (.inr rfl) (se_call (ok_law_low T TL) (hr.mono (by omega)) hg T.m_law_low T.d_law_low.kp (bd_law_low T) (sa_cons (se_add se_int (se_call (ok_law_take T TL) (hr.mono (by omega)) hg T.m_law_take T.d_law_take.kp (bd_law_take T) (sa_cons (se_var (i := 0)) (sa_cons se_int sa_nil)))) (sa_cons se_int sa_nil))))
    (sl_cons (ss_set (i := 5) sc_law_within.nd rfl (.inr rfl) (se_call (ok_law_minus T TL) (hr.mono (by omega)) hg T.m_law_minus T.d_law_minus.kp (bd_law_minus T) (sa_cons (se_tup (sa_cons se_int (sa_cons se_int sa_nil))) (sa_cons (se_var (i := 4)) sa_nil))))
    (sl_one (ss_frz [2, 3] (ss_ret (se_lc (own := [("_law_x", 6), ("_law_y", 7)]) (is := [6, 7]) rfl sc_law_within.nd (si_z2 (sa_cons (se_var (i := 2)) (sa_cons (se_var (i := 3)) sa_nil)) T.b_zip) (blkOk_by (own := [("_law_x", 6), ("_law_y", 7)]) (N := n_law_within) (sc := defScope s_law_within) (by decide +kernel)) (by decide) (fun _ _ _ _ _ => (sg_tup rfl (sgs_cons (sg_name (i := 6) sc_law_within.nd) (sgs_cons (sg_name (i := 7) sc_law_within.nd) sgs_nil)))) (fun _ _ _ _ _ => sts_nil) (fun _ _ _ _ _ => (se_call (ok_law_plus T TL) (hr.mono (by omega)) hg T.m_law_plus T.d_law_plus.kp (bd_law_plus T) (sa_cons (se_call (ok_law_times T TL) (hr.mono (by omega)) hg T.m_law_times T.d_law_times.kp (bd_law_times T) (sa_cons (se_var (i := 4)) (sa_cons (se_var (i := 6)) sa_nil))) (sa_cons (se_call (ok_law_times T TL) (hr.mono (by omega)) hg T.m_law_times T.d_law_times.kp (bd_law_times T) (sa_cons (se_var (i := 5)) (sa_cons (se_var (i := 7)) sa_nil))) sa_nil)))))))))))))).imp fun _ _ _ _ => spOf_run'
end
end WW
namespace WW
open PySem PySem.Spec L2 Dh
section
variable [LawT] {P : Program} {w : World} {K : PySem.W.Frag} {mg : Str → Option Value} {base : Heap} {ad : Nat → Addr} {fd : Nat → FuncData}
theorem sc_law_inside : FnScope n_law_inside p_law_inside (defScope s_law_inside) := ⟨rfl, rfl, rfl, by decide +kernel, rfl, by decide +kernel, by decide +kernel⟩
theorem bd_law_inside (T : Txt K mg ad fd) : Binds K (fd 48) p_law_inside [] := T.d_law_inside.binds (ps := p_law_inside) fun _ _ _ _ _ _ us hl => match us, hl with | [_, _], _ => rfl
theorem ok_law_inside (T : Txt K mg ad fd) (TL : TxtL K mg base fd) : FnG P w K mg base 6 (ad 48) (fd 48) p_law_inside (spOf K 2 f_law_inside) := (fnG_of (m := m_law_inside) T.d_law_inside sc_law_inside fun cdv A outer s H E hr hg =>
    (sl_cons (ss_set (i := 2) sc_law_inside.nd rfl (.inl rfl) (se_lst sa_nil))
    (sl_cons (ss_for PassesOwn.never rfl (si_seq (se_ix (se_var (i := 1)) se_int)) (sg_name (i := 3) sc_law_inside.nd)
    (sl_cons (ss_set (i := 4) sc_law_inside.nd rfl (.inl rfl) (se_lst sa_nil))
    (sl_cons (ss_for PassesOwn.never rfl (si_seq (se_var (i := 3))) (sg_tup rfl (sgs_cons (sg_name (i := 5) sc_law_inside.nd) (sgs_cons (sg_name (i := 6) sc_law_inside.nd) sgs_nil)))
    (sl_one (ss_append (i := 4) (se_tup (sa_cons (se_call (ok_law_known T TL) (hr.mono (by omega)) hg T.m_law_known T.d_law_known.kp (bd_law_known T) (sa_cons (se_var (i := 5)) (sa_cons (se_call (ok_law_within T TL) (hr.mono (by omega)) hg T.m_law_within T.d_law_within.kp (bd_law_within T) (sa_cons (se_var (i := 0)) (sa_cons (se_var (i := 5)) sa_nil))) sa_nil))) (sa_cons (se_var (i := 6)) sa_nil))))))
    (sl_one (ss_append (i := 2) (se_tuple (sa_cons (se_var (i := 4)) sa_nil) T.b_tuple))))))
    (sl_one (ss_ret (se_tup (sa_cons (se_ix (se_var (i := 1)) se_int) (sa_cons (se_ix (se_var (i := 1)) se_int) (sa_cons (se_tuple (sa_cons (se_var (i := 2)) sa_nil) T.b_tuple) sa_nil))))))))).imp fun _ _ _ _ => spOf_run'
theorem sc_law_tight : FnScope n_law_tight p_law_tight (defScope s_law_tight) := ⟨rfl, rfl, rfl, by decide +kernel, rfl, by decide +kernel, by decide +kernel⟩
theorem bd_law_tight (T : Txt K mg ad fd) : Binds K (fd 49) p_law_tight [] := T.d_law_tight.binds (ps := p_law_tight) fun _ _ _ _ _ _ us hl => match us, hl with | [_], _ => rfl
theorem ok_law_tight (T : Txt K mg ad fd) (TL : TxtL K mg base fd) : FnG P w K mg base 1 (ad 49) (fd 49) p_law_tight (spOf K 1 f_law_tight) := (fnG_of (m := m_law_tight) T.d_law_tight sc_law_tight fun cdv A outer s H E hr hg =>
    (sl_cons (ss_set (i := 1) sc_law_tight.nd rfl (.inl rfl) (se_lst sa_nil))
    (sl_cons (ss_for PassesOwn.never rfl (si_seq (se_ix (se_var (i := 0)) se_int)) (sg_name (i := 2) sc_law_tight.nd)
    (sl_cons (ss_set (i := 3) sc_law_tight.nd rfl (.inl rfl) (se_lst sa_nil))
    (sl_cons (ss_for PassesOwn.never rfl (si_seq (se_var (i := 2))) (sg_tup rfl (sgs_cons (sg_name (i := 4) sc_law_tight.nd) (sgs_cons (sg_name (i := 5) sc_law_tight.nd) sgs_nil)))
    (sl_one (ss_append (i := 3) (se_tup (sa_cons (se_tuple (sa_cons (se_lc (own := [("_law_each", 6)]) (is := [6]) rfl sc_law_tight.nd (si_seq (se_var (i := 4))) (blkOk_by (own := [("_law_each", 6)]) (N := n_law_tight) (sc := defScope s_law_tight) (by decide +kernel)) (by decide) (fun _ _ _ _ _ => (sg_name (i := 6) sc_law_tight.nd)) (fun _ _ _ _ _ => sts_nil) (fun _ _ _ _ _ => (se_tup (sa_cons (se_ix (se_var (i := 6)) se_int) (sa_cons (se_ix (se_var (i := 6)) se_int) (sa_cons (se_ix (se_var (i := 6)) se_int) sa_nil)))))) sa_nil) T.b_tuple) (sa_cons (se_var (i := 5)) sa_nil))))))
    (sl_one (ss_append (i := 1) (se_tuple (sa_cons (se_var (i := 3)) sa_nil) T.b_tuple))))))
    (sl_one (ss_ret (se_tup (sa_cons (se_ix (se_var (i := 0)) se_int) (sa_cons (se_ix (se_var (i := 0)) se_int) (sa_cons (se_tuple (sa_cons (se_var (i := 1)) sa_nil) T.b_tuple) sa_nil))))))))).imp fun _ _ _ _ => spOf_run'
theorem sc_law_full : FnScope n_law_full p_law_full (defScope s_law_full) := ⟨rfl, rfl, rfl, by decide +kernel, rfl, by decide +kernel, by decide +kernel⟩
theorem bd_law_full (T : Txt K mg ad fd) : Binds K (fd 50) p_law_full [] := T.d_law_full.binds (ps := p_law_full) fun _ _ _ _ _ _ us hl => match us, hl with | [_, _], _ => rfl
theorem ok_law_full (T : Txt K mg ad fd) (TL : TxtL K mg base fd) : FnG P w K mg base 1 (ad 50) (fd 50) p_law_full (spOf K 2 f_law_full) := (fnG_of (m := m_law_full) T.d_law_full sc_law_full fun cdv A outer s H E hr hg =>
    (sl_cons (ss_set (i := 2) sc_law_full.nd rfl (.inl rfl) (se_mul (se_lst (sa_cons (se_tup (sa_cons se_int (sa_cons se_int sa_nil))) sa_nil)) (se_var (i := 1))))
    (sl_cons (ss_for PassesOwn.never rfl (si_seq (se_var (i := 0))) (sg_tup rfl (sgs_cons (sg_name (i := 3) sc_law_full.nd) (sgs_cons (sg_name (i := 4) sc_law_full.nd) sgs_nil)))
    (sl_one (ss_put (i := 2) (se_var (i := 4)) (pg_sub (pv 2) (se_var (i := 3)) set_list))))
    (sl_one (ss_retV (i := 2)))))).imp fun _ _ _ _ => spOf_run'
theorem sc_law_is_whole : FnScope n_law_is_whole p_law_is_whole (defScope s_law_is_whole) := ⟨rfl, rfl, rfl, by decide +kernel, rfl, by decide +kernel, by decide +kernel⟩
theorem bd_law_is_whole (T : Txt K mg ad fd) : Binds K (fd 51) p_law_is_whole [] := T.d_law_is_whole.binds (ps := p_law_is_whole) fun _ _ _ _ _ _ us hl => match us, hl with | [_], _ => rfl
theorem ok_law_is_whole (T : Txt K mg ad fd) (TL : TxtL K mg base fd) : FnG P w K mg base 1 (ad 51) (fd 51) p_law_is_whole (spOf K 1 f_law_is_whole) := (fnG_of (m := m_law_is_whole) T.d_law_is_whole sc_law_is_whole fun cdv A outer s H E hr hg =>
    (sl_one (ss_ret (se_and (se_isi (T := "int") (by decide) (se_var (i := 0)) T.b_isinstance T.b_int (by decide +kernel)) (se_one (se_not (se_isi (T := "bool") (by decide) (se_var (i := 0)) T.b_isinstance T.b_bool (by decide +kernel)))))))).imp fun _ _ _ _ => spOf_run'
theorem sc_law_is_index : FnScope n_law_is_index p_law_is_index (defScope s_law_is_index) := ⟨rfl, rfl, rfl, by decide +kernel, rfl, by decide +kernel, by decide +kernel⟩
theorem bd_law_is_index (T : Txt K mg ad fd) : Binds K (fd 52) p_law_is_index [] := T.d_law_is_index.binds (ps := p_law_is_index) fun _ _ _ _ _ _ us hl => match us, hl with | [_, _], _ => rfl
theorem ok_law_is_index (T : Txt K mg ad fd) (TL : TxtL K mg base fd) : FnG P w K mg base 2 (ad 52) (fd 52) p_law_is_index (spOf K 2 f_law_is_index) := (fnG_of (m := m_law_is_index) T.d_law_is_index sc_law_is_index fun cdv A outer s H E hr hg =>
    (sl_one (ss_ret (se_and (se_call (ok_law_is_whole T TL) (hr.mono (by omega)) hg T.m_law_is_whole T.d_law_is_whole.kp (bd_law_is_whole T) (sa_cons (se_var (i := 0)) sa_nil)) (se_one (se_lelt se_int (se_var (i := 0)) (se_var (i := 1)))))))).imp fun _ _ _ _ => spOf_run'
theorem sc_law_is_fraction : FnScope n_law_is_fraction p_law_is_fraction (defScope s_law_is_fraction) := ⟨rfl, rfl, rfl, by decide +kernel, rfl, by decide +kernel, by decide +kernel⟩
theorem bd_law_is_fraction (T : Txt K mg ad fd) : Binds K (fd 53) p_law_is_fraction [] := T.d_law_is_fraction.binds (ps := p_law_is_fraction) fun _ _ _ _ _ _ us hl => match us, hl with | [_], _ => rfl
theorem ok_law_is_fraction (T : Txt K mg ad fd) (TL : TxtL K mg base fd) : FnG P w K mg base 2 (ad 53) (fd 53) p_law_is_fraction (spOf K 1 f_law_is_fraction) := (fnG_of (m := m_law_is_fraction) T.d_law_is_fraction sc_law_is_fraction fun cdv A outer s H E hr hg =>
    (sl_cons (ss_if (sb_w (sw_or (sb_not (sb_val (se_isi (T := "tuple") (by decide) (se_var (i := 0)) T.b_isinstance T.b_tuple (by decide +kernel)))) (sw_or1 (sb_ne hr (se_len (sa_cons (se_var (i := 0)) sa_nil) T.b_len) se_int))))
    (sl_one (ss_ret se_bl))
    sl_nil)
    (sl_cons (ss_if (sb_w (sw_or (sb_not (sb_val (se_call (ok_law_is_whole T TL) (hr.mono (by omega)) hg T.m_law_is_whole T.d_law_is_whole.kp (bd_law_is_whole T) (sa_cons (se_ix (se_var (i := 0)) se_int) sa_nil)))) (sw_or (sb_not (sb_val (se_call (ok_law_is_whole T TL) (hr.mono (by omega)) hg T.m_law_is_whole T.d_law_is_whole.kp (bd_law_is_whole T) (sa_cons (se_ix (se_var (i := 0)) se_int) sa_nil)))) (sw_or1 (sb_le (se_ix (se_var (i := 0)) se_int) se_int)))))
    (sl_one (ss_ret se_bl))
    sl_nil)
    (sl_one (ss_ret (se_eq hr (se_call (ok_law_low T TL) (hr.mono (by omega)) hg T.m_law_low T.d_law_low.kp (bd_law_low T) (sa_cons (se_ix (se_var (i := 0)) se_int) (sa_cons (se_ix (se_var (i := 0)) se_int) sa_nil))) (se_var (i := 0)))))))).imp fun _ _ _ _ => spOf_run'
theorem sc_law_is_row : FnScope n_law_is_row p_law_is_row (defScope s_law_is_row) := ⟨rfl, rfl, rfl, by decide +kernel, rfl, by decide +kernel, by decide +kernel⟩
theorem bd_law_is_row (T : Txt K mg ad fd) : Binds K (fd 54) p_law_is_row [] := T.d_law_is_row.binds (ps := p_law_is_row) fun _ _ _ _ _ _ us hl => match us, hl with | [_, _], _ => rfl
theorem ok_law_is_row (T : Txt K mg ad fd) (TL : TxtL K mg base fd) : FnG P w K mg base 3 (ad 54) (fd 54) p_law_is_row (spOf K 2 f_law_is_row) := (fnG_of (m := m_law_is_row) T.d_law_is_row sc_law_is_row fun cdv A outer s H E hr hg =>
    (sl_cons (ss_if (sb_w (sw_or (sb_not (sb_val (se_isi (T := "tuple") (by decide) (se_var (i := 0)) T.b_isinstance T.b_tuple (by decide +kernel)))) (sw_or1 (sb_ne hr (se_len (sa_cons (se_var (i := 0)) sa_nil) T.b_len) (se_var (i := 1))))))
    (sl_one (ss_ret se_bl))
    sl_nil)
    (sl_one (ss_ret (se_eqN hr (se_lc (own := [("_law_each", 2)]) (is := [2]) rfl sc_law_is_row.nd (si_seq (se_var (i := 0))) (blkOk_by (own := [("_law_each", 2)]) (N := n_law_is_row) (sc := defScope s_law_is_row) (by decide +kernel)) (by decide) (fun _ _ _ _ _ => (sg_name (i := 2) sc_law_is_row.nd)) (fun _ _ _ _ _ => sts_one (sb_not (sb_val (se_call (ok_law_is_fraction T TL) (hr.mono (by omega)) hg T.m_law_is_fraction T.d_law_is_fraction.kp (bd_law_is_fraction T) (sa_cons (se_var (i := 2)) sa_nil))))) (fun _ _ _ _ _ => (se_var (i := 2)))) (se_lst sa_nil)))))).imp fun _ _ _ _ => spOf_run'
theorem sc_law_is_stretches : FnScope n_law_is_stretches p_law_is_stretches (defScope s_law_is_stretches) := ⟨rfl, rfl, rfl, by decide +kernel, rfl, by decide +kernel, by decide +kernel⟩
theorem bd_law_is_stretches (T : Txt K mg ad fd) : Binds K (fd 55) p_law_is_stretches [] := T.d_law_is_stretches.binds (ps := p_law_is_stretches) fun _ _ _ _ _ _ us hl => match us, hl with | [_, _], _ => rfl
theorem ok_law_is_stretches (T : Txt K mg ad fd) (TL : TxtL K mg base fd) : FnG P w K mg base 3 (ad 55) (fd 55) p_law_is_stretches (spOf K 2 f_law_is_stretches) := (fnG_of (m := m_law_is_stretches) T.d_law_is_stretches sc_law_is_stretches fun cdv A outer s H E hr hg =>
    (sl_cons (ss_if (sb_not (sb_val (se_isi (T := "tuple") (by decide) (se_var (i := 0)) T.b_isinstance T.b_tuple (by decide +kernel))))
    (sl_one (ss_ret se_bl))
    sl_nil)
    (sl_cons (ss_asg (se_tup (sa_cons (se_neg se_int) (sa_cons (se_tup (sa_cons se_int (sa_cons se_int sa_nil))) (sa_cons (se_tup (sa_cons se_int (sa_cons se_int sa_nil))) sa_nil)))) (sg_tup rfl (sgs_cons (sg_name (i := 2) sc_law_is_stretches.nd) (sgs_cons (sg_name (i := 3) sc_law_is_stretches.nd) (sgs_cons (sg_name (i := 4) sc_law_is_stretches.nd) sgs_nil)))))
    (sl_cons (ss_for PassesOwn.never rfl (si_seq (se_var (i := 0))) (sg_name (i := 5) sc_law_is_stretches.nd)
    (sl_cons (ss_if (sb_w (sw_or (sb_not (sb_val (se_isi (T := "tuple") (by decide) (se_var (i := 5)) T.b_isinstance T.b_tuple (by decide +kernel)))) (sw_or (sb_ne hr (se_len (sa_cons (se_var (i := 5)) sa_nil) T.b_len) se_int) (sw_or (sb_not (sb_val (se_call (ok_law_is_index T TL) (hr.mono (by omega)) hg T.m_law_is_index T.d_law_is_index.kp (bd_law_is_index T) (sa_cons (se_ix (se_var (i := 5)) se_int) (sa_cons (se_var (i := 1)) sa_nil))))) (sw_or1 (sb_le (se_ix (se_var (i := 5)) se_int) (se_var (i := 2))))))))
    (sl_one (ss_ret se_bl))
    sl_nil)
    (sl_cons (ss_if (sb_w (sw_or (sb_not (sb_val (se_call (ok_law_is_fraction T TL) (hr.mono (by omega)) hg T.m_law_is_fraction T.d_law_is_fraction.kp (bd_law_is_fraction T) (sa_cons (se_ix (se_var (i := 5)) se_int) sa_nil)))) (sw_or (sb_not (sb_val (se_call (ok_law_is_fraction T TL) (hr.mono (by omega)) hg T.m_law_is_fraction T.d_law_is_fraction.kp (bd_law_is_fraction T) (sa_cons (se_ix (se_var (i := 5)) se_int) sa_nil)))) (sw_or1 (sb_lt (se_ix (se_ix (se_var (i := 5)) se_int) se_int) se_int)))))
    (sl_one (ss_ret se_bl))
    sl_nil)
    (sl_cons (ss_if (sb_w (sw_or (sb_val (se_call (ok_law_below T TL) (hr.mono (by omega)) hg T.m_law_below T.d_law_below.kp (bd_law_below T) (sa_cons (se_ix (se_var (i := 5)) se_int) (sa_cons (se_ix (se_var (i := 5)) se_int) sa_nil)))) (sw_or1 (sb_val (se_call (ok_law_below T TL) (hr.mono (by omega)) hg T.m_law_below T.d_law_below.kp (bd_law_below T) (sa_cons (se_tup (sa_cons se_int (sa_cons se_int sa_nil))) (sa_cons (se_ix (se_var (i := 5)) se_int) sa_nil)))))))
    (sl_one (ss_ret se_bl))
    sl_nil)
    (sl_one (ss_par3 (i := 2) (j := 3) (l := 4) rfl sc_law_is_stretches.nd (sa_cons (se_ix (se_var (i := 5)) se_int) (sa_cons (se_call (ok_law_plus T TL) (hr.mono (by omega)) hg T.m_law_plus T.d_law_plus.kp (bd_law_plus T) (sa_cons (se_var (i := 3)) (sa_cons (se_ix (se_var (i := 5)) se_int) sa_nil))) (sa_cons (se_call (ok_law_plus T TL) (hr.mono (by omega)) hg T.m_law_plus T.d_law_plus.kp (bd_law_plus T) (sa_cons (se_var (i := 4)) (sa_cons (se_ix (se_var (i := 5)) se_int) sa_nil))) sa_nil)))))))))
    (sl_one (ss_ret (se_and (se_not (se_call (ok_law_below T TL) (hr.mono (by omega)) hg T.m_law_below T.d_law_below.kp (bd_law_below T) (sa_cons (se_tup (sa_cons se_int (sa_cons se_int sa_nil))) (sa_cons (se_var (i := 3)) sa_nil)))) (se_one (se_not (se_call (ok_law_below T TL) (hr.mono (by omega)) hg T.m_law_below T.d_law_below.kp (bd_law_below T) (sa_cons (se_var (i := 4)) (sa_cons (se_tup (sa_cons se_int (sa_cons se_int sa_nil))) sa_nil)))))))))))).imp fun _ _ _ _ => spOf_run'
theorem sc_law_is_chances : FnScope n_law_is_chances p_law_is_chances (defScope s_law_is_chances) := ⟨rfl, rfl, rfl, by decide +kernel, rfl, by decide +kernel, by decide +kernel⟩
theorem bd_law_is_chances (T : Txt K mg ad fd) : Binds K (fd 56) p_law_is_chances [] := T.d_law_is_chances.binds (ps := p_law_is_chances) fun _ _ _ _ _ _ us hl => match us, hl with | [_, _], _ => rfl
theorem ok_law_is_chances (T : Txt K mg ad fd) (TL : TxtL K mg base fd) : FnG P w K mg base 3 (ad 56) (fd 56) p_law_is_chances (spOf K 2 f_law_is_chances) := (fnG_of (m := m_law_is_chances) T.d_law_is_chances sc_law_is_chances fun cdv A outer s H E hr hg =>
    (sl_cons (ss_if (sb_not (sb_val (se_isi (T := "tuple") (by decide) (se_var (i := 0)) T.b_isinstance T.b_tuple (by decide +kernel))))
    (sl_one (ss_ret se_bl))
    sl_nil)
    (sl_cons (ss_asg (se_tup (sa_cons (se_neg se_int) (sa_cons (se_tup (sa_cons se_int (sa_cons se_int sa_nil))) sa_nil))) (sg_tup rfl (sgs_cons (sg_name (i := 2) sc_law_is_chances.nd) (sgs_cons (sg_name (i := 3) sc_law_is_chances.nd) sgs_nil))))
    (sl_cons (ss_for PassesOwn.never rfl (si_seq (se_var (i := 0))) (sg_name (i := 4) sc_law_is_chances.nd)
    (sl_cons (ss_if (sb_w (sw_or (sb_not (sb_val (se_isi (T := "tuple") (by decide) (se_var (i := 4)) T.b_isinstance T.b_tuple (by decide +kernel)))) (sw_or (sb_ne hr (se_len (sa_cons (se_var (i := 4)) sa_nil) T.b_len) se_int) (sw_or (sb_not (sb_val (se_call (ok_law_is_index T TL) (hr.mono (by omega)) hg T.m_law_is_index T.d_law_is_index.kp (bd_law_is_index T) (sa_cons (se_ix (se_var (i := 4)) se_int) (sa_cons (se_var (i := 1)) sa_nil))))) (sw_or1 (sb_le (se_ix (se_var (i := 4)) se_int) (se_var (i := 2))))))))
    (sl_one (ss_ret se_bl))
    sl_nil)
    (sl_cons (ss_if (sb_w (sw_or (sb_not (sb_val (se_call (ok_law_is_fraction T TL) (hr.mono (by omega)) hg T.m_law_is_fraction T.d_law_is_fraction.kp (bd_law_is_fraction T) (sa_cons (se_ix (se_var (i := 4)) se_int) sa_nil)))) (sw_or1 (sb_le (se_ix (se_ix (se_var (i := 4)) se_int) se_int) se_int))))
    (sl_one (ss_ret se_bl))
    sl_nil)
    (sl_one (ss_par (i := 2) (j := 3) rfl sc_law_is_chances.nd (sa_cons (se_ix (se_var (i := 4)) se_int) (sa_cons (se_call (ok_law_plus T TL) (hr.mono (by omega)) hg T.m_law_plus T.d_law_plus.kp (bd_law_plus T) (sa_cons (se_var (i := 3)) (sa_cons (se_ix (se_var (i := 4)) se_int) sa_nil))) sa_nil)))))))
    (sl_one (ss_ret (se_eq hr (se_var (i := 3)) (se_tup (sa_cons se_int (sa_cons se_int sa_nil)))))))))).imp fun _ _ _ _ => spOf_run'
theorem sc_law_is_built : FnScope n_law_is_built p_law_is_built (defScope s_law_is_built) := ⟨rfl, rfl, rfl, by decide +kernel, rfl, by decide +kernel, by decide +kernel⟩
theorem bd_law_is_built (T : Txt K mg ad fd) : Binds K (fd 57) p_law_is_built [] := T.d_law_is_built.binds (ps := p_law_is_built) fun _ _ _ _ _ _ us hl => match us, hl with | [_, _], _ => rfl
theorem ok_law_is_built (T : Txt K mg ad fd) (TL : TxtL K mg base fd) : FnG P w K mg base 4 (ad 57) (fd 57) p_law_is_built (spOf K 2 f_law_is_built) := (fnG_of (m := m_law_is_built) T.d_law_is_built sc_law_is_built fun cdv A outer s H E hr hg =>
    (sl_cons (ss_if (sb_w (sw_or (sb_not (sb_val (se_isi (T := "tuple") (by decide) (se_var (i := 0)) T.b_isinstance T.b_tuple (by decide +kernel)))) (sw_or (sb_ne hr (se_len (sa_cons (se_var (i := 0)) sa_nil) T.b_len) se_int) (sw_or1 (sb_not (sb_val (se_call (ok_law_is_fraction T TL) (hr.mono (by omega)) hg T.m_law_is_fraction T.d_law_is_fraction.kp (bd_law_is_fraction T) (sa_cons (se_ix (se_var (i := 0)) se_int) sa_nil))))))))
    (sl_one (ss_ret se_bl))
    sl_nil)
    (sl_cons (ss_if (sb_w (sw_or (sb_lt (se_ix (se_ix (se_var (i := 0)) se_int) se_int) se_int) (sw_or (sb_not (sb_val (se_call (ok_law_below T TL) (hr.mono (by omega)) hg T.m_law_below T.d_law_below.kp (bd_law_below T) (sa_cons (se_ix (se_var (i := 0)) se_int) (sa_cons (se_tup (sa_cons se_int (sa_cons se_int sa_nil))) sa_nil))))) (sw_or (sb_not (sb_val (se_call (ok_law_is_index T TL) (hr.mono (by omega)) hg T.m_law_is_index T.d_law_is_index.kp (bd_law_is_index T) (sa_cons (se_ix (se_var (i := 0)) se_int) (sa_cons se_int sa_nil))))) (sw_or1 (sb_eq hr (se_ix (se_var (i := 0)) se_int) se_int))))))
    (sl_one (ss_ret se_bl))
    sl_nil)
    (sl_cons (ss_if (sb_w (sw_or (sb_not (sb_val (se_isi (T := "tuple") (by decide) (se_ix (se_var (i := 0)) se_int) T.b_isinstance T.b_tuple (by decide +kernel)))) (sw_or1 (sb_not (sb_lele se_int (se_len (sa_cons (se_ix (se_var (i := 0)) se_int) sa_nil) T.b_len) se_int)))))
    (sl_one (ss_ret se_bl))
    sl_nil)
    (sl_cons (ss_set (i := 2) sc_law_is_built.nd rfl (.inl rfl) (se_len (sa_cons (se_ix (se_var (i := 0)) se_int) sa_nil) T.b_len))
    (sl_cons (ss_for PassesOwn.never rfl (si_seq (se_ix (se_var (i := 0)) se_int)) (sg_name (i := 3) sc_law_is_built.nd)
    (sl_cons (ss_if (sb_w (sw_or (sb_not (sb_val (se_isi (T := "tuple") (by decide) (se_var (i := 3)) T.b_isinstance T.b_tuple (by decide +kernel)))) (sw_or1 (sb_not (sb_lele se_int (se_len (sa_cons (se_var (i := 3)) sa_nil) T.b_len) se_int)))))
    (sl_one (ss_ret se_bl))
    sl_nil)
    (sl_one (ss_for PassesOwn.never rfl (si_seq (se_var (i := 3))) (sg_name (i := 4) sc_law_is_built.nd)
    (sl_cons (ss_if (sb_w (sw_or (sb_not (sb_val (se_isi (T := "tuple") (by decide) (se_var (i := 4)) T.b_isinstance T.b_tuple (by decide +kernel)))) (sw_or (sb_ne hr (se_len (sa_cons (se_var (i := 4)) sa_nil) T.b_len) se_int) (sw_or1 (sb_not (sb_val (se_call (ok_law_is_row T TL) (hr.mono (by omega)) hg T.m_law_is_row T.d_law_is_row.kp (bd_law_is_row T) (sa_cons (se_ix (se_var (i := 4)) se_int) (sa_cons (se_ix (se_var (i := 0)) se_int) sa_nil)))))))))
    (sl_one (ss_ret se_bl))
    sl_nil)
    (sl_one (ss_if (sb_not (sb_if (sb_val (se_var (i := 1))) (sb_val (se_call (ok_law_is_stretches T TL) (hr.mono (by omega)) hg T.m_law_is_stretches T.d_law_is_stretches.kp (bd_law_is_stretches T) (sa_cons (se_ix (se_var (i := 4)) se_int) (sa_cons (se_var (i := 2)) sa_nil)))) (sb_val (se_call (ok_law_is_chances T TL) (hr.mono (by omega)) hg T.m_law_is_chances T.d_law_is_chances.kp (bd_law_is_chances T) (sa_cons (se_ix (se_var (i := 4)) se_int) (sa_cons (se_var (i := 2)) sa_nil))))))
    (sl_one (ss_ret se_bl))
    sl_nil)))))))
    (sl_one (ss_ret se_bl)))))))).imp fun _ _ _ _ => spOf_run'
theorem sc_law_is_within : FnScope n_law_is_within p_law_is_within (defScope s_law_is_within) := ⟨rfl, rfl, rfl, by decide +kernel, rfl, by decide +kernel, by decide +kernel⟩
theorem bd_law_is_within (T : Txt K mg ad fd) : Binds K (fd 58) p_law_is_within [] := T.d_law_is_within.binds (ps := p_law_is_within) fun _ _ _ _ _ _ us hl => match us, hl with | [_, _], _ => rfl
theorem ok_law_is_within (T : Txt K mg ad fd) (TL : TxtL K mg base fd) : FnG P w K mg base 2 (ad 58) (fd 58) p_law_is_within (spOf K 2 f_law_is_within) := (fnG_of (m := m_law_is_within) T.d_law_is_within sc_law_is_within fun cdv A outer s H E hr hg =>
    (sl_cons (ss_asg (se_tup (sa_cons (se_lc (own := [("_law_each", 6)]) (is := [6]) rfl sc_law_is_within.nd (si_seq (se_var (i := 0))) (blkOk_by (own := [("_law_each", 6)]) (N := n_law_is_within) (sc := defScope s_law_is_within) (by decide +kernel)) (by decide) (fun _ _ _ _ _ => (sg_name (i := 6) sc_law_is_within.nd)) (fun _ _ _ _ _ => sts_nil) (fun _ _ _ _ _ => (se_ix (se_var (i := 6)) se_int))) (sa_cons (se_call (ok_law_full T TL) (hr.mono (by omega)) hg T.m_law_full T.d_law_full.kp (bd_law_full T) (sa_cons (se_var (i := 1)) (sa_cons se_int sa_nil))) sa_nil))) (sg_tup rfl (sgs_cons (sg_name (i := 2) sc_law_is_within.nd) (sgs_cons (sg_name (i := 3) sc_law_is_within.nd) sgs_nil))))
    (sl_cons (ss_if (sb_neN hr (se_lc (own := [("_law_each", 6)]) (is := [6]) rfl sc_law_is_within.nd (si_seq (se_var (i := 1))) (blkOk_by (own := [("_law_each", 6)]) (N := n_law_is_within) (sc := defScope s_law_is_within) (by decide +kernel)) (by decide) (fun _ _ _ _ _ => (sg_name (i := 6) sc_law_is_within.nd)) (fun _ _ _ _ _ => sts_one (sb_notin hr (se_ix (se_var (i := 6)) se_int) (se_var (i := 2)))) (fun _ _ _ _ _ => (se_var (i := 6)))) (se_lst sa_nil))
    (sl_one (ss_ret se_bl))
    sl_nil)
    (sl_cons (ss_setLc (i := 4) (own := [("_law_each", 6)]) (is := [6]) rfl sc_law_is_within.nd rfl rfl (sw_true rfl rfl rfl (by decide +kernel)) (si_seq (se_var (i := 0))) (blkOk_by (own := [("_law_each", 6)]) (N := n_law_is_within) (sc := defScope s_law_is_within) (by decide +kernel)) (by decide) (fun _ _ _ _ _ => (sg_name (i := 6) sc_law_is_within.nd)) (fun _ _ _ _ _ => sts_one (sb_val (se_call (ok_law_below T TL) (hr.mono (by omega)) hg T.m_law_below T.d_law_below.kp (bd_law_below T) (sa_cons (se_ix (se_var (i := 3)) (se_ix (se_var (i := 6)) se_int)) (sa_cons (se_ix (se_var (i := 6)) se_int) sa_nil))))) (fun _ _ _ _ _ => (se_var (i := 6))))
    (sl_cons (ss_setLc (i := 5) (own := [("_law_each", 6)]) (is := [6]) rfl sc_law_is_within.nd rfl rfl (sw_true rfl rfl rfl (by decide +kernel)) (si_seq (se_var (i := 0))) (blkOk_by (own := [("_law_each", 6)]) (N := n_law_is_within) (sc := defScope s_law_is_within) (by decide +kernel)) (by decide) (fun _ _ _ _ _ => (sg_name (i := 6) sc_law_is_within.nd)) (fun _ _ _ _ _ => sts_one (sb_val (se_call (ok_law_below T TL) (hr.mono (by omega)) hg T.m_law_below T.d_law_below.kp (bd_law_below T) (sa_cons (se_ix (se_var (i := 6)) se_int) (sa_cons (se_ix (se_var (i := 3)) (se_ix (se_var (i := 6)) se_int)) sa_nil))))) (fun _ _ _ _ _ => (se_var (i := 6))))
    (sl_one (ss_ret (se_and (se_eqN hr (se_var (i := 4)) (se_lst sa_nil)) (se_one (se_eqN hr (se_var (i := 5)) (se_lst sa_nil))))))))))).imp fun _ _ _ _ => spOf_run'
theorem sc_law_fits : FnScope n_law_fits p_law_fits (defScope s_law_fits) := ⟨rfl, rfl, rfl, by decide +kernel, rfl, by decide +kernel, by decide +kernel⟩
theorem bd_law_fits (T : Txt K mg ad fd) : Binds K (fd 59) p_law_fits [] := T.d_law_fits.binds (ps := p_law_fits) fun _ _ _ _ _ _ us hl => match us, hl with | [_, _], _ => rfl
theorem ok_law_fits (T : Txt K mg ad fd) (TL : TxtL K mg base fd) : FnG P w K mg base 5 (ad 59) (fd 59) p_law_fits (spOf K 2 f_law_fits) := (fnG_of (m := m_law_fits) T.d_law_fits sc_law_fits fun cdv A outer s H E hr hg =>
    (sl_cons (ss_if (sb_w (sw_or (sb_not (sb_val (se_call (ok_law_is_built T TL) (hr.mono (by omega)) hg T.m_law_is_built T.d_law_is_built.kp (bd_law_is_built T) (sa_cons (se_var (i := 1)) (sa_cons se_bl sa_nil))))) (sw_or (sb_ne hr (se_sl (se_var (i := 1)) so_none (so_some se_int)) (se_sl (se_var (i := 0)) so_none (so_some se_int))) (sw_or1 (sb_ne hr (se_len (sa_cons (se_ix (se_var (i := 1)) se_int) sa_nil) T.b_len) (se_len (sa_cons (se_ix (se_var (i := 0)) se_int) sa_nil) T.b_len))))))
    (sl_one (ss_ret se_bl))
    sl_nil)
    (sl_cons (ss_for PassesOwn.never rfl (si_z2 (sa_cons (se_ix (se_var (i := 0)) se_int) (sa_cons (se_ix (se_var (i := 1)) se_int) sa_nil)) T.b_zip) (sg_tup rfl (sgs_cons (sg_name (i := 2) sc_law_fits.nd) (sgs_cons (sg_name (i := 3) sc_law_fits.nd) sgs_nil)))
    (sl_cons (ss_if (sb_ne hr (se_len (sa_cons (se_var (i := 2)) sa_nil) T.b_len) (se_len (sa_cons (se_var (i := 3)) sa_nil) T.b_len))
    (sl_one (ss_ret se_bl))
    sl_nil)
    (sl_one (ss_for PassesOwn.never rfl (si_z2 (sa_cons (se_var (i := 2)) (sa_cons (se_var (i := 3)) sa_nil)) T.b_zip) (sg_tup rfl (sgs_cons (sg_name (i := 4) sc_law_fits.nd) (sgs_cons (sg_name (i := 5) sc_law_fits.nd) sgs_nil)))
    (sl_one (ss_if (sb_w (sw_or (sb_ne hr (se_ix (se_var (i := 4)) se_int) (se_ix (se_var (i := 5)) se_int)) (sw_or1 (sb_not (sb_val (se_call (ok_law_is_within T TL) (hr.mono (by omega)) hg T.m_law_is_within T.d_law_is_within.kp (bd_law_is_within T) (sa_cons (se_ix (se_var (i := 4)) se_int) (sa_cons (se_ix (se_var (i := 5)) se_int) sa_nil))))))))
    (sl_one (ss_ret se_bl))
    sl_nil))))))
    (sl_one (ss_ret se_bl))))).imp fun _ _ _ _ => spOf_run'
theorem sc_law_odd : FnScope n_law_odd p_law_odd (defScope s_law_odd) := ⟨rfl, rfl, rfl, by decide +kernel, rfl, by decide +kernel, by decide +kernel⟩
theorem bd_law_odd (T : Txt K mg ad fd) : Binds K (fd 60) p_law_odd [] := T.d_law_odd.binds (ps := p_law_odd) fun _ _ _ _ _ _ us hl => match us, hl with | [_], _ => rfl
theorem ok_law_odd (T : Txt K mg ad fd) (TL : TxtL K mg base fd) : FnG P w K mg base 3 (ad 60) (fd 60) p_law_odd (spOf K 1 f_law_odd) := (fnG_of (m := m_law_odd) T.d_law_odd sc_law_odd fun cdv A outer s H E hr hg =>
    (sl_cons (ss_set (i := 1) sc_law_odd.nd rfl (.inl rfl) (se_lst (sa_cons se_non (sa_cons se_bl (sa_cons se_bl (sa_cons (se_neg se_int) (sa_cons se_int (sa_cons se_int (sa_cons se_int (sa_cons se_int (sa_cons se_int (sa_cons se_int (sa_cons se_int (sa_cons se_int (sa_cons (se_pow se_int se_int) (sa_cons se_str (sa_cons se_str (sa_cons se_str (sa_cons se_str (sa_cons (se_tup sa_nil) (sa_cons (se_tup (sa_cons se_int sa_nil)) (sa_cons (se_tup (sa_cons se_int (sa_cons se_int sa_nil))) sa_nil))))))))))))))))))))))
    (sl_cons (ss_set (i := 1) sc_law_odd.nd rfl (.inl rfl) (se_add (se_var (i := 1)) (se_lst (sa_cons (se_tup (sa_cons se_int (sa_cons se_int sa_nil))) (sa_cons (se_tup (sa_cons se_int (sa_cons se_int sa_nil))) (sa_cons (se_tup (sa_cons se_int (sa_cons se_int sa_nil))) (sa_cons (se_tup (sa_cons se_int (sa_cons se_int sa_nil))) (sa_cons (se_tup (sa_cons se_int (sa_cons (se_neg se_int) sa_nil))) (sa_cons (se_tup (sa_cons (se_neg se_int) (sa_cons se_int sa_nil))) (sa_cons (se_tup (sa_cons se_int (sa_cons se_int sa_nil))) (sa_cons (se_tup (sa_cons se_bl (sa_cons se_int sa_nil))) (sa_cons (se_tup (sa_cons se_int (sa_cons se_bl sa_nil))) (sa_cons (se_tup (sa_cons se_int (sa_cons se_int (sa_cons se_int sa_nil)))) sa_nil)))))))))))))
    (sl_cons (ss_set (i := 1) sc_law_odd.nd rfl (.inl rfl) (se_add (se_var (i := 1)) (se_lst (sa_cons (se_tup (sa_cons (se_tup (sa_cons se_int (sa_cons se_int sa_nil))) sa_nil)) (sa_cons (se_tup (sa_cons (se_tup (sa_cons se_int (sa_cons se_int sa_nil))) sa_nil)) (sa_cons (se_tup (sa_cons (se_tup (sa_cons se_int (sa_cons se_int sa_nil))) (sa_cons (se_tup (sa_cons se_int (sa_cons se_int sa_nil))) sa_nil))) (sa_cons (se_tup (sa_cons (se_tup (sa_cons se_int (sa_cons (se_tup (sa_cons se_int (sa_cons se_int sa_nil))) sa_nil))) sa_nil)) (sa_cons (se_tup (sa_cons (se_tup (sa_cons se_int (sa_cons (se_tup (sa_cons se_int (sa_cons se_int sa_nil))) (sa_cons (se_tup (sa_cons se_int (sa_cons se_int sa_nil))) sa_nil)))) sa_nil)) (sa_cons (se_tup (sa_cons se_non sa_nil)) (sa_cons (se_tup (sa_cons (se_tup sa_nil) sa_nil)) sa_nil))))))))))
    (sl_one (ss_ret (se_call (ok_law_pick T TL) (hr.mono (by omega)) hg T.m_law_pick T.d_law_pick.kp (bd_law_pick T) (sa_cons (se_var (i := 0)) (sa_cons (se_add (se_var (i := 1)) (se_lst (sa_cons (se_lst sa_nil) (sa_cons (se_lst (sa_cons se_int sa_nil)) (sa_cons (se_lst (sa_cons (se_tup (sa_cons se_int (sa_cons se_int sa_nil))) sa_nil)) (sa_cons (se_lst (sa_cons (se_tup (sa_cons se_int (sa_cons se_int sa_nil))) (sa_cons (se_tup (sa_cons se_int (sa_cons se_int sa_nil))) sa_nil))) (sa_cons se_dict0 sa_nil))))))) sa_nil))))))))).imp fun _ _ _ _ => spOf_run'
theorem sc_law_bent : FnScope n_law_bent p_law_bent (defScope s_law_bent) := ⟨rfl, rfl, rfl, by decide +kernel, rfl, by decide +kernel, by decide +kernel⟩
theorem bd_law_bent (T : Txt K mg ad fd) : Binds K (fd 61) p_law_bent [] := T.d_law_bent.binds (ps := p_law_bent) fun _ _ _ _ _ _ us hl => match us, hl with | [_, _], _ => rfl
theorem len_law_bent : ∀ (n : Nat) cs s r, f_law_bent n cs s = some r → cs.length = 2
  | 0, _, _, _, h => by cases h
  | n + 1, cs, s, r, h => run'_len cs s r h
theorem ok_law_bent : ∀ (n : Nat) (T : Txt K mg ad fd) (TL : TxtL K mg base fd), FnG P w K mg base (3 + n) (ad 61) (fd 61) p_law_bent (spOf K 2 (f_law_bent n))
  | 0, T, TL => ⟨(by rintro vs H Q E ⟨sp, fz, cs, sto, r, sto', hl, a, B, e, q⟩; cases e), (by rintro A outer s H args us vs Q _ _ _ _ _ ⟨sp, fz, cs, sto, r, sto', hl, a, B, e, q⟩; cases e)⟩
  | n + 1, T, TL => by
    have ih := ok_law_bent n T TL
    have hlen := len_law_bent n
    exact (fnG_of (k := 3 + n) (m := m_law_bent (f_law_bent n)) T.d_law_bent sc_law_bent fun cdv A outer s H E hr hg =>
      (sl_cons (ss_if (sb_w (sw_or (sb_not (sb_val (se_isi (T := "tuple") (by decide) (se_var (i := 1)) T.b_isinstance T.b_tuple (by decide +kernel)))) (sw_or (sb_eqE hr (se_var (i := 1)) (se_tup sa_nil)) (sw_or1 (sb_eq hr (se_call (ok_law_take T TL) (hr.mono (by omega)) hg T.m_law_take T.d_law_take.kp (bd_law_take T) (sa_cons (se_var (i := 0)) (sa_cons se_int sa_nil))) se_int)))))
    (sl_one (ss_ret (se_call (ok_law_odd T TL) (hr.mono (by omega)) hg T.m_law_odd T.d_law_odd.kp (bd_law_odd T) (sa_cons (se_var (i := 0)) sa_nil))))
    sl_nil)
    (sl_cons (ss_par (i := 2) (j := 3) rfl sc_law_bent.nd (sa_cons (se_call (ok_law_take T TL) (hr.mono (by omega)) hg T.m_law_take T.d_law_take.kp (bd_law_take T) (sa_cons (se_var (i := 0)) (sa_cons (se_len (sa_cons (se_var (i := 1)) sa_nil) T.b_len) sa_nil))) (sa_cons (se_call (ok_law_take T TL) (hr.mono (by omega)) hg T.m_law_take T.d_law_take.kp (bd_law_take T) (sa_cons (se_var (i := 0)) (sa_cons se_int sa_nil))) sa_nil)))
    (sl_cons (ss_if (sb_lt (se_var (i := 3)) se_int)
    (sl_one (ss_ret (se_add (se_add (se_sl (se_var (i := 1)) so_none (so_some (se_var (i := 2)))) (se_tup (sa_cons (se_callR ih hr hg T.m_law_bent T.d_law_bent.kp (bd_law_bent T) (sa_cons (se_var (i := 0)) (sa_cons (se_ix (se_var (i := 1)) (se_var (i := 2))) sa_nil)) (by omega) hlen) sa_nil))) (se_sl (se_var (i := 1)) (so_some (se_add (se_var (i := 2)) se_int)) so_none))))
    sl_nil)
    (sl_cons (ss_if (sb_eq hr (se_var (i := 3)) se_int)
    (sl_one (ss_ret (se_add (se_sl (se_var (i := 1)) so_none (so_some (se_var (i := 2)))) (se_sl (se_var (i := 1)) (so_some (se_add (se_var (i := 2)) se_int)) so_none))))
    sl_nil)
    (sl_cons (ss_if (sb_eq hr (se_var (i := 3)) se_int)
    (sl_one (ss_ret (se_add (se_add (se_sl (se_var (i := 1)) so_none (so_some (se_var (i := 2)))) (se_tup (sa_cons (se_ix (se_var (i := 1)) (se_var (i := 2))) sa_nil))) (se_sl (se_var (i := 1)) (so_some (se_var (i := 2))) so_none))))
    sl_nil)
    (sl_cons (ss_if (sb_eq hr (se_var (i := 3)) se_int)
    (sl_one (ss_ret (se_list (sa_cons (se_var (i := 1)) sa_nil) T.b_list)))
    sl_nil)
    (sl_cons (ss_if (sb_eq hr (se_var (i := 3)) se_int)
    (sl_one (ss_ret (se_add (se_var (i := 1)) (se_tup (sa_cons (se_call (ok_law_odd T TL) (hr.mono (by omega)) hg T.m_law_odd T.d_law_odd.kp (bd_law_odd T) (sa_cons (se_var (i := 0)) sa_nil)) sa_nil)))))
    sl_nil)
    (sl_one (ss_ret (se_add (se_sl (se_var (i := 1)) (so_some (se_var (i := 2))) so_none) (se_sl (se_var (i := 1)) so_none (so_some (se_var (i := 2))))))))))))))).imp fun _ _ _ _ => spOf_run'
theorem sc_law_moved : FnScope n_law_moved p_law_moved (defScope s_law_moved) := ⟨rfl, rfl, rfl, by decide +kernel, rfl, by decide +kernel, by decide +kernel⟩
theorem bd_law_moved (T : Txt K mg ad fd) : Binds K (fd 62) p_law_moved [] := T.d_law_moved.binds (ps := p_law_moved) fun _ _ _ _ _ _ us hl => match us, hl with | [_, _, _], _ => rfl
theorem ok_law_moved (T : Txt K mg ad fd) (TL : TxtL K mg base fd) : FnG P w K mg base 3 (ad 62) (fd 62) p_law_moved (spOf K 3 f_law_moved) := (fnG_of (m := m_law_moved) T.d_law_moved sc_law_moved fun cdv A outer s H E hr hg =>
    (sl_cons (ss_par3t (i := 3) (j := 4) (l := 5) rfl sc_law_moved.nd (sa2_cons (se_call (ok_law_full T TL) (hr.mono (by omega)) hg T.m_law_full T.d_law_full.kp (bd_law_full T) (sa_cons (se_var (i := 1)) (sa_cons (se_var (i := 2)) sa_nil))) (sa2_cons (se_call (ok_law_take T TL) (hr.mono (by omega)) hg T.m_law_take T.d_law_take.kp (bd_law_take T) (sa_cons (se_var (i := 0)) (sa_cons (se_len (sa_cons (se_var (i := 1)) sa_nil) T.b_len) sa_nil))) (sa2_cons (se_call (ok_law_take T TL) (hr.mono (by omega)) hg T.m_law_take T.d_law_take.kp (bd_law_take T) (sa_cons (se_var (i := 0)) (sa_cons (se_var (i := 2)) sa_nil))) sa2_nil))))
    (sl_cons (ss_asg (se_ix (se_var (i := 1)) (se_var (i := 4))) (sg_tup rfl (sgs_cons (sg_name (i := 6) sc_law_moved.nd) (sgs_cons (sg_name (i := 7) sc_law_moved.nd) sgs_nil))))
    (sl_cons (ss_set (i := 8) sc_law_moved.nd rfl (.inl rfl) (se_call (ok_law_times T TL) (hr.mono (by omega)) hg T.m_law_times T.d_law_times.kp (bd_law_times T) (sa_cons (se_var (i := 7)) (sa_cons (se_call (ok_law_low T TL) (hr.mono (by omega)) hg T.m_law_low T.d_law_low.kp (bd_law_low T) (sa_cons (se_add se_int (se_call (ok_law_take T TL) (hr.mono (by omega)) hg T.m_law_take T.d_law_take.kp (bd_law_take T) (sa_cons (se_var (i := 0)) (sa_cons se_int sa_nil)))) (sa_cons se_int sa_nil))) sa_nil))))
    (sl_cons (ss_put (i := 3) (se_call (ok_law_minus T TL) (hr.mono (by omega)) hg T.m_law_minus T.d_law_minus.kp (bd_law_minus T) (sa_cons (se_var (i := 7)) (sa_cons (se_var (i := 8)) sa_nil))) (pg_sub (pv 3) (se_var (i := 6)) set_list))
    (sl_cons (ss_put (i := 3) (se_call (ok_law_plus T TL) (hr.mono (by omega)) hg T.m_law_plus T.d_law_plus.kp (bd_law_plus T) (sa_cons (se_ix (se_var (i := 3)) (se_var (i := 5))) (sa_cons (se_var (i := 8)) sa_nil))) (pg_sub (pv 3) (se_var (i := 5)) set_list))
    (sl_one (ss_ret (se_tuple (sa_cons (se_lc (own := [("_law_k", 9)]) (is := [9]) rfl sc_law_moved.nd (si_range1 (sa_cons (se_var (i := 2)) sa_nil) T.b_range) (blkOk_by (own := [("_law_k", 9)]) (N := n_law_moved) (sc := defScope s_law_moved) (by decide +kernel)) (by decide) (fun _ _ _ _ _ => (sg_name (i := 9) sc_law_moved.nd)) (fun _ _ _ _ _ => sts_one (sb_gt (se_ix (se_ix (se_var (i := 3)) (se_var (i := 9))) se_int) se_int)) (fun _ _ _ _ _ => (se_tup (sa_cons (se_var (i := 9)) (sa_cons (se_ix (se_var (i := 3)) (se_var (i := 9))) sa_nil))))) sa_nil) T.b_tuple))))))))).imp fun _ _ _ _ => spOf_run'
theorem sc_law_turned : FnScope n_law_turned p_law_turned (defScope s_law_turned) := ⟨rfl, rfl, rfl, by decide +kernel, rfl, by decide +kernel, by decide +kernel⟩
theorem bd_law_turned (T : Txt K mg ad fd) : Binds K (fd 63) p_law_turned [] := T.d_law_turned.binds (ps := p_law_turned) fun _ _ _ _ _ _ us hl => match us, hl with | [_, _], _ => rfl
theorem ok_law_turned (T : Txt K mg ad fd) (TL : TxtL K mg base fd) : FnG P w K mg base 4 (ad 63) (fd 63) p_law_turned (spOf K 2 f_law_turned) := (fnG_of (m := m_law_turned) T.d_law_turned sc_law_turned fun cdv A outer s H E hr hg =>
    (sl_cons (ss_asg (se_var (i := 1)) (sg_tup rfl (sgs_cons (sg_name (i := 2) sc_law_turned.nd) (sgs_cons (sg_name (i := 3) sc_law_turned.nd) (sgs_cons (sg_name (i := 4) sc_law_turned.nd) sgs_nil)))))
    (sl_cons (ss_par (i := 5) (j := 6) rfl sc_law_turned.nd (sa_cons (se_call (ok_law_take T TL) (hr.mono (by omega)) hg T.m_law_take T.d_law_take.kp (bd_law_take T) (sa_cons (se_var (i := 0)) (sa_cons se_int sa_nil))) (sa_cons (se_call (ok_law_take T TL) (hr.mono (by omega)) hg T.m_law_take T.d_law_take.kp (bd_law_take T) (sa_cons (se_var (i := 0)) (sa_cons (se_len (sa_cons (se_var (i := 4)) sa_nil) T.b_len) sa_nil))) sa_nil)))
    (sl_cons (ss_set (i := 7) sc_law_turned.nd rfl (.inl rfl) (se_ix (se_var (i := 4)) (se_var (i := 6))))
    (sl_cons (ss_set (i := 8) sc_law_turned.nd rfl (.inl rfl) (se_call (ok_law_take T TL) (hr.mono (by omega)) hg T.m_law_take T.d_law_take.kp (bd_law_take T) (sa_cons (se_var (i := 0)) (sa_cons (se_len (sa_cons (se_var (i := 7)) sa_nil) T.b_len) sa_nil))))
    (sl_cons (ss_asg (se_ix (se_var (i := 7)) (se_var (i := 8))) (sg_tup rfl (sgs_cons (sg_name (i := 9) sc_law_turned.nd) (sgs_cons (sg_name (i := 10) sc_law_turned.nd) sgs_nil))))
    (sl_cons (ss_if (sb_eq hr (se_var (i := 5)) se_int)
    (sl_one (ss_ret (se_tup (sa_cons (se_call (ok_law_share T TL) (hr.mono (by omega)) hg T.m_law_share T.d_law_share.kp (bd_law_share T) (sa_cons (se_var (i := 0)) sa_nil)) (sa_cons (se_var (i := 3)) (sa_cons (se_var (i := 4)) sa_nil))))))
    sl_nil)
    (sl_cons (ss_if (sb_eq hr (se_var (i := 5)) se_int)
    (sl_one (ss_set (i := 10) sc_law_turned.nd rfl (.inl rfl) (se_add (se_sl (se_var (i := 10)) so_none (so_some (se_neg se_int))) (se_tup (sa_cons (se_call (ok_law_number T TL) (hr.mono (by omega)) hg T.m_law_number T.d_law_number.kp (bd_law_number T) (sa_cons (se_var (i := 0)) sa_nil)) sa_nil)))))
    sl_nil)
    (sl_cons (ss_if (sb_in hr (se_var (i := 5)) (se_tup (sa_cons se_int (sa_cons se_int (sa_cons se_int sa_nil)))))
    (sl_one (ss_set (i := 9) sc_law_turned.nd rfl (.inl rfl) (se_call (ok_law_moved T TL) (hr.mono (by omega)) hg T.m_law_moved T.d_law_moved.kp (bd_law_moved T) (sa_cons (se_var (i := 0)) (sa_cons (se_var (i := 9)) (sa_cons (se_len (sa_cons (se_var (i := 4)) sa_nil) T.b_len) sa_nil))))))
    sl_nil)
    (sl_cons (ss_set (i := 7) sc_law_turned.nd rfl (.inl rfl) (se_add (se_add (se_sl (se_var (i := 7)) so_none (so_some (se_var (i := 8)))) (se_tup (sa_cons (se_tup (sa_cons (se_var (i := 9)) (sa_cons (se_var (i := 10)) sa_nil))) sa_nil))) (se_sl (se_var (i := 7)) (so_some (se_add (se_var (i := 8)) se_int)) so_none)))
    (sl_cons (ss_set (i := 11) sc_law_turned.nd rfl (.inl rfl) (se_tup (sa_cons (se_tup (sa_cons (se_tup (sa_cons (se_var (i := 6)) (sa_cons (se_tup (sa_cons se_int (sa_cons se_int sa_nil))) sa_nil))) sa_nil)) (sa_cons (se_var (i := 10)) sa_nil))))
    (sl_cons (ss_if (sb_w (sw_and (sb_eq hr (se_var (i := 5)) se_int) (sw_and1 (sb_lt (se_len (sa_cons (se_var (i := 7)) sa_nil) T.b_len) se_int))))
    (sl_one (ss_set (i := 7) sc_law_turned.nd rfl (.inl rfl) (se_add (se_var (i := 7)) (se_tup (sa_cons (se_var (i := 11)) sa_nil)))))
    sl_nil)
    (sl_cons (ss_set (i := 4) sc_law_turned.nd rfl (.inl rfl) (se_add (se_add (se_sl (se_var (i := 4)) so_none (so_some (se_var (i := 6)))) (se_tup (sa_cons (se_var (i := 7)) sa_nil))) (se_sl (se_var (i := 4)) (so_some (se_add (se_var (i := 6)) se_int)) so_none)))
    (sl_cons (ss_if (sb_w (sw_and (sb_eq hr (se_var (i := 5)) se_int) (sw_and1 (sb_lt (se_len (sa_cons (se_var (i := 4)) sa_nil) T.b_len) se_int))))
    (sl_one (ss_set (i := 4) sc_law_turned.nd rfl (.inl rfl) (se_add (se_var (i := 4)) (se_tup (sa_cons (se_tup (sa_cons (se_var (i := 11)) sa_nil)) sa_nil)))))
    sl_nil)
    (sl_one (ss_ret (se_tup (sa_cons (se_var (i := 2)) (sa_cons (se_var (i := 3)) (sa_cons (se_var (i := 4)) sa_nil)))))))))))))))))))).imp fun _ _ _ _ => spOf_run'
end
end WW
namespace WW
open PySem PySem.Spec L2 Dh
section
variable [LawT] {P : Program} {w : World} {K : PySem.W.Frag} {mg : Str → Option Value} {base : Heap} {ad : Nat → Addr} {fd : Nat → FuncData}
theorem sc_law_right : FnScope n_law_right p_law_right (defScope s_law_right) := ⟨rfl, rfl, rfl, by decide +kernel, rfl, by decide +kernel, by decide +kernel⟩
theorem bd_law_right (T : Txt K mg ad fd) : Binds K (fd 64) p_law_right [] := T.d_law_right.binds (ps := p_law_right) fun _ _ _ _ _ _ us hl => match us, hl with | [_], _ => rfl
theorem ok_law_right (T : Txt K mg ad fd) (TL : TxtL K mg base fd) : FnG P w K mg base 28 (ad 64) (fd 64) p_law_right (spOf K 1 f_law_right) := (fnG_of (m := m_law_right) T.d_law_right sc_law_right fun cdv A outer s H E hr hg =>
    (sl_cons (ss_set (i := 1) sc_law_right.nd rfl (.inl rfl) (se_call (ok_law_vague T TL) (hr.mono (by omega)) hg T.m_law_vague T.d_law_vague.kp (bd_law_vague T) (sa_cons (se_var (i := 0)) (sa_cons (se_tup (sa_cons se_int (sa_cons se_int (sa_cons se_int (sa_cons se_int (sa_cons se_int (sa_cons se_int (sa_cons se_int (sa_cons se_int sa_nil))))))))) (sa_cons se_int sa_nil)))))
    (sl_cons (ss_set (i := 2) sc_law_right.nd rfl (.inl rfl) (se_call (ok_law_inside T TL) (hr.mono (by omega)) hg T.m_law_inside T.d_law_inside.kp (bd_law_inside T) (sa_cons (se_var (i := 0)) (sa_cons (se_var (i := 1)) sa_nil))))
    (sl_cons (ss_set (i := 3) sc_law_right.nd rfl (.inl rfl) (se_lst (sa_cons (se_var (i := 1)) (sa_cons (se_var (i := 2)) (sa_cons (se_call (ok_law_odd T TL) (hr.mono (by omega)) hg T.m_law_odd T.d_law_odd.kp (bd_law_odd T) (sa_cons (se_var (i := 0)) sa_nil)) (sa_cons (se_callR (ok_law_bent 24 T TL) hr hg T.m_law_bent T.d_law_bent.kp (bd_law_bent T) (sa_cons (se_var (i := 0)) (sa_cons (se_var (i := 1)) sa_nil)) (by omega) (len_law_bent 24)) sa_nil))))))
    (sl_cons (ss_append (i := 3) (se_callR (ok_law_bent 24 T TL) hr hg T.m_law_bent T.d_law_bent.kp (bd_law_bent T) (sa_cons (se_var (i := 0)) (sa_cons (se_callR (ok_law_bent 24 T TL) hr hg T.m_law_bent T.d_law_bent.kp (bd_law_bent T) (sa_cons (se_var (i := 0)) (sa_cons (se_var (i := 1)) sa_nil)) (by omega) (len_law_bent 24)) sa_nil)) (by omega) (len_law_bent 24)))
    (sl_cons (ss_frz [3] (ss_for PassesOwn.never rfl (si_seq (se_var (i := 3))) (sg_name (i := 4) sc_law_right.nd)
    (sl_one (ss_if (sb_ne hr (se_reprA hr hg (sa_cons (se_call (ok_is_vague T TL) (hr.mono (by omega)) hg T.m_is_vague T.d_is_vague.kp (bd_is_vague T) (sa_cons (se_var (i := 4)) sa_nil)) sa_nil) T.b_repr) (se_reprA hr hg (sa_cons (se_call (ok_law_is_built T TL) (hr.mono (by omega)) hg T.m_law_is_built T.d_law_is_built.kp (bd_law_is_built T) (sa_cons (se_var (i := 4)) (sa_cons se_bl sa_nil))) sa_nil) T.b_repr))
    (sl_one (ss_ret se_bl))
    sl_nil))))
    (sl_cons (ss_if (sb_ne hr (se_reprA hr hg (sa_cons (se_callK (ks := ["value"]) (π := [0]) (ok_is_vague T TL) (hr.mono (by omega)) hg T.m_is_vague T.d_is_vague.kp (kb_is_vague_0 T) (sk_cons (se_var (i := 1)) sk_nil)) sa_nil) T.b_repr) se_str)
    (sl_one (ss_ret se_bl))
    sl_nil)
    (sl_cons (ss_set (i := 5) sc_law_right.nd rfl (.inl rfl) (se_call (ok_law_tight T TL) (hr.mono (by omega)) hg T.m_law_tight T.d_law_tight.kp (bd_law_tight T) (sa_cons (se_var (i := 2)) sa_nil)))
    (sl_cons (ss_if (sb_ne hr (se_reprA hr hg (sa_cons (se_call (ok_vague_of T TL) (hr.mono (by omega)) hg T.m_vague_of T.d_vague_of.kp (bd_vague_of T) (sa_cons (se_var (i := 2)) sa_nil)) sa_nil) T.b_repr) (se_reprA hr hg (sa_cons (se_var (i := 5)) sa_nil) T.b_repr))
    (sl_one (ss_ret se_bl))
    sl_nil)
    (sl_cons (ss_set (i := 3) sc_law_right.nd rfl (.inl rfl) (se_lst (sa_cons (se_var (i := 2)) (sa_cons (se_call (ok_law_turned T TL) (hr.mono (by omega)) hg T.m_law_turned T.d_law_turned.kp (bd_law_turned T) (sa_cons (se_var (i := 0)) (sa_cons (se_var (i := 2)) sa_nil))) (sa_cons (se_call (ok_law_odd T TL) (hr.mono (by omega)) hg T.m_law_odd T.d_law_odd.kp (bd_law_odd T) (sa_cons (se_var (i := 0)) sa_nil)) (sa_cons (se_var (i := 1)) sa_nil))))))
    (sl_cons (ss_append (i := 3) (se_callR (ok_law_bent 24 T TL) hr hg T.m_law_bent T.d_law_bent.kp (bd_law_bent T) (sa_cons (se_var (i := 0)) (sa_cons (se_var (i := 2)) sa_nil)) (by omega) (len_law_bent 24)))
    (sl_cons (ss_append (i := 3) (se_call (ok_law_turned T TL) (hr.mono (by omega)) hg T.m_law_turned T.d_law_turned.kp (bd_law_turned T) (sa_cons (se_var (i := 0)) (sa_cons (se_call (ok_law_turned T TL) (hr.mono (by omega)) hg T.m_law_turned T.d_law_turned.kp (bd_law_turned T) (sa_cons (se_var (i := 0)) (sa_cons (se_var (i := 2)) sa_nil))) sa_nil))))
    (sl_cons (ss_frz [3] (ss_for PassesOwn.never rfl (si_seq (se_var (i := 3))) (sg_name (i := 4) sc_law_right.nd)
    (sl_cons (ss_if (sb_ne hr (se_reprA hr hg (sa_cons (se_call (ok_fits T TL) (hr.mono (by omega)) hg T.m_fits T.d_fits.kp (bd_fits T) (sa_cons (se_var (i := 1)) (sa_cons (se_var (i := 4)) sa_nil))) sa_nil) T.b_repr) (se_reprA hr hg (sa_cons (se_call (ok_law_fits T TL) (hr.mono (by omega)) hg T.m_law_fits T.d_law_fits.kp (bd_law_fits T) (sa_cons (se_var (i := 1)) (sa_cons (se_var (i := 4)) sa_nil))) sa_nil) T.b_repr))
    (sl_one (ss_ret se_bl))
    sl_nil)
    (sl_one (ss_if (sb_ne hr (se_reprA hr hg (sa_cons (se_callK (ks := ["house", "vague"]) (π := [1, 0]) (ok_fits T TL) (hr.mono (by omega)) hg T.m_fits T.d_fits.kp (kb_fits_10 T) (sk_cons (se_var (i := 4)) (sk_cons (se_var (i := 5)) sk_nil))) sa_nil) T.b_repr) (se_reprA hr hg (sa_cons (se_call (ok_law_fits T TL) (hr.mono (by omega)) hg T.m_law_fits T.d_law_fits.kp (bd_law_fits T) (sa_cons (se_var (i := 5)) (sa_cons (se_var (i := 4)) sa_nil))) sa_nil) T.b_repr))
    (sl_one (ss_ret se_bl))
    sl_nil)))))
    (sl_one (ss_ret se_bl))))))))))))))).imp fun _ _ _ _ => spOf_run'
theorem sc_law : FnScope n_law p_law (defScope s_law) := ⟨rfl, rfl, rfl, by decide +kernel, rfl, by decide +kernel, by decide +kernel⟩
theorem ok_law (T : Txt K mg ad fd) (TL : TxtL K mg base fd) : FnG P w K mg base 29 (ad 65) (fd 65) p_law (spOf K 1 f_law) := (fnG_of (m := m_law) T.d_law sc_law fun cdv A outer s H E hr hg =>
    (sl_one (ss_ret (se_all rfl (sa_cons (se_lc (own := [("_law_turn", 1)]) (is := [1]) rfl sc_law.nd (si_range1 (sa_cons (se_max2 rfl (sa_cons se_int (sa_cons (se_min2 rfl (sa_cons (se_len (sa_cons (se_var (i := 0)) sa_nil) T.b_len) (sa_cons se_int sa_nil)) T.b_min) sa_nil)) T.b_max) sa_nil) T.b_range) (blkOk_by (own := [("_law_turn", 1)]) (N := n_law) (sc := defScope s_law) (by decide +kernel)) (by decide) (fun _ _ _ _ _ => (sg_name (i := 1) sc_law.nd)) (fun _ _ _ _ _ => sts_nil) (fun _ _ _ _ _ => (se_callN (ok_law_right T TL) hr hg T.m_law_right T.d_law_right.kp (bd_law_right T) (sa_cons (se_call (ok_law_pot T TL) (hr.mono (by omega)) hg T.m_law_pot T.d_law_pot.kp (bd_law_pot T) (sa_cons (se_var (i := 0)) (sa_cons (se_var (i := 1)) sa_nil))) sa_nil) (by omega)))) sa_nil) T.b_all)))).imp fun _ _ _ _ => spOf_run'
end
end WW
namespace WW
open PySem PySem.Spec L2 Dh PyProof.Rows
theorem txtH {K : PySem.W.Frag} {h : Heap} {mg : Str → Option Value} (X : K.In h) (G : h.Ns mainGlobals mg) (c : SaysM csl bsl fal fnl K) : Txt K mg (fun i => He.ga K (nml.getD i "")) (fun i => fdAt K (nml.getD i "")) :=
  { d_is_whole := c.func 0 66,
    m_is_whole := He.glo_ok X G (c.sy.fact 0),
    d_is_between := c.func 1 67,
    m_is_between := He.glo_ok X G (c.sy.fact 1),
    d_is_tuple_of := c.func 2 68,
    m_is_tuple_of := He.glo_ok X G (c.sy.fact 2),
    d_is_ratio := c.func 3 69,
    m_is_ratio := He.glo_ok X G (c.sy.fact 3),
    d_is_row := c.func 4 70,
    m_is_row := He.glo_ok X G (c.sy.fact 4),
    d_ratio := c.func 5 71,
    m_ratio := He.glo_ok X G (c.sy.fact 5),
    d_plus := c.func 6 72,
    m_plus := He.glo_ok X G (c.sy.fact 6),
    d_is_less := c.func 7 73,
    m_is_less := He.glo_ok X G (c.sy.fact 7),
    d_total := c.func 8 74,
    m_total := He.glo_ok X G (c.sy.fact 8),
    d_are_chances := c.func 9 75,
    m_are_chances := He.glo_ok X G (c.sy.fact 9),
    d_is_deed := c.func 10 76,
    m_is_deed := He.glo_ok X G (c.sy.fact 10),
    d_is_stand := c.func 11 77,
    m_is_stand := He.glo_ok X G (c.sy.fact 11),
    d_is_share := c.func 12 78,
    m_is_share := He.glo_ok X G (c.sy.fact 12),
    d_is_house_by := c.func 13 79,
    m_is_house_by := He.glo_ok X G (c.sy.fact 13),
    d_check_house := c.func 14 80,
    m_check_house := He.glo_ok X G (c.sy.fact 14),
    d_is_end := c.func 15 81,
    m_is_end := He.glo_ok X G (c.sy.fact 15),
    d_is_stretch := c.func 16 82,
    m_is_stretch := He.glo_ok X G (c.sy.fact 16),
    d_are_stretches := c.func 17 83,
    m_are_stretches := He.glo_ok X G (c.sy.fact 17),
    d_is_vague_deed := c.func 18 84,
    m_is_vague_deed := He.glo_ok X G (c.sy.fact 18),
    d_is_vague_stand := c.func 19 85,
    m_is_vague_stand := He.glo_ok X G (c.sy.fact 19),
    d_is_vague_by := c.func 20 86,
    m_is_vague_by := He.glo_ok X G (c.sy.fact 20),
    d_with_deeds := c.func 21 87,
    m_with_deeds := He.glo_ok X G (c.sy.fact 21),
    d_vague_by := c.func 22 88,
    m_vague_by := He.glo_ok X G (c.sy.fact 22),
    d_do_chances_fit := c.func 23 89,
    m_do_chances_fit := He.glo_ok X G (c.sy.fact 23),
    d_does_fit := c.func 24 90,
    m_does_fit := He.glo_ok X G (c.sy.fact 24),
    d_check_vague := c.func 25 91,
    m_check_vague := He.glo_ok X G (c.sy.fact 25),
    d_is_vague := c.func 26 92,
    m_is_vague := He.glo_ok X G (c.sy.fact 26),
    d_fits := c.func 27 93,
    m_fits := He.glo_ok X G (c.sy.fact 27),
    d_vague_of := c.func 28 94,
    m_vague_of := He.glo_ok X G (c.sy.fact 28),
    d_law_pot := c.func 29 95,
    m_law_pot := He.glo_ok X G (c.sy.fact 29),
    d_law_take := c.func 30 96,
    m_law_take := He.glo_ok X G (c.sy.fact 30),
    d_law_pick := c.func 31 97,
    m_law_pick := He.glo_ok X G (c.sy.fact 31),
    d_law_shuffled := c.func 32 98,
    m_law_shuffled := He.glo_ok X G (c.sy.fact 32),
    d_law_low := c.func 33 99,
    m_law_low := He.glo_ok X G (c.sy.fact 33),
    d_law_plus := c.func 34 100,
    m_law_plus := He.glo_ok X G (c.sy.fact 34),
    d_law_minus := c.func 35 101,
    m_law_minus := He.glo_ok X G (c.sy.fact 35),
    d_law_times := c.func 36 102,
    m_law_times := He.glo_ok X G (c.sy.fact 36),
    d_law_below := c.func 37 103,
    m_law_below := He.glo_ok X G (c.sy.fact 37),
    d_law_total := c.func 38 104,
    m_law_total := He.glo_ok X G (c.sy.fact 38),
    d_law_share := c.func 39 105,
    m_law_share := He.glo_ok X G (c.sy.fact 39),
    d_law_number := c.func 40 106,
    m_law_number := He.glo_ok X G (c.sy.fact 40),
    d_law_gains := c.func 41 107,
    m_law_gains := He.glo_ok X G (c.sy.fact 41),
    d_law_lot := c.func 42 108,
    m_law_lot := He.glo_ok X G (c.sy.fact 42),
    d_law_stretches := c.func 43 109,
    m_law_stretches := He.glo_ok X G (c.sy.fact 43),
    d_law_vague := c.func 44 110,
    m_law_vague := He.glo_ok X G (c.sy.fact 44),
    d_law_fill := c.func 45 111,
    m_law_fill := He.glo_ok X G (c.sy.fact 45),
    d_law_known := c.func 46 112,
    m_law_known := He.glo_ok X G (c.sy.fact 46),
    d_law_within := c.func 47 113,
    m_law_within := He.glo_ok X G (c.sy.fact 47),
    d_law_inside := c.func 48 114,
    m_law_inside := He.glo_ok X G (c.sy.fact 48),
    d_law_tight := c.func 49 115,
    m_law_tight := He.glo_ok X G (c.sy.fact 49),
    d_law_full := c.func 50 116,
    m_law_full := He.glo_ok X G (c.sy.fact 50),
    d_law_is_whole := c.func 51 117,
    m_law_is_whole := He.glo_ok X G (c.sy.fact 51),
    d_law_is_index := c.func 52 118,
    m_law_is_index := He.glo_ok X G (c.sy.fact 52),
    d_law_is_fraction := c.func 53 119,
    m_law_is_fraction := He.glo_ok X G (c.sy.fact 53),
    d_law_is_row := c.func 54 120,
    m_law_is_row := He.glo_ok X G (c.sy.fact 54),
    d_law_is_stretches := c.func 55 121,
    m_law_is_stretches := He.glo_ok X G (c.sy.fact 55),
    d_law_is_chances := c.func 56 122,
    m_law_is_chances := He.glo_ok X G (c.sy.fact 56),
    d_law_is_built := c.func 57 123,
    m_law_is_built := He.glo_ok X G (c.sy.fact 57),
    d_law_is_within := c.func 58 124,
    m_law_is_within := He.glo_ok X G (c.sy.fact 58),
    d_law_fits := c.func 59 125,
    m_law_fits := He.glo_ok X G (c.sy.fact 59),
    d_law_odd := c.func 60 126,
    m_law_odd := He.glo_ok X G (c.sy.fact 60),
    d_law_bent := c.func 61 127,
    m_law_bent := He.glo_ok X G (c.sy.fact 61),
    d_law_moved := c.func 62 128,
    m_law_moved := He.glo_ok X G (c.sy.fact 62),
    d_law_turned := c.func 63 129,
    m_law_turned := He.glo_ok X G (c.sy.fact 63),
    d_law_right := c.func 64 130,
    m_law_right := He.glo_ok X G (c.sy.fact 64),
    d_law := c.func 65 131,
    m_law := He.glo_ok X G (c.sy.fact 65),
    b_abs := He.free_ok X G (c.sy.fact 132),
    b_all := He.free_ok X G (c.sy.fact 133),
    b_bool := He.free_ok X G (c.sy.fact 134),
    b_dict := He.free_ok X G (c.sy.fact 135),
    b_divmod := He.free_ok X G (c.sy.fact 136),
    b_int := He.free_ok X G (c.sy.fact 137),
    b_isinstance := He.free_ok X G (c.sy.fact 138),
    b_len := He.free_ok X G (c.sy.fact 139),
    b_list := He.free_ok X G (c.sy.fact 140),
    b_max := He.free_ok X G (c.sy.fact 141),
    b_min := He.free_ok X G (c.sy.fact 142),
    b_range := He.free_ok X G (c.sy.fact 143),
    b_repr := He.free_ok X G (c.sy.fact 144),
    b_sorted := He.free_ok X G (c.sy.fact 145),
    b_sum := He.free_ok X G (c.sy.fact 146),
    b_tuple := He.free_ok X G (c.sy.fact 147),
    b_zip := He.free_ok X G (c.sy.fact 148),
    b_gcd := c.blt X G 0,
    g_MOST_DEEDS := c.con X G 0,
    g_MOST_PAYS := c.con X G 1,
    g_MOST_STANDS := c.con X G 2,
    g_ONE := c.con X G 3,
    g_ZERO := c.con X G 4 }
theorem all_mkH {P : Program} {w : World} {K : PySem.W.Frag} {h : Heap} {mg : Str → Option Value} {fa : Addr} (X : K.In h) (G : h.Ns mainGlobals mg) (hfa : mg "law" = some (.ref fa)) (c : SaysL csl bsl fal fnl msl h K) :
    ∃ fd : FuncData, (∀ (s : Shared) (v : Value), BindsTo s fd ⟨[v], []⟩ [("_law_script", v)]) ∧ ∀ base : Heap, K.In base → base.Ns mainGlobals mg → (∀ p ∈ tabsOf K msl, LamX.TabB base mg p.1 p.2) → FnG P w K mg base 29 fa fd ["_law_script"] (@spOf (lamT K msl) K 1 f_law) := by
  have e := hfa.symm.trans (He.glo_ok X G (c.m.sy.fact 65 (f := .glo "law") rfl))
  have T := txtH X G c.m
  cases e
  refine ⟨_, fun s v => ?_, fun base _ _ TB => @ok_law (lamT K msl) _ _ _ _ _ _ _ T (@TxtL.mk (lamT K msl) _ _ _ _ (c.lam TB 22 0))⟩
  obtain ⟨oc, od, kV, doc, pm, an, cdv, ct, osl, e, _, _⟩ := T.d_law.ex
  rw [e]
  exact .of_eq rfl
end WW
open PySem PySem.W PySem.Calls PyProof.Rows
set_option maxHeartbeats 0 in
theorem PySem.Challenge.cw_deedhouses_k43_vague_houses_of_anything_holds : PySem.Challenge.rw_deedhouses_k43_vague_houses_of_anything.Holds := by
  w_on; o_law
  refine HandSHeadRun.head_imp (r := OpenLaw.row PySem.Challenge.rw_deedhouses_k43_vague_houses_of_anything) (q := view (OpenLaw.row PySem.Challenge.rw_deedhouses_k43_vague_houses_of_anything).prog [0, 82]) (H := WW.hkM) (ob := WW.obM) (M := 6000) (loose := WW.loose) (d := HandSHeadRun.topDef (OpenLaw.row PySem.Challenge.rw_deedhouses_k43_vague_houses_of_anything).prog 82) (kwd := []) WW.obM_eq
    WW.runM (by kernel_rfl) (by kernel_rfl) (by kernel_rfl) (by rfl) (by first | assumption | decide +kernel) (by decide +kernel) ⟨rfl, rfl, rfl, rfl, rfl, by decide +kernel⟩ ?hw ?hc
  case hw => w_witness2
  case hc =>
    refine Dh.law_endL (l := PySem.Challenge.rw_deedhouses_k43_vague_houses_of_anything) (n := 63) (k := 29) (x := "_law_script") (g := WW.f_law) rfl (by decide) (by kernel_rfl) ⟨rfl, by decide, by decide⟩ WW.plain ?F
    intro w mg fa h Y G hmg0
    obtain ⟨K, KX, c⟩ := Y
    have hmg : mg ("law" : PySem.Str) = some (.ref fa) := by
      have e : (HandSHeadRun.topDef (OpenLaw.row PySem.Challenge.rw_deedhouses_k43_vague_houses_of_anything).prog 82).name = ("law" : PySem.Str) := by kernel_rfl
      rw [← e]
      exact hmg0
    obtain ⟨fd, hb, hF⟩ := WW.all_mkH KX G hmg c
    exact ⟨Dh.lamT K WW.msl, K, fd, Dh.tabsOf K WW.msl, KX, c.empty, c.out, fun p hp => PySem.W.codeHd_of_K KX (c.hd p hp), fun p hp => Dh.lamT_mem hp, hb, hF⟩
