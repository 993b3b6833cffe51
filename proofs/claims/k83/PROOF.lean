import PyProof.Rows.All
import Wide.All
import OpenK.AllK
import Wide.FinOn
import HandS.ForMost
import HandS.Walk
import HandS.WideBits
import HandS.TupAny
import HandS.TupMul
import HandS.Strs
import HandS.Gcd
import HandS.IsInst
import PyProof.TupleKey
import PyProof.DictKinds
import HandS.Zip
import HandS.Iter
import KE.GoesEnum
import HandS.Style
import HandS.EndBits
import HandS.Head0
import HandS.Head1
import HandS.Head2
import HandS.Head3
import HandS.HeadHook1
import HandS.Deep
import HandS.DictComp
import PyProof.NeKinds
import HandS.Small
import HandS.WordsDict
import HandS.Conv
import KE.SortData
import KE.KDictPairs
import HandS.SortInts
import Wide.Txt2
import KE.DataMinMax
import HandS.More
import KE.KDictZip
import PyProof.ListNew
import PySem.Challenge.RW_deedhouses_k83_whole_dice_that_make_a_wa
import PyProof.ReprBulk
set_option Elab.async false
set_option linter.all false
set_option maxRecDepth 100000
set_option maxHeartbeats 4000000
namespace Dh
open PySem PySem.Spec L2 PyProof.Rows
/-- Q of a tuple just made -/
abbrev TpQ (H : Hp) (xs : List V) (Q : VK) : Prop := ∀ (p : Addr) (o : Obj), H p = none → o.dict = none → Q (.ref p) (upd H p (.frz o (.tup xs)))
section
variable {X : Cx} {es : List Expr} {t : TA} {pos : Pos}
theorem obj_tup {h : Heap} {H : Hp} {a : Addr} {its : List Value} {xs : List V} {n : Nat} (e : h.get? a = some { cls := .type "tuple", data := .seq its.toArray n }) (hz : xs.length ≤ sizeLine) (r : Vals xs its) : ObjOk X.prog X.w H h a (.frz { cls := .type "tuple", data := .seq its.toArray n } (.tup xs)) :=
  ⟨e, hz, its, r, ⟨_, e, rfl, n, rfl⟩⟩
def tTupS (t : TA) : TE := fun σ H Q => t σ H fun xs H1 => xs.length ≤ sizeLine ∧ TpQ H1 xs Q
theorem pe_tupS {x1} (h : PA X es t) : PE X (.Tuple es x1 pos) (tTupS t) := by
  refine ⟨fun pins s σ H Q I hq => ?_⟩
  refine wpAny_Tuple_spliced (thn (h.run pos pins s σ H _ I hq) fun us s1 ⟨xs, H1, I1, r, z, q⟩ => ⟨by rw [← r.length]; exact z, ?_⟩)
  have hf : H1 s1.heap.objs.size = none := I1.hok.fresh (Nat.le_refl _)
  exact ⟨.ref s1.heap.objs.size, upd H1 s1.heap.objs.size (.frz { cls := .type "tuple", data := .seq us.toArray } (.tup xs)), I1.laid (t' := s1.toks) (fun b u e => Heap.get?_push_of_some _ e) (Nat.le_refl _) (obj_tup (Heap.get?_push_size _ rfl) z r), rfl, q _ _ hf rfl⟩
theorem call_tuple_ofS : CallR X (.type "tuple") (fun xs H Q => ∃ p ys, xs = [.ref p] ∧ ((SqL X.K H p ys ∧ TpQ H ys Q) ∨ (SqT X.K H p ys ∧ Q (.ref p) H))) := by
  intro pins s σ H xs us Q I r h
  obtain ⟨p, ys, rfl, h⟩ := h
  obtain ⟨u, rfl, rx⟩ := vals1 r
  cases rx
  rcases h with ⟨hq, q⟩ | ⟨hq, q⟩
  · obtain ⟨its, r', pl, hz⟩ := I.list hq
    have hlen := r'.length
    refine call_tuple_list pl.isList (fun h' kp => ?_) (by simp only [List.size_toArray] <;> omega)
    have I1 : Inv X pins σ H { s with heap := h' } := I.kept (t' := s.toks) kp
    have I2 : Inv X pins σ (upd H h'.objs.size (.frz { cls := .type "tuple", data := .seq its.toArray } (.tup ys))) { s with heap := h'.push { cls := .type "tuple", data := .seq its.toArray } } :=
      I1.laid (t' := s.toks) (fun b o e => Heap.get?_push_of_some _ e) (Nat.le_refl _) (obj_tup (Heap.get?_push_size _ rfl) hz r')
    exact ⟨.ref h'.objs.size, _, I2, rfl, q _ _ (I1.hok.fresh (Nat.le_refl _)) rfl⟩
  · obtain ⟨its, r', pl, hz⟩ := I.tuple hq
    exact call_tuple_same pl ⟨.ref p, H, I, rfl, q⟩
theorem call_divmodS : CallR X (.builtin "divmod") (fun xs H Q => ∃ i j, xs = [.int i, .int j] ∧ CDivP i j ∧ TpQ H [.int (i / j), .int (i % j)] Q) := by
  intro pins s σ H xs us Q I r h
  obtain ⟨i, j, rfl, ⟨h1, h2⟩, q⟩ := h
  obtain ⟨u, w', rfl, ⟨t, rfl⟩, ⟨t', rfl⟩⟩ := vals2 r
  refine divmod_int (by omega) ?_ (.inl h2)
  rw [Int.fdiv_eq_ediv_of_nonneg i (by omega), Int.fmod_eq_emod_of_nonneg i (by omega)]
  have hn : H s.heap.objs.size = none := I.hok.fresh (Nat.le_refl _)
  refine ⟨.ref s.heap.objs.size, _, ?_, rfl, q _ { cls := .type "tuple", data := .seq [Value.int (i / j) s.toks, Value.int (i % j) (s.toks + 1)].toArray } hn rfl⟩
  exact I.laid (fun b o e => Heap.get?_push_of_some _ e) (Nat.le_refl _) (obj_tup (its := [.int (i / j) s.toks, .int (i % j) (s.toks + 1)]) (Heap.get?_push_size s.heap rfl) (by simp only [List.length_cons, List.length_nil]; rw [sizeLine_eq]; decide) (.cons ⟨_, rfl⟩ (.cons ⟨_, rfl⟩ .nil)))
/-- t + u -/
def rCatS (K : PySem.W.Frag) : R2 := fun x y H Q => ∃ a b xs ys, x = .ref a ∧ y = .ref b ∧ SqT K H a xs ∧ SqT K H b ys ∧ xs.length + ys.length ≤ sizeLine ∧
  (xs = [] → Q (.ref b) H) ∧ (xs ≠ [] → ys = [] → Q (.ref a) H) ∧ (xs ≠ [] → ys ≠ [] → TpQ H (xs ++ ys) Q)
theorem op_catS : OpR X (binaryOp .Add) (rCatS X.K) := by
  intro pins s σ H x y v u Q I rx ry h
  obtain ⟨a, b, xs, ys, rfl, rfl, ha, hb, hz, q0, q1, q2⟩ := h
  cases rx
  cases ry
  obtain ⟨its, r1, p1, _⟩ := I.tuple ha
  obtain ⟨its2, r2, p2, _⟩ := I.tuple hb
  by_cases hx : xs = []
  · subst hx
    cases r1
    exact cat_tup0 p1 p2 ⟨.ref b, H, I, rfl, q0 rfl⟩
  · refine HT.cat_tup p1 p2 (fun z => hx (r1.nil_iff.mp z)) (fun z => ⟨.ref a, H, I, rfl, q1 hx (r2.nil_iff.mp z)⟩) (fun z => ?_) (by rw [← r1.length, ← r2.length]; exact hz)
    exact ⟨.ref s.heap.objs.size, _, I.laid (t' := s.toks) (fun b ob q => Heap.get?_push_of_some _ q) (Nat.le_refl _) (obj_tup (its := its ++ its2) (xs := xs ++ ys) (by first | exact Heap.get?_push_size _ rfl | (rw [← List.append_toArray] <;> exact Heap.get?_push_size _ rfl)) (by rw [List.length_append]; exact hz) (r1.append r2)), rfl, q2 hx (fun w => z (r2.nil_iff.mpr w)) _ _ (I.hok.fresh (Nat.le_refl _)) rfl⟩
/-- t[lo:hi]: the whole of it is t itself -/
def rSlS (K : PySem.W.Frag) : V → Option Int → Option Int → Hp → VK → Prop := fun x lo hi H Q => ∃ a xs, x = .ref a ∧ SqT K H a xs ∧
  (HT.sIx xs.length 0 lo = 0 ∧ HT.sIx xs.length xs.length hi = xs.length → Q (.ref a) H) ∧ (¬ (HT.sIx xs.length 0 lo = 0 ∧ HT.sIx xs.length xs.length hi = xs.length) → TpQ H (cutV xs lo hi) Q)
theorem sl_tupS : SlR X (rSlS X.K) := by
  intro pins s σ H x v vl vu lo hi sl Q I rx hs pl pu h
  obtain ⟨a, xs, rfl, hx, q1, q2⟩ := h
  cases rx
  obtain ⟨its, r, ht, hz⟩ := I.tuple hx
  have hlen : its.toArray.size = xs.length := by rw [List.size_toArray]; exact r.length.symm
  refine ⟨"tuple", _, PyProof.Rows.slot_tuple_getitem.lookup, ht.typeIs, ?_⟩
  by_cases hw : HT.sIx xs.length 0 lo = 0 ∧ HT.sIx xs.length xs.length hi = xs.length
  · exact getItem_tuple_whole ht hs pl pu (by rw [hlen]; exact hw) ⟨.ref a, H, I, rfl, q1 hw⟩
  · refine HT.getItem_tuple_cut ht hs pl pu (by rw [hlen]; exact hw) ?_ (by rw [hlen]; exact hz)
    rw [hlen]
    exact ⟨.ref s.heap.objs.size, _, I.laid (t' := s.toks) (fun b ob q => Heap.get?_push_of_some _ q) (Nat.le_refl _) (obj_tup (Heap.get?_push_size _ rfl) (Nat.le_trans (cutV_length xs lo hi) hz) ((r.drop (HT.sIx xs.length 0 lo)).take (HT.sIx xs.length xs.length hi - HT.sIx xs.length 0 lo))), rfl, q2 hw _ _ (I.hok.fresh (Nat.le_refl _)) rfl⟩
/-- t * k -/
def rRepS (K : PySem.W.Frag) : R2 := fun x y H Q => ∃ l k xs, x = .ref l ∧ y = .int k ∧ SqT K H l xs ∧ xs ≠ [] ∧ 2 ≤ k ∧ k ≤ 1000 ∧ xs.length ≤ 1000 ∧ TpQ H (List.replicate k.toNat xs).flatten Q
theorem op_repS : OpR X (binaryOp .Mult) (rRepS X.K) := by
  intro pins s σ H x y v u Q I rx ry h
  obtain ⟨l, k, xs, rfl, rfl, hT, hne, h1, h2, hz, q⟩ := h
  cases rx
  obtain ⟨t, rfl⟩ := ry
  obtain ⟨its, r, ⟨⟨cls, dd, data, sl⟩, ho, hc, n, hd⟩, hs⟩ := I.tuple hT
  simp only at hc hd
  subst hc hd
  have hle : its.length = xs.length := r.length.symm
  have hn : its ≠ [] := fun e => hne (by
    rw [e] at hle
    exact List.eq_nil_of_length_eq_zero hle.symm)
  have hi : its.toArray.isEmpty = false := by
    cases its with
    | nil => exact absurd rfl hn
    | cons a b => rfl
  have hsz0 : its.toArray.size = xs.length := by rw [List.size_toArray, hle]
  have hm : ((its.toArray.size : Nat) : Int) * k ≤ 1000000 := by
    rw [hsz0]
    have a1 : ((xs.length : Nat) : Int) * k ≤ 1000 * k := Int.mul_le_mul_of_nonneg_right (by omega) (by omega)
    omega
  have flen : (List.replicate k.toNat its).flatten.length ≤ sizeLine := by
    rw [PyProof.Rows.lm_len_rep_flat, hle, sizeLine_eq]
    have a1 : k.toNat * xs.length ≤ 1000 * 1000 := Nat.mul_le_mul (by omega) hz
    omega
  have c0 : (decide (k < -(2 ^ 63)) || decide (k ≥ 2 ^ 63)) = false := by
    rw [decide_eq_false (by omega), decide_eq_false (by omega)] <;> rfl
  have c1 : (its.toArray.isEmpty || k == 1) = false := by
    rw [hi, Bool.false_or]
    exact beq_eq_false_iff_ne.mpr (by omega)
  have c2 : (decide (k ≤ 0) || its.toArray.isEmpty) = false := by
    rw [hi, Bool.or_false]
    exact decide_eq_false (by omega)
  have c4 : Builtin.Tuple.tupleTooMany (((its.toArray.size : Nat) : Int) * k) = false := by
    unfold Builtin.Tuple.tupleTooMany
    rw [sizeLine_eq]
    exact decide_eq_false (by omega)
  refine wpAny_binaryOp_repeat_ref (T := "tuple") (U := "int") (by decide) ⟨_, ho, rfl⟩ (fun s' => typeIs_int s' k t) noFill_tuple_mul F.fills_int_mul F.slot_int_rmul repeat_tuple F.slot_int_index.lookup
    (call_meets F.slot_int_rmul (typeIs_int s k t) F.entry_int_rmul (F.args_int_rmul_2 _ _) (int_rmul_tuple k t l its.toArray n dd sl)
      ⟨ho, rfl, ⟨_, ho, rfl⟩, call_meets F.slot_tuple_mul ⟨_, ho, rfl⟩ F.entry_tuple_mul (F.args_tuple_mul_2 _ _) (tuple_mulW l its.toArray n dd sl k t c0 c1 c2 (by omega) c4 (by rw [size_rep, List.size_toArray]; exact flen)) ⟨ho, ?_⟩⟩)
  rw [size_rep]
  exact ⟨.ref s.heap.objs.size, _, I.laid (t' := s.toks) (fun b ob q => Heap.get?_push_of_some _ q) (Nat.le_refl _) (obj_tup (Heap.get?_push_size _ rfl) (by rw [PyProof.Rows.lm_len_rep_flat, sizeLine_eq]; have a1 : k.toNat * xs.length ≤ 1000 * 1000 := Nat.mul_le_mul (by omega) hz; omega) (r.rep k.toNat)), rfl, q _ _ (I.hok.fresh (Nat.le_refl _)) rfl⟩
end
/-- the list at a, each item with its place in a new pair -/
def IteS (K : PySem.W.Frag) (a : Addr) : It where
  go := fun i H => ∃ (xs : List V) (x : V), SqL K H a xs ∧ xs[i]? = some x
  yld := fun i H v H' => ∃ T o x, v = .ref T ∧ H T = none ∧ o.dict = none ∧ H' = upd H T (.frz o (.tup [.int (i : Nat), x])) ∧ ∀ xs, SqL K H a xs → xs[i]? = some x
  stop := fun i H => ∃ xs : List V, SqL K H a xs ∧ xs.length = i
theorem turn_enumS {P : Program} {w : World} {K : PySem.W.Frag} {elts : List Expr} {kk : Nat} {tpos : Pos} (a e it : Addr) :
    Turn P w K (.Tuple elts kk tpos) (IteS K a) [e, it] e (fun i h => (∃ old, IsEnum h e it ((i : Nat) : Int) old) ∧ h.IsListIter it a i ∧ e ≠ it) where
  mem := by simp
  obj := fun i h st b hb => by
    obtain ⟨⟨old, he⟩, ⟨o, ho, hc, hd⟩, _⟩ := st
    have e' : b = e ∨ b = it := by simpa using hb
    rcases e' with z | z
    · rw [z]; exact ⟨_, he, fun v q => nomatch q⟩
    · rw [z]; exact ⟨o, ho, fun v q => by rw [hd] at q; cases q⟩
  keep := fun i h h' st k => let ⟨⟨old, he⟩, hi, hne⟩ := st; ⟨⟨old, k e (by simp) _ he⟩, hi.at fun o q => k it (by simp) o q, hne⟩
  item := by
    intro X hP hw hK hc i pins s σ H E I hf st hg
    subst hP hw hK
    obtain ⟨⟨old, he⟩, hit, hne⟩ := st
    obtain ⟨xs, x, hq, hx⟩ := hg
    obtain ⟨its, rv, p, hz⟩ := I.list hq
    obtain ⟨u, hu, ru⟩ := rv.get hx
    have hel : e < s.heap.objs.size := Heap.lt_size he
    have hil : it < s.heap.objs.size := by obtain ⟨_, q, _⟩ := hit; exact Heap.lt_size q
    refine wpAny_pyNext_enum_item he hit p.isList (x := u) (by simpa using hu) hne fun h' ho hit' hT hsz hk => ?_
    refine ⟨_, rfl, wpAny_letOwnedTupleGo_enum (s := { s with heap := h', toks := s.toks + 1 }) ho fun h'' he' sb => ?_⟩
    have hT2 : h''.get? s.heap.objs.size = some { cls := .type "tuple", data := .seq #[.int i s.toks, u] } := (sb.2 _ (Nat.ne_of_gt hel)).trans hT
    have I1 : Inv X pins σ (upd H s.heap.objs.size (.frz { cls := .type "tuple", data := .seq #[.int i s.toks, u] } (.tup [.int (i : Nat), x]))) { s with heap := h'', toks := s.toks + 1 } :=
      I.turnedNew (ch := [e, it]) (fun b ob hb q => (sb.2 b (fun z => hb (by simp [z]))).trans (hk b ob (fun z => hb (by simp [z])) (fun z => hb (by simp [z])) q)) hf (Nat.le_refl _) (obj_tup (its := [.int i s.toks, u]) hT2 (by show 2 ≤ sizeLine; decide) (.cons ⟨_, rfl⟩ (.cons ru .nil)))
    refine ⟨.ref s.heap.objs.size, _, I1, rfl, ⟨_, _, x, rfl, I.hok.fresh (Nat.le_refl _), rfl, rfl, fun ys hy => by rw [I.list_inj hy hq]; exact hx⟩, ⟨⟨u, ?_⟩, hit'.at fun o q => (sb.2 it (Ne.symm hne)).trans q, hne⟩, fun b hb => ?_⟩
    · have e1 : ((i + 1 : Nat) : Int) = (i : Int) + 1 := by omega
      rw [e1]; exact he'
    · have hb' : b < s.heap.objs.size := by
        have e' : b = e ∨ b = it := by simpa using hb
        rcases e' with z | z
        · rw [z]; exact hel
        · rw [z]; exact hil
      rw [upd_ne (Nat.ne_of_lt hb')]
      exact (hf b hb).1
  done := by
    intro X hP hw hK hc i pins s σ H E I hf st hg
    subst hP hw hK
    obtain ⟨⟨old, he⟩, hit, hne⟩ := st
    obtain ⟨xs, hq, hx⟩ := hg
    obtain ⟨its, rv, p, hz⟩ := I.list hq
    obtain ⟨f0, f1, f2, f3, f4, f5⟩ := hf it (by simp)
    have hl := rv.length
    exact wpAny_pyNext_enum_end (I.ok.hd hc) he hit p.isList (by simp; omega) fun h' eb => ⟨rfl, I.turned (t' := s.toks) (fun b o hb q => eb b o hb q) f0 f1 f3 f4 f5⟩
  self := fun A i s Q E st h => let ⟨⟨_, he⟩, _⟩ := st; wpAny_pyIter_enum he h
end Dh
namespace Dh
open PySem PySem.Spec L2
/-- what an expression gives: a datum that stays; a list just made; a list of the frame's own, looked at; the spring -/
inductive R where
  | d (x : PyData) | f (xs : List PyData) | b (xs : List PyData) | s | m (acc : List (Key × PyData)) | n (acc : List (Key × PyData)) | t (acc : List (List Int × PyData)) | u (acc : List (List Int × PyData))
/-- what a slot holds -/
inductive Cl where
  | d (x : PyData) | o (xs : List PyData) | s | m (acc : List (Key × PyData)) | t (acc : List (List Int × PyData))
abbrev Ev := List (Option Cl)
abbrev Sto := List Int
abbrev Mx := Ev → Sto → Option (R × Sto)
abbrev Mt := Ev → Sto → Option (Bool × Sto)
abbrev Ma := Ev → Sto → Option (List R × Sto)
abbrev Fz := Addr → Prop
/-- a list that stays -/
def FzL (K : PySem.W.Frag) (fz : Fz) (H : Hp) (a : Addr) (xs : List V) : Prop :=
  (H a = some (.lst xs) ∧ fz a) ∨ (∃ o, H a = some (.frz o (.lst xs))) ∨
    ∃ (o : Obj) (its : Array Value) (n : Nat), K.lookup a = some o ∧ o.cls = .type "list" ∧ o.dict = none ∧ o.data = .seq its n ∧ its.size ≤ sizeLine ∧ Vals xs its.toList
theorem FzL.sq {K : PySem.W.Frag} {fz : Fz} {H : Hp} {a : Addr} {xs : List V} (h : FzL K fz H a xs) : SqL K H a xs := by
  rcases h with ⟨h, _⟩ | h | h
  · exact .inl (.inl h)
  · exact .inl (.inr h)
  · exact .inr h
/-- a tuple that stays; it bears no names of its own -/
def FzT (K : PySem.W.Frag) (H : Hp) (a : Addr) (xs : List V) : Prop :=
  (∃ o, H a = some (.frz o (.tup xs)) ∧ o.dict = none) ∨
    ∃ (o : Obj) (its : Array Value) (n : Nat), K.lookup a = some o ∧ o.cls = .type "tuple" ∧ o.dict = none ∧ o.data = .seq its n ∧ its.size ≤ sizeLine ∧ Vals xs its.toList
theorem FzT.sq {K : PySem.W.Frag} {H : Hp} {a : Addr} {xs : List V} (h : FzT K H a xs) : SqT K H a xs := by
  rcases h with ⟨o, h, _⟩ | ⟨o, its, n, h1, h2, _, h3, h4, h5⟩
  · exact .inl (.inr ⟨o, h⟩)
  · exact .inr ⟨o, its, n, h1, h2, h3, h4, h5⟩
mutual
/-- the value v is the datum d, for as long as what is frozen stays -/
inductive Im (K : PySem.W.Frag) (fz : Fz) (H : Hp) : V → PyData → Prop
  | non : Im K fz H .non .none
  | bl (b : Bool) : Im K fz H (.bl b) (.bool b)
  | int (i : Int) : Im K fz H (.int i) (.int i)
  | str (x : Str) : Im K fz H (.str x) (.str x)
  | lst {a : Addr} {xs : List V} {ds : List PyData} : FzL K fz H a xs → ImA K fz H xs ds → Im K fz H (.ref a) (.list ds)
  | tup {a : Addr} {xs : List V} {ds : List PyData} : FzT K H a xs → ImA K fz H xs ds → Im K fz H (.ref a) (.tuple ds)
  | dct {a : Addr} {kvs : List (Key × V)} {ds : List (PyData × PyData)} : H a = some (.dK kvs) → fz a → ImA K fz H (kvs.map fun p => kV p.1) (ds.map (·.1)) → ImA K fz H (kvs.map (·.2)) (ds.map (·.2)) → Im K fz H (.ref a) (.dict ds)
inductive ImA (K : PySem.W.Frag) (fz : Fz) (H : Hp) : List V → List PyData → Prop
  | nil : ImA K fz H [] []
  | cons {v : V} {vs : List V} {d : PyData} {ds : List PyData} : Im K fz H v d → ImA K fz H vs ds → ImA K fz H (v :: vs) (d :: ds)
end
/-- the entries of a dict as they are tracked, and as data -/
def ImK (K : PySem.W.Frag) (fz : Fz) (H : Hp) (kvs : List (Key × V)) (acc : List (Key × PyData)) : Prop := kvs.map (·.1) = acc.map (·.1) ∧ ImA K fz H (kvs.map (·.2)) (acc.map (·.2))
/-- the entry of a key of whole numbers -/
abbrev entI (P : Program) (w : World) (x : List Int × Addr × Value) : DictEntry := entryOfKey (tupleKind (intKind P w)) x
/-- a dict whose keys are tuples of whole numbers: keys, the tuples' places, values -/
abbrev DTO (a : Addr) (xs : List (List Int × Addr × Value)) : HO := .ext fun h => (a == sysModules) = false ∧ ∃ (P : Program) (w : World) (o : Obj) (es : Array DictEntry) (ep : Nat), h.get? a = some o ∧ o.ExactDict ∧ o.data = .dict es ep ∧ es.toList = xs.map (entI P w) ∧ (xs.map (·.1)).Nodup
/-- what it holds, as data -/
def TK (K : PySem.W.Frag) (fz : Fz) (H : Hp) (xs : List (List Int × Addr × Value)) (acc : List (List Int × PyData)) : Prop :=
  Paired (fun (p : List Int × PyData) (q : List Int × Addr × Value) => p.1 = q.1 ∧ FzT K H q.2.1 (q.1.map V.int) ∧ ∃ v, RelV v q.2.2 ∧ Im K fz H v p.2) acc xs
/-- from one moment to a later one: what was tracked stands, but the spring; what is newly frozen was not there -/
structure Stp (sp : Option Addr) (fz : Fz) (H : Hp) (fz' : Fz) (H' : Hp) : Prop where
  mono : ∀ a, fz a → fz' a
  ext : ∀ a o, H a = some o → some a ≠ sp → H' a = some o
  new : ∀ a, fz' a → fz a ∨ (some a ≠ sp ∧ H a = none)
  trk : (∀ a, fz a → H a ≠ none) → ∀ a, fz' a → H' a ≠ none
section
variable {K : PySem.W.Frag} {sp : Option Addr} {fz fz1 fz2 : Fz} {H H1 H2 : Hp}
theorem Stp.refl : Stp sp fz H fz H := ⟨fun _ h => h, fun _ _ h _ => h, fun _ h => .inl h, fun h => h⟩
theorem Stp.back (s : Stp sp fz H fz1 H1) {a : Addr} (n : some a ≠ sp) (h : H1 a = none) : H a = none := by
  cases q : H a with
  | none => rfl
  | some o => rw [s.ext a o q n] at h; cases h
theorem Stp.trans (s : Stp sp fz H fz1 H1) (t : Stp sp fz1 H1 fz2 H2) : Stp sp fz H fz2 H2 where
  mono := fun a h => t.mono a (s.mono a h)
  ext := fun a o h n => t.ext a o (s.ext a o h n) n
  new := fun a h => by
    rcases t.new a h with h | ⟨n, h⟩
    · exact s.new a h
    · exact .inr ⟨n, s.back n h⟩
  trk := fun h => t.trk (s.trk h)
theorem Stp.nsp (s : Stp sp fz H fz1 H1) (n : ∀ a, sp = some a → ¬ fz a) : ∀ a, sp = some a → ¬ fz1 a := fun a e h => by
  rcases s.new a h with h | ⟨h, _⟩
  · exact n a e h
  · exact h e.symm
/-- a new object -/
theorem Stp.laid {a : Addr} {o : HO} (h : H a = none) : Stp sp fz H fz (upd H a o) :=
  ⟨fun _ h => h, fun b u q _ => by rw [upd_ne (ne_of_none q h)]; exact q, fun _ h => .inl h, fun t b q z => by
    by_cases e : b = a
    · subst e; rw [upd_same] at z; cases z
    · rw [upd_ne e] at z; exact t b q z⟩
/-- a new object, frozen -/
theorem Stp.frz {a : Addr} {o : HO} (h : H a = none) (n : some a ≠ sp) : Stp sp fz H (fun b => fz b ∨ b = a) (upd H a o) :=
  ⟨fun _ h => .inl h, fun b u q _ => by rw [upd_ne (ne_of_none q h)]; exact q, fun b q => by
    rcases q with q | q
    · exact .inl q
    · subst q; exact .inr ⟨n, h⟩, fun t b q z => by
    by_cases e : b = a
    · subst e; rw [upd_same] at z; cases z
    · rw [upd_ne e] at z
      rcases q with q | q
      · exact t b q z
      · exact e q⟩
/-- a list that was just made is frozen -/
theorem Stp.freeze {a : Addr} {o : HO} (s : Stp sp fz H fz1 H1) (h0 : H a = none) (n : some a ≠ sp) (h : H1 a = some o) : Stp sp fz H (fun b => fz1 b ∨ b = a) H1 :=
  ⟨fun b q => .inl (s.mono b q), s.ext, fun b q => by
    rcases q with q | q
    · exact s.new b q
    · subst q; exact .inr ⟨n, h0⟩, fun t b q z => by
    rcases q with q | q
    · exact s.trk t b q z
    · subst q; rw [h] at z; cases z⟩
def SpL (sp : Option Addr) (H : Hp) (sto : Sto) : Prop := ∀ a, sp = some a → H a = some (.lst (sto.map V.int))
theorem SpL.ne {sto : Sto} {a : Addr} {o : Option HO} (l : SpL sp H sto) (h : H a = o) (n : o ≠ some (.lst (sto.map V.int))) : some a ≠ sp := fun e => n (h.symm.trans (l a e.symm))
theorem SpL.upd {sto : Sto} {a : Addr} {o : HO} (l : SpL sp H sto) (n : some a ≠ sp) : SpL sp (L2.upd H a o) sto := fun p e => by
  have : p ≠ a := fun z => n (by rw [← z, e])
  rw [upd_ne this]
  exact l p e
/-- the value is the spring -/
def IsS (sp : Option Addr) (v : V) : Prop := ∃ a, sp = some a ∧ v = .ref a
/-- the spring stands, it is not frozen, what is frozen is tracked -/
structure Bs (sp : Option Addr) (fz : Fz) (H : Hp) (sto : Sto) : Prop where
  spl : SpL sp H sto
  nsp : ∀ a, sp = some a → ¬ fz a
  trk : ∀ a, fz a → H a ≠ none
theorem Bs.step {sto sto' : Sto} (B : Bs sp fz H sto) (s : Stp sp fz H fz1 H1) (l : SpL sp H1 sto') : Bs sp fz1 H1 sto' := ⟨l, s.nsp B.nsp, s.trk B.trk⟩
theorem ne_spring {sto : Sto} {a : Addr} {xs : List V} (l : SpL sp H sto) (h : H a = some (.tup xs)) : some a ≠ sp := by
  exact l.ne h (by intro z; cases z)
theorem SqT.stp {sto : Sto} {a : Addr} {xs : List V} (s : Stp sp fz H fz1 H1) (B : Bs sp fz H sto) (h : SqT K H a xs) : SqT K H1 a xs := by
  rcases h with (h | ⟨o, h⟩) | h
  · exact .inl (.inl (s.ext _ _ h (ne_spring B.spl h)))
  · exact .inl (.inr ⟨o, s.ext _ _ h (B.spl.ne h (by intro z; cases z))⟩)
  · exact .inr h
theorem FzT.stp {sto : Sto} {a : Addr} {xs : List V} (s : Stp sp fz H fz1 H1) (B : Bs sp fz H sto) (h : FzT K H a xs) : FzT K H1 a xs := by
  rcases h with ⟨o, h, d⟩ | h
  · exact .inl ⟨o, s.ext _ _ h (B.spl.ne h (by intro z; cases z)), d⟩
  · exact .inr h
theorem FzL.stp {sto : Sto} {a : Addr} {xs : List V} (s : Stp sp fz H fz1 H1) (B : Bs sp fz H sto) (h : FzL K fz H a xs) : FzL K fz1 H1 a xs := by
  rcases h with ⟨h, f⟩ | ⟨o, h⟩ | h
  · exact .inl ⟨s.ext _ _ h (by intro e; exact B.nsp _ e.symm f), s.mono _ f⟩
  · exact .inr (.inl ⟨o, s.ext _ _ h (B.spl.ne h (by intro z; cases z))⟩)
  · exact .inr (.inr h)
mutual
theorem Im.stp {sto : Sto} (s : Stp sp fz H fz1 H1) (B : Bs sp fz H sto) : ∀ {v : V} {d : PyData}, Im K fz H v d → Im K fz1 H1 v d
  | _, _, .non => .non
  | _, _, .bl b => .bl b
  | _, _, .int i => .int i
  | _, _, .str x => .str x
  | _, _, .lst h a => .lst (h.stp s B) (ImA.stp s B a)
  | _, _, .tup h a => .tup (FzT.stp s B h) (ImA.stp s B a)
  | _, _, .dct h f a b => .dct (s.ext _ _ h (by intro e; exact B.nsp _ e.symm f)) (s.mono _ f) (ImA.stp s B a) (ImA.stp s B b)
theorem ImA.stp {sto : Sto} (s : Stp sp fz H fz1 H1) (B : Bs sp fz H sto) : ∀ {v : List V} {d : List PyData}, ImA K fz H v d → ImA K fz1 H1 v d
  | _, _, .nil => .nil
  | _, _, .cons h t => .cons (Im.stp s B h) (ImA.stp s B t)
end
mutual
theorem Im.fzm (g : ∀ a, fz a → fz1 a) : ∀ {v : V} {d : PyData}, Im K fz H v d → Im K fz1 H v d
  | _, _, .non => .non
  | _, _, .bl b => .bl b
  | _, _, .int i => .int i
  | _, _, .str x => .str x
  | _, _, .lst h a => .lst (by
      rcases h with ⟨h, f⟩ | h | h
      · exact .inl ⟨h, g _ f⟩
      · exact .inr (.inl h)
      · exact .inr (.inr h)) (ImA.fzm g a)
  | _, _, .tup h a => .tup h (ImA.fzm g a)
  | _, _, .dct h f a b => .dct h (g _ f) (ImA.fzm g a) (ImA.fzm g b)
theorem ImA.fzm (g : ∀ a, fz a → fz1 a) : ∀ {v : List V} {d : List PyData}, ImA K fz H v d → ImA K fz1 H v d
  | _, _, .nil => .nil
  | _, _, .cons h t => .cons (Im.fzm g h) (ImA.fzm g t)
end
theorem TK.stp {sto : Sto} (s : Stp sp fz H fz1 H1) (B : Bs sp fz H sto) {xs : List (List Int × Addr × Value)} {acc : List (List Int × PyData)} (h : TK K fz H xs acc) : TK K fz1 H1 xs acc :=
  Paired.mapP h fun _ _ ⟨a, b, v, c, d⟩ => ⟨a, b.stp s B, v, c, Im.stp s B d⟩
theorem TK.fzm (g : ∀ a, fz a → fz1 a) {xs : List (List Int × Addr × Value)} {acc : List (List Int × PyData)} (h : TK K fz H xs acc) : TK K fz1 H xs acc :=
  Paired.mapP h fun _ _ ⟨a, b, v, c, d⟩ => ⟨a, b, v, c, Im.fzm g d⟩
theorem ImA.length : ∀ {v : List V} {d : List PyData}, ImA K fz H v d → v.length = d.length
  | _, _, .nil => rfl
  | _, _, .cons _ t => by rw [List.length_cons, List.length_cons, ImA.length t]
theorem ImA.at : ∀ {v : List V} {d : List PyData}, ImA K fz H v d → ∀ (i : Nat) (x : PyData), d[i]? = some x → ∃ w, v[i]? = some w ∧ Im K fz H w x
  | _, _, .nil, i, x, h => by simp at h
  | _, _, .cons h t, 0, x, e => by
    simp only [List.getElem?_cons_zero, Option.some.injEq] at e
    subst e
    exact ⟨_, rfl, h⟩
  | _, _, .cons h t, i + 1, x, e => by
    simp only [List.getElem?_cons_succ] at e ⊢
    exact ImA.at t i x e
theorem ImA.get : ∀ {v : List V} {d : List PyData}, ImA K fz H v d → ∀ (i : Nat) (w : V), v[i]? = some w → ∃ x, d[i]? = some x ∧ Im K fz H w x
  | _, _, .nil, i, x, h => by simp at h
  | _, _, .cons h t, 0, x, e => by
    simp only [List.getElem?_cons_zero, Option.some.injEq] at e
    subst e
    exact ⟨_, rfl, h⟩
  | _, _, .cons h t, i + 1, x, e => by
    simp only [List.getElem?_cons_succ] at e ⊢
    exact ImA.get t i x e
theorem ImA.append : ∀ {v : List V} {d : List PyData}, ImA K fz H v d → ∀ {v' : List V} {d' : List PyData}, ImA K fz H v' d' → ImA K fz H (v ++ v') (d ++ d')
  | _, _, .nil, _, _, h => h
  | _, _, .cons h t, _, _, h' => .cons h (t.append h')
theorem ImA.drop : ∀ {v : List V} {d : List PyData} (n : Nat), ImA K fz H v d → ImA K fz H (v.drop n) (d.drop n)
  | _, _, 0, h => by simpa using h
  | _, _, n + 1, .nil => by simpa using ImA.nil
  | _, _, n + 1, .cons h t => by simpa using ImA.drop n t
theorem ImA.take : ∀ {v : List V} {d : List PyData} (n : Nat), ImA K fz H v d → ImA K fz H (v.take n) (d.take n)
  | _, _, 0, h => by simpa using ImA.nil
  | _, _, n + 1, .nil => by simpa using ImA.nil
  | _, _, n + 1, .cons h t => by simpa using ImA.cons h (ImA.take n t)
theorem ImA.set : ∀ {v : List V} {d : List PyData} (i : Nat) {w : V} {x : PyData}, ImA K fz H v d → Im K fz H w x → ImA K fz H (v.set i w) (d.set i x)
  | _, _, i, _, _, .nil, _ => by simpa using ImA.nil
  | _, _, 0, _, _, .cons h t, q => by simpa using ImA.cons q t
  | _, _, i + 1, _, _, .cons h t, q => by simpa using ImA.cons h (ImA.set i t q)
theorem ImA.ints : ∀ (ns : List Int), ImA K fz H (ns.map V.int) (ns.map PyData.int)
  | [] => .nil
  | n :: r => .cons (.int n) (ImA.ints r)
end
/-- the context of a frame: the spring's place, what was frozen and the heap at the entry -/
structure Cn where
  sp : Option Addr
  fz0 : Fz
  H0 : Hp
def CellOk (K : PySem.W.Frag) (C : Cn) (fz : Fz) (H : Hp) (σ : St) (i : Nat) : Cl → Prop
  | .d x => ∃ v, σ[i]? = some (some v) ∧ Im K fz H v x
  | .o xs => ∃ a vs, σ[i]? = some (some (.ref a)) ∧ H a = some (.lst vs) ∧ ImA K fz H vs xs ∧ ¬ fz a ∧ some a ≠ C.sp ∧ C.H0 a = none
  | .s => ∃ a, C.sp = some a ∧ σ[i]? = some (some (.ref a))
  | .m acc => ∃ a kvs, σ[i]? = some (some (.ref a)) ∧ H a = some (.dK kvs) ∧ ImK K fz H kvs acc ∧ ¬ fz a ∧ some a ≠ C.sp ∧ C.H0 a = none
  | .t acc => ∃ a xs, σ[i]? = some (some (.ref a)) ∧ H a = some (DTO a xs) ∧ TK K fz H xs acc ∧ ¬ fz a ∧ some a ≠ C.sp ∧ C.H0 a = none
structure Fm (K : PySem.W.Frag) (C : Cn) (fz : Fz) (ρ : Ev) (sto : Sto) (σ : St) (H : Hp) : Prop where
  len : ρ.length = σ.length
  st : Stp C.sp C.fz0 C.H0 fz H
  bs : Bs C.sp fz H sto
  vars : ∀ (i : Nat) (c : Cl), ρ[i]? = some (some c) → CellOk K C fz H σ i c
  sep : ∀ (i j : Nat) (xs ys : List PyData) (a : Addr), i ≠ j → ρ[i]? = some (some (.o xs)) → ρ[j]? = some (some (.o ys)) → σ[i]? = some (some (.ref a)) → σ[j]? ≠ some (some (.ref a))
section
variable {K : PySem.W.Frag} {C : Cn} {fz fz1 : Fz} {ρ : Ev} {sto sto' : Sto} {σ : St} {H H1 : Hp}
theorem Fm.step (F : Fm K C fz ρ sto σ H) (s : Stp C.sp fz H fz1 H1) (l : SpL C.sp H1 sto') : Fm K C fz1 ρ sto' σ H1 where
  len := F.len
  st := F.st.trans s
  bs := F.bs.step s l
  vars := fun i c h => by
    have q := F.vars i c h
    cases c with
    | d x => obtain ⟨v, e, q⟩ := q; exact ⟨v, e, q.stp s F.bs⟩
    | o xs =>
      obtain ⟨a, vs, e, h1, h2, h3, h4, h5⟩ := q
      refine ⟨a, vs, e, s.ext _ _ h1 h4, h2.stp s F.bs, fun z => ?_, h4, h5⟩
      rcases s.new a z with z | ⟨_, z⟩
      · exact h3 z
      · rw [h1] at z; cases z
    | s => exact q
    | m acc =>
      obtain ⟨a, vs, e, h1, h2, h3, h4, h5⟩ := q
      refine ⟨a, vs, e, s.ext _ _ h1 h4, ⟨h2.1, h2.2.stp s F.bs⟩, fun z => ?_, h4, h5⟩
      rcases s.new a z with z | ⟨_, z⟩
      · exact h3 z
      · rw [h1] at z; cases z
    | t acc =>
      obtain ⟨a, vs, e, h1, h2, h3, h4, h5⟩ := q
      refine ⟨a, vs, e, s.ext _ _ h1 h4, h2.stp s F.bs, fun z => ?_, h4, h5⟩
      rcases s.new a z with z | ⟨_, z⟩
      · exact h3 z
      · rw [h1] at z; cases z
  sep := F.sep
end
/-- what an expression gives, seen from the heap H at its start -/
def ImR (K : PySem.W.Frag) (sp : Option Addr) (H : Hp) (fz' : Fz) (H' : Hp) (v : V) : R → Prop
  | .d x => Im K fz' H' v x
  | .f xs => ∃ a vs, v = .ref a ∧ H' a = some (.lst vs) ∧ ImA K fz' H' vs xs ∧ ¬ fz' a ∧ some a ≠ sp ∧ H a = none
  | .b xs => ∃ a vs, v = .ref a ∧ H' a = some (.lst vs) ∧ ImA K fz' H' vs xs ∧ some a ≠ sp
  | .s => IsS sp v
  | .m acc => ∃ a kvs, v = .ref a ∧ H' a = some (.dK kvs) ∧ ImK K fz' H' kvs acc ∧ ¬ fz' a ∧ some a ≠ sp ∧ H a = none
  | .t acc => ∃ a xs, v = .ref a ∧ H' a = some (DTO a xs) ∧ TK K fz' H' xs acc ∧ ¬ fz' a ∧ some a ≠ sp ∧ H a = none
  | .n acc => ∃ a kvs, v = .ref a ∧ H' a = some (.dK kvs) ∧ ImK K fz' H' kvs acc ∧ some a ≠ sp
  | .u acc => ∃ a xs, v = .ref a ∧ H' a = some (DTO a xs) ∧ TK K fz' H' xs acc ∧ some a ≠ sp
section
variable {K : PySem.W.Frag} {sp : Option Addr} {fz fz1 fz2 : Fz} {H H1 H2 : Hp} {sto : Sto} {v : V} {r : R}
/-- later on -/
theorem ImR.stp (h : ImR K sp H fz1 H1 v r) (s : Stp sp fz1 H1 fz2 H2) (B : Bs sp fz1 H1 sto) : ImR K sp H fz2 H2 v r := by
  cases r with
  | d x => exact Im.stp s B h
  | f xs =>
    obtain ⟨a, vs, e, h1, h2, h3, h4, h5⟩ := h
    refine ⟨a, vs, e, s.ext _ _ h1 h4, h2.stp s B, fun z => ?_, h4, h5⟩
    rcases s.new a z with z | ⟨_, z⟩
    · exact h3 z
    · rw [h1] at z; cases z
  | b xs =>
    obtain ⟨a, vs, e, h1, h2, h4⟩ := h
    exact ⟨a, vs, e, s.ext _ _ h1 h4, h2.stp s B, h4⟩
  | s => exact h
  | m acc =>
    obtain ⟨a, vs, e, h1, h2, h3, h4, h5⟩ := h
    refine ⟨a, vs, e, s.ext _ _ h1 h4, ⟨h2.1, h2.2.stp s B⟩, fun z => ?_, h4, h5⟩
    rcases s.new a z with z | ⟨_, z⟩
    · exact h3 z
    · rw [h1] at z; cases z
  | t acc =>
    obtain ⟨a, vs, e, h1, h2, h3, h4, h5⟩ := h
    refine ⟨a, vs, e, s.ext _ _ h1 h4, h2.stp s B, fun z => ?_, h4, h5⟩
    rcases s.new a z with z | ⟨_, z⟩
    · exact h3 z
    · rw [h1] at z; cases z
  | n acc =>
    obtain ⟨a, vs, e, h1, h2, h4⟩ := h
    exact ⟨a, vs, e, s.ext _ _ h1 h4, ⟨h2.1, h2.2.stp s B⟩, h4⟩
  | u acc =>
    obtain ⟨a, vs, e, h1, h2, h4⟩ := h
    exact ⟨a, vs, e, s.ext _ _ h1 h4, h2.stp s B, h4⟩
/-- seen from an earlier start -/
theorem ImR.early (h : ImR K sp H1 fz2 H2 v r) (s : Stp sp fz H fz1 H1) : ImR K sp H fz2 H2 v r := by
  cases r with
  | d x => exact h
  | f xs =>
    obtain ⟨a, vs, e, h1, h2, h3, h4, h5⟩ := h
    exact ⟨a, vs, e, h1, h2, h3, h4, s.back h4 h5⟩
  | b xs => exact h
  | s => exact h
  | m acc =>
    obtain ⟨a, vs, e, h1, h2, h3, h4, h5⟩ := h
    exact ⟨a, vs, e, h1, h2, h3, h4, s.back h4 h5⟩
  | t acc =>
    obtain ⟨a, vs, e, h1, h2, h3, h4, h5⟩ := h
    exact ⟨a, vs, e, h1, h2, h3, h4, s.back h4 h5⟩
  | n acc => exact h
  | u acc => exact h
end
def rdE (K : PySem.W.Frag) (m : Mx) : TE := fun σ H Q => ∃ (C : Cn) (fz : Fz) (ρ : Ev) (sto : Sto) (r : R) (sto' : Sto), Fm K C fz ρ sto σ H ∧ m ρ sto = some (r, sto') ∧
  ∀ v fz' H', Stp C.sp fz H fz' H' → SpL C.sp H' sto' → ImR K C.sp H fz' H' v r → Q v H'
def rdT (K : PySem.W.Frag) (m : Mt) : TT := fun σ H Q => ∃ (C : Cn) (fz : Fz) (ρ : Ev) (sto : Sto) (r : Bool) (sto' : Sto), Fm K C fz ρ sto σ H ∧ m ρ sto = some (r, sto') ∧
  ∀ fz' H', Stp C.sp fz H fz' H' → SpL C.sp H' sto' → Q r H'
abbrev ImRs (K : PySem.W.Frag) (sp : Option Addr) (H : Hp) (fz' : Fz) (H' : Hp) : List V → List R → Prop := Paired (ImR K sp H fz' H')
def rdA (K : PySem.W.Frag) (m : Ma) : TA := fun σ H Q => ∃ (C : Cn) (fz : Fz) (ρ : Ev) (sto : Sto) (r : List R) (sto' : Sto), Fm K C fz ρ sto σ H ∧ m ρ sto = some (r, sto') ∧
  ∀ vs fz' H', Stp C.sp fz H fz' H' → SpL C.sp H' sto' → ImRs K C.sp H fz' H' vs r → Q vs H'
def SE (X : Cx) (e : Expr) (m : Mx) : Prop := PE X e (rdE X.K m)
def SB (X : Cx) (e : Expr) (m : Mt) : Prop := PT X e (rdT X.K m)
/-- a test among and | or -/
def SW (X : Cx) (e : Expr) (m : Mt) : Prop := PW X e (rdT X.K m)
def SA (X : Cx) (es : List Expr) (m : Ma) : Prop := PA X es (rdA X.K m)
theorem PE.imp {X : Cx} {e : Expr} {t t' : TE} (h : PE X e t) (q : ∀ σ H Q, t' σ H Q → t σ H Q) : PE X e t' := ⟨fun pins s σ H Q I w => h.run pins s σ H Q I (q _ _ _ w)⟩
theorem PT.imp {X : Cx} {e : Expr} {t t' : TT} (h : PT X e t) (q : ∀ σ H Q, t' σ H Q → t σ H Q) : PT X e t' := ⟨fun pins s σ H Q I w => h.run pins s σ H Q I (q _ _ _ w)⟩
theorem PW.imp {X : Cx} {e : Expr} {t t' : TT} (h : PW X e t) (q : ∀ σ H Q, t' σ H Q → t σ H Q) : PW X e t' := ⟨fun wh pins s σ H Q I w => h.run wh pins s σ H Q I (q _ _ _ w)⟩
theorem PA.imp {X : Cx} {e : List Expr} {t t' : TA} (h : PA X e t) (q : ∀ σ H Q, t' σ H Q → t σ H Q) : PA X e t' := ⟨fun p pins s σ H Q I w => h.run p pins s σ H Q I (q _ _ _ w)⟩
theorem PS.imp {X : Cx} {e : Stmt} {t t' : TS} (h : PS X e t) (q : ∀ D σ H, t' D σ H → t D σ H) : PS X e t' := ⟨fun pins s σ H D I w => h.run pins s σ H D I (q _ _ _ w)⟩
theorem PSs.imp {X : Cx} {e : List Stmt} {t t' : TS} (h : PSs X e t) (q : ∀ D σ H, t' D σ H → t D σ H) : PSs X e t' := ⟨fun pins s σ H D I w => h.run pins s σ H D I (q _ _ _ w)⟩
def bnd {α β : Type} (a : Ev → Sto → Option (α × Sto)) (f : α → Ev → Sto → Option (β × Sto)) : Ev → Sto → Option (β × Sto) := fun ρ s =>
  match a ρ s with
  | some (x, s1) => f x ρ s1
  | none => none
theorem bnd_some {α β : Type} {a : Ev → Sto → Option (α × Sto)} {f : α → Ev → Sto → Option (β × Sto)} {ρ : Ev} {s : Sto} {y : β} {s2 : Sto} (h : bnd a f ρ s = some (y, s2)) : ∃ x s1, a ρ s = some (x, s1) ∧ f x ρ s1 = some (y, s2) := by
  unfold bnd at h
  split at h
  · rename_i x s1 e
    exact ⟨x, s1, e, h⟩
  · cases h
def ret {α : Type} (x : Option α) : Sto → Option (α × Sto) := fun s => match x with | some y => some (y, s) | none => none
theorem ret_some {α : Type} {x : Option α} {s : Sto} {y : α} {s2 : Sto} (h : ret x s = some (y, s2)) : x = some y ∧ s2 = s := by
  unfold ret at h
  split at h
  · rename_i z
    cases h
    exact ⟨rfl, rfl⟩
  · cases h
/-- one value, then a rule by values -/
def m1 (f : R → Option R) (a : Mx) : Mx := bnd a fun x _ => ret (f x)
def m2 (f : R → R → Option R) (a b : Mx) : Mx := bnd a fun x => bnd b fun y _ => ret (f x y)
def mA (f : List R → Option R) (a : Ma) : Mx := bnd a fun x _ => ret (f x)
/-- by values: from a heap with the spring, the rule's reading r follows from the function f -/
def Ok1 (K : PySem.W.Frag) (r : V → Hp → VK → Prop) (f : R → Option R) : Prop := ∀ (sp : Option Addr) (fz : Fz) (H H0 : Hp) (sto : Sto) (v : V) (x z : R) (Q : VK), Bs sp fz H sto → ImR K sp H0 fz H v x → f x = some z →
  (∀ u fz' H', Stp sp fz H fz' H' → SpL sp H' sto → ImR K sp H fz' H' u z ∨ (x = z ∧ u = v) → Q u H') → r v H Q
def Ok2 (K : PySem.W.Frag) (r : R2) (f : R → R → Option R) : Prop := ∀ (sp : Option Addr) (fz : Fz) (H H0 : Hp) (sto : Sto) (v w : V) (x y z : R) (Q : VK), Bs sp fz H sto → ImR K sp H0 fz H v x → ImR K sp H0 fz H w y → f x y = some z →
  (∀ u fz' H', Stp sp fz H fz' H' → SpL sp H' sto → ImR K sp H fz' H' u z → Q u H') → r v w H Q
def OkA (K : PySem.W.Frag) (r : List V → Hp → VK → Prop) (f : List R → Option R) : Prop := ∀ (sp : Option Addr) (fz fzS : Fz) (H H0 : Hp) (sto : Sto) (vs : List V) (xs : List R) (z : R) (Q : VK), Stp sp fzS H0 fz H → Bs sp fz H sto → ImRs K sp H0 fz H vs xs → f xs = some z →
  (∀ u fz' H', Stp sp fzS H0 fz' H' → SpL sp H' sto → ImR K sp H0 fz' H' u z → Q u H') → r vs H Q
section
variable {K : PySem.W.Frag} {sp : Option Addr} {fz fz1 fz2 : Fz} {H H1 H2 : Hp} {sto : Sto}
theorem ImRs.stp : ∀ {vs : List V} {rs : List R}, ImRs K sp H fz1 H1 vs rs → Stp sp fz1 H1 fz2 H2 → Bs sp fz1 H1 sto → ImRs K sp H fz2 H2 vs rs
  | _, _, .nil, _, _ => .nil
  | _, _, .cons h t, s, B => .cons (h.stp s B) (ImRs.stp t s B)
theorem ImRs.early : ∀ {vs : List V} {rs : List R}, ImRs K sp H1 fz2 H2 vs rs → Stp sp fz H fz1 H1 → ImRs K sp H fz2 H2 vs rs
  | _, _, .nil, _ => .nil
  | _, _, .cons h t, s => .cons (h.early s) (ImRs.early t s)
end
section
variable {X : Cx} {a b : Expr} {ma mb : Mx}
/-- two expressions, then a rule -/
theorem rd_two {K : PySem.W.Frag} {r : R2} {f : R → R → Option R} (hf : Ok2 K r f) {σ : St} {H : Hp} {Q : VK} (h : rdE K (m2 f ma mb) σ H Q) : tOp r (rdE K ma) (rdE K mb) σ H Q := by
  obtain ⟨C, fz, ρ, sto, z, sto', F, e, k⟩ := h
  obtain ⟨x, s1, ea, e⟩ := bnd_some e
  obtain ⟨y, s2, eb, e⟩ := bnd_some e
  obtain ⟨ef, rfl⟩ := ret_some e
  refine ⟨C, fz, ρ, sto, x, s1, F, ea, fun v fz1 H1 st1 l1 i1 => ?_⟩
  refine ⟨C, fz1, ρ, s1, y, sto', F.step st1 l1, eb, fun w fz2 H2 st2 l2 i2 => ?_⟩
  have B1 := F.bs.step st1 l1
  refine hf C.sp fz2 H2 H sto' v w x y z Q (B1.step st2 l2) (i1.stp st2 B1) (i2.early st1) ef fun u fz3 H3 st3 l3 i3 => ?_
  exact k u fz3 H3 ((st1.trans st2).trans st3) l3 (i3.early (st1.trans st2))
theorem rd_one {K : PySem.W.Frag} {r : V → Hp → VK → Prop} {f : R → Option R} (hf : Ok1 K r f) {σ : St} {H : Hp} {Q : VK} (h : rdE K (m1 f ma) σ H Q) : tUn r (rdE K ma) σ H Q := by
  obtain ⟨C, fz, ρ, sto, z, sto', F, e, k⟩ := h
  obtain ⟨x, s1, ea, e⟩ := bnd_some e
  obtain ⟨ef, rfl⟩ := ret_some e
  refine ⟨C, fz, ρ, sto, x, sto', F, ea, fun v fz1 H1 st1 l1 i1 => ?_⟩
  refine hf C.sp fz1 H1 H sto' v x z Q (F.bs.step st1 l1) i1 ef fun u fz3 H3 st3 l3 i3 => ?_
  refine k u fz3 H3 (st1.trans st3) l3 ?_
  rcases i3 with i3 | ⟨rfl, rfl⟩
  · exact i3.early st1
  · exact i1.stp st3 (F.bs.step st1 l1)
theorem rd_args {K : PySem.W.Frag} {r : List V → Hp → VK → Prop} {f : List R → Option R} {m : Ma} (hf : OkA K r f) {σ : St} {H : Hp} {Q : VK} (h : rdE K (mA f m) σ H Q) : tCB r (rdA K m) σ H Q := by
  obtain ⟨C, fz, ρ, sto, z, sto', F, e, k⟩ := h
  obtain ⟨x, s1, ea, e⟩ := bnd_some e
  obtain ⟨ef, rfl⟩ := ret_some e
  refine ⟨C, fz, ρ, sto, x, sto', F, ea, fun v fz1 H1 st1 l1 i1 => ?_⟩
  exact hf C.sp fz1 fz H1 H sto' v x z Q st1 (F.bs.step st1 l1) i1 ef fun u fz3 H3 st3 l3 i3 => k u fz3 H3 st3 l3 i3
end
def maNil : Ma := fun _ s => some ([], s)
def maCons (a : Mx) (r : Ma) : Ma := bnd a fun x => bnd r fun xs _ s => some (x :: xs, s)
section
variable {X : Cx} {e : Expr} {es : List Expr} {me : Mx} {mr : Ma}
theorem sa_nil : SA X [] maNil := PA.imp pa_nil fun σ H Q h => by
  obtain ⟨C, fz, ρ, sto, r, sto', F, e, k⟩ := h
  cases e
  exact k [] fz H .refl F.bs.spl .nil
theorem sa_cons (he : SE X e me) (hr : SA X es mr) (hs : starEach (e :: es) X.env = (false, eval e X.env) :: starEach es X.env := by rfl) : SA X (e :: es) (maCons me mr) := PA.imp (pa_cons he hr hs) fun σ H Q h => by
  obtain ⟨C, fz, ρ, sto, r, sto', F, e, k⟩ := h
  obtain ⟨x, s1, ea, e⟩ := bnd_some e
  obtain ⟨xs, s2, eb, e⟩ := bnd_some e
  cases e
  refine ⟨C, fz, ρ, sto, x, s1, F, ea, fun v fz1 H1 st1 l1 i1 => ?_⟩
  refine ⟨C, fz1, ρ, s1, xs, sto', F.step st1 l1, eb, fun vs fz2 H2 st2 l2 i2 => ?_⟩
  exact k (v :: vs) fz2 H2 (st1.trans st2) l2 (.cons (i1.stp st2 (F.bs.step st1 l1)) (i2.early st1))
end
def rdCl : Cl → R
  | .d x => .d x
  | .o xs => .b xs
  | .s => .s
  | .m acc => .n acc
  | .t acc => .u acc
def mVar (i : Nat) : Mx := fun ρ s => match ρ[i]? with
  | some (some c) => some (rdCl c, s)
  | _ => none
def mKon (x : PyData) : Mx := fun _ s => some (.d x, s)
section
variable {X : Cx}
theorem se_var {i : Nat} {x : Str} {pos : Pos} (hN : X.N[i]? = some x := by rfl) (hv : Vis X.env.scope x := by first | exact Or.inl rfl | exact Or.inr (Or.inl rfl) | exact Or.inr (Or.inr rfl)) (hd : (x == ("__debug__" : Str)) = false := by decide)
    (hcd : (x == ("__classdict__" : Str)) = false := by decide) : SE X (.Name x pos) (mVar i) := PE.imp (pe_var hN hv hd hcd) fun σ H Q h => by
  obtain ⟨C, fz, ρ, sto, r, sto', F, e, k⟩ := h
  unfold mVar at e
  split at e
  · rename_i c hc
    cases e
    have q := F.vars i c hc
    cases c with
    | d x => obtain ⟨v, e, q⟩ := q; exact ⟨v, e, k v fz H .refl F.bs.spl q⟩
    | o xs =>
      obtain ⟨a, vs, e, h1, h2, h3, h4, h5⟩ := q
      exact ⟨_, e, k _ fz H .refl F.bs.spl ⟨a, vs, rfl, h1, h2, h4⟩⟩
    | s => obtain ⟨a, ea, q⟩ := q; exact ⟨_, q, k _ fz H .refl F.bs.spl ⟨a, ea, rfl⟩⟩
    | m acc =>
      obtain ⟨a, vs, e, h1, h2, h3, h4, h5⟩ := q
      exact ⟨_, e, k _ fz H .refl F.bs.spl ⟨a, vs, rfl, h1, h2, h4⟩⟩
    | t acc =>
      obtain ⟨a, vs, e, h1, h2, h3, h4, h5⟩ := q
      exact ⟨_, e, k _ fz H .refl F.bs.spl ⟨a, vs, rfl, h1, h2, h4⟩⟩
  · cases e
theorem rd_kon {K : PySem.W.Frag} {v : V} {x : PyData} (hv : ∀ fz H, Im K fz H v x) {σ : St} {H : Hp} {Q : VK} (h : rdE K (mKon x) σ H Q) : tC v σ H Q := by
  obtain ⟨C, fz, ρ, sto, r, sto', F, e, k⟩ := h
  cases e
  exact k v fz H .refl F.bs.spl (hv _ _)
theorem se_int {i : Int} {j pos} : SE X (.Constant (.int i) j pos) (mKon (.int i)) := PE.imp pe_int fun _ _ _ h => rd_kon (fun _ _ => .int i) h
theorem se_bl {i : Bool} {j pos} : SE X (.Constant (.bool i) j pos) (mKon (.bool i)) := PE.imp pe_bl fun _ _ _ h => rd_kon (fun _ _ => .bl i) h
theorem se_non {j pos} : SE X (.Constant .none j pos) (mKon .none) := PE.imp pe_non fun _ _ _ h => rd_kon (fun _ _ => .non) h
theorem se_str {i : Str} {j pos} : SE X (.Constant (.str i) j pos) (mKon (.str i)) := PE.imp pe_str fun _ _ _ h => rd_kon (fun _ _ => .str i) h
/-- a constant of the text -/
structure GlK (K : PySem.W.Frag) (mg : Str → Option Value) (x : Str) (d : PyData) : Prop where
  ex : ∃ v u, mg x = some u ∧ RelV v u ∧ ∀ fz H, Im K fz H v d
theorem se_glob {x : Str} {d : PyData} {pos : Pos} (hk : GlK X.K X.mg x d) (hg : Gl X x) (hd : (x == ("__debug__" : Str)) = false := by decide) : SE X (.Name x pos) (mKon d) := by
  obtain ⟨v, u, hm, r, q⟩ := hk.ex
  exact PE.imp (pe_glob hg hm r hd) fun _ _ _ h => rd_kon q h
end
end Dh
namespace Dh
open PySem PySem.Spec L2 PyProof.Rows
theorem tuple_mul1 (l : Addr) (items : Array Value) (n : Nat) (dd : Option Addr) (sl : Array (Option Value)) (u : Tok) :
    Meets (Builtin.«tuple.__mul__» ⟨[.ref l, .int 1 u], []⟩) (fun _ R s => s.heap.get? l = some { cls := .type "tuple", dict := dd, data := .seq items n, slots := sl } ∧ R (.ok (.ret (Value.ref l))) s) :=
  .of_wp fun prog w A R s h => by
    obtain ⟨hp, g, d, tk, os⟩ := s
    obtain ⟨hl, h⟩ := h
    have f1 := AutoSeq1.idx_int
    wp_walk using wpAny_loadPart' hl
    exact ⟨_, rfl, h⟩
def rRepT1 (K : PySem.W.Frag) : R2 := fun x y H Q => ∃ l xs, x = .ref l ∧ y = .int 1 ∧ SqT K H l xs ∧ Q (.ref l) H
section
variable {X : Cx}
theorem op_repT1 : OpR X (binaryOp .Mult) (rRepT1 X.K) := by
  intro pins s σ H x y v u Q I rx ry h
  obtain ⟨l, xs, rfl, rfl, hT, q⟩ := h
  cases rx
  obtain ⟨t, rfl⟩ := ry
  obtain ⟨its, r, ⟨⟨cls, dd, data, sl⟩, ho, hc, n, hd⟩, hs⟩ := I.tuple hT
  simp only at hc hd
  subst hc hd
  refine wpAny_binaryOp_repeat_ref (T := "tuple") (U := "int") (by decide) ⟨_, ho, rfl⟩ (fun s' => typeIs_int s' 1 t) noFill_tuple_mul F.fills_int_mul F.slot_int_rmul repeat_tuple F.slot_int_index.lookup
    (call_meets F.slot_int_rmul (typeIs_int s 1 t) F.entry_int_rmul (F.args_int_rmul_2 _ _) (int_rmul_tuple 1 t l its.toArray n dd sl)
      ⟨ho, rfl, ⟨_, ho, rfl⟩, call_meets F.slot_tuple_mul ⟨_, ho, rfl⟩ F.entry_tuple_mul (F.args_tuple_mul_2 _ _) (tuple_mul1 l its.toArray n dd sl t) ⟨ho, ?_⟩⟩)
  exact ⟨.ref l, H, I, rfl, q⟩
end
end Dh
namespace Dh
open PySem PySem.Spec L2
theorem OpR.or {X : Cx} {f : Value → Value → Sem Value} {r r' : R2} (h : OpR X f r) (h' : OpR X f r') : OpR X f (fun x y H Q => r x y H Q ∨ r' x y H Q) := fun pins s σ H x y v u Q I rx ry q => by
  rcases q with q | q
  · exact h pins s σ H x y v u Q I rx ry q
  · exact h' pins s σ H x y v u Q I rx ry q
theorem CallR.or {X : Cx} {f : Value} {r r' : List V → Hp → VK → Prop} (h : CallR X f r) (h' : CallR X f r') : CallR X f (fun x H Q => r x H Q ∨ r' x H Q) := fun pins s σ H x v Q I rx q => by
  rcases q with q | q
  · exact h pins s σ H x v Q I rx q
  · exact h' pins s σ H x v Q I rx q
section
variable {X : Cx} {a b : Expr} {ma mb : Mx} {pos : Pos}
theorem se_op {op : Operator} {r : R2} {f : R → R → Option R} (ho : OpR X (binaryOp op) r) (hf : Ok2 X.K r f) (ha : SE X a ma) (hb : SE X b mb) : SE X (.BinOp a op b pos) (m2 f ma mb) := PE.imp (pe_op ho ha hb) fun _ _ _ h => rd_two hf h
theorem se_un {op : UnaryOp} {r : V → Hp → VK → Prop} {f : R → Option R} (ho : UnR X (unaryOp op) r) (hf : Ok1 X.K r f) (ha : SE X a ma) : SE X (.UnaryOp op a pos) (m1 f ma) := PE.imp (pe_un ho ha) fun _ _ _ h => rd_one hf h
theorem se_cmp {op : CmpOp} {r : R2} {f : R → R → Option R} (ho : OpR X (compareOp op) r) (hf : Ok2 X.K r f) (ha : SE X a ma) (hb : SE X b mb) (hm : behindInMarks op b = false) : SE X (.Compare a [op] [b] pos) (m2 f ma mb) := PE.imp (pe_cmpR ho ha hb hm) fun _ _ _ h => rd_two hf h
/-- the truth of a bool -/
def bT (a : Mx) : Mt := bnd a fun x _ s => match x with | .d (.bool k) => some (k, s) | _ => none
theorem rd_bT {K : PySem.W.Frag} {m : Mx} {σ : L2.St} {H : Hp} {Q : Bool → Hp → Prop} (h : rdT K (bT m) σ H Q) : rdE K m σ H fun x H1 => ∃ c, x = .bl c ∧ Q c H1 := by
  obtain ⟨C, fz, ρ, sto, z, sto', F, e, k⟩ := h
  obtain ⟨x, s1, ea, e⟩ := bnd_some e
  split at e
  · rename_i k'
    cases e
    exact ⟨C, fz, ρ, sto, _, _, F, ea, fun v fz1 H1 st1 l1 i1 => by cases i1; exact ⟨_, rfl, k fz1 H1 st1 l1⟩⟩
  · cases e
theorem sb_val (h : SE X a ma) (he : ∀ whole, isTrue a X.env whole = (do let v ← whole; standAt a.pos; holding [v] (truthy v)) := by intro _; rfl) : SB X a (bT ma) := PT.imp (pt_val h he) fun _ _ _ q => rd_bT q
theorem sb_cmp {op : CmpOp} {r : R2} {f : R → R → Option R} (ho : OpR X (compareOp op) r) (hf : Ok2 X.K r f) (ha : SE X a ma) (hb : SE X b mb) (hm : behindInMarks op b = false) : SB X (.Compare a [op] [b] pos) (bT (m2 f ma mb)) :=
  PT.imp (pt_cmpR ho ha hb hm) fun σ H Q q => rd_two (Q := fun x H' => ∃ k, x = .bl k ∧ Q k H') hf (rd_bT q)
end
def fI (g : Int → Int → Option PyData) : R → R → Option R
  | .d (.int i), .d (.int j) => (g i j).map .d
  | _, _ => none
theorem fI_some {g : Int → Int → Option PyData} {x y z : R} (h : fI g x y = some z) : ∃ i j d, x = .d (.int i) ∧ y = .d (.int j) ∧ g i j = some d ∧ z = .d d := by
  unfold fI at h
  split at h
  · rename_i i j
    cases q : g i j with
    | none => rw [q] at h; cases h
    | some d => rw [q] at h; cases h; exact ⟨i, j, d, rfl, rfl, q, rfl⟩
  · cases h
theorem ok_I {K : PySem.W.Frag} {C : Int → Int → Prop} {gv : Int → Int → V} {g : Int → Int → Option PyData} (hg : ∀ i j d, g i j = some d → C i j ∧ ∀ fz H, Im K fz H (gv i j) d) : Ok2 K (rI C gv) (fI g) := by
  intro sp fz H H0 sto v w x y z Q B ix iy e k
  obtain ⟨i, j, d, rfl, rfl, q, rfl⟩ := fI_some e
  cases ix
  cases iy
  obtain ⟨c, im⟩ := hg i j d q
  exact ⟨i, j, rfl, rfl, c, k _ fz H .refl B.spl (im _ _)⟩
theorem ok_I0 {K : PySem.W.Frag} {gv : Int → Int → V} {g : Int → Int → Option PyData} (hg : ∀ i j d, g i j = some d → ∀ fz H, Im K fz H (gv i j) d) : Ok2 K (rI0 gv) (fI g) := by
  intro sp fz H H0 sto v w x y z Q B ix iy e k
  obtain ⟨i, j, d, rfl, rfl, q, rfl⟩ := fI_some e
  cases ix
  cases iy
  exact ⟨i, j, rfl, rfl, k _ fz H .refl B.spl (hg i j d q _ _)⟩
def gMns (i j : Int) : Option PyData := some (.int (i - j))
def gLt (i j : Int) : Option PyData := some (.bool (decide (i < j)))
def gLe (i j : Int) : Option PyData := some (.bool (decide (i ≤ j)))
def gGt (i j : Int) : Option PyData := some (.bool (decide (j < i)))
def gGe (i j : Int) : Option PyData := some (.bool (decide (j ≤ i)))
def gFdiv (i j : Int) : Option PyData := if j ≠ 0 ∧ Builtin.divisionGoesByPylong i j = false then some (.int (i.fdiv j)) else none
def gMod (i j : Int) : Option PyData := if j ≠ 0 then some (.int (i.fmod j)) else none
def gPow (i j : Int) : Option PyData := if 0 ≤ j ∧ j ≤ 1000000 ∧ i.natAbs < 2 ^ 64 then some (.int (i ^ j.toNat)) else none
/-- two factors of together at most 2^27 bits -/
def mulOk (i j : Int) : Bool := Nat.ble (Builtin.Int.intBits i + Builtin.Int.intBits j) 134217728
def CFdivP (i j : Int) : Prop := j ≠ 0 ∧ Builtin.divisionGoesByPylong i j = false
section
variable {X : Cx} {a b : Expr} {ma mb : Mx} {pos : Pos}
theorem op_fdivP : OpR X (binaryOp .FloorDiv) (rI CFdivP fun i j => .int (i.fdiv j)) := opI fun _ _ _ _ _ _ _ hc q => PyProof.Rows.floordiv_int hc.1 q (.inl hc.2)
theorem se_sub (ha : SE X a ma) (hb : SE X b mb) : SE X (.BinOp a .Sub b pos) (m2 (fI gMns) ma mb) := se_op op_sub (ok_I0 fun i j d e _ _ => by cases e; exact .int _) ha hb
theorem se_fdiv (ha : SE X a ma) (hb : SE X b mb) : SE X (.BinOp a .FloorDiv b pos) (m2 (fI gFdiv) ma mb) := se_op op_fdivP (ok_I fun i j d e => by
  unfold gFdiv at e
  split at e
  · rename_i c; cases e; exact ⟨c, fun _ _ => .int _⟩
  · cases e) ha hb
theorem se_mod (ha : SE X a ma) (hb : SE X b mb) : SE X (.BinOp a .Mod b pos) (m2 (fI gMod) ma mb) := se_op op_modN (ok_I fun i j d e => by
  unfold gMod at e
  split at e
  · rename_i c; cases e; exact ⟨c, fun _ _ => .int _⟩
  · cases e) ha hb
theorem se_pow (ha : SE X a ma) (hb : SE X b mb) : SE X (.BinOp a .Pow b pos) (m2 (fI gPow) ma mb) := se_op op_pow (ok_I fun i j d e => by
  unfold gPow at e
  split at e
  · rename_i c; cases e; exact ⟨c, fun _ _ => .int _⟩
  · cases e) ha hb
theorem ok_lt {K : PySem.W.Frag} : Ok2 K (rI0 fun i j => .bl (decide (i < j))) (fI gLt) := ok_I0 fun i j d e _ _ => by cases e; exact .bl _
theorem ok_le {K : PySem.W.Frag} : Ok2 K (rI0 fun i j => .bl (decide (i ≤ j))) (fI gLe) := ok_I0 fun i j d e _ _ => by cases e; exact .bl _
theorem ok_gt {K : PySem.W.Frag} : Ok2 K (rI0 fun i j => .bl (decide (j < i))) (fI gGt) := ok_I0 fun i j d e _ _ => by cases e; exact .bl _
theorem ok_ge {K : PySem.W.Frag} : Ok2 K (rI0 fun i j => .bl (decide (j ≤ i))) (fI gGe) := ok_I0 fun i j d e _ _ => by cases e; exact .bl _
theorem se_lt (ha : SE X a ma) (hb : SE X b mb) : SE X (.Compare a [.Lt] [b] pos) (m2 (fI gLt) ma mb) := se_cmp op_lt ok_lt ha hb (nomark _)
theorem se_gt (ha : SE X a ma) (hb : SE X b mb) : SE X (.Compare a [.Gt] [b] pos) (m2 (fI gGt) ma mb) := se_cmp op_gt ok_gt ha hb (nomark _)
theorem se_ge (ha : SE X a ma) (hb : SE X b mb) : SE X (.Compare a [.GtE] [b] pos) (m2 (fI gGe) ma mb) := se_cmp op_ge ok_ge ha hb (nomark _)
theorem sb_lt (ha : SE X a ma) (hb : SE X b mb) : SB X (.Compare a [.Lt] [b] pos) (bT (m2 (fI gLt) ma mb)) := sb_cmp op_lt ok_lt ha hb (nomark _)
theorem sb_gt (ha : SE X a ma) (hb : SE X b mb) : SB X (.Compare a [.Gt] [b] pos) (bT (m2 (fI gGt) ma mb)) := sb_cmp op_gt ok_gt ha hb (nomark _)
theorem sb_ge (ha : SE X a ma) (hb : SE X b mb) : SB X (.Compare a [.GtE] [b] pos) (bT (m2 (fI gGe) ma mb)) := sb_cmp op_ge ok_ge ha hb (nomark _)
def fNeg : R → Option R
  | .d (.int i) => some (.d (.int (-i)))
  | _ => none
theorem se_neg (ha : SE X a ma) : SE X (.UnaryOp .USub a pos) (m1 fNeg ma) := se_un un_neg (by
  intro sp fz H H0 sto v x z Q B ix e k
  unfold fNeg at e
  split at e
  · cases e
    cases ix
    exact ⟨_, rfl, k _ fz H .refl B.spl (.inl (.int _))⟩
  · cases e) ha
end
/-- a list that is looked at -/
def rdL : R → Option (List PyData)
  | .d (.list xs) => some xs
  | .f xs => some xs
  | .b xs => some xs
  | _ => none
/-- where it stands -/
theorem ImR.list {K : PySem.W.Frag} {sp : Option Addr} {fz : Fz} {H H0 : Hp} {v : V} {x : R} {xs : List PyData} (i : ImR K sp H0 fz H v x) (e : rdL x = some xs) : ∃ a vs, v = .ref a ∧ SqL K H a vs ∧ ImA K fz H vs xs := by
  unfold rdL at e
  split at e
  · cases e
    cases i with
    | lst h a => exact ⟨_, _, rfl, h.sq, a⟩
  · cases e
    obtain ⟨a, vs, e, h1, h2, _⟩ := i
    exact ⟨a, vs, e, .inl (.inl h1), h2⟩
  · cases e
    obtain ⟨a, vs, e, h1, h2, _⟩ := i
    exact ⟨a, vs, e, .inl (.inl h1), h2⟩
  · cases e
def rdQ : R → Option (List PyData)
  | .d (.tuple xs) => some xs
  | r => rdL r
theorem ImR.seq {K : PySem.W.Frag} {sp : Option Addr} {fz : Fz} {H H0 : Hp} {v : V} {x : R} {xs : List PyData} (i : ImR K sp H0 fz H v x) (e : rdQ x = some xs) : ∃ a vs, v = .ref a ∧ (SqL K H a vs ∨ SqT K H a vs) ∧ ImA K fz H vs xs := by
  unfold rdQ at e
  split at e
  · cases e
    cases i with
    | tup h a => exact ⟨_, _, rfl, .inr h.sq, a⟩
  · obtain ⟨a, vs, e1, h1, h2⟩ := i.list e
    exact ⟨a, vs, e1, .inl h1, h2⟩
theorem ImR.tup {K : PySem.W.Frag} {sp : Option Addr} {fz : Fz} {H H0 : Hp} {v : V} {xs : List PyData} (i : ImR K sp H0 fz H v (.d (.tuple xs))) : ∃ a vs, v = .ref a ∧ SqT K H a vs ∧ ImA K fz H vs xs := by
  cases i with
  | tup h a => exact ⟨_, _, rfl, h.sq, a⟩
theorem ImR.tupF {K : PySem.W.Frag} {sp : Option Addr} {fz : Fz} {H H0 : Hp} {v : V} {xs : List PyData} (i : ImR K sp H0 fz H v (.d (.tuple xs))) : ∃ a vs, v = .ref a ∧ FzT K H a vs ∧ ImA K fz H vs xs := by
  cases i with
  | tup h a => exact ⟨_, _, rfl, h, a⟩
/-- a new tuple of data -/
theorem new_tup {K : PySem.W.Frag} {sp : Option Addr} {fz : Fz} {H : Hp} {sto : Sto} {p : Addr} {vs : List V} {xs : List PyData} {o : Obj} (B : Bs sp fz H sto) (a : ImA K fz H vs xs) (hp : H p = none) (hd : o.dict = none) :
    Stp sp fz H fz (upd H p (.frz o (.tup vs))) ∧ SpL sp (upd H p (.frz o (.tup vs))) sto ∧ Im K fz (upd H p (.frz o (.tup vs))) (.ref p) (.tuple xs) := by
  have s : Stp sp fz H fz (upd H p (.frz o (.tup vs))) := .laid hp
  have e : some p ≠ sp := B.spl.ne hp (by intro z; cases z)
  exact ⟨s, B.spl.upd e, .tup (.inl ⟨o, upd_same, hd⟩) (a.stp s B)⟩
/-- a new list of data -/
theorem new_lst {K : PySem.W.Frag} {sp : Option Addr} {fz : Fz} {H : Hp} {sto : Sto} {p : Addr} {vs : List V} {xs : List PyData} (B : Bs sp fz H sto) (a : ImA K fz H vs xs) (hp : H p = none) :
    Stp sp fz H fz (upd H p (.lst vs)) ∧ SpL sp (upd H p (.lst vs)) sto ∧ ImR K sp H fz (upd H p (.lst vs)) (.ref p) (.f xs) := by
  have s : Stp sp fz H fz (upd H p (.lst vs)) := .laid hp
  have e : some p ≠ sp := B.spl.ne hp (by intro z; cases z)
  exact ⟨s, B.spl.upd e, ⟨p, vs, rfl, upd_same, a.stp s B, fun q => B.trk p q hp, e, hp⟩⟩
def fAdd : R → R → Option R
  | .d (.int i), .d (.int j) => some (.d (.int (i + j)))
  | .d (.str x), .d (.str y) => if x.length + y.length ≤ sizeLine then some (.d (.str (x ++ y))) else none
  | .d (.tuple xs), .d (.tuple ys) => if xs.length + ys.length ≤ sizeLine then some (.d (.tuple (xs ++ ys))) else none
  | .f xs, .f ys => if xs.length + ys.length ≤ sizeLine then some (.f (xs ++ ys)) else none
  | .f xs, .b ys => if xs.length + ys.length ≤ sizeLine then some (.f (xs ++ ys)) else none
  | .b xs, .f ys => if xs.length + ys.length ≤ sizeLine then some (.f (xs ++ ys)) else none
  | .b xs, .b ys => if xs.length + ys.length ≤ sizeLine then some (.f (xs ++ ys)) else none
  | _, _ => none
def rAdd (K : PySem.W.Frag) : R2 := fun x y H Q => rI0 (fun i j => .int (i + j)) x y H Q ∨ (∃ i j, x = .str i ∧ y = .str j ∧ i.length + j.length ≤ sizeLine ∧ Q (.str (i ++ j)) H) ∨ rCatS K x y H Q ∨ rCat x y H Q
/-- a tracked list (own, or just made) -/
def trL : R → Option (List PyData)
  | .f xs => some xs
  | .b xs => some xs
  | _ => none
theorem ImR.trk {K : PySem.W.Frag} {sp : Option Addr} {fz : Fz} {H H0 : Hp} {v : V} {x : R} {xs : List PyData} (i : ImR K sp H0 fz H v x) (e : trL x = some xs) : ∃ a vs, v = .ref a ∧ H a = some (.lst vs) ∧ ImA K fz H vs xs := by
  unfold trL at e
  split at e
  · cases e
    obtain ⟨a, vs, e, h1, h2, _⟩ := i
    exact ⟨a, vs, e, h1, h2⟩
  · cases e
    obtain ⟨a, vs, e, h1, h2, _⟩ := i
    exact ⟨a, vs, e, h1, h2⟩
  · cases e
theorem ok_cat {K : PySem.W.Frag} {sp : Option Addr} {fz : Fz} {H H0 : Hp} {sto : Sto} {v w : V} {x y : R} {xs ys : List PyData} {Q : VK} (B : Bs sp fz H sto) (ix : ImR K sp H0 fz H v x) (iy : ImR K sp H0 fz H w y) (ex : trL x = some xs) (ey : trL y = some ys) (hz : xs.length + ys.length ≤ sizeLine)
    (k : ∀ u fz' H', Stp sp fz H fz' H' → SpL sp H' sto → ImR K sp H fz' H' u (.f (xs ++ ys)) → Q u H') : rCat v w H Q := by
  obtain ⟨a, vs, rfl, h1, h2⟩ := ix.trk ex
  obtain ⟨b, ws, rfl, h3, h4⟩ := iy.trk ey
  refine ⟨a, b, vs, ws, rfl, rfl, h1, h3, by rw [h2.length, h4.length]; exact hz, fun p hp => ?_⟩
  obtain ⟨s, l, i⟩ := new_lst B (h2.append h4) hp
  exact k _ fz _ s l i
theorem ok_add {K : PySem.W.Frag} : Ok2 K (rAdd K) fAdd := by
  intro sp fz H H0 sto v w x y z Q B ix iy e k
  unfold fAdd at e
  split at e
  · cases e; cases ix; cases iy
    exact .inl ⟨_, _, rfl, rfl, k _ fz H .refl B.spl (.int _)⟩
  · split at e
    · rename_i hz
      cases e; cases ix; cases iy
      exact .inr (.inl ⟨_, _, rfl, rfl, hz, k _ fz H .refl B.spl (.str _)⟩)
    · cases e
  · split at e
    · rename_i xs ys hz
      cases e
      obtain ⟨a, vs, rfl, h1, h2⟩ := ix.tupF
      obtain ⟨b, ws, rfl, h3, h4⟩ := iy.tupF
      refine .inr (.inr (.inl ⟨a, b, vs, ws, rfl, rfl, h1.sq, h3.sq, by rw [h2.length, h4.length]; exact hz, fun q => ?_, fun _ q => ?_, fun _ _ p o hp ho => ?_⟩))
      · subst q
        have q2 : xs = [] := List.length_eq_zero_iff.mp h2.length.symm
        subst q2
        exact k _ fz H .refl B.spl (show Im K fz H _ _ from .tup h3 h4)
      · subst q
        have q2 : ys = [] := List.length_eq_zero_iff.mp h4.length.symm
        subst q2
        exact k _ fz H .refl B.spl (show Im K fz H _ _ from .tup h1 (by rw [List.append_nil]; exact h2))
      · obtain ⟨s, l, i⟩ := new_tup B (h2.append h4) hp ho
        exact k _ fz _ s l i
    · cases e
  · split at e
    · rename_i hz; cases e
      exact .inr (.inr (.inr (ok_cat B ix iy rfl rfl hz k)))
    · cases e
  · split at e
    · rename_i hz; cases e
      exact .inr (.inr (.inr (ok_cat B ix iy rfl rfl hz k)))
    · cases e
  · split at e
    · rename_i hz; cases e
      exact .inr (.inr (.inr (ok_cat B ix iy rfl rfl hz k)))
    · cases e
  · split at e
    · rename_i hz; cases e
      exact .inr (.inr (.inr (ok_cat B ix iy rfl rfl hz k)))
    · cases e
  · cases e
section
variable {X : Cx} {a b : Expr} {ma mb : Mx} {pos : Pos}
theorem se_add (ha : SE X a ma) (hb : SE X b mb) : SE X (.BinOp a .Add b pos) (m2 fAdd ma mb) := se_op (op_add.or (op_add_str.or (op_catS.or op_cat))) ok_add ha hb
end
def fMul : R → R → Option R
  | .d (.int i), .d (.int j) => if mulOk i j = true then some (.d (.int (i * j))) else none
  | .d (.tuple xs), .d (.int k) => if k = 1 then some (.d (.tuple xs)) else if xs ≠ [] ∧ 2 ≤ k ∧ k ≤ 1000 ∧ xs.length ≤ 1000 then some (.d (.tuple (List.replicate k.toNat xs).flatten)) else none
  | .f xs, .d (.int k) => if 0 ≤ k ∧ k < 2 ^ 63 ∧ xs.length * k.toNat ≤ sizeLine then some (.f (List.replicate k.toNat xs).flatten) else none
  | .b xs, .d (.int k) => if 0 ≤ k ∧ k < 2 ^ 63 ∧ xs.length * k.toNat ≤ sizeLine then some (.f (List.replicate k.toNat xs).flatten) else none
  | _, _ => none
theorem ImA.rep {K : PySem.W.Frag} {fz : Fz} {H : Hp} {vs : List V} {xs : List PyData} (h : ImA K fz H vs xs) : ∀ n : Nat, ImA K fz H (List.replicate n vs).flatten (List.replicate n xs).flatten
  | 0 => by simpa using ImA.nil
  | n + 1 => by
    rw [List.replicate_succ, List.replicate_succ, List.flatten_cons, List.flatten_cons]
    exact h.append (h.rep n)
theorem ok_rep {K : PySem.W.Frag} {sp : Option Addr} {fz : Fz} {H H0 : Hp} {sto : Sto} {v : V} {x : R} {xs : List PyData} {j : Int} {Q : VK} (B : Bs sp fz H sto) (ix : ImR K sp H0 fz H v x) (ex : trL x = some xs) (hz : 0 ≤ j ∧ j < 2 ^ 63 ∧ xs.length * j.toNat ≤ sizeLine)
    (k : ∀ u fz' H', Stp sp fz H fz' H' → SpL sp H' sto → ImR K sp H fz' H' u (.f (List.replicate j.toNat xs).flatten) → Q u H') : rRep v (.int j) H Q := by
  obtain ⟨a, vs, rfl, h1, h2⟩ := ix.trk ex
  refine ⟨a, j, vs, rfl, rfl, h1, by omega, hz.2.1, by rw [h2.length]; exact hz.2.2, fun p hp => ?_⟩
  obtain ⟨s, l, i⟩ := new_lst B (h2.rep j.toNat) hp
  exact k _ fz _ s l i
theorem ok_mul {K : PySem.W.Frag} : Ok2 K (fun x y H Q => rI CMulX (fun i j => .int (i * j)) x y H Q ∨ rRepS K x y H Q ∨ rRepT1 K x y H Q ∨ rRep x y H Q) fMul := by
  intro sp fz H H0 sto v w x y z Q B ix iy e k
  unfold fMul at e
  split at e
  · split at e
    · rename_i hz; cases e; cases ix; cases iy
      exact .inl ⟨_, _, rfl, rfl, (by unfold CMulX; have := Nat.le_of_ble_eq_true hz; omega), k _ fz H .refl B.spl (.int _)⟩
    · cases e
  · split at e
    · rename_i xs j hk
      subst hk
      cases e; cases iy
      obtain ⟨a, vs, rfl, h1, h2⟩ := ix.tupF
      exact .inr (.inr (.inl ⟨a, vs, rfl, rfl, h1.sq, k _ fz H .refl B.spl (show Im K fz H _ _ from .tup h1 h2)⟩))
    · split at e
      · rename_i xs j _ hz
        cases e; cases iy
        obtain ⟨a, vs, rfl, h1, h2⟩ := ix.tup
        refine .inr (.inl ⟨a, j, vs, rfl, rfl, h1, fun q => ?_, hz.2.1, hz.2.2.1, by rw [h2.length]; exact hz.2.2.2, fun p o hp ho => ?_⟩)
        · subst q; exact hz.1 (List.length_eq_zero_iff.mp h2.length.symm)
        · obtain ⟨s, l, i⟩ := new_tup B (h2.rep j.toNat) hp ho
          exact k _ fz _ s l i
      · cases e
  · split at e
    · rename_i hz; cases e; cases iy
      exact .inr (.inr (.inr (ok_rep B ix rfl hz k)))
    · cases e
  · split at e
    · rename_i hz; cases e; cases iy
      exact .inr (.inr (.inr (ok_rep B ix rfl hz k)))
    · cases e
  · cases e
section
variable {X : Cx} {a b : Expr} {ma mb : Mx} {pos : Pos}
theorem se_mul (ha : SE X a ma) (hb : SE X b mb) : SE X (.BinOp a .Mult b pos) (m2 fMul ma mb) := se_op (op_mulX.or (op_repS.or (op_repT1.or op_rep))) ok_mul ha hb
end
section
variable {X : Cx} {pins : List (Addr × Obj)} {σ : L2.St} {H : Hp} {s : Shared} {fz : Fz}
mutual
def noDict : PyData → Bool
  | .list xs => noDicts xs
  | .tuple xs => noDicts xs
  | .dict _ => false
  | _ => true
def noDicts : List PyData → Bool
  | [] => true
  | x :: xs => noDict x && noDicts xs
end
mutual
theorem Im.dp : ∀ {v : V} {d : PyData}, Im X.K fz H v d → noDict d = true → Dp X.K H v d
  | _, _, .non, _ => .non
  | _, _, .bl b, _ => .bl b
  | _, _, .int i, _ => .int i
  | _, _, .str x, _ => .str x
  | _, _, .lst h a, q => .lst h.sq (ImA.dp a (by simpa [noDict] using q))
  | _, _, .tup h a, q => .tup h.sq (ImA.dp a (by simpa [noDict] using q))
  | _, _, .dct _ _ _ _, q => by simp [noDict] at q
theorem ImA.dp : ∀ {v : List V} {d : List PyData}, ImA X.K fz H v d → noDicts d = true → DpAll X.K H v d
  | _, _, .nil, _ => .nil
  | _, _, .cons h t, q => by
    simp only [noDicts, Bool.and_eq_true] at q
    exact .cons (Im.dp h q.1) (ImA.dp t q.2)
end
/-- any datum that is looked at -/
def rdD : R → Option PyData
  | .d x => some x
  | .f xs => some (.list xs)
  | .b xs => some (.list xs)
  | _ => none
theorem ImR.dp {sp : Option Addr} {H0 : Hp} {v : V} {x : R} {d : PyData} (i : ImR X.K sp H0 fz H v x) (e : rdD x = some d) (hn : noDict d = true) : Dp X.K H v d := by
  cases x with
  | d x => cases e; exact Im.dp i hn
  | f xs =>
    cases e
    obtain ⟨a, vs, rfl, h1, h2, _⟩ := i
    exact .lst (.inl (.inl h1)) (ImA.dp h2 (by simpa [noDict] using hn))
  | b xs =>
    cases e
    obtain ⟨a, vs, rfl, h1, h2, _⟩ := i
    exact .lst (.inl (.inl h1)) (ImA.dp h2 (by simpa [noDict] using hn))
  | s => cases e
  | m _ => cases e
  | t _ => cases e
  | n _ => cases e
  | u _ => cases e
end
/-- data that == may be asked of here -/
def eqOk (d : PyData) : Bool := noDict d && SeqAt.shaped d
def fEqD (neg : Bool) : R → R → Option R := fun x y => match rdD x, rdD y with
  | some d, some e => if eqOk d = true ∧ eqOk e = true then some (.d (.bool (if neg then !PyData.eqv d e else PyData.eqv d e))) else none
  | _, _ => none
def strOf : R → Option Str
  | .d (.str x) => some x
  | _ => none
/-- ==; of any two texts, or of two data without a dict that are not too deep -/
def fEq (neg : Bool) : R → R → Option R := fun x y => match strOf x, strOf y with
  | some a, some b => some (.d (.bool (if neg then !(a == b) else a == b)))
  | _, _ => fEqD neg x y
section
variable {X : Cx} {a b : Expr} {ma mb : Mx} {pos : Pos}
theorem strOf_some {x : R} {a : Str} (h : strOf x = some a) : x = .d (.str a) := by
  unfold strOf at h
  split at h
  · cases h; rfl
  · cases h
theorem fEq_some {neg : Bool} {x y z : R} (h : fEqD neg x y = some z) : ∃ d e, rdD x = some d ∧ rdD y = some e ∧ noDict d = true ∧ noDict e = true ∧ SeqAt.shaped d = true ∧ SeqAt.shaped e = true ∧ z = .d (.bool (if neg then !PyData.eqv d e else PyData.eqv d e)) := by
  unfold fEqD at h
  split at h
  · rename_i d e h1 h2
    split at h
    · rename_i hz
      cases h
      simp only [eqOk, Bool.and_eq_true] at hz
      exact ⟨d, e, h1, h2, hz.1.1, hz.2.1, hz.1.2, hz.2.2, rfl⟩
    · cases h
  · cases h
theorem ok_eq : Ok2 X.K (fun x y H Q => rEq x y H Q ∨ rEqD X.K x y H Q) (fEq false) := by
  intro sp fz H H0 sto v w x y z Q B ix iy h k
  unfold fEq at h
  split at h
  · rename_i a b ea eb
    cases strOf_some ea
    cases strOf_some eb
    cases h
    cases ix
    cases iy
    exact .inl ⟨rfl, k _ fz H .refl B.spl (by rw [dec_str]; exact .bl _)⟩
  · obtain ⟨d, e, h1, h2, n1, n2, s1, s2, rfl⟩ := fEq_some h
    exact .inr ⟨d, e, ix.dp h1 n1, iy.dp h2 n2, s1, s2, k _ fz H .refl B.spl (.bl _)⟩
theorem ok_ne : Ok2 X.K (fun x y H Q => rNe x y H Q ∨ rNeD X.K x y H Q) (fEq true) := by
  intro sp fz H H0 sto v w x y z Q B ix iy h k
  unfold fEq at h
  split at h
  · rename_i a b ea eb
    cases strOf_some ea
    cases strOf_some eb
    cases h
    cases ix
    cases iy
    exact .inl ⟨rfl, k _ fz H .refl B.spl (by rw [dec_str]; exact .bl _)⟩
  · obtain ⟨d, e, h1, h2, n1, n2, s1, s2, rfl⟩ := fEq_some h
    exact .inr ⟨d, e, ix.dp h1 n1, iy.dp h2 n2, s1, s2, k _ fz H .refl B.spl (.bl _)⟩
theorem se_eq {k : Nat} (hr : Room k X.A) (ha : SE X a ma) (hb : SE X b mb) : SE X (.Compare a [.Eq] [b] pos) (m2 (fEq false) ma mb) := se_cmp (op_eq.or (op_eqD hr.units)) ok_eq ha hb (nomark _)
theorem se_ne {k : Nat} (hr : Room k X.A) (ha : SE X a ma) (hb : SE X b mb) : SE X (.Compare a [.NotEq] [b] pos) (m2 (fEq true) ma mb) := se_cmp (op_ne.or (op_neD hr.units)) ok_ne ha hb (nomark _)
theorem sb_eq {k : Nat} (hr : Room k X.A) (ha : SE X a ma) (hb : SE X b mb) : SB X (.Compare a [.Eq] [b] pos) (bT (m2 (fEq false) ma mb)) := sb_cmp (op_eq.or (op_eqD hr.units)) ok_eq ha hb (nomark _)
theorem sb_ne {k : Nat} (hr : Room k X.A) (ha : SE X a ma) (hb : SE X b mb) : SB X (.Compare a [.NotEq] [b] pos) (bT (m2 (fEq true) ma mb)) := sb_cmp (op_ne.or (op_neD hr.units)) ok_ne ha hb (nomark _)
end
/-- two comparisons of ints -/
def mChain (g1 g2 : Int → Int → Option PyData) (a b c : Mx) : Mx := bnd a fun x => bnd b fun y => bnd (fun _ => ret (fI g1 x y)) fun z => match z with
  | .d (.bool true) => bnd c fun w _ => ret (fI g2 y w)
  | .d (.bool false) => fun _ s => some (.d (.bool false), s)
  | _ => fun _ _ => none
theorem rd_chain {K : PySem.W.Frag} {r r' : R2} {g1 g2 : Int → Int → Option PyData} (h1 : Ok2 K r (fI g1)) (h2 : Ok2 K r' (fI g2)) {ma mb mc : Mx} {σ : L2.St} {H : Hp} {Q : VK} (h : rdE K (mChain g1 g2 ma mb mc) σ H Q) :
    tChain r r' (rdE K ma) (rdE K mb) (rdE K mc) σ H Q := by
  obtain ⟨C, fz, ρ, sto, z, sto', F, e, k⟩ := h
  obtain ⟨x, s1, ea, e1⟩ := bnd_some e
  obtain ⟨y, s2, eb, e2⟩ := bnd_some e1
  obtain ⟨z1, s3, ec, e3⟩ := bnd_some e2
  clear e e1 e2
  obtain ⟨ef, rfl⟩ := ret_some ec
  refine ⟨C, fz, ρ, sto, x, s1, F, ea, fun v fz1 H1 st1 l1 i1 => ?_⟩
  refine ⟨C, fz1, ρ, s1, y, s3, F.step st1 l1, eb, fun w fz2 H2 st2 l2 i2 => ?_⟩
  have B1 := F.bs.step st1 l1
  have B2 := B1.step st2 l2
  refine h1 C.sp fz2 H2 H s3 v w x y z1 _ B2 (i1.stp st2 B1) (i2.early st1) ef fun u fz3 H3 st3 l3 i3 => ?_
  have B3 := B2.step st3 l3
  split at e3
  · cases i3
    obtain ⟨y', s4, ed, e4⟩ := bnd_some e3
    obtain ⟨eg, rfl⟩ := ret_some e4
    refine ⟨true, rfl, ?_⟩
    refine ⟨C, fz3, ρ, s3, y', sto', ((F.step st1 l1).step st2 l2).step st3 l3, ed, fun w' fz4 H4 st4 l4 i4 => ?_⟩
    have B4 := B3.step st4 l4
    refine h2 C.sp fz4 H4 H sto' w w' y y' z _ B4 ((i2.early st1).stp (st3.trans st4) B2) (i4.early ((st1.trans st2).trans st3)) eg fun u fz5 H5 st5 l5 i5 => ?_
    exact k u fz5 H5 ((((st1.trans st2).trans st3).trans st4).trans st5) l5 (i5.early (((st1.trans st2).trans st3).trans st4))
  · cases i3
    cases e3
    exact ⟨false, rfl, k _ fz3 H3 ((st1.trans st2).trans st3) l3 (.bl _)⟩
  · cases e3
section
variable {X : Cx} {a b c : Expr} {ma mb mc : Mx} {pos : Pos}
theorem se_lelt (ha : SE X a ma) (hb : SE X b mb) (hc : SE X c mc) (hm : lastMarks [.LtE, .Lt] [b, c] = false := by rfl) : SE X (.Compare a [.LtE, .Lt] [b, c] pos) (mChain gLe gLt ma mb mc) := PE.imp (pe_chain op_le op_lt ha hb hc hm) fun _ _ _ h => rd_chain ok_le ok_lt h
theorem se_lele (ha : SE X a ma) (hb : SE X b mb) (hc : SE X c mc) (hm : lastMarks [.LtE, .LtE] [b, c] = false := by rfl) : SE X (.Compare a [.LtE, .LtE] [b, c] pos) (mChain gLe gLe ma mb mc) := PE.imp (pe_chain op_le op_le ha hb hc hm) fun _ _ _ h => rd_chain ok_le ok_le h
theorem sb_lele (ha : SE X a ma) (hb : SE X b mb) (hc : SE X c mc) (hm : lastMarks [.LtE, .LtE] [b, c] = false := by rfl) : SB X (.Compare a [.LtE, .LtE] [b, c] pos) (bT (mChain gLe gLe ma mb mc)) := PT.imp (pt_chain op_le op_le ha hb hc hm) fun σ H Q h => rd_chain (Q := fun x H' => ∃ k, x = .bl k ∧ Q k H') ok_le ok_le (rd_bT h)
end
end Dh
namespace Dh
open PySem PySem.Spec L2
def mAnd (a b : Mx) : Mx := bnd a fun x => match x with
  | .d (.bool true) => b
  | .d (.bool false) => fun _ s => some (.d (.bool false), s)
  | _ => fun _ _ => none
def mOr (a b : Mx) : Mx := bnd a fun x => match x with
  | .d (.bool false) => b
  | .d (.bool true) => fun _ s => some (.d (.bool true), s)
  | _ => fun _ _ => none
def fNot : R → Option R
  | .d (.bool k) => some (.d (.bool (!k)))
  | _ => none
def tAnd2 (a b : Mt) : Mt := bnd a fun x => match x with
  | true => b
  | false => fun _ s => some (false, s)
def tOr2 (a b : Mt) : Mt := bnd a fun x => match x with
  | false => b
  | true => fun _ s => some (true, s)
def tNot2 (a : Mt) : Mt := bnd a fun x _ s => some (!x, s)
def mIf (c : Mt) (a b : Mx) : Mx := bnd c fun x => match x with
  | true => a
  | false => b
section
variable {X : Cx} {a b c : Expr} {rest : List Expr} {ma mb : Mx} {ta tb tc : Mt} {pos : Pos}
theorem rd_and {K : PySem.W.Frag} {σ : L2.St} {H : Hp} {Q : VK} (h : rdE K (mAnd ma mb) σ H Q) : tAndV (rdE K ma) (rdE K mb) σ H Q := by
  obtain ⟨C, fz, ρ, sto, z, sto', F, e, k⟩ := h
  obtain ⟨x, s1, ea, e1⟩ := bnd_some e
  clear e
  refine ⟨C, fz, ρ, sto, x, s1, F, ea, fun v fz1 H1 st1 l1 i1 => ?_⟩
  split at e1
  · cases i1
    refine ⟨true, rfl, ?_⟩
    rw [if_pos rfl]
    exact ⟨C, fz1, ρ, s1, z, sto', F.step st1 l1, e1, fun u fz2 H2 st2 l2 i2 => k u fz2 H2 (st1.trans st2) l2 (i2.early st1)⟩
  · cases i1
    cases e1
    refine ⟨false, rfl, ?_⟩
    rw [if_neg Bool.false_ne_true]
    exact k _ fz1 H1 st1 l1 (.bl _)
  · cases e1
theorem rd_or {K : PySem.W.Frag} {σ : L2.St} {H : Hp} {Q : VK} (h : rdE K (mOr ma mb) σ H Q) : tOrV (rdE K ma) (rdE K mb) σ H Q := by
  obtain ⟨C, fz, ρ, sto, z, sto', F, e, k⟩ := h
  obtain ⟨x, s1, ea, e1⟩ := bnd_some e
  clear e
  refine ⟨C, fz, ρ, sto, x, s1, F, ea, fun v fz1 H1 st1 l1 i1 => ?_⟩
  split at e1
  · cases i1
    refine ⟨false, rfl, ?_⟩
    rw [if_neg Bool.false_ne_true]
    exact ⟨C, fz1, ρ, s1, z, sto', F.step st1 l1, e1, fun u fz2 H2 st2 l2 i2 => k u fz2 H2 (st1.trans st2) l2 (i2.early st1)⟩
  · cases i1
    cases e1
    refine ⟨true, rfl, ?_⟩
    rw [if_pos rfl]
    exact k _ fz1 H1 st1 l1 (.bl _)
  · cases e1
theorem se_one {op : BoolOp} (ha : SE X a ma) : SE X (.BoolOp op [a] pos) ma := pe_one ha
theorem se_and (ha : SE X a ma) (hb : SE X (.BoolOp .And (b :: rest) pos) mb) : SE X (.BoolOp .And (a :: b :: rest) pos) (mAnd ma mb) := PE.imp (pe_and ha hb) fun _ _ _ h => rd_and h
theorem se_or (ha : SE X a ma) (hb : SE X (.BoolOp .Or (b :: rest) pos) mb) : SE X (.BoolOp .Or (a :: b :: rest) pos) (mOr ma mb) := PE.imp (pe_or ha hb) fun _ _ _ h => rd_or h
theorem rd_not {K : PySem.W.Frag} {σ : L2.St} {H : Hp} {Q : VK} (h : rdE K (m1 fNot ma) σ H Q) : tNotV (rdE K ma) σ H Q := by
  refine rd_one (r := fun x H Q => ∃ c, x = .bl c ∧ Q (.bl (!c)) H) ?_ h
  intro sp fz H H0 sto v x z Q B ix e k
  unfold fNot at e
  split at e
  · cases e
    cases ix
    exact ⟨_, rfl, k _ fz H .refl B.spl (.inl (.bl _))⟩
  · cases e
theorem se_not (ha : SE X a ma) : SE X (.UnaryOp .Not a pos) (m1 fNot ma) := PE.imp (pe_not ha) fun _ _ _ h => rd_not h
theorem rt_and {K : PySem.W.Frag} {σ : L2.St} {H : Hp} {Q : Bool → Hp → Prop} (h : rdT K (tAnd2 ta tb) σ H Q) : tAnd (rdT K ta) (rdT K tb) σ H Q := by
  obtain ⟨C, fz, ρ, sto, z, sto', F, e, k⟩ := h
  obtain ⟨x, s1, ea, e1⟩ := bnd_some e
  clear e
  refine ⟨C, fz, ρ, sto, x, s1, F, ea, fun fz1 H1 st1 l1 => ?_⟩
  cases x with
  | true =>
    rw [if_pos rfl]
    exact ⟨C, fz1, ρ, s1, z, sto', F.step st1 l1, e1, fun fz2 H2 st2 l2 => k fz2 H2 (st1.trans st2) l2⟩
  | false =>
    rw [if_neg Bool.false_ne_true]
    cases e1
    exact k fz1 H1 st1 l1
theorem rt_or {K : PySem.W.Frag} {σ : L2.St} {H : Hp} {Q : Bool → Hp → Prop} (h : rdT K (tOr2 ta tb) σ H Q) : tOr (rdT K ta) (rdT K tb) σ H Q := by
  obtain ⟨C, fz, ρ, sto, z, sto', F, e, k⟩ := h
  obtain ⟨x, s1, ea, e1⟩ := bnd_some e
  clear e
  refine ⟨C, fz, ρ, sto, x, s1, F, ea, fun fz1 H1 st1 l1 => ?_⟩
  cases x with
  | false =>
    rw [if_neg Bool.false_ne_true]
    exact ⟨C, fz1, ρ, s1, z, sto', F.step st1 l1, e1, fun fz2 H2 st2 l2 => k fz2 H2 (st1.trans st2) l2⟩
  | true =>
    rw [if_pos rfl]
    cases e1
    exact k fz1 H1 st1 l1
theorem rt_not {K : PySem.W.Frag} {σ : L2.St} {H : Hp} {Q : Bool → Hp → Prop} (h : rdT K (tNot2 ta) σ H Q) : tNot (rdT K ta) σ H Q := by
  obtain ⟨C, fz, ρ, sto, z, sto', F, e, k⟩ := h
  obtain ⟨x, s1, ea, e1⟩ := bnd_some e
  cases e1
  exact ⟨C, fz, ρ, sto, x, _, F, ea, fun fz1 H1 st1 l1 => k fz1 H1 st1 l1⟩
theorem sw_and1 (ha : SB X a ta) : SW X (.BoolOp .And [a] pos) ta := pw_and1 ha
theorem sw_or1 (ha : SB X a ta) : SW X (.BoolOp .Or [a] pos) ta := pw_or1 ha
theorem sw_and (ha : SB X a ta) (hb : SW X (.BoolOp .And (b :: rest) pos) tb) : SW X (.BoolOp .And (a :: b :: rest) pos) (tAnd2 ta tb) := PW.imp (pw_and ha hb) fun _ _ _ h => rt_and h
theorem sw_or (ha : SB X a ta) (hb : SW X (.BoolOp .Or (b :: rest) pos) tb) : SW X (.BoolOp .Or (a :: b :: rest) pos) (tOr2 ta tb) := PW.imp (pw_or ha hb) fun _ _ _ h => rt_or h
theorem sb_w {e : Expr} {t : Mt} (h : SW X e t) : SB X e t := PW.pt h
theorem sb_not (ha : SB X a ta) : SB X (.UnaryOp .Not a pos) (tNot2 ta) := PT.imp (pt_not ha) fun _ _ _ h => rt_not h
theorem rd_if {K : PySem.W.Frag} {σ : L2.St} {H : Hp} {Q : VK} (h : rdE K (mIf ta ma mb) σ H Q) : tIf (rdT K ta) (rdE K ma) (rdE K mb) σ H Q := by
  obtain ⟨C, fz, ρ, sto, z, sto', F, e, k⟩ := h
  obtain ⟨x, s1, ea, e1⟩ := bnd_some e
  clear e
  refine ⟨C, fz, ρ, sto, x, s1, F, ea, fun fz1 H1 st1 l1 => ?_⟩
  cases x with
  | true =>
    rw [if_pos rfl]
    exact ⟨C, fz1, ρ, s1, z, sto', F.step st1 l1, e1, fun u fz2 H2 st2 l2 i2 => k u fz2 H2 (st1.trans st2) l2 (i2.early st1)⟩
  | false =>
    rw [if_neg Bool.false_ne_true]
    exact ⟨C, fz1, ρ, s1, z, sto', F.step st1 l1, e1, fun u fz2 H2 st2 l2 i2 => k u fz2 H2 (st1.trans st2) l2 (i2.early st1)⟩
theorem se_if (hc : SB X c ta) (ha : SE X a ma) (hb : SE X b mb) : SE X (.IfExp c a b pos) (mIf ta ma mb) := PE.imp (pe_ifExp hc ha hb) fun _ _ _ h => rd_if h
end
/-- a datum to be kept (a list that was just made is frozen) -/
def toD : R → Option PyData
  | .d x => some x
  | .f xs => some (.list xs)
  | _ => none
def toDs : List R → Option (List PyData)
  | [] => some []
  | r :: rs => match toD r, toDs rs with
    | some x, some xs => some (x :: xs)
    | _, _ => none
section
variable {K : PySem.W.Frag} {sp : Option Addr} {fz fz1 : Fz} {H H1 : Hp} {sto : Sto}
/-- keeping one -/
theorem ImR.keep {v : V} {r : R} {x : PyData} (i : ImR K sp H fz1 H1 v r) (e : toD r = some x) (s : Stp sp fz H fz1 H1) (B : Bs sp fz1 H1 sto) :
    ∃ fz2 : Fz, Stp sp fz H fz2 H1 ∧ Bs sp fz2 H1 sto ∧ (∀ a, fz1 a → fz2 a) ∧ Im K fz2 H1 v x := by
  unfold toD at e
  split at e
  · cases e
    exact ⟨fz1, s, B, fun _ h => h, i⟩
  · cases e
    obtain ⟨a, vs, rfl, h1, h2, h3, h4, h5⟩ := i
    have s2 := s.freeze h5 h4 h1
    refine ⟨_, s2, ⟨B.spl, fun c ec q => ?_, fun b q z => ?_⟩, fun b q => .inl q, .lst (.inl ⟨h1, .inr rfl⟩) (h2.fzm fun b q => .inl q)⟩
    · rcases q with q | q
      · exact B.nsp c ec q
      · exact h4 (by subst q; exact ec.symm)
    · rcases q with q | q
      · exact B.trk b q z
      · subst q; rw [h1] at z; cases z
  · cases e
theorem ImRs.keep : ∀ {vs : List V} {rs : List R} {xs : List PyData} {fz1 : Fz}, ImRs K sp H fz1 H1 vs rs → toDs rs = some xs → Stp sp fz H fz1 H1 → Bs sp fz1 H1 sto →
    ∀ fzA : Fz, Stp sp fz H fzA H1 → Bs sp fzA H1 sto → (∀ a, fz1 a → fzA a) → ∃ fz2 : Fz, Stp sp fz H fz2 H1 ∧ Bs sp fz2 H1 sto ∧ (∀ a, fzA a → fz2 a) ∧ ImA K fz2 H1 vs xs
  | _, _, _, _, .nil, e, s, B, fzA, sA, BA, g => by
    cases e
    exact ⟨fzA, sA, BA, fun _ h => h, .nil⟩
  | _, _, _, fz1, .cons (a := v) (b := r) h t, e, s, B, fzA, sA, BA, g => by
    unfold toDs at e
    split at e
    · rename_i x xs e1 e2
      cases e
      -- the head, frozen beside what is frozen already
      have : ∃ fzB : Fz, Stp sp fz H fzB H1 ∧ Bs sp fzB H1 sto ∧ (∀ a, fzA a → fzB a) ∧ Im K fzB H1 v x := by
        unfold toD at e1
        split at e1
        · cases e1
          exact ⟨fzA, sA, BA, fun _ h => h, Im.fzm g h⟩
        · cases e1
          obtain ⟨a, vs, rfl, h1, h2, h3, h4, h5⟩ := h
          refine ⟨_, sA.freeze h5 h4 h1, ⟨BA.spl, fun c ec q => ?_, fun b q z => ?_⟩, fun b q => .inl q, .lst (.inl ⟨h1, .inr rfl⟩) (h2.fzm fun b q => .inl (g b q))⟩
          · rcases q with q | q
            · exact BA.nsp c ec q
            · exact h4 (by subst q; exact ec.symm)
          · rcases q with q | q
            · exact BA.trk b q z
            · subst q; rw [h1] at z; cases z
        · cases e1
      obtain ⟨fzB, sB, BB, gB, iB⟩ := this
      obtain ⟨fz2, s2, B2, g2, i2⟩ := ImRs.keep t e2 s B fzB sB BB fun a q => gB a (g a q)
      exact ⟨fz2, s2, B2, fun a q => g2 a (gB a q), .cons (iB.fzm g2) i2⟩
    · cases e
end
def fTup (rs : List R) : Option R := match toDs rs with
  | some xs => if xs.length ≤ sizeLine then some (.d (.tuple xs)) else none
  | none => none
def fLst (rs : List R) : Option R := match toDs rs with
  | some xs => if xs.length ≤ sizeLine then some (.f xs) else none
  | none => none
section
variable {X : Cx} {es : List Expr} {m : Ma} {pos : Pos}
theorem se_tup {x1} (h : SA X es m) : SE X (.Tuple es x1 pos) (mA fTup m) := PE.imp (pe_tupS (x1 := x1) h) fun σ H Q q => by
  refine rd_args (r := fun xs H1 Q => xs.length ≤ sizeLine ∧ TpQ H1 xs Q) ?_ q
  intro sp fz fzS H H0 sto vs xs z Q s B i e k
  unfold fTup at e
  split at e
  · rename_i ds hd
    split at e
    · rename_i hz
      cases e
      obtain ⟨fz2, s2, B2, g2, a⟩ := ImRs.keep i hd s B fz s B fun _ h => h
      refine ⟨by rw [a.length]; exact hz, fun p o hp ho => ?_⟩
      obtain ⟨s3, l3, i3⟩ := new_tup B2 a hp ho
      exact k _ fz2 _ (s2.trans s3) l3 i3
    · cases e
  · cases e
theorem se_lst (h : SA X es m) : SE X (.List es pos) (mA fLst m) := PE.imp (pe_lst h) fun σ H Q q => by
  refine rd_args (r := fun xs H1 Q => xs.length ≤ sizeLine ∧ ∀ p, H1 p = none → Q (.ref p) (upd H1 p (.lst xs))) ?_ q
  intro sp fz fzS H H0 sto vs xs z Q s B i e k
  unfold fLst at e
  split at e
  · rename_i ds hd
    split at e
    · rename_i hz
      cases e
      obtain ⟨fz2, s2, B2, g2, a⟩ := ImRs.keep i hd s B fz s B fun _ h => h
      refine ⟨by rw [a.length]; exact hz, fun p hp => ?_⟩
      obtain ⟨s3, l3, i3⟩ := new_lst B2 a hp
      exact k _ fz2 _ (s2.trans s3) l3 (i3.early s2)
    · cases e
  · cases e
end
def fIx (sto : Sto) : R → R → Option R
  | .s, .d (.int i) => (atI sto i).map fun j => .d (.int j)
  | x, .d (.int i) => match rdQ x with
    | some xs => (atI xs i).map .d
    | none => none
  | _, _ => none
/-- an item: of the spring, too -/
def mIx (a b : Mx) : Mx := bnd a fun x => bnd b fun y _ s => match fIx s x y with
  | some z => some (z, s)
  | none => none
theorem atI_some {α : Type} {xs : List α} {i : Int} {x : α} (h : atI xs i = some x) : ∃ j, ixN xs.length i = some j ∧ xs[j]? = some x := by
  unfold atI at h
  cases q : ixN xs.length i with
  | none => rw [q] at h; cases h
  | some j => rw [q] at h; exact ⟨j, rfl, h⟩
theorem atI_im {K : PySem.W.Frag} {fz : Fz} {H : Hp} {vs : List V} {xs : List PyData} {i : Int} {x : PyData} (a : ImA K fz H vs xs) (h : atI xs i = some x) : ∃ w, atI vs i = some w ∧ Im K fz H w x := by
  obtain ⟨j, h1, h2⟩ := atI_some h
  obtain ⟨w, h3, h4⟩ := a.at j x h2
  refine ⟨w, ?_, h4⟩
  unfold atI
  rw [a.length, h1]
  exact h3
theorem atI_map {i : Int} {sto : Sto} {j : Int} (h : atI sto i = some j) : atI (sto.map V.int) i = some (.int j) := by
  obtain ⟨k, h1, h2⟩ := atI_some h
  unfold atI
  rw [List.length_map, h1]
  show (sto.map V.int)[k]? = _
  rw [List.getElem?_map, h2]
  rfl
def rIxQ (K : PySem.W.Frag) : R2 := fun x y H Q => rIxL K x y H Q ∨ rIxT K x y H Q
section
variable {X : Cx} {a b : Expr} {ma mb : Mx} {pos : Pos}
theorem fIx_ok {K : PySem.W.Frag} {sp : Option Addr} {fz : Fz} {H H0 : Hp} {sto : Sto} {v w : V} {x y z : R} {Q : VK} (B : Bs sp fz H sto) (ix : ImR K sp H0 fz H v x) (iy : ImR K sp H0 fz H w y) (e : fIx sto x y = some z) (k : ∀ u, ImR K sp H fz H u z → Q u H) : rIxQ K v w H Q := by
  unfold fIx at e
  split at e
  · rename_i i
    cases iy
    cases q : atI sto i with
    | none => rw [q] at e; cases e
    | some j =>
      rw [q] at e; cases e
      obtain ⟨a, ea, rfl⟩ := (show IsS sp v from ix)
      exact .inl ⟨a, _, i, _, rfl, rfl, .inl (.inl (B.spl a ea)), atI_map q, k _ (.int j)⟩
  · rename_i i _
    cases iy
    split at e
    · rename_i xs hx
      cases q : atI xs i with
      | none => rw [q] at e; cases e
      | some d =>
        rw [q] at e; cases e
        obtain ⟨a, vs, rfl, h, im⟩ := ix.seq hx
        obtain ⟨u, hu, iu⟩ := atI_im im q
        rcases h with h | h
        · exact .inl ⟨a, vs, i, u, rfl, rfl, h, hu, k _ iu⟩
        · exact .inr ⟨a, vs, i, u, rfl, rfl, h, hu, k _ iu⟩
    · cases e
  · cases e
theorem se_ix (ha : SE X a ma) (hb : SE X b mb) (hs : PlainIx b := by exact fun _ _ => rfl) : SE X (.Subscript a b pos) (mIx ma mb) := PE.imp (pe_ix (ix_list.or ix_tup) ha hb hs) fun σ H Q h => by
  obtain ⟨C, fz, ρ, sto, z, sto', F, e, k⟩ := h
  obtain ⟨x, s1, ea, e1⟩ := bnd_some e
  obtain ⟨y, s2, eb, e2⟩ := bnd_some e1
  clear e e1
  split at e2
  · rename_i z' ez
    cases e2
    refine ⟨C, fz, ρ, sto, x, s1, F, ea, fun v fz1 H1 st1 l1 i1 => ?_⟩
    refine ⟨C, fz1, ρ, s1, y, sto', F.step st1 l1, eb, fun w fz2 H2 st2 l2 i2 => ?_⟩
    have B1 := F.bs.step st1 l1
    exact fIx_ok (B1.step st2 l2) (i1.stp st2 B1) (i2.early st1) ez fun u iu => k u fz2 H2 (st1.trans st2) l2 (iu.early (st1.trans st2))
  · cases e2
end
end Dh
namespace Dh
open PySem PySem.Spec L2
inductive Out where
  | nx | bk | ct | rt (r : R)
abbrev Ms := Ev → Sto → Option (Out × Ev × Sto)
/-- what is no list and no dict -/
def Stay (o : HO) : Prop := (∀ xs, o ≠ .lst xs) ∧ (∀ kvs, o ≠ .dK kvs) ∧ ∀ φ, o ≠ .ext φ
/-- through a statement: what is frozen, and all that is no list and no dict, stands -/
structure Sts (sp : Option Addr) (fz : Fz) (H : Hp) (fz' : Fz) (H' : Hp) : Prop where
  mono : ∀ a, fz a → fz' a
  kept : ∀ a o, H a = some o → some a ≠ sp → (fz a ∨ Stay o) → H' a = some o
section
variable {K : PySem.W.Frag} {sp : Option Addr} {fz fz1 fz2 : Fz} {H H1 H2 : Hp} {sto : Sto}
theorem Sts.refl : Sts sp fz H fz H := ⟨fun _ h => h, fun _ _ h _ _ => h⟩
theorem Sts.trans (s : Sts sp fz H fz1 H1) (t : Sts sp fz1 H1 fz2 H2) : Sts sp fz H fz2 H2 :=
  ⟨fun a h => t.mono a (s.mono a h), fun a o h n c => t.kept a o (s.kept a o h n c) n (c.imp (s.mono a) id)⟩
theorem Stp.sts (s : Stp sp fz H fz1 H1) : Sts sp fz H fz1 H1 := ⟨s.mono, fun a o h n _ => s.ext a o h n⟩
theorem SqT.sts {a : Addr} {xs : List V} (s : Sts sp fz H fz1 H1) (B : Bs sp fz H sto) (h : SqT K H a xs) : SqT K H1 a xs := by
  rcases h with (h | ⟨o, h⟩) | h
  · exact .inl (.inl (s.kept _ _ h (ne_spring B.spl h) (.inr ⟨(fun _ z => nomatch z), (fun _ z => nomatch z), (fun _ z => nomatch z)⟩)))
  · exact .inl (.inr ⟨o, s.kept _ _ h (B.spl.ne h (by intro z; cases z)) (.inr ⟨(fun _ z => nomatch z), (fun _ z => nomatch z), (fun _ z => nomatch z)⟩)⟩)
  · exact .inr h
theorem FzT.sts {a : Addr} {xs : List V} (s : Sts sp fz H fz1 H1) (B : Bs sp fz H sto) (h : FzT K H a xs) : FzT K H1 a xs := by
  rcases h with ⟨o, h, d⟩ | h
  · exact .inl ⟨o, s.kept _ _ h (B.spl.ne h (by intro z; cases z)) (.inr ⟨(fun _ z => nomatch z), (fun _ z => nomatch z), (fun _ z => nomatch z)⟩), d⟩
  · exact .inr h
theorem FzL.sts {a : Addr} {xs : List V} (s : Sts sp fz H fz1 H1) (B : Bs sp fz H sto) (h : FzL K fz H a xs) : FzL K fz1 H1 a xs := by
  rcases h with ⟨h, f⟩ | ⟨o, h⟩ | h
  · exact .inl ⟨s.kept _ _ h (by intro e; exact B.nsp _ e.symm f) (.inl f), s.mono _ f⟩
  · exact .inr (.inl ⟨o, s.kept _ _ h (B.spl.ne h (by intro z; cases z)) (.inr ⟨(fun _ z => nomatch z), (fun _ z => nomatch z), (fun _ z => nomatch z)⟩)⟩)
  · exact .inr (.inr h)
mutual
theorem Im.sts (s : Sts sp fz H fz1 H1) (B : Bs sp fz H sto) : ∀ {v : V} {d : PyData}, Im K fz H v d → Im K fz1 H1 v d
  | _, _, .non => .non
  | _, _, .bl b => .bl b
  | _, _, .int i => .int i
  | _, _, .str x => .str x
  | _, _, .lst h a => .lst (h.sts s B) (ImA.sts s B a)
  | _, _, .tup h a => .tup (FzT.sts s B h) (ImA.sts s B a)
  | _, _, .dct h f a b => .dct (s.kept _ _ h (by intro e; exact B.nsp _ e.symm f) (.inl f)) (s.mono _ f) (ImA.sts s B a) (ImA.sts s B b)
theorem ImA.sts (s : Sts sp fz H fz1 H1) (B : Bs sp fz H sto) : ∀ {v : List V} {d : List PyData}, ImA K fz H v d → ImA K fz1 H1 v d
  | _, _, .nil => .nil
  | _, _, .cons h t => .cons (Im.sts s B h) (ImA.sts s B t)
end
theorem TK.sts (s : Sts sp fz H fz1 H1) (B : Bs sp fz H sto) {xs : List (List Int × Addr × Value)} {acc : List (List Int × PyData)} (h : TK K fz H xs acc) : TK K fz1 H1 xs acc :=
  Paired.mapP h fun _ _ ⟨a, b, v, c, d⟩ => ⟨a, b.sts s B, v, c, Im.sts s B d⟩
end
def Fin (K : PySem.W.Frag) (C : Cn) (D : Ends) (out : Out) (fz' : Fz) (σ' : L2.St) (H' : Hp) : Prop := match out with
  | .nx => D.nx σ' H'
  | .bk => D.bk σ' H'
  | .ct => D.ct σ' H'
  | .rt r => ∀ v, ImR K C.sp C.H0 fz' H' v r → D.rt v H'
def rdS (K : PySem.W.Frag) (m : Ms) : TS := fun D σ H => ∃ (C : Cn) (fz : Fz) (ρ : Ev) (sto : Sto) (out : Out) (ρ' : Ev) (sto' : Sto), Fm K C fz ρ sto σ H ∧ m ρ sto = some (out, ρ', sto') ∧
  ∀ fz' σ' H', Fm K C fz' ρ' sto' σ' H' → Sts C.sp fz H fz' H' → Fin K C D out fz' σ' H'
def SS (X : Cx) (st : Stmt) (m : Ms) : Prop := PS X st (rdS X.K m)
def SL (X : Cx) (st : List Stmt) (m : Ms) : Prop := PSs X st (rdS X.K m)
def mNil : Ms := fun ρ s => some (.nx, ρ, s)
def mSeq (a b : Ms) : Ms := fun ρ s => match a ρ s with
  | some (.nx, ρ1, s1) => b ρ1 s1
  | some r => some r
  | none => none
def mIfS (c : Mt) (a b : Ms) : Ms := fun ρ s => match c ρ s with
  | some (true, s1) => a ρ s1
  | some (false, s1) => b ρ s1
  | none => none
def mRet (a : Mx) : Ms := fun ρ s => match a ρ s with
  | some (.d x, s1) => some (.rt (.d x), ρ, s1)
  | some (.f xs, s1) => some (.rt (.f xs), ρ, s1)
  | _ => none
/-- return of a name -/
def mRetV (i : Nat) : Ms := fun ρ s => match ρ[i]? with
  | some (some (.d x)) => some (.rt (.d x), ρ, s)
  | some (some (.o xs)) => some (.rt (.f xs), ρ, s)
  | _ => none
def mNever : Ms := fun _ _ => none
def toCl : R → Option Cl
  | .d x => some (.d x)
  | .f xs => some (.o xs)
  | .s => some .s
  | .m acc => some (.m acc)
  | .t acc => some (.t acc)
  | _ => none
def mSet (i : Nat) (a : Mx) : Ms := fun ρ s => match a ρ s with
  | some (r, s1) => match toCl r with
    | some c => some (.nx, ρ.set i (some c), s1)
    | none => none
  | none => none
section
variable {K : PySem.W.Frag} {C : Cn} {fz fz1 : Fz} {ρ : Ev} {sto sto' : Sto} {σ : L2.St} {H H1 : Hp}
/-- what is owned was not there at the entry -/
theorem Fm.owned (F : Fm K C fz ρ sto σ H) {i : Nat} {xs : List PyData} (h : ρ[i]? = some (some (.o xs))) : ∃ a vs, σ[i]? = some (some (.ref a)) ∧ H a = some (.lst vs) ∧ ImA K fz H vs xs ∧ ¬ fz a ∧ some a ≠ C.sp ∧ C.H0 a = none := F.vars i _ h
/-- a slot gets a value -/
theorem Fm.put (F : Fm K C fz ρ sto σ H) (i : Nat) {v : V} {c : Cl} (hi : i < σ.length) (ok : CellOk K C fz H (σ.set i (some v)) i c)
    (ap : ∀ xs a, c = .o xs → v = .ref a → ∀ j ys, j ≠ i → ρ[j]? = some (some (.o ys)) → σ[j]? ≠ some (some (.ref a))) : Fm K C fz (ρ.set i (some c)) sto (σ.set i (some v)) H where
  len := by rw [List.length_set, List.length_set, F.len]
  st := F.st
  bs := F.bs
  vars := fun j c' h => by
    by_cases e : j = i
    · subst e
      rw [List.getElem?_set_self (by rw [F.len]; exact hi)] at h
      cases h
      exact ok
    · rw [List.getElem?_set_ne (Ne.symm e)] at h
      have q := F.vars j c' h
      have ge : (σ.set i (some v))[j]? = σ[j]? := List.getElem?_set_ne (Ne.symm e)
      cases c' with
      | d x => obtain ⟨u, e1, e2⟩ := q; exact ⟨u, ge.trans e1, e2⟩
      | o xs => obtain ⟨a, vs, e1, e2⟩ := q; exact ⟨a, vs, ge.trans e1, e2⟩
      | s => obtain ⟨a, ea, q⟩ := q; exact ⟨a, ea, ge.trans q⟩
      | m acc => obtain ⟨a, vs, e1, e2⟩ := q; exact ⟨a, vs, ge.trans e1, e2⟩
      | t acc => obtain ⟨a, vs, e1, e2⟩ := q; exact ⟨a, vs, ge.trans e1, e2⟩
  sep := fun j k xs ys a hjk h1 h2 h3 h4 => by
    by_cases e : j = i
    · subst e
      rw [List.getElem?_set_self (by rw [F.len]; exact hi)] at h1
      rw [List.getElem?_set_ne hjk] at h2 h4
      rw [List.getElem?_set_self hi] at h3
      cases h1; cases h3
      exact ap xs a rfl rfl k ys (Ne.symm hjk) h2 h4
    · by_cases e2 : k = i
      · subst e2
        rw [List.getElem?_set_self (by rw [F.len]; exact hi)] at h2
        rw [List.getElem?_set_ne (Ne.symm hjk)] at h1 h3
        rw [List.getElem?_set_self hi] at h4
        cases h2; cases h4
        exact ap ys a rfl rfl j xs hjk h1 h3
      · rw [List.getElem?_set_ne (Ne.symm e)] at h1 h3
        rw [List.getElem?_set_ne (Ne.symm e2)] at h2 h4
        exact F.sep j k xs ys a hjk h1 h2 h3 h4
/-- a slot gets what an expression gave (seen from a heap H0 where F stood) -/
theorem Fm.give (F : Fm K C fz ρ sto σ H) (s : Stp C.sp fz H fz1 H1) (l : SpL C.sp H1 sto') {v : V} {r : R} {c : Cl} (i : ImR K C.sp H fz1 H1 v r) (e : toCl r = some c) {n : Nat} (hn : n < σ.length) : Fm K C fz1 (ρ.set n (some c)) sto' (σ.set n (some v)) H1 := by
  have F1 := F.step s l
  refine F1.put n hn ?_ ?_
  · have g : (σ.set n (some v))[n]? = some (some v) := List.getElem?_set_self hn
    cases r with
    | d x => cases e; exact ⟨v, g, i⟩
    | f xs =>
      cases e
      obtain ⟨a, vs, rfl, h1, h2, h3, h4, h5⟩ := i
      exact ⟨a, vs, g, h1, h2, h3, h4, F.st.back h4 h5⟩
    | b xs => cases e
    | s => cases e; obtain ⟨a, ea, rfl⟩ := (show IsS C.sp v from i); exact ⟨a, ea, g⟩
    | m acc =>
      cases e
      obtain ⟨a, vs, rfl, h1, h2, h3, h4, h5⟩ := i
      exact ⟨a, vs, g, h1, h2, h3, h4, F.st.back h4 h5⟩
    | t acc =>
      cases e
      obtain ⟨a, vs, rfl, h1, h2, h3, h4, h5⟩ := i
      exact ⟨a, vs, g, h1, h2, h3, h4, F.st.back h4 h5⟩
    | n acc => cases e
    | u acc => cases e
  · intro xs a ec ev j ys hj h1 h2
    subst ec
    cases r with
    | d x => cases e
    | f zs =>
      cases e
      obtain ⟨b, vs, eb, h3, h4, h5, h6, h7⟩ := i
      rw [ev] at eb; cases eb
      obtain ⟨b, ws, q1, q2, _⟩ := F.owned h1
      rw [h2] at q1; cases q1
      rw [h7] at q2; cases q2
    | b zs => cases e
    | s => cases e
    | m _ => cases e
    | t _ => cases e
    | n _ => cases e
    | u _ => cases e
end
section
variable {X : Cx} {st : Stmt} {rest : List Stmt} {e : Expr} {me : Mx} {ma mb : Ms} {tc : Mt} {pos : Pos}
theorem sl_nil : SL X [] mNil := PSs.imp pss_nil fun D σ H h => by
  obtain ⟨C, fz, ρ, sto, out, ρ', sto', F, e, k⟩ := h
  cases e
  exact k fz σ H F .refl
theorem rs_seq {K : PySem.W.Frag} {D : Ends} {σ : L2.St} {H : Hp} (h : rdS K (mSeq ma mb) D σ H) : tSeq (rdS K ma) (rdS K mb) D σ H := by
  obtain ⟨C, fz, ρ, sto, out, ρ', sto', F, e, k⟩ := h
  unfold mSeq at e
  split at e
  · rename_i ρ1 s1 e1
    refine ⟨C, fz, ρ, sto, .nx, ρ1, s1, F, e1, fun fz1 σ1 H1 F1 q1 => ?_⟩
    exact ⟨C, fz1, ρ1, s1, out, ρ', sto', F1, e, fun fz2 σ2 H2 F2 q2 => k fz2 σ2 H2 F2 (q1.trans q2)⟩
  · rename_i r hr e1
    cases e
    refine ⟨C, fz, ρ, sto, out, ρ', sto', F, e1, fun fz1 σ1 H1 F1 q1 => ?_⟩
    have q := k fz1 σ1 H1 F1 q1
    cases out with
    | nx => exact absurd rfl (hr ρ' sto')
    | bk => exact q
    | ct => exact q
    | rt r => exact q
  · cases e
theorem sl_cons (h1 : SS X st ma) (h2 : SL X rest mb) : SL X (st :: rest) (mSeq ma mb) := PSs.imp (pss_cons h1 h2) fun _ _ _ h => rs_seq h
theorem sl_one (h1 : SS X st ma) : SL X [st] ma := pss_one h1
theorem ss_never : SS X st mNever := PS.imp ps_never fun D σ H h => by
  obtain ⟨C, fz, ρ, sto, out, ρ', sto', F, e, k⟩ := h
  cases e
theorem ss_if {c : Expr} {a b : List Stmt} (hc : SB X c tc) (ha : SL X a ma) (hb : SL X b mb) : SS X (.If c a b pos) (mIfS tc ma mb) := PS.imp (ps_if hc ha hb) fun D σ H h => by
  obtain ⟨C, fz, ρ, sto, out, ρ', sto', F, e, k⟩ := h
  unfold mIfS at e
  split at e
  · rename_i s1 e1
    refine ⟨C, fz, ρ, sto, true, s1, F, e1, fun fz1 H1 st1 l1 => ?_⟩
    refine iteT ?_
    exact ⟨C, fz1, ρ, s1, out, ρ', sto', F.step st1 l1, e, fun fz2 σ2 H2 F2 q2 => k fz2 σ2 H2 F2 (st1.sts.trans q2)⟩
  · rename_i s1 e1
    refine ⟨C, fz, ρ, sto, false, s1, F, e1, fun fz1 H1 st1 l1 => ?_⟩
    refine iteF ?_
    exact ⟨C, fz1, ρ, s1, out, ρ', sto', F.step st1 l1, e, fun fz2 σ2 H2 F2 q2 => k fz2 σ2 H2 F2 (st1.sts.trans q2)⟩
  · cases e
theorem ss_ret (he : SE X e me) : SS X (.Return (some e) pos) (mRet me) := PS.imp (ps_ret he) fun D σ H h => by
  obtain ⟨C, fz, ρ, sto, out, ρ', sto', F, e, k⟩ := h
  unfold mRet at e
  split at e
  · rename_i x s1 e1
    cases e
    exact ⟨C, fz, ρ, sto, _, _, F, e1, fun v fz1 H1 st1 l1 i1 => k fz1 σ H1 (F.step st1 l1) st1.sts v (i1.early F.st)⟩
  · rename_i x s1 e1
    cases e
    exact ⟨C, fz, ρ, sto, _, _, F, e1, fun v fz1 H1 st1 l1 i1 => k fz1 σ H1 (F.step st1 l1) st1.sts v (i1.early F.st)⟩
  · cases e
theorem ss_retV {i : Nat} {x : Str} {p : Pos} (hN : X.N[i]? = some x := by rfl) (hv : Vis X.env.scope x := by first | exact Or.inl rfl | exact Or.inr (Or.inl rfl) | exact Or.inr (Or.inr rfl)) (hd : (x == ("__debug__" : Str)) = false := by decide)
    (hcd : (x == ("__classdict__" : Str)) = false := by decide) : SS X (.Return (some (.Name x p)) pos) (mRetV i) := PS.imp (ps_ret (pe_var hN hv hd hcd)) fun D σ H h => by
  obtain ⟨C, fz, ρ, sto, out, ρ', sto', F, e, k⟩ := h
  unfold mRetV at e
  split at e
  · rename_i x h1
    cases e
    obtain ⟨v, e1, e2⟩ := F.vars _ _ h1
    exact ⟨v, e1, k fz σ H F .refl v e2⟩
  · rename_i xs h1
    cases e
    obtain ⟨a, vs, e1, h2, h3, h4, h5, h6⟩ := F.owned h1
    exact ⟨_, e1, k fz σ H F .refl _ ⟨a, vs, rfl, h2, h3, h4, h5, h6⟩⟩
  · cases e
theorem PS.impI {X : Cx} {e : Stmt} {t t' : TS} (h : PS X e t) (q : ∀ D σ H, σ.length = X.N.length → t' D σ H → t D σ H) : PS X e t' := ⟨fun pins s σ H D I w => h.run pins s σ H D I (q _ _ _ I.len w)⟩
theorem rs_set {K : PySem.W.Frag} {i : Nat} {D : Ends} {σ : L2.St} {H : Hp} (hs : i < σ.length) (h : rdS K (mSet i me) D σ H) : tAsg (rdE K me) (gName i) D σ H := by
  obtain ⟨C, fz, ρ, sto, out, ρ', sto', F, e, k⟩ := h
  unfold mSet at e
  split at e
  · rename_i r s1 e1
    split at e
    · rename_i c ec
      cases e
      exact ⟨C, fz, ρ, sto, r, _, F, e1, fun v fz1 H1 st1 l1 i1 => k fz1 _ H1 (F.give st1 l1 i1 ec hs) st1.sts⟩
    · cases e
  · cases e
theorem lt_of_slot {i : Nat} {N : List Str} {x : Str} {σ : L2.St} (hi : N[i]? = some x) (hl : σ.length = N.length) : i < σ.length := by
  rw [hl]; exact (List.getElem?_eq_some_iff.mp hi).1
theorem ss_set {i : Nat} {x : Str} {p : Pos} (hN : X.N.Nodup) (hi : X.N[i]? = some x) (hx : Loc X.env.scope x) (he : SE X e me)
    (hs : swapsWith e (some (.Name x p)) pos.line X.env = pure false := by rfl) (hw : swappedStores [.Name x p] e X.env = pure none := by rfl)
    (hf : X.fn x = true ∨ X.env.scope.names.lookup x = some .local := by first | exact .inl rfl | exact .inr rfl) : SS X (.Assign [.Name x p] e pos) (mSet i me) :=
  PS.impI (ps_asg he (pg_name hN hi hx hf) hs hw) fun D σ H hl h => rs_set (lt_of_slot hi hl) h
def frz1 (ρ : Ev) (i : Nat) : Ev := match ρ[i]? with
  | some (some (.o xs)) => ρ.set i (some (.d (.list xs)))
  | _ => ρ
def frzs (ρ : Ev) : List Nat → Ev
  | [] => ρ
  | i :: r => frzs (frz1 ρ i) r
def mFrz (is : List Nat) (m : Ms) : Ms := fun ρ s => m (frzs ρ is) s
theorem Fm.frz1 {K : PySem.W.Frag} {C : Cn} {fz : Fz} {ρ : Ev} {sto : Sto} {σ : L2.St} {H : Hp} (F : Fm K C fz ρ sto σ H) (i : Nat) : ∃ fz2, Fm K C fz2 (Dh.frz1 ρ i) sto σ H ∧ Sts C.sp fz H fz2 H := by
  unfold Dh.frz1
  split
  · rename_i xs hx
    obtain ⟨a, vs, e1, h2, h3, h4, h5, h6⟩ := F.owned hx
    have hi : i < σ.length := (List.getElem?_eq_some_iff.mp e1).1
    refine ⟨fun b => fz b ∨ b = a, ⟨by rw [List.length_set, F.len], F.st.freeze h6 h5 h2, ⟨F.bs.spl, fun c ec q => ?_, fun b q z => ?_⟩, fun j c h => ?_, fun j k xs ys b hjk q1 q2 => ?_⟩, ⟨fun b q => .inl q, fun _ _ h _ _ => h⟩⟩
    · rcases q with q | q
      · exact F.bs.nsp c ec q
      · exact h5 (by subst q; exact ec.symm)
    · rcases q with q | q
      · exact F.bs.trk b q z
      · subst q; rw [h2] at z; cases z
    · by_cases ej : j = i
      · subst ej
        rw [List.getElem?_set_self (by rw [F.len]; exact hi)] at h
        cases h
        exact ⟨_, e1, .lst (.inl ⟨h2, .inr rfl⟩) (h3.fzm fun b q => .inl q)⟩
      · rw [List.getElem?_set_ne (Ne.symm ej)] at h
        have q := F.vars j c h
        cases c with
        | d x => obtain ⟨u, e1, e2⟩ := q; exact ⟨u, e1, e2.fzm fun b q => .inl q⟩
        | o ys =>
          obtain ⟨b, ws, g1, g2, g3, g4, g5, g6⟩ := q
          refine ⟨b, ws, g1, g2, g3.fzm fun b q => .inl q, fun z => ?_, g5, g6⟩
          rcases z with z | z
          · exact g4 z
          · subst z; exact F.sep j i ys xs _ ej h hx g1 e1
        | s => exact q
        | m acc =>
          obtain ⟨b, ws, g1, g2, g3, g4, g5, g6⟩ := q
          refine ⟨b, ws, g1, g2, ⟨g3.1, g3.2.fzm fun b q => .inl q⟩, fun z => ?_, g5, g6⟩
          rcases z with z | z
          · exact g4 z
          · subst z; rw [h2] at g2; cases g2
        | t acc =>
          obtain ⟨b, ws, g1, g2, g3, g4, g5, g6⟩ := q
          refine ⟨b, ws, g1, g2, g3.fzm fun b q => .inl q, fun z => ?_, g5, g6⟩
          rcases z with z | z
          · exact g4 z
          · subst z; rw [h2] at g2; cases g2
    · have ej : j ≠ i := fun z => by
        subst z
        rw [List.getElem?_set_self (by rw [F.len]; exact hi)] at q1
        cases q1
      have ek : k ≠ i := fun z => by
        subst z
        rw [List.getElem?_set_self (by rw [F.len]; exact hi)] at q2
        cases q2
      rw [List.getElem?_set_ne (Ne.symm ej)] at q1
      rw [List.getElem?_set_ne (Ne.symm ek)] at q2
      exact F.sep j k xs ys b hjk q1 q2
  · exact ⟨fz, F, .refl⟩
theorem Fm.frzs {K : PySem.W.Frag} {C : Cn} {sto : Sto} {σ : L2.St} {H : Hp} : ∀ (is : List Nat) {fz : Fz} {ρ : Ev}, Fm K C fz ρ sto σ H → ∃ fz2, Fm K C fz2 (Dh.frzs ρ is) sto σ H ∧ Sts C.sp fz H fz2 H
  | [], fz, ρ, F => ⟨fz, F, .refl⟩
  | i :: r, fz, ρ, F => by
    obtain ⟨fz1, F1, s1⟩ := F.frz1 i
    obtain ⟨fz2, F2, s2⟩ := Fm.frzs r F1
    exact ⟨fz2, F2, s1.trans s2⟩
theorem ss_frz (is : List Nat) (h : SS X st ma) : SS X st (mFrz is ma) := PS.imp h fun D σ H h => by
  obtain ⟨C, fz, ρ, sto, out, ρ', sto', F, e, k⟩ := h
  obtain ⟨fz2, F2, s2⟩ := F.frzs is
  exact ⟨C, fz2, _, sto, out, ρ', sto', F2, e, fun fz3 σ3 H3 F3 s3 => k fz3 σ3 H3 F3 (s2.trans s3)⟩
end
end Dh
namespace Dh
open PySem PySem.Spec L2
section
variable {K : PySem.W.Frag} {C : Cn} {fz fz1 : Fz} {ρ : Ev} {sto sto' : Sto} {σ : L2.St} {H H1 : Hp}
/-- an own list is written -/
theorem Fm.write (F : Fm K C fz ρ sto σ H) {i : Nat} {xs ys : List PyData} {a : Addr} {ws : List V} (h : ρ[i]? = some (some (.o xs))) (ha : σ[i]? = some (some (.ref a))) (im : ImA K fz H ws ys) :
    Fm K C fz (ρ.set i (some (.o ys))) sto σ (upd H a (.lst ws)) ∧ Sts C.sp fz H fz (upd H a (.lst ws)) := by
  obtain ⟨b, vs, e1, h2, h3, h4, h5, h6⟩ := F.owned h
  rw [ha] at e1; cases e1
  have hi : i < ρ.length := (List.getElem?_eq_some_iff.mp h).1
  have S : Sts C.sp fz H fz (upd H a (.lst ws)) := ⟨fun _ q => q, fun b o q n c => by
    have : b ≠ a := fun z => by
      subst z
      rcases c with c | c
      · exact h4 c
      · rw [h2] at q; cases q; exact c.1 _ rfl
    rw [upd_ne this]; exact q⟩
  refine ⟨⟨by rw [List.length_set, F.len], ⟨F.st.mono, fun b o q n => ?_, F.st.new, fun t b q z => ?_⟩, ⟨?_, F.bs.nsp, fun b q z => ?_⟩, fun j c q => ?_, fun j k us zs b hjk q1 q2 => ?_⟩, S⟩
  · have : b ≠ a := fun z => by subst z; rw [h6] at q; cases q
    rw [upd_ne this]; exact F.st.ext b o q n
  · by_cases e : b = a
    · subst e; rw [upd_same] at z; cases z
    · rw [upd_ne e] at z; exact F.st.trk t b q z
  · exact F.bs.spl.upd h5
  · by_cases e : b = a
    · subst e; rw [upd_same] at z; cases z
    · rw [upd_ne e] at z; exact F.bs.trk b q z
  · by_cases ej : j = i
    · subst ej
      rw [List.getElem?_set_self hi] at q
      cases q
      exact ⟨a, ws, ha, upd_same, im.sts S F.bs, h4, h5, h6⟩
    · rw [List.getElem?_set_ne (Ne.symm ej)] at q
      have g := F.vars j c q
      cases c with
      | d x => obtain ⟨u, g1, g2⟩ := g; exact ⟨u, g1, g2.sts S F.bs⟩
      | o us =>
        obtain ⟨b, ts, g1, g2, g3, g4, g5, g6⟩ := g
        have : b ≠ a := fun z => by subst z; exact F.sep j i us xs _ ej q h g1 ha
        exact ⟨b, ts, g1, by rw [upd_ne this]; exact g2, g3.sts S F.bs, g4, g5, g6⟩
      | s => exact g
      | m acc =>
        obtain ⟨b, ts, g1, g2, g3, g4, g5, g6⟩ := g
        have : b ≠ a := fun z => by subst z; rw [h2] at g2; cases g2
        exact ⟨b, ts, g1, by rw [upd_ne this]; exact g2, ⟨g3.1, g3.2.sts S F.bs⟩, g4, g5, g6⟩
      | t acc =>
        obtain ⟨b, ts, g1, g2, g3, g4, g5, g6⟩ := g
        have : b ≠ a := fun z => by subst z; rw [h2] at g2; cases g2
        exact ⟨b, ts, g1, by rw [upd_ne this]; exact g2, g3.sts S F.bs, g4, g5, g6⟩
  · by_cases ej : j = i
    · subst ej
      rw [List.getElem?_set_ne hjk] at q2
      exact F.sep j k xs zs b hjk h q2
    · rw [List.getElem?_set_ne (Ne.symm ej)] at q1
      by_cases ek : k = i
      · subst ek
        exact F.sep j k us xs b hjk q1 h
      · rw [List.getElem?_set_ne (Ne.symm ek)] at q2
        exact F.sep j k us zs b hjk q1 q2
/-- the spring is written -/
theorem Fm.spring (F : Fm K C fz ρ sto σ H) (sto' : Sto) {p : Addr} (hp : C.sp = some p) : Fm K C fz ρ sto' σ (upd H p (.lst (sto'.map V.int))) ∧ Sts C.sp fz H fz (upd H p (.lst (sto'.map V.int))) := by
  have ne : ∀ b, some b ≠ C.sp → b ≠ p := fun b n e => n (by rw [e, hp])
  have S : Sts C.sp fz H fz (upd H p (.lst (sto'.map V.int))) := ⟨fun _ q => q, fun b o q n _ => by rw [upd_ne (ne b n)]; exact q⟩
  refine ⟨⟨F.len, ⟨F.st.mono, fun b o q n => by rw [upd_ne (ne b n)]; exact F.st.ext b o q n, F.st.new, fun t b q z => ?_⟩, ⟨fun b eb => ?_, F.bs.nsp, fun b q z => ?_⟩, fun j c q => ?_, F.sep⟩, S⟩
  · by_cases e : b = p
    · subst e; rw [upd_same] at z; cases z
    · rw [upd_ne e] at z; exact F.st.trk t b q z
  · rw [hp] at eb; cases eb; exact upd_same
  · by_cases e : b = p
    · subst e; rw [upd_same] at z; cases z
    · rw [upd_ne e] at z; exact F.bs.trk b q z
  · have g := F.vars j c q
    cases c with
    | d x => obtain ⟨u, g1, g2⟩ := g; exact ⟨u, g1, g2.sts S F.bs⟩
    | o us =>
      obtain ⟨b, ts, g1, g2, g3, g4, g5, g6⟩ := g
      exact ⟨b, ts, g1, by rw [upd_ne (ne b g5)]; exact g2, g3.sts S F.bs, g4, g5, g6⟩
    | s => exact g
    | m acc =>
      obtain ⟨b, ts, g1, g2, g3, g4, g5, g6⟩ := g
      exact ⟨b, ts, g1, by rw [upd_ne (ne b g5)]; exact g2, ⟨g3.1, g3.2.sts S F.bs⟩, g4, g5, g6⟩
    | t acc =>
      obtain ⟨b, ts, g1, g2, g3, g4, g5, g6⟩ := g
      exact ⟨b, ts, g1, by rw [upd_ne (ne b g5)]; exact g2, g3.sts S F.bs, g4, g5, g6⟩
/-- what was given is kept: the frame, with more frozen -/
theorem Fm.keep (F : Fm K C fz ρ sto σ H) (s : Stp C.sp fz H fz1 H1) (l : SpL C.sp H1 sto') {v : V} {r : R} {x : PyData} (i : ImR K C.sp H fz1 H1 v r) (e : toD r = some x) : ∃ fz2, Fm K C fz2 ρ sto' σ H1 ∧ Stp C.sp fz H fz2 H1 ∧ Im K fz2 H1 v x := by
  obtain ⟨fz2, s2, B2, g, im⟩ := i.keep e s (F.bs.step s l)
  exact ⟨fz2, F.step s2 l, s2, im⟩
end
def mApp (i : Nat) (a : Mx) : Ms := fun ρ s => match a ρ s with
  | some (r, s1) => match toD r, ρ[i]? with
    | some x, some (some (.o xs)) => if xs.length < sizeLine then some (.nx, ρ.set i (some (.o (xs ++ [x]))), s1) else none
    | _, _ => none
  | none => none
def mPut (i : Nat) (ix a : Mx) : Ms := fun ρ s => match a ρ s with
  | some (r, s1) => match ix ρ s1 with
    | some (.d (.int k), s2) => match ρ[i]? with
      | some (some (.o xs)) => match toD r, ixN xs.length k with
        | some x, some j => some (.nx, ρ.set i (some (.o (xs.set j x))), s2)
        | _, _ => none
      | some (some .s) => match r, ixN s2.length k with
        | .d (.int v), some j => some (.nx, ρ, s2.set j v)
        | _, _ => none
      | _ => none
    | _ => none
  | none => none
section
variable {X : Cx} {st : Stmt} {rest : List Stmt} {e : Expr} {me mi : Mx} {ma mb : Ms} {tc : Mt} {pos : Pos}
theorem ss_append {i : Nat} {x : Str} {p apos cpos : Pos} (he : SE X e me) (hN : X.N[i]? = some x := by rfl) (hv : Vis X.env.scope x := by first | exact Or.inl rfl | exact Or.inr (Or.inl rfl) | exact Or.inr (Or.inr rfl))
    (hse : starEach [e] X.env = (false, eval e X.env) :: starEach [] X.env := by rfl)
    (hfew : ((backTo cpos (starEach [e] X.env)).all (fun x => !x.1) && (backToKw cpos (keywordEach [] X.env)).all (fun x => x.1.isSome)
      && decide (([e] : List Expr).length + ([] : List Keyword).length + (if ([] : List Keyword).isEmpty then 0 else 1) < 30)) = true := by rfl)
    (hline : (apos.endLine == cpos.line) = true := by rfl)
    (hd : (x == ("__debug__" : Str)) = false := by decide) (hcd : (x == ("__classdict__" : Str)) = false := by decide) (hbase : attributeBase (.Name x p) "append" X.env (eval (.Name x p) X.env) = eval (.Name x p) X.env := by rfl)
    (hs : swapsWith (.Call (.Attribute (.Name x p) "append" apos) [e] [] cpos) none pos.line X.env = pure false := by rfl) : SS X (.Expr (.Call (.Attribute (.Name x p) "append" apos) [e] [] cpos) pos) (mApp i me) :=
  PS.imp (ps_expr (pe_bm PySem.F.plainAttrs_list PySem.F.slot_list_append PySem.F.type_list_append mt_append (pe_var hN hv hd hcd) (pa_cons he pa_nil hse) hbase hfew hline hse) hs) fun D σ H h => by
  obtain ⟨C, fz, ρ, sto, out, ρ', sto', F, e, k⟩ := h
  unfold mApp at e
  split at e
  · rename_i r s1 e1
    split at e
    · rename_i x xs er ex
      split at e
      · rename_i hz
        cases e
        obtain ⟨a, vs, ha, h2, h3, h4, h5, h6⟩ := F.owned ex
        refine ⟨_, ha, .inl ⟨rfl, vs, .inl (.inl h2)⟩, C, fz, ρ, sto, r, _, F, e1, fun v fz1 H1 st1 l1 i1 => ?_⟩
        obtain ⟨fz2, F2, st2, im⟩ := F.keep st1 l1 i1 er
        obtain ⟨a', vs', ha', q2, q3, q4, q5, q6⟩ := F2.owned ex
        rw [ha] at ha'; cases ha'
        refine ⟨a, vs', v, rfl, rfl, q2, by rw [q3.length]; exact hz, ?_⟩
        obtain ⟨F3, S3⟩ := F2.write (ys := xs ++ [x]) ex ha (q3.append (.cons im .nil))
        exact k fz2 σ _ F3 (st2.sts.trans S3)
      · cases e
    · cases e
  · cases e
/-- x[i] = e; hg is pg_sub (pv i) hix set_list -/
theorem ss_put {i : Nat} {tg : Expr} (he : SE X e me) (hg : PG X tg (gSub (tVar i) (rdE X.K mi) rSetL))
    (hs : swapsWithSole [tg] e pos.line X.env = pure false := by rfl) (hw : swappedStores [tg] e X.env = pure none := by rfl) (h1 : (assignEach [tg] X.env).map (·.2) = [assign tg X.env] := by rfl) : SS X (.Assign [tg] e pos) (mPut i mi me) :=
  PS.imp (ps_asg he hg hs hw h1) fun D σ H h => by
  obtain ⟨C, fz, ρ, sto, out, ρ', sto', F, e, k⟩ := h
  unfold mPut at e
  split at e
  · rename_i r s1 e1
    split at e
    · rename_i kk s2 e2
      refine ⟨C, fz, ρ, sto, r, s1, F, e1, fun v fz1 H1 st1 l1 i1 => ?_⟩
      have F1 := F.step st1 l1
      split at e
      · rename_i xs ex
        split at e
        · rename_i x j er ej
          cases e
          obtain ⟨a, vs, ha, h2, h3, h4, h5, h6⟩ := F.owned ex
          refine ⟨_, ha, C, fz1, ρ, s1, _, _, F1, e2, fun w fz2 H2 st2 l2 i2 => ?_⟩
          cases i2
          obtain ⟨fz3, F3, st3, im⟩ := F.keep (st1.trans st2) l2 (i1.stp st2 F1.bs) er
          obtain ⟨a', vs', ha', q2, q3, q4, q5, q6⟩ := F3.owned ex
          rw [ha] at ha'; cases ha'
          refine ⟨a, vs', kk, j, rfl, rfl, q2, by rw [q3.length]; exact ej, ?_⟩
          obtain ⟨F4, S4⟩ := F3.write (ys := xs.set j x) ex ha (q3.set j im)
          exact k fz3 σ _ F4 (st3.sts.trans S4)
        · cases e
      · rename_i ex
        split at e
        · rename_i v' j ej
          cases e
          obtain ⟨p, hp, hs⟩ := F.vars _ _ ex
          refine ⟨_, hs, C, fz1, ρ, s1, _, _, F1, e2, fun w fz2 H2 st2 l2 i2 => ?_⟩
          cases i2
          cases i1
          refine ⟨p, _, kk, j, rfl, rfl, l2 p hp, by rw [List.length_map]; exact ej, ?_⟩
          obtain ⟨F4, S4⟩ := (F1.step st2 l2).spring (s2.set j v') hp
          rw [← List.map_set]
          exact k fz2 σ _ F4 ((st1.trans st2).sts.trans S4)
        · cases e
      · cases e
    · cases e
  · cases e
end
abbrev Gx := PyData → Ev → Option Ev
def rdG (K : PySem.W.Frag) (is : List Nat) (g : Gx) : TG := fun v σ H Q => ∃ (C : Cn) (fz : Fz) (ρ : Ev) (sto : Sto) (x : PyData) (ρ' : Ev), Fm K C fz ρ sto σ H ∧ Im K fz H v x ∧ g x ρ = some ρ' ∧
  ∀ σ', σ'.length = σ.length → (∀ i, i ∉ is → σ'[i]? = σ[i]?) → Fm K C fz ρ' sto σ' H → Q σ' H
theorem PG.impI {X : Cx} {e : Expr} {t t' : TG} (h : PG X e t) (q : ∀ v σ H Q, σ.length = X.N.length → t' v σ H Q → t v σ H Q) : PG X e t' := ⟨fun pins s σ H v u Q I r w => h.run pins s σ H v u Q I r (q _ _ _ _ I.len w)⟩
theorem PGs.impI {X : Cx} {e : List Expr} {t t' : TGs} (h : PGs X e t) (q : ∀ v σ H Q, σ.length = X.N.length → t' v σ H Q → t v σ H Q) : PGs X e t' := ⟨fun pins s σ H v u Q I r w => h.run pins s σ H v u Q I r (q _ _ _ _ I.len w)⟩
def SG (X : Cx) (tg : Expr) (is : List Nat) (g : Gx) : Prop := PG X tg (rdG X.K is g)
abbrev Gxs := List PyData → Ev → Option Ev
def rdGs (K : PySem.W.Frag) (is : List Nat) (g : Gxs) : TGs := fun vs σ H Q => ∃ (C : Cn) (fz : Fz) (ρ : Ev) (sto : Sto) (xs : List PyData) (ρ' : Ev), Fm K C fz ρ sto σ H ∧ ImA K fz H vs xs ∧ g xs ρ = some ρ' ∧
  ∀ σ', σ'.length = σ.length → (∀ i, i ∉ is → σ'[i]? = σ[i]?) → Fm K C fz ρ' sto σ' H → Q σ' H
def SGs (X : Cx) (tg : List Expr) (is : List Nat) (g : Gxs) : Prop := PGs X tg (rdGs X.K is g)
def gN (i : Nat) : Gx := fun x ρ => some (ρ.set i (some (.d x)))
def gT (n : Nat) (g : Gxs) : Gx := fun x ρ => match x with
  | .tuple xs => if xs.length = n then g xs ρ else none
  | _ => none
def gsNil : Gxs := fun xs ρ => match xs with | [] => some ρ | _ => none
def gsCons (g : Gx) (r : Gxs) : Gxs := fun xs ρ => match xs with
  | x :: ys => match g x ρ with | some ρ1 => r ys ρ1 | none => none
  | [] => none
theorem Fm.name {K : PySem.W.Frag} {C : Cn} {fz : Fz} {ρ : Ev} {sto : Sto} {σ : L2.St} {H : Hp} (F : Fm K C fz ρ sto σ H) {v : V} {x : PyData} (im : Im K fz H v x) {i : Nat} (hi : i < σ.length) : Fm K C fz (ρ.set i (some (.d x))) sto (σ.set i (some v)) H :=
  F.put i hi ⟨v, List.getElem?_set_self hi, im⟩ fun xs a e => nomatch e
section
variable {X : Cx} {tg : Expr} {tgs : List Expr} {is js : List Nat} {g : Gx} {gs : Gxs} {pos : Pos}
theorem sg_name {i : Nat} {x : Str} (hN : X.N.Nodup) (hi : X.N[i]? = some x := by rfl) (hx : Loc X.env.scope x := by first | exact Or.inl rfl | exact Or.inr rfl)
    (hf : X.fn x = true ∨ X.env.scope.names.lookup x = some .local := by first | exact .inl rfl | exact .inr rfl) : SG X (.Name x pos) [i] (gN i) := PG.impI (pg_name hN hi hx hf) fun v σ H Q hl h => by
  obtain ⟨C, fz, ρ, sto, x, ρ', F, im, e, k⟩ := h
  cases e
  exact k _ (by rw [List.length_set]) (fun j hj => List.getElem?_set_ne fun z => hj (by rw [z]; exact List.mem_singleton.mpr rfl)) (F.name im (lt_of_slot hi hl))
theorem sgs_nil : SGs X [] [] gsNil := PGs.impI pgs_nil fun v σ H Q hl h => by
  obtain ⟨C, fz, ρ, sto, x, ρ', F, im, e, k⟩ := h
  cases im with
  | nil => cases e; exact ⟨rfl, k σ rfl (fun _ _ => rfl) F⟩
  | cons _ _ => cases e
theorem sgs_cons (h1 : SG X tg is g) (h2 : SGs X tgs js gs) (hs : (assignEach (tg :: tgs) X.env).map (·.2) = assign tg X.env :: (assignEach tgs X.env).map (·.2) := by rfl) : SGs X (tg :: tgs) (is ++ js) (gsCons g gs) := PGs.impI (pgs_cons h1 h2 hs) fun v σ H Q hl h => by
  obtain ⟨C, fz, ρ, sto, x, ρ', F, im, e, k⟩ := h
  cases im with
  | nil => cases e
  | cons a b =>
    unfold gsCons at e
    simp only at e
    split at e
    · rename_i ρ1 e1
      refine ⟨_, _, rfl, C, fz, ρ, sto, _, ρ1, F, a, e1, fun σ1 l1 o1 F1 => ?_⟩
      refine ⟨C, fz, ρ1, sto, _, ρ', F1, b, e, fun σ2 l2 o2 F2 => ?_⟩
      refine k σ2 (l2.trans l1) (fun i hi => ?_) F2
      rw [List.mem_append, not_or] at hi
      exact (o2 i hi.2).trans (o1 i hi.1)
    · cases e
theorem sg_tup {n k : Nat} (hc : X.calm = true) (h : SGs X tgs is gs) (hn : (assignEach tgs X.env).length = n := by rfl) (hst : (assignEach tgs X.env).findIdx? (·.1) = none := by rfl) : SG X (.Tuple tgs k pos) is (gT n gs) := PG.impI (pg_tup hc h hn hst) fun v σ H Q hl h => by
  obtain ⟨C, fz, ρ, sto, x, ρ', F, im, e, k⟩ := h
  unfold gT at e
  split at e
  · rename_i xs
    split at e
    · rename_i hz
      cases im with
      | tup hs ha => exact ⟨_, _, rfl, hs.sq, by rw [ha.length]; exact hz, C, fz, ρ, sto, xs, ρ', F, ha, e, k⟩
    · cases e
  · cases e
/-- target = value -/
def mAsg (g : Gx) (a : Mx) : Ms := fun ρ s => match a ρ s with
  | some (r, s1) => match toD r with
    | some x => match g x ρ with
      | some ρ1 => some (.nx, ρ1, s1)
      | none => none
    | none => none
  | none => none
theorem ss_asg {e : Expr} {me : Mx} (he : SE X e me) (hg : SG X tg is g) (hs : swapsWithSole [tg] e pos.line X.env = pure false := by rfl) (hw : swappedStores [tg] e X.env = pure none := by rfl) (h1 : (assignEach [tg] X.env).map (·.2) = [assign tg X.env] := by rfl) : SS X (.Assign [tg] e pos) (mAsg g me) := PS.imp (ps_asg he hg hs hw h1) fun D σ H h => by
  obtain ⟨C, fz, ρ, sto, out, ρ', sto', F, e, k⟩ := h
  unfold mAsg at e
  split at e
  · rename_i r s1 e1
    split at e
    · rename_i x ex
      split at e
      · rename_i ρ1 eg
        cases e
        refine ⟨C, fz, ρ, sto, r, _, F, e1, fun v fz1 H1 st1 l1 i1 => ?_⟩
        obtain ⟨fz2, F2, st2, im⟩ := F.keep st1 l1 i1 ex
        exact ⟨C, fz2, ρ, _, x, ρ', F2, im, eg, fun σ1 _ _ F3 => k fz2 σ1 H1 F3 st2.sts⟩
      · cases e
    · cases e
  · cases e
/-- a, b = e1, e2 (two names of the def) -/
def mPar (i j : Nat) (a : Ma) : Ms := fun ρ s => match a ρ s with
  | some ([r, q], s1) => match toCl r, toCl q with
    | some c, some d => match c, d with
      | .o _, .o _ => none
      | c, d => some (.nx, (ρ.set i (some c)).set j (some d), s1)
    | _, _ => none
  | _ => none
theorem ss_par {i j : Nat} {x y : Str} {a b : Expr} {m : Ma} {px py pt : Pos} {kt k2 pt2} (hc : X.calm = true) (hN : X.N.Nodup) (ha : SA X [a, b] m) (hi : X.N[i]? = some x := by rfl) (hj : X.N[j]? = some y := by rfl) (hij : i ≠ j := by decide)
    (hx : X.env.scope.names.lookup x = some .local := by rfl) (hy : X.env.scope.names.lookup y = some .local := by rfl)
    (hw : swappedStores [.Tuple [.Name x px, .Name y py] kt pt] (.Tuple [a, b] k2 pt2) X.env = pure (some [x, y]) := by rfl)
    (hs : swapsWithSole [.Tuple [.Name x px, .Name y py] kt pt] (.Tuple [a, b] k2 pt2) pos.line X.env = pure false := by rfl) :
    SS X (.Assign [.Tuple [.Name x px, .Name y py] kt pt] (.Tuple [a, b] k2 pt2) pos) (mPar i j m) := PS.impI (ps_par hc hN hi hj hij hx hy ha hw hs) fun D σ H hl h => by
  obtain ⟨C, fz, ρ, sto, out, ρ', sto', F, e, k⟩ := h
  unfold mPar at e
  split at e
  · rename_i r q s1 e1
    split at e
    · rename_i c d ec ed
      split at e
      · cases e
      · rename_i no
        cases e
        refine ⟨C, fz, ρ, sto, _, _, F, e1, fun vs fz1 H1 st1 l1 i1 => ?_⟩
        cases i1 with
        | cons iv t =>
          cases t with
          | cons iw t =>
            cases t
            rename_i v w
            refine ⟨v, w, rfl, ?_⟩
            have hi' := lt_of_slot hi hl
            have hj' := lt_of_slot hj hl
            have F1 := F.give st1 l1 iv ec hi'
            -- the second one, its address apart from the first one's
            refine k fz1 _ H1 (F1.put j (by rw [List.length_set]; exact hj') ?_ ?_) st1.sts
            · have g : ((σ.set i (some v)).set j (some w))[j]? = some (some w) := List.getElem?_set_self (by rw [List.length_set]; exact hj')
              cases q with
              | d x => cases ed; exact ⟨w, g, iw⟩
              | f xs =>
                cases ed
                obtain ⟨a, vs, rfl, h1, h2, h3, h4, h5⟩ := iw
                exact ⟨a, vs, g, h1, h2, h3, h4, F.st.back h4 h5⟩
              | b xs => cases ed
              | s => cases ed; obtain ⟨a, ea, rfl⟩ := (show IsS C.sp w from iw); exact ⟨a, ea, g⟩
              | m acc =>
                cases ed
                obtain ⟨a, vs, rfl, h1, h2, h3, h4, h5⟩ := iw
                exact ⟨a, vs, g, h1, h2, h3, h4, F.st.back h4 h5⟩
              | t acc =>
                cases ed
                obtain ⟨a, vs, rfl, h1, h2, h3, h4, h5⟩ := iw
                exact ⟨a, vs, g, h1, h2, h3, h4, F.st.back h4 h5⟩
              | n acc => cases ed
              | u acc => cases ed
            · intro xs a edx ew n ys hn h1 h2
              subst edx
              cases q with
              | d x => cases ed
              | b x => cases ed
              | s => cases ed
              | m _ => cases ed
              | t _ => cases ed
              | n _ => cases ed
              | u _ => cases ed
              | f zs =>
                cases ed
                obtain ⟨b, vs, eb, h3, h4, h5, h6, h7⟩ := iw
                rw [ew] at eb; cases eb
                by_cases en : n = i
                · subst en
                  rw [List.getElem?_set_self (by rw [F.len]; exact hi')] at h1
                  cases h1
                  exact no ys _ rfl rfl
                · rw [List.getElem?_set_ne (Ne.symm en)] at h1 h2
                  obtain ⟨b, ws, q1, q2, _⟩ := F.owned h1
                  rw [h2] at q1; cases q1
                  rw [h7] at q2; cases q2
    · cases e
  · cases e
end
end Dh
namespace Dh
open PySem PySem.Spec L2
abbrev Mi := Ev → Sto → Option (List PyData × Sto)
/-- J goes through the data xs, for as long as what is frozen stands -/
structure Goes (K : PySem.W.Frag) (sp : Option Addr) (fz : Fz) (H : Hp) (J : It) (xs : List PyData) : Prop where
  go : ∀ (i : Nat) fz1 H1 sto, i < xs.length → Sts sp fz H fz1 H1 → Bs sp fz1 H1 sto → J.go i H1
  stop : ∀ fz1 H1 sto, Sts sp fz H fz1 H1 → Bs sp fz1 H1 sto → J.stop xs.length H1
  yld : ∀ (i : Nat) (x : PyData) fz1 H1 sto v H2, xs[i]? = some x → Sts sp fz H fz1 H1 → Bs sp fz1 H1 sto → J.yld i H1 v H2 → Stp sp fz1 H1 fz1 H2 ∧ SpL sp H2 sto ∧ Im K fz1 H2 v x
def rdI (K : PySem.W.Frag) (m : Mi) : TI := fun σ H R => ∃ (C : Cn) (fz : Fz) (ρ : Ev) (sto : Sto) (xs : List PyData) (sto' : Sto), Fm K C fz ρ sto σ H ∧ m ρ sto = some (xs, sto') ∧
  ∀ J fz' H', Stp C.sp fz H fz' H' → SpL C.sp H' sto' → Goes K C.sp fz' H' J xs → R J H'
def SI (X : Cx) (tg iter : Expr) (m : Mi) : Prop := PI X tg iter (rdI X.K m)
theorem PI.imp {X : Cx} {tg e : Expr} {t t' : TI} (h : PI X tg e t) (q : ∀ σ H R, t' σ H R → t σ H R) : PI X tg e t' := ⟨fun pins s σ H R I w => h.run pins s σ H R I (q _ _ _ w)⟩
def forRun (g : Gx) (body : Ms) : List PyData → Ms
  | [] => fun ρ s => some (.nx, ρ, s)
  | x :: xs => fun ρ s => match g x ρ with
    | none => none
    | some ρ1 => match body ρ1 s with
      | some (.nx, ρ2, s2) => forRun g body xs ρ2 s2
      | some (.ct, ρ2, s2) => forRun g body xs ρ2 s2
      | some (.bk, ρ2, s2) => some (.nx, ρ2, s2)
      | some (.rt r, ρ2, s2) => some (.rt r, ρ2, s2)
      | none => none
def mFor (it : Mi) (g : Gx) (body : Ms) : Ms := fun ρ s => match it ρ s with
  | some (xs, s1) => forRun g body xs ρ s1
  | none => none
section
variable {X : Cx} {tg iter : Expr} {is : List Nat} {g : Gx} {mi : Mi} {body : List Stmt} {mb : Ms} {pos : Pos}
theorem rs_for {K : PySem.W.Frag} {D : Ends} {σ : L2.St} {H : Hp} (h : rdS K (mFor mi g mb) D σ H) : tFor (rdI K mi) (rdG K is g) (rdS K mb) D σ H := by
  obtain ⟨C, fz, ρ, sto, out, ρ', sto', F, e, k⟩ := h
  unfold mFor at e
  split at e
  · rename_i xs s1 e1
    refine ⟨C, fz, ρ, sto, xs, s1, F, e1, fun J fz1 H1 st1 l1 G => ?_⟩
    have F1 := F.step st1 l1
    let W : Nat → Nat → L2.St → Hp → Prop := fun i m σ' H' => m = xs.length - i ∧ i ≤ xs.length ∧ ∃ fz2 ρ2 s2, Fm K C fz2 ρ2 s2 σ' H' ∧ Sts C.sp fz1 H1 fz2 H' ∧ forRun g mb (xs.drop i) ρ2 s2 = some (out, ρ', sto')
    refine ⟨W, ⟨xs.length, by simp, Nat.zero_le _, fz1, ρ, s1, F1, .refl, e⟩, ?_⟩
    rintro i m σ2 H2 ⟨rfl, hi, fz2, ρ2, s2, F2, S2, e2⟩
    by_cases hlt : i < xs.length
    · have hx : xs[i]? = some xs[i] := List.getElem?_eq_getElem hlt
      rw [List.drop_eq_getElem_cons hlt] at e2
      unfold forRun at e2
      split at e2
      · cases e2
      · rename_i ρ3 e3
        refine .inr ⟨G.go i fz2 H2 s2 hlt S2 F2.bs, fun σ' H' => W (i + 1) (xs.length - (i + 1)) σ' H', fun σ' H' w => ⟨xs.length - (i + 1), by omega, w⟩, fun v H3 y => ?_⟩
        obtain ⟨st3, l3, im⟩ := G.yld i _ fz2 H2 s2 v H3 hx S2 F2.bs y
        refine ⟨C, fz2, ρ2, s2, xs[i], ρ3, F2.step st3 l3, im, e3, fun σ4 hl4 ho4 F4 => ?_⟩
        have S3 := S2.trans st3.sts
        split at e2
        · rename_i ρ5 s5 e5
          refine ⟨C, fz2, ρ3, s2, .nx, ρ5, s5, F4, e5, fun fz6 σ6 H6 F6 S6 => ?_⟩
          exact ⟨rfl, hlt, fz6, ρ5, s5, F6, S3.trans S6, e2⟩
        · rename_i ρ5 s5 e5
          refine ⟨C, fz2, ρ3, s2, .ct, ρ5, s5, F4, e5, fun fz6 σ6 H6 F6 S6 => ?_⟩
          exact ⟨rfl, hlt, fz6, ρ5, s5, F6, S3.trans S6, e2⟩
        · rename_i ρ5 s5 e5
          cases e2
          refine ⟨C, fz2, ρ3, s2, .bk, ρ', sto', F4, e5, fun fz6 σ6 H6 F6 S6 => ?_⟩
          exact k fz6 σ6 H6 F6 (st1.sts.trans (S3.trans S6))
        · rename_i r ρ5 s5 e5
          cases e2
          refine ⟨C, fz2, ρ3, s2, .rt r, ρ', sto', F4, e5, fun fz6 σ6 H6 F6 S6 => ?_⟩
          exact k fz6 σ6 H6 F6 (st1.sts.trans (S3.trans S6))
        · cases e2
    · have ei : i = xs.length := by omega
      subst ei
      rw [List.drop_length] at e2
      cases e2
      exact .inl ⟨G.stop fz2 H2 _ S2 F2.bs, k fz2 σ2 H2 F2 (st1.sts.trans S2)⟩
  · cases e
theorem ss_for (hp : PassesOwn (model X.prog X.w) X.A X.env X.xe) (hc : X.calm = true) (hi : SI X tg iter mi) (hg : SG X tg is g) (hb : SL X body mb) (hs : ∀ x, foldedSetIterable iter X.env x = pure x := by intro _; rfl) :
    SS X (.For tg iter body [] pos) (mFor mi g mb) := PS.imp (ps_for hp hc hi hg hb hs) fun _ _ _ h => rs_for h
end
def whRun (c : Mt) (body : Ms) : Nat → Ms
  | 0 => fun _ _ => none
  | n + 1 => fun ρ s => match c ρ s with
    | none => none
    | some (false, s1) => some (.nx, ρ, s1)
    | some (true, s1) => match body ρ s1 with
      | some (.nx, ρ2, s2) => whRun c body n ρ2 s2
      | some (.ct, ρ2, s2) => whRun c body n ρ2 s2
      | some (.bk, ρ2, s2) => some (.nx, ρ2, s2)
      | some (.rt r, ρ2, s2) => some (.rt r, ρ2, s2)
      | none => none
theorem whRun_eq {c : Mt} {body : Ms} {n : Nat} {ρ : Ev} {s : Sto} : whRun c body (n + 1) ρ s = (match c ρ s with
    | none => none
    | some (false, s1) => some (.nx, ρ, s1)
    | some (true, s1) => match body ρ s1 with
      | some (.nx, ρ2, s2) => whRun c body n ρ2 s2
      | some (.ct, ρ2, s2) => whRun c body n ρ2 s2
      | some (.bk, ρ2, s2) => some (.nx, ρ2, s2)
      | some (.rt r, ρ2, s2) => some (.rt r, ρ2, s2)
      | none => none) := rfl
theorem whRun_succ {c : Mt} {body : Ms} : ∀ {n : Nat} {ρ : Ev} {s : Sto} {r : Out × Ev × Sto}, whRun c body n ρ s = some r → whRun c body (n + 1) ρ s = some r
  | 0, _, _, _, h => by cases h
  | n + 1, ρ, s, r, h => by
    rw [whRun_eq] at h
    rw [whRun_eq]
    cases hc : c ρ s with
    | none => rw [hc] at h; cases h
    | some p =>
      obtain ⟨k, s1⟩ := p
      rw [hc] at h
      cases k with
      | false => exact h
      | true =>
        cases hb : body ρ s1 with
        | none => simp only [hb] at h; cases h
        | some q =>
          obtain ⟨out, ρ2, s2⟩ := q
          simp only [hb] at h ⊢
          cases out with
          | nx => exact whRun_succ h
          | ct => exact whRun_succ h
          | bk => exact h
          | rt r' => exact h
theorem whRun_le {c : Mt} {body : Ms} {n m : Nat} (h : n ≤ m) {ρ : Ev} {s : Sto} {r : Out × Ev × Sto} (e : whRun c body n ρ s = some r) : whRun c body m ρ s = some r := by
  induction h with
  | refl => exact e
  | step _ ih => exact whRun_succ ih
open Classical in
noncomputable def mWhile (c : Mt) (body : Ms) : Ms := fun ρ s => if h : ∃ (n : Nat) (r : Out × Ev × Sto), whRun c body n ρ s = some r then some (choose (choose_spec h)) else none
theorem mWhile_of {c : Mt} {body : Ms} {n : Nat} {ρ : Ev} {s : Sto} {r : Out × Ev × Sto} (e : whRun c body n ρ s = some r) : mWhile c body ρ s = some r := by
  have h : ∃ (n : Nat) (r : Out × Ev × Sto), whRun c body n ρ s = some r := ⟨n, r, e⟩
  unfold mWhile
  rw [dif_pos h]
  have q := Classical.choose_spec (Classical.choose_spec h)
  have a := whRun_le (Nat.le_max_left n (Classical.choose h)) e
  have b := whRun_le (Nat.le_max_right n (Classical.choose h)) q
  rw [a] at b
  exact b.symm
theorem mWhile_some {c : Mt} {body : Ms} {ρ : Ev} {s : Sto} {r : Out × Ev × Sto} (h : mWhile c body ρ s = some r) : ∃ n, whRun c body n ρ s = some r := by
  unfold mWhile at h
  split at h
  · rename_i q
    have p := Classical.choose_spec (Classical.choose_spec q)
    cases h
    exact ⟨_, p⟩
  · cases h
section
variable {X : Cx} {c : Expr} {tc : Mt} {body : List Stmt} {mb : Ms} {pos : Pos}
theorem rs_while {K : PySem.W.Frag} {D : Ends} {σ : L2.St} {H : Hp} (h : rdS K (mWhile tc mb) D σ H) : tWhile (rdT K tc) (rdS K mb) D σ H := by
  obtain ⟨C, fz, ρ, sto, out, ρ', sto', F, e, k⟩ := h
  obtain ⟨n, e⟩ := mWhile_some e
  let W : Nat → L2.St → Hp → Prop := fun m σ' H' => ∃ fz2 ρ2 s2, Fm K C fz2 ρ2 s2 σ' H' ∧ Sts C.sp fz H fz2 H' ∧ whRun tc mb m ρ2 s2 = some (out, ρ', sto')
  refine ⟨W, ⟨n, fz, ρ, sto, F, .refl, e⟩, ?_⟩
  rintro m σ2 H2 ⟨fz2, ρ2, s2, F2, S2, e2⟩
  cases m with
  | zero => cases e2
  | succ m =>
    unfold whRun at e2
    split at e2
    · cases e2
    · rename_i s3 e3
      cases e2
      exact ⟨C, fz2, ρ', s2, false, _, F2, e3, fun fz4 H4 st4 l4 => k fz4 σ2 H4 (F2.step st4 l4) (S2.trans st4.sts)⟩
    · rename_i s3 e3
      refine ⟨C, fz2, ρ2, s2, true, s3, F2, e3, fun fz4 H4 st4 l4 => ?_⟩
      have F4 := F2.step st4 l4
      have S4 := S2.trans st4.sts
      show ∃ N : L2.St → Hp → Prop, (∀ σ' H', N σ' H' → ∃ m', m' < m + 1 ∧ W m' σ' H') ∧ _
      refine ⟨fun σ' H' => W m σ' H', fun σ' H' w => ⟨m, Nat.lt_succ_self m, w⟩, ?_⟩
      split at e2
      · rename_i ρ5 s5 e5
        exact ⟨C, fz4, ρ2, s3, .nx, ρ5, s5, F4, e5, fun fz6 σ6 H6 F6 S6 => ⟨fz6, ρ5, s5, F6, S4.trans S6, e2⟩⟩
      · rename_i ρ5 s5 e5
        exact ⟨C, fz4, ρ2, s3, .ct, ρ5, s5, F4, e5, fun fz6 σ6 H6 F6 S6 => ⟨fz6, ρ5, s5, F6, S4.trans S6, e2⟩⟩
      · rename_i ρ5 s5 e5
        cases e2
        exact ⟨C, fz4, ρ2, s3, .bk, ρ', sto', F4, e5, fun fz6 σ6 H6 F6 S6 => k fz6 σ6 H6 F6 (S4.trans S6)⟩
      · rename_i r ρ5 s5 e5
        cases e2
        exact ⟨C, fz4, ρ2, s3, .rt r, ρ', sto', F4, e5, fun fz6 σ6 H6 F6 S6 => k fz6 σ6 H6 F6 (S4.trans S6)⟩
      · cases e2
theorem ss_while (hp : PassesOwn (model X.prog X.w) X.A X.env X.xe) (hc : SB X c tc) (hb : SL X body mb) : SS X (.While c body [] pos) (mWhile tc mb) := PS.imp (ps_while hp hc hb) fun _ _ _ h => rs_while h
end
def wipeE (ρ : Ev) : List Nat → Ev
  | [] => ρ
  | v :: vs => (wipeE ρ vs).set v none
theorem wipeE_length (ρ : Ev) : ∀ vs : List Nat, (wipeE ρ vs).length = ρ.length
  | [] => rfl
  | v :: vs => by unfold wipeE; rw [List.length_set, wipeE_length ρ vs]
theorem wipeE_some {ρ : Ev} {i : Nat} {c : Cl} : ∀ {vs : List Nat}, (wipeE ρ vs)[i]? = some (some c) → ρ[i]? = some (some c) ∧ i ∉ vs
  | [], h => ⟨h, by simp⟩
  | v :: vs, h => by
    unfold wipeE at h
    by_cases e : i = v
    · subst e
      by_cases hi : i < (wipeE ρ vs).length
      · rw [List.getElem?_set_self hi] at h; cases h
      · rw [List.getElem?_eq_none (by rw [List.length_set]; omega)] at h; cases h
    · rw [List.getElem?_set_ne (Ne.symm e)] at h
      obtain ⟨h1, h2⟩ := wipeE_some h
      exact ⟨h1, by simp [e, h2]⟩
section
variable {K : PySem.W.Frag} {C : Cn} {fz fz1 : Fz} {ρ : Ev} {sto sto' : Sto} {σ : L2.St} {H H1 : Hp}
theorem Fm.wipe (F : Fm K C fz ρ sto σ H) (vs : List Nat) : Fm K C fz (wipeE ρ vs) sto (L2.wipe σ vs) H where
  len := by rw [wipeE_length, wipe_length, F.len]
  st := F.st
  bs := F.bs
  vars := fun i c h => by
    obtain ⟨h1, h2⟩ := wipeE_some h
    have q := F.vars i c h1
    cases c with
    | d x => obtain ⟨u, e1, e2⟩ := q; exact ⟨u, (wipe_out h2).trans e1, e2⟩
    | o xs => obtain ⟨a, vs, e1, e2⟩ := q; exact ⟨a, vs, (wipe_out h2).trans e1, e2⟩
    | s => obtain ⟨a, ea, q⟩ := q; exact ⟨a, ea, (wipe_out h2).trans q⟩
    | m acc => obtain ⟨a, vs, e1, e2⟩ := q; exact ⟨a, vs, (wipe_out h2).trans e1, e2⟩
    | t acc => obtain ⟨a, vs, e1, e2⟩ := q; exact ⟨a, vs, (wipe_out h2).trans e1, e2⟩
  sep := fun i j xs ys a hij h1 h2 h3 h4 => by
    obtain ⟨g1, n1⟩ := wipeE_some h1
    obtain ⟨g2, n2⟩ := wipeE_some h2
    rw [wipe_out n1] at h3
    rw [wipe_out n2] at h4
    exact F.sep i j xs ys a hij g1 g2 h3 h4
/-- a list that nobody owns is written -/
theorem Fm.side (F : Fm K C fz ρ sto σ H) {D : Addr} {ws : List V} (hD : ∃ us, H D = some (.lst us)) (nf : ¬ fz D) (ns : some D ≠ C.sp) (n0 : C.H0 D = none) (no : ∀ (i : Nat) (xs : List PyData), ρ[i]? = some (some (Cl.o xs)) → σ[i]? ≠ some (some (V.ref D))) :
    Fm K C fz ρ sto σ (upd H D (.lst ws)) ∧ Sts C.sp fz H fz (upd H D (.lst ws)) := by
  obtain ⟨us, hD⟩ := hD
  have S : Sts C.sp fz H fz (upd H D (.lst ws)) := ⟨fun _ q => q, fun b o q n c => by
    have : b ≠ D := fun z => by
      subst z
      rcases c with c | c
      · exact nf c
      · rw [hD] at q; cases q; exact c.1 _ rfl
    rw [upd_ne this]; exact q⟩
  refine ⟨⟨F.len, ⟨F.st.mono, fun b o q n => ?_, F.st.new, fun t b q z => ?_⟩, ⟨?_, F.bs.nsp, fun b q z => ?_⟩, fun j c q => ?_, F.sep⟩, S⟩
  · have : b ≠ D := fun z => by subst z; rw [n0] at q; cases q
    rw [upd_ne this]; exact F.st.ext b o q n
  · by_cases e : b = D
    · subst e; rw [upd_same] at z; cases z
    · rw [upd_ne e] at z; exact F.st.trk t b q z
  · exact F.bs.spl.upd ns
  · by_cases e : b = D
    · subst e; rw [upd_same] at z; cases z
    · rw [upd_ne e] at z; exact F.bs.trk b q z
  · have g := F.vars j c q
    cases c with
    | d x => obtain ⟨u, g1, g2⟩ := g; exact ⟨u, g1, g2.sts S F.bs⟩
    | o us =>
      obtain ⟨b, ts, g1, g2, g3, g4, g5, g6⟩ := g
      have : b ≠ D := fun z => by subst z; exact no j us q g1
      exact ⟨b, ts, g1, by rw [upd_ne this]; exact g2, g3.sts S F.bs, g4, g5, g6⟩
    | s => exact g
    | m acc =>
      obtain ⟨b, ts, g1, g2, g3, g4, g5, g6⟩ := g
      have : b ≠ D := fun z => by subst z; rw [hD] at g2; cases g2
      exact ⟨b, ts, g1, by rw [upd_ne this]; exact g2, ⟨g3.1, g3.2.sts S F.bs⟩, g4, g5, g6⟩
    | t acc =>
      obtain ⟨b, ts, g1, g2, g3, g4, g5, g6⟩ := g
      have : b ≠ D := fun z => by subst z; rw [hD] at g2; cases g2
      exact ⟨b, ts, g1, by rw [upd_ne this]; exact g2, g3.sts S F.bs, g4, g5, g6⟩
end
def lcRun (vs : List Nat) (g : Gx) (t : Mt) (e : Mx) : List PyData → Ev → Sto → Option (List PyData × Sto)
  | [] => fun _ s => some ([], s)
  | x :: xs => fun ρ s => match g x (wipeE ρ vs) with
    | none => none
    | some ρ1 => match t ρ1 s with
      | none => none
      | some (false, s1) => lcRun vs g t e xs ρ s1
      | some (true, s1) => match e ρ1 s1 with
        | none => none
        | some (r, s2) => match toD r, lcRun vs g t e xs ρ s2 with
          | some y, some (ys, s3) => some (y :: ys, s3)
          | _, _ => none
def mLc (it : Mi) (vs : List Nat) (g : Gx) (t : Mt) (e : Mx) : Mx := fun ρ s => match it ρ s with
  | some (xs, s1) => match lcRun vs g t e xs ρ s1 with
    | some (ys, s2) => if ys.length ≤ sizeLine then some (.f ys, s2) else none
    | none => none
  | none => none
def mYes : Mt := fun _ s => some (true, s)
theorem wipe_agree {σ σ2 : L2.St} {vs is : List Nat} (hl : σ2.length = (wipe σ vs).length) (ho : ∀ i, i ∉ is → σ2[i]? = (wipe σ vs)[i]?) (hs : ∀ i, i ∈ is → i ∈ vs) : wipe σ2 vs = wipe σ vs := by
  have key : ∀ (τ : L2.St) (ws : List Nat) (i : Nat), (wipe τ ws)[i]? = if i ∈ ws then (if i < τ.length then some none else none) else τ[i]? := by
    intro τ ws
    induction ws with
    | nil => intro i; simp [wipe]
    | cons w ws ih =>
      intro i
      unfold wipe
      by_cases e : i = w
      · subst e
        by_cases hi : i < τ.length
        · rw [List.getElem?_set_self (by rw [wipe_length]; exact hi)]; simp [hi]
        · rw [List.getElem?_eq_none (by rw [List.length_set, wipe_length]; omega)]; simp [hi]
      · rw [List.getElem?_set_ne (Ne.symm e), ih i]
        simp [e]
  have hl' : σ2.length = σ.length := by rw [hl, wipe_length]
  apply List.ext_getElem?
  intro i
  rw [key σ2 vs i, key σ vs i, hl']
  by_cases hi : i ∈ vs
  · simp [hi]
  · simp only [hi, if_false]
    rw [ho i fun z => hi (hs i z), key σ vs i]
    simp [hi]
section
variable {K : PySem.W.Frag} {mi : Mi} {g : Gx} {is vs : List Nat} {mt : Mt} {me : Mx}
theorem rd_lc (hs : ∀ i, i ∈ is → i ∈ vs) {σ : L2.St} {H : Hp} {Q : VK} (h : rdE K (mLc mi vs g mt me) σ H Q) : tLc (rdI K mi) (rdG K is g) (rdT K mt) (rdE K me) vs σ H Q := by
  obtain ⟨C, fz, ρ, sto, z, sto', F, e, k⟩ := h
  unfold mLc at e
  split at e
  · rename_i xs s1 e1
    split at e
    · rename_i ys s2 e2
      split at e
      · rename_i hz
        cases e
        refine ⟨C, fz, ρ, sto, xs, s1, F, e1, fun J fz1 H1 st1 l1 G => ?_⟩
        have F1 := F.step st1 l1
        intro D hD
        have nD : some D ≠ C.sp := l1.ne hD (by intro z; cases z)
        have n0 : C.H0 D = none := F1.st.back nD hD
        have nfz : ¬ fz1 D := fun z => F1.bs.trk D z hD
        have noD : ∀ (i : Nat) (us : List PyData), ρ[i]? = some (some (Cl.o us)) → σ[i]? ≠ some (some (V.ref D)) := fun i us q1 q2 => by
          obtain ⟨a, ws, g1, g2, _⟩ := F1.owned q1
          rw [q2] at g1; cases g1
          rw [hD] at g2; cases g2
        let W : Nat → Nat → Hp → Prop := fun i m H' => m = xs.length - i ∧ i ≤ xs.length ∧ ∃ (fz2 : Fz) (s3 : Sto) (acc : List V) (ya yb : List PyData), Fm K C fz2 ρ s3 σ H' ∧ Stp C.sp fz1 H1 fz2 H' ∧ H' D = some (.lst acc) ∧ ImA K fz2 H' acc ya ∧ ¬ fz2 D ∧
          lcRun vs g mt me (xs.drop i) ρ s3 = some (yb, sto') ∧ ys = ya ++ yb
        have st2 : Stp C.sp fz1 H1 fz1 (upd H1 D (.lst [])) := .laid hD
        have l2 : SpL C.sp (upd H1 D (.lst [])) s1 := l1.upd nD
        refine ⟨W, ⟨xs.length, by simp, Nat.zero_le _, fz1, s1, [], [], ys, F1.step st2 l2, st2, upd_same, .nil, nfz, e2, rfl⟩, ?_⟩
        rintro i m H2 ⟨rfl, hi, fz2, s3, acc, ya, yb, F2, S2, hD2, im2, nf2, e3, ey⟩
        by_cases hlt : i < xs.length
        · have hx : xs[i]? = some xs[i] := List.getElem?_eq_getElem hlt
          rw [List.drop_eq_getElem_cons hlt] at e3
          unfold lcRun at e3
          split at e3
          · cases e3
          · rename_i ρ4 e4
            refine .inr ⟨G.go i fz2 H2 s3 hlt S2.sts F2.bs, fun H' => W (i + 1) (xs.length - (i + 1)) H', fun H' w => ⟨xs.length - (i + 1), by omega, w⟩, fun v H3 y => ?_⟩
            obtain ⟨st3, l3, im⟩ := G.yld i _ fz2 H2 s3 v H3 hx S2.sts F2.bs y
            have F3 := F2.step st3 l3
            refine ⟨C, fz2, wipeE ρ vs, s3, xs[i], ρ4, F3.wipe vs, im, e4, fun σ4 hl4 ho4 F4 => ?_⟩
            refine ⟨wipe_agree hl4 ho4 hs, ?_⟩
            have hD3 : H3 D = some (.lst acc) := st3.ext _ _ hD2 nD
            split at e3
            · cases e3
            · rename_i s5 e5
              refine ⟨C, fz2, ρ4, s3, false, s5, F4, e5, fun fz6 H6 st6 l6 => ?_⟩
              refine iteF ?_
              have F6 := F3.step st6 l6
              refine ⟨rfl, hlt, fz6, s5, acc, ya, yb, F6, (S2.trans st3).trans st6, st6.ext _ _ hD3 nD, (im2.stp st3 F2.bs).stp st6 F3.bs, fun z => ?_, e3, ey⟩
              rcases st6.new D z with z | ⟨_, z⟩
              · exact nf2 z
              · rw [hD3] at z; cases z
            · rename_i s5 e5
              refine ⟨C, fz2, ρ4, s3, true, s5, F4, e5, fun fz6 H6 st6 l6 => ?_⟩
              refine iteT ?_
              have F6 := F3.step st6 l6
              have F46 := F4.step st6 l6
              have hD6 : H6 D = some (.lst acc) := st6.ext _ _ hD3 nD
              split at e3
              · cases e3
              · rename_i r s7 e7
                split at e3
                · rename_i y ys' s8 ey' e8
                  cases e3
                  refine ⟨C, fz6, ρ4, s5, r, s7, F46, e7, fun w fz8 H8 st8 l8 i8 => ?_⟩
                  obtain ⟨fz9, F9, st9, im9⟩ := F6.keep st8 l8 i8 ey'
                  have hD8 : H8 D = some (.lst acc) := st8.ext _ _ hD6 nD
                  have nf9 : ¬ fz9 D := fun z => by
                    rcases st9.new D z with z | ⟨_, z⟩
                    · rcases st6.new D z with z | ⟨_, z⟩
                      · exact nf2 z
                      · rw [hD3] at z; cases z
                    · rw [hD6] at z; cases z
                  have ia : ImA K fz9 H8 acc ya := ((im2.stp st3 F2.bs).stp st6 F3.bs).stp st9 F6.bs
                  have il : acc.length = ya.length := ia.length
                  refine ⟨acc, hD8, ?_, rfl, hlt, fz9, s7, acc ++ [w], ya ++ [y], ys', ?_⟩
                  · rw [il]
                    have := congrArg List.length ey
                    rw [List.length_append, List.length_cons] at this
                    omega
                  · obtain ⟨F10, S10⟩ := F9.side (ws := acc ++ [w]) ⟨acc, hD8⟩ nf9 nD n0 noD
                    have st10 : Stp C.sp fz1 H1 fz9 (upd H8 D (.lst (acc ++ [w]))) := by
                      have q := (((S2.trans st3).trans st6).trans st9)
                      refine ⟨q.mono, fun b o qb n => ?_, q.new, fun t b qb z => ?_⟩
                      · have : b ≠ D := fun z => by subst z; rw [hD] at qb; cases qb
                        rw [upd_ne this]; exact q.ext b o qb n
                      · by_cases eb : b = D
                        · subst eb; rw [upd_same] at z; cases z
                        · rw [upd_ne eb] at z; exact q.trk t b qb z
                    exact ⟨F10, st10, upd_same, (ia.append (.cons im9 .nil)).sts S10 F9.bs, nf9, e8, by rw [ey, List.append_assoc]; rfl⟩
                · cases e3
        · have ei : i = xs.length := by omega
          subst ei
          rw [List.drop_length] at e3
          cases e3
          refine .inl ⟨G.stop fz2 H2 _ S2.sts F2.bs, ?_⟩
          refine k _ fz2 H2 (st1.trans S2) F2.bs.spl ⟨D, acc, rfl, hD2, ?_, nf2, nD, st1.back nD hD⟩
          rw [ey, List.append_nil]
          exact im2
      · cases e
    · cases e
  · cases e
end
section
variable {X : Cx} {elt tg iter : Expr} {ifs : List Expr} {scope : Scope} {own : List (Str × Nat)} {pos : Pos} {is : List Nat} {mi : Mi} {g : Gx} {mt : Mt} {me : Mx}
def STs (X : Cx) (ifs : List Expr) (t : Mt) : Prop := PTs X ifs (rdT X.K t)
theorem sts_nil : STs X [] mYes := ⟨fun pins s σ H Q I w => pts_nil.run pins s σ H Q I (by
  obtain ⟨C, fz, ρ, sto, r, sto', F, e, k⟩ := w
  cases e
  exact k fz H .refl F.bs.spl)⟩
theorem sts_one {c : Expr} {t : Mt} (h : SB X c t) : STs X [c] t := pts_one h
theorem se_lc (hc : X.calm = true) (hN : X.N.Nodup) (hi : SI X tg iter mi) (ok : BlkOk X.N X.env.scope scope own) (hs : ∀ i, i ∈ is → i ∈ own.map (·.2))
    (hg : ∀ (s : Shared) (H : Hp) (C : Addr) (cl : List (Str × Addr)) (fp : List Addr), SG (X.blk s H scope (compEnvC scope cl C X.env) fp) tg is g) (ht : ∀ (s : Shared) (H : Hp) (C : Addr) (cl : List (Str × Addr)) (fp : List Addr), STs (X.blk s H scope (compEnvC scope cl C X.env) fp) ifs mt)
    (he : ∀ (s : Shared) (H : Hp) (C : Addr) (cl : List (Str × Addr)) (fp : List Addr), SE (X.blk s H scope (compEnvC scope cl C X.env) fp) elt me) (hf : ∀ x, foldedSetIterable iter X.env x = pure x := by intro _; rfl) :
    SE X (.ListComp elt [⟨tg, iter, ifs, 0⟩] scope pos) (mLc mi (own.map (·.2)) g mt me) := PE.imp (pe_lc (g := rdG X.K is g) (tt := rdT X.K mt) (te := rdE X.K me) hc hN hi ok hg ht he hf) fun _ _ _ h => rd_lc hs h
/-- name = [..] -/
theorem ss_setLc {i : Nat} {y : Str} {py spos : Pos} (hc : X.calm = true) (hN : X.N.Nodup) (hy : X.N[i]? = some y) (hyl : X.env.scope.names.lookup y = some .local)
    (hsw : swapsWith (.ListComp elt [⟨tg, iter, ifs, 0⟩] scope pos) (some (.Name y py)) spos.line X.env = pure true) (hi : SI X tg iter mi) (ok : BlkOk X.N X.env.scope scope own) (hs : ∀ i, i ∈ is → i ∈ own.map (·.2))
    (hg : ∀ (s : Shared) (H : Hp) (C : Addr) (cl : List (Str × Addr)) (fp : List Addr), SG (X.blk s H scope (compEnvC scope cl C X.env) fp) tg is g) (ht : ∀ (s : Shared) (H : Hp) (C : Addr) (cl : List (Str × Addr)) (fp : List Addr), STs (X.blk s H scope (compEnvC scope cl C X.env) fp) ifs mt)
    (he : ∀ (s : Shared) (H : Hp) (C : Addr) (cl : List (Str × Addr)) (fp : List Addr), SE (X.blk s H scope (compEnvC scope cl C X.env) fp) elt me) (hf : ∀ x, foldedSetIterable iter X.env x = pure x := by intro _; rfl) :
    SS X (.Assign [.Name y py] (.ListComp elt [⟨tg, iter, ifs, 0⟩] scope pos) spos) (mSet i (mLc mi (own.map (·.2)) g mt me)) :=
  PS.impI (ps_setLc (g := rdG X.K is g) (tt := rdT X.K mt) (te := rdE X.K me) hc hN hy hyl hsw hi ok hg ht he hf) fun D σ H hl h => by
    obtain ⟨C, fz, ρ, sto, out, ρ', sto', F, e, k⟩ := h
    have : rdE X.K (mLc mi (own.map (·.2)) g mt me) σ H (fun x H1 => gName i x σ H1 D.nx) := by
      unfold mSet at e
      split at e
      · rename_i r s1 e1
        split at e
        · rename_i c ec
          cases e
          exact ⟨C, fz, ρ, sto, r, _, F, e1, fun v fz1 H1 st1 l1 i1 => k fz1 _ H1 (F.give st1 l1 i1 ec (lt_of_slot hy hl)) st1.sts⟩
        · cases e
      · cases e
    exact rd_lc hs this
end
end Dh
namespace Dh
open PySem PySem.Spec L2 RZ
section
variable {K : PySem.W.Frag} {sp : Option Addr} {fz fz1 : Fz} {H H1 : Hp} {sto : Sto}
theorem Goes.of {J : It} {n : Nat} {G : Hp → Prop} {Y : Nat → Hp → V → Hp → Prop} {xs : List PyData} (w : Walk J n G Y) (hn : xs.length = n) (hg : ∀ fz1 H1 sto, Sts sp fz H fz1 H1 → Bs sp fz1 H1 sto → G H1)
    (hy : ∀ (i : Nat) (x : PyData) fz1 H1 sto v H2, xs[i]? = some x → Sts sp fz H fz1 H1 → Bs sp fz1 H1 sto → Y i H1 v H2 → Stp sp fz1 H1 fz1 H2 ∧ SpL sp H2 sto ∧ Im K fz1 H2 v x) : Goes K sp fz H J xs where
  go := fun i fz1 H1 sto hi s B => w.goes i H1 (by rw [← hn]; exact hi) (hg fz1 H1 sto s B)
  stop := fun fz1 H1 sto s B => by rw [hn]; exact w.stops H1 (hg fz1 H1 sto s B)
  yld := fun i x fz1 H1 sto v H2 hx s B y => hy i x fz1 H1 sto v H2 hx s B (w.yields i H1 v H2 (by rw [← hn]; exact (List.getElem?_eq_some_iff.mp hx).1) (hg fz1 H1 sto s B) y)
theorem goes_list {a : Addr} {vs : List V} {xs : List PyData} (h : FzL K fz H a vs) (im : ImA K fz H vs xs) (B0 : Bs sp fz H sto) : Goes K sp fz H (Itl K a) xs :=
  .of (walk_list (xs := vs)) im.length.symm (fun fz1 H1 sto s B => (h.sts s B0).sq) fun i x fz1 H1 sto v H2 hx s B y => by
    obtain ⟨rfl, e⟩ := y
    obtain ⟨w, hw, iw⟩ := im.at i x hx
    rw [e] at hw; cases hw
    exact ⟨.refl, B.spl, iw.sts s B0⟩
theorem goes_tup {a : Addr} {vs : List V} {xs : List PyData} (h : SqT K H a vs) (im : ImA K fz H vs xs) (B0 : Bs sp fz H sto) : Goes K sp fz H (Itt K a) xs :=
  .of (walk_tup (xs := vs)) im.length.symm (fun fz1 H1 sto s B => SqT.sts s B0 h) fun i x fz1 H1 sto v H2 hx s B y => by
    obtain ⟨rfl, e⟩ := y
    obtain ⟨w, hw, iw⟩ := im.at i x hx
    rw [e] at hw; cases hw
    exact ⟨.refl, B.spl, iw.sts s B0⟩
def rangeL (lo : Int) (n : Nat) : List PyData := (List.range n).map fun i => PyData.int (lo + (i : Nat))
theorem goes_range {lo : Int} {n : Nat} : Goes K sp fz H (Itr lo n) (rangeL lo n) :=
  .of walk_range (by unfold rangeL; rw [List.length_map, List.length_range]) (fun _ _ _ _ _ => trivial) fun i x fz1 H1 sto v H2 hx s B y => by
    obtain ⟨rfl, rfl⟩ := y
    unfold rangeL at hx
    rw [List.getElem?_map] at hx
    cases q : (List.range n)[i]? with
    | none => rw [q] at hx; cases hx
    | some j =>
      rw [q] at hx
      cases hx
      have : j = i := by
        obtain ⟨h1, h2⟩ := List.getElem?_eq_some_iff.mp q
        rw [List.getElem_range] at h2
        exact h2.symm
      subst this
      exact ⟨.refl, B.spl, .int _⟩
def pairs (xs ys : List PyData) : List PyData := (xs.zip ys).map fun p => PyData.tuple [p.1, p.2]
theorem pairs_at {xs ys : List PyData} {i : Nat} {z : PyData} (h : (pairs xs ys)[i]? = some z) : ∃ x y, xs[i]? = some x ∧ ys[i]? = some y ∧ z = .tuple [x, y] := by
  unfold pairs at h
  rw [List.getElem?_map] at h
  cases q : (xs.zip ys)[i]? with
  | none => rw [q] at h; cases h
  | some p =>
    rw [q] at h; cases h
    rw [List.getElem?_zip_eq_some] at q
    exact ⟨p.1, p.2, q.1, q.2, rfl⟩
/-- a new pair -/
theorem pair_new {H2 : Hp} {v w : V} {x y : PyData} {T : Addr} {o : Obj} (B : Bs sp fz H sto) (i1 : Im K fz H v x) (i2 : Im K fz H w y) (hT : H T = none) (hd : o.dict = none) (e : H2 = upd H T (.frz o (.tup [v, w]))) : Stp sp fz H fz H2 ∧ SpL sp H2 sto ∧ Im K fz H2 (.ref T) (.tuple [x, y]) := by
  subst e
  exact new_tup B (.cons i1 (.cons i2 .nil)) hT hd
end
section
variable {X : Cx} {tg l : Expr} {ml : Mx} {pos : Pos}
theorem pi_seq {tl : TE} (hl : PE X l tl) : PI X tg l (fun σ H R => tl σ H fun x H1 => ∃ a, x = .ref a ∧ (((∃ xs, SqL X.K H1 a xs) ∧ R (Itl X.K a) H1) ∨ ((∃ xs, SqT X.K H1 a xs) ∧ R (Itt X.K a) H1))) := ⟨fun pins s σ H R I h => by
  refine thn (hl.run pins s σ H _ I h) ?_
  rintro v s1 ⟨x, H1, I1, r1, a, rfl, q⟩
  cases r1
  have fr : ∀ b ∈ [s1.heap.objs.size], FpOk X pins H1 b := fun b hb => by
    rw [List.mem_singleton] at hb
    subst hb
    exact I1.fpOk (Nat.le_refl _) (I1.hok.fresh (Nat.le_refl _))
  rcases q with ⟨⟨xs, hq⟩, q⟩ | ⟨⟨xs, hq⟩, q⟩
  · obtain ⟨its, _, p, _⟩ := I1.list hq
    exact wpAny_pyIter_list p.isList ⟨_, _, _, _, H1, rfl, I1.kept (t' := s1.toks) (fun b o e => Heap.get?_push_of_some _ e), turn_list a _, ⟨_, Heap.get?_push_size _ rfl, rfl, rfl⟩, fr, q⟩
  · obtain ⟨its, _, p, _⟩ := I1.tuple hq
    exact wpAny_pyIter_tuple (show s1.heap.IsTuple a its.toArray from p) ⟨_, _, _, _, H1, rfl, I1.kept (t' := s1.toks) (fun b o e => Heap.get?_push_of_some _ e), turn_tuple a _, ⟨_, Heap.get?_push_size _ rfl, rfl, rfl⟩, fr, q⟩⟩
/-- the items of a list that stays, of one just made, of a tuple -/
def itemsOf : R → Option (List PyData)
  | .d (.list xs) => some xs
  | .d (.tuple xs) => some xs
  | .f xs => some xs
  | _ => none
def mSeqI (a : Mx) : Mi := bnd a fun x _ => ret (itemsOf x)
theorem si_seq (hl : SE X l ml) : SI X tg l (mSeqI ml) := PI.imp (pi_seq hl) fun σ H R h => by
  obtain ⟨C, fz, ρ, sto, xs, sto', F, e, k⟩ := h
  obtain ⟨x, s1, ea, e1⟩ := bnd_some e
  obtain ⟨ef, rfl⟩ := ret_some e1
  clear e e1
  refine ⟨C, fz, ρ, sto, x, _, F, ea, fun v fz1 H1 st1 l1 i1 => ?_⟩
  have B1 := F.bs.step st1 l1
  unfold itemsOf at ef
  split at ef
  · cases ef
    cases i1 with
    | lst h im => exact ⟨_, rfl, .inl ⟨⟨_, h.sq⟩, k _ fz1 H1 st1 l1 (goes_list h im B1)⟩⟩
  · cases ef
    cases i1 with
    | tup h im => exact ⟨_, rfl, .inr ⟨⟨_, h.sq⟩, k _ fz1 H1 st1 l1 (goes_tup h.sq im B1)⟩⟩
  · cases ef
    obtain ⟨a, vs, rfl, h1, h2, h3, h4, h5⟩ := i1
    have st2 := st1.freeze h5 h4 h1
    exact ⟨a, rfl, .inl ⟨⟨vs, .inl (.inl h1)⟩, k _ _ H1 st2 l1 (goes_list (.inl ⟨h1, .inr rfl⟩) (h2.fzm fun b q => .inl q) (F.bs.step st2 l1))⟩⟩
  · cases ef
def range1 : List R → Option (List PyData)
  | [.d (.int j)] => if -(2 ^ 62) ≤ j ∧ j < 2 ^ 62 then some (rangeL 0 j.toNat) else none
  | _ => none
def mArgI (f : List R → Option (List PyData)) (a : Ma) : Mi := bnd a fun x _ => ret (f x)
variable {a b : Expr} {m : Ma} {p : Pos}
theorem si_range1 (ha : SA X [a] m) (hm : X.mg "range" = none) (hg : Gl X "range" := by rfl) (hs : starEach [a] X.env = [(false, eval a X.env)] := by rfl) : SI X tg (.Call (.Name "range" p) [a] [] pos) (mArgI range1 m) := PI.imp (pi_range1 hg hm ha hs) fun σ H R h => by
  obtain ⟨C, fz, ρ, sto, xs, sto', F, e, k⟩ := h
  obtain ⟨x, s1, ea, e1⟩ := bnd_some e
  obtain ⟨ef, rfl⟩ := ret_some e1
  clear e e1
  refine ⟨C, fz, ρ, sto, x, _, F, ea, fun v fz1 H1 st1 l1 i1 => ?_⟩
  unfold range1 at ef
  split at ef
  · split at ef
    · rename_i hz
      cases ef
      cases i1 with
      | cons i1 t =>
        cases t; cases i1
        exact ⟨_, rfl, hz.1, hz.2, k _ fz1 H1 st1 l1 goes_range⟩
    · cases ef
  · cases ef
end
end Dh
namespace Dh
open PySem PySem.Spec L2 PySem.W
/-- a def's promise, called where no repr is under way -/
structure FnG (P : Program) (w : World) (K : PySem.W.Frag) (mg : Str → Option Value) (base : Heap) (k : Nat) (f : Addr) (fd : FuncData) (ps : List Str) (sp : Sp) : Prop where
  len : ∀ vs H Q E, sp vs H Q E → vs.length = ps.length
  run : ∀ (A : Around) (outer : List Env) (s : Shared) (H : Hp) (args : Args) (us : List Value) (vs : List V) (Q : VK), Room k A → A.guards = some [] → Env0 P w K mg base A outer s H → BindsTo s fd args (ps.zip us) → Vals vs us → sp vs H Q E0 →
    codeAny (model P w) A (.call (.ref f) args) (CR CX0 outer P w H s Q E0) s
theorem FnG.mono {P : Program} {w : World} {K : PySem.W.Frag} {mg : Str → Option Value} {base : Heap} {j k : Nat} {f : Addr} {fd : FuncData} {ps : List Str} {sp : Sp} (F : FnG P w K mg base j f fd ps sp) (h : j ≤ k) : FnG P w K mg base k f fd ps sp :=
  ⟨F.len, fun A outer s H args us vs Q hr => F.run A outer s H args us vs Q (hr.mono h)⟩
def ArgOk (K : PySem.W.Frag) (fz : Fz) (sp : Option Addr) (H : Hp) (v : V) : Cl → Prop
  | .d x => Im K fz H v x
  | .s => IsS sp v
  | .o _ => False
  | .m _ => False
  | .t _ => False
abbrev Fx := List Cl → Sto → Option (R × Sto)
/-- the promise of a def that computes g -/
def spOf (K : PySem.W.Frag) (n : Nat) (g : Fx) : Sp := fun vs H Q _ => ∃ (sp : Option Addr) (fz : Fz) (cs : List Cl) (sto : Sto) (r : R) (sto' : Sto), cs.length = n ∧ Paired (ArgOk K fz sp H) vs cs ∧ Bs sp fz H sto ∧ g cs sto = some (r, sto') ∧
  ∀ v fz' H', Stp sp fz H fz' H' → SpL sp H' sto' → ImR K sp H fz' H' v r → Q v H'
/-- a body as a function of its arguments; n slots -/
def run (n : Nat) (m : Ms) : Fx := fun cs s => match m (cs.map some ++ List.replicate (n - cs.length) none) s with
  | some (.rt r, _, s') => some (r, s')
  | some (.nx, _, s') => some (.d .none, s')
  | _ => none
theorem start_cells (N : List Str) (cs : List Cl) (vs : List V) (h : vs.length = cs.length) : (cs.map some ++ List.replicate (N.length - cs.length) (none : Option Cl)).length = (L2.start N vs).length := by
  unfold L2.start
  simp only [List.length_append, List.length_map, List.length_replicate, h]
theorem pLen {α β : Type} {R : α → β → Prop} : ∀ {l₁ : List α} {l₂ : List β}, Paired R l₁ l₂ → l₁.length = l₂.length
  | _, _, .nil => rfl
  | _, _, .cons _ t => by rw [List.length_cons, List.length_cons, pLen t]
theorem pAt {α β : Type} {R : α → β → Prop} : ∀ {l₁ : List α} {l₂ : List β}, Paired R l₁ l₂ → ∀ (i : Nat) (b : β), l₂[i]? = some b → ∃ a, l₁[i]? = some a ∧ R a b
  | _, _, .nil, i, b, h => by simp at h
  | _, _, .cons r t, 0, b, h => by simp at h; subst h; exact ⟨_, rfl, r⟩
  | _, _, .cons r t, i + 1, b, h => by
    simp only [List.getElem?_cons_succ] at h ⊢
    exact pAt t i b h
section
variable {P : Program} {w : World} {K : PySem.W.Frag} {mg : Str → Option Value} {base : Heap}
/-- the frame at a def's entry -/
theorem fm_start {N : List Str} {sp : Option Addr} {fz : Fz} {cs : List Cl} {sto : Sto} {vs : List V} {H : Hp} (a : Paired (ArgOk K fz sp H) vs cs) (B : Bs sp fz H sto) : Fm K ⟨sp, fz, H⟩ fz (cs.map some ++ List.replicate (N.length - cs.length) none) sto (L2.start N vs) H := by
  have key : ∀ (i : Nat) (c : Cl), (cs.map some ++ List.replicate (N.length - cs.length) (none : Option Cl))[i]? = some (some c) → cs[i]? = some c ∧ ∃ v, (L2.start N vs)[i]? = some (some v) ∧ ArgOk K fz sp H v c := by
    intro i c h
    by_cases hi : i < cs.length
    · rw [List.getElem?_append_left (by rw [List.length_map]; exact hi), List.getElem?_map] at h
      cases q : cs[i]? with
      | none => rw [q] at h; cases h
      | some d =>
        rw [q] at h
        cases h
        obtain ⟨v, hv, r⟩ := pAt a i c q
        refine ⟨rfl, v, ?_, r⟩
        unfold L2.start
        rw [List.getElem?_append_left (by rw [List.length_map, (pLen a)]; exact hi), List.getElem?_map, hv]
        rfl
    · rw [List.getElem?_append_right (by rw [List.length_map]; omega), List.getElem?_replicate] at h
      split at h <;> cases h
  refine ⟨start_cells N cs vs (pLen a), .refl, B, fun i c h => ?_, fun i j xs ys b hij h1 h2 => ?_⟩
  · obtain ⟨_, v, hv, r⟩ := key i c h
    cases c with
    | d x => exact ⟨v, hv, r⟩
    | o xs => exact False.elim r
    | s => obtain ⟨a, ea, rfl⟩ := (show IsS sp v from r); exact ⟨a, ea, hv⟩
    | m acc => exact False.elim r
    | t acc => exact False.elim r
  · obtain ⟨_, v, hv, r⟩ := key i _ h1
    exact False.elim r
/-- A DEF: its body as the function m -/
theorem fnG_of {x qual : Str} {st : Stmt} {f : Addr} {fd : FuncData} {N ps : List Str} {k : Nat} {m : Ms} (F : Fun K x qual st f fd) (S : FnScope N ps (defScope st))
    (hb : ∀ (cdv : Value) (A : Around) (outer : List Env) (s : Shared) (H : Hp) (E : XK), Room k (A.deeper (PyProof.Rows.envOfC qual (defScope st) s.heap.objs.size f cdv)) → A.guards = some [] → SL (cxOf CX0 P w K mg base N qual (defScope st) f cdv A outer s H E).nox (defBody st) m) :
    FnG P w K mg base (k + 1) f fd ps (spOf K ps.length (run N.length m)) := by
  obtain ⟨oc, od, kV, doc, pm, an, cdv, ct, osl, rfl, lk, hcd⟩ := F.ex
  have hlen : ∀ vs H Q E, spOf K ps.length (run N.length m) vs H Q E → vs.length = ps.length := by
    rintro vs H Q E ⟨sp, fz, cs, sto, r, sto', hl, a, _⟩
    rw [(pLen a), hl]
  refine ⟨hlen, fun A outer s H args us vs Q hr hg e0 bd rv hsp => ?_⟩
  have hl : vs.length = ps.length := hlen vs H Q E0 hsp
  have hK : K.In s.heap := e0.mod.kin.keeps fun b o q => (e0.bs b o q).1
  have hkind : ∀ y ∈ ps.zip us, (defScope st).names.lookup y.1 = some .local ∨ ((defScope st).names.lookup y.1 = some .cell ∧ ((cellsFrom (s.heap.objs.size + 1) (defScope st).names []).lookup y.1).isSome = true) := by
    rintro ⟨n, v⟩ hy
    rcases S.par n (List.of_mem_zip hy).1 with q | q
    · left; exact q
    · right; exact ⟨q, PySem.W.cellsFrom_some _ _ _ (.inl q)⟩
  have lim := e0.mod.nolimit.keeps fun b o q => (e0.bs b o q).1
  refine codeAny_call_function hr.depth (hK _ _ lk) rfl S.co S.gen rfl (PySem.W.codeRec_of hK hcd) (bd _ _ _ _ (wpAny_newFunctionEnv_cells S.kind hkind ?_))
  rintro env rfl s1 hx
  refine ⟨lim.keeps hx.toInCall.keep, codeAny_func ?_⟩
  obtain ⟨sp, fz, cs, sto, r, sto', hc, a, B, e, q⟩ := hsp
  have I0 := inv_start (CX := CX0) (P := P) (K := K) (mg := mg) (base := base) (E := E0) S hr.hd e0 hl rv hx
  have hbody := (hb cdv A outer s H E0 (hr.deeper _) hg).nox
  have F0 : Fm K ⟨sp, fz, H⟩ fz (cs.map some ++ List.replicate (N.length - cs.length) none) sto (L2.start N vs) H := fm_start a B
  have hrd : rdS K m { nx := fun _ H' => Q .non H', rt := Q } (L2.start N vs) H := by
    unfold run at e
    split at e
    · rename_i r' ρ' s' em
      cases e
      exact ⟨⟨sp, fz, H⟩, fz, _, sto, .rt r, ρ', sto', F0, em, fun fz' σ' H' F' S' v i => q v fz' H' F'.st F'.bs.spl i⟩
    · rename_i ρ' s' em
      cases e
      exact ⟨⟨sp, fz, H⟩, fz, _, sto, .nx, ρ', sto', F0, em, fun fz' σ' H' F' S' => q .non fz' H' F'.st F'.bs.spl .non⟩
    · cases e
  refine wpAny_mono (hbody.run [] s1 (L2.start N vs) H _ I0 hrd) (fun fl s' hs => ?_) fun _ _ z => z
  cases fl with
  | ret u =>
    obtain ⟨v, σ', H', J, rv', qv⟩ := hs
    exact ⟨v, H', J.os, J.bare, J.base, J.hok, rv', qv⟩
  | next =>
    obtain ⟨σ', H', J, qv⟩ := hs
    exact ⟨.non, H', J.os, J.bare, J.base, J.hok, rfl, qv⟩
  | brk => obtain ⟨_, _, _, z⟩ := hs; exact z.elim
  | cont => obtain ⟨_, _, _, z⟩ := hs; exact z.elim
end
def toArg : R → Option Cl
  | .d x => some (.d x)
  | .f xs => some (.d (.list xs))
  | .s => some .s
  | _ => none
def toArgs : List R → Option (List Cl)
  | [] => some []
  | r :: rs => match toArg r, toArgs rs with
    | some x, some xs => some (x :: xs)
    | _, _ => none
/-- a call; π: where each parameter's value stands among the written ones -/
def mCall (g : Fx) (a : Ma) : Mx := bnd a fun rs _ s => match toArgs rs with
  | some cs => g cs s
  | none => none
section
variable {K : PySem.W.Frag} {sp : Option Addr} {fz fz1 : Fz} {H H1 : Hp} {sto : Sto}
theorem ArgOk.fzm {v : V} {c : Cl} (h : ArgOk K fz sp H v c) (g : ∀ a, fz a → fz1 a) : ArgOk K fz1 sp H v c := by
  cases c with
  | d x => exact Im.fzm g h
  | o x => exact h
  | s => exact h
  | m x => exact h
  | t x => exact h
theorem ImRs.args : ∀ {vs : List V} {rs : List R} {cs : List Cl} {fz1 : Fz}, ImRs K sp H fz1 H1 vs rs → toArgs rs = some cs → ∀ fzA : Fz, Stp sp fz H fzA H1 → Bs sp fzA H1 sto → (∀ a, fz1 a → fzA a) →
    ∃ fz2 : Fz, Stp sp fz H fz2 H1 ∧ Bs sp fz2 H1 sto ∧ (∀ a, fzA a → fz2 a) ∧ Paired (ArgOk K fz2 sp H1) vs cs
  | _, _, _, _, .nil, e, fzA, sA, BA, g => by
    cases e
    exact ⟨fzA, sA, BA, fun _ h => h, .nil⟩
  | _, _, _, fz1, .cons (a := v) (b := r) h t, e, fzA, sA, BA, g => by
    unfold toArgs at e
    split at e
    · rename_i x xs e1 e2
      cases e
      have : ∃ fzB : Fz, Stp sp fz H fzB H1 ∧ Bs sp fzB H1 sto ∧ (∀ a, fzA a → fzB a) ∧ ArgOk K fzB sp H1 v x := by
        unfold toArg at e1
        split at e1
        · cases e1
          exact ⟨fzA, sA, BA, fun _ h => h, Im.fzm g h⟩
        · cases e1
          obtain ⟨a, vs, rfl, h1, h2, h3, h4, h5⟩ := h
          refine ⟨_, sA.freeze h5 h4 h1, ⟨BA.spl, fun c ec q => ?_, fun b q z => ?_⟩, fun b q => .inl q, .lst (.inl ⟨h1, .inr rfl⟩) (h2.fzm fun b q => .inl (g b q))⟩
          · rcases q with q | q
            · exact BA.nsp c ec q
            · exact h4 (by subst q; exact ec.symm)
          · rcases q with q | q
            · exact BA.trk b q z
            · subst q; rw [h1] at z; cases z
        · cases e1
          exact ⟨fzA, sA, BA, fun _ h => h, h⟩
        · cases e1
      obtain ⟨fzB, sB, BB, gB, iB⟩ := this
      obtain ⟨fz2, s2, B2, g2, i2⟩ := ImRs.args t e2 fzB sB BB fun a q => gB a (g a q)
      exact ⟨fz2, s2, B2, fun a q => g2 a (gB a q), .cons (iB.fzm g2) i2⟩
    · cases e
end
section
variable {X : Cx} {k : Nat} {f : Addr} {fd : FuncData} {ps : List Str} {x : Str} {p pos : Pos} {e : Expr} {es : List Expr} {m : Ma} {g : Fx}
theorem run_fnG {sp : Sp} {pins : List (Addr × Obj)} {σ : L2.St} {H : Hp} {s : Shared} {Q : VK} {us : List Value} {vs : List V} {args : Args} (F : FnG X.prog X.w X.K X.mg X.base k f fd ps sp) (hr : Room k X.A) (hg : X.A.guards = some [])
    (I : Inv X pins σ H s) (hb : BindsTo s fd args (ps.zip us)) (r : Vals vs us) (h : sp vs H Q E0) : codeAny (model X.prog X.w) X.A (.call (.ref f) args) (fun r s' => match r with | .ok (.ret u) => EP X pins σ Q u s' | .ok _ => False | .error e => X.xe e s') s := by
  refine codeAny_mono (F.run X.A X.stack s H args us vs Q hr hg I.env0 hb r h) fun res s' hq => ?_
  match res, hq with
  | .error e, hq => exact False.elim hq
  | .ok (.ret u), hq => exact I.after hq
  | .ok .next, hq => exact False.elim hq
  | .ok .brk, hq => exact False.elim hq
  | .ok .cont, hq => exact False.elim hq
def tCallG (sp : Sp) (t : TA) : TE := fun σ H Q => t σ H fun vs H1 => sp vs H1 Q E0
theorem pe_callG {sp : Sp} {t : TA} (F : FnG X.prog X.w X.K X.mg X.base k f fd ps sp) (hr : Room k X.A) (hgd : X.A.guards = some []) (hm : X.mg x = some (.ref f)) (hk : PySem.W.keepIn X.K (.ref f) = true) (hb : Binds X.K fd ps []) (ha : PA X (e :: es) t) (hg : Gl X x)
    (hdb : (x == ("__debug__" : Str)) = false := by decide) (he : starEach (e :: es) X.env = (false, eval e X.env) :: starEach es X.env := by rfl) (hpl : (backTo pos (starEach es X.env)).any (·.1) = false := by rfl) :
    PE X (.Call (.Name x p) (e :: es) [] pos) (tCallG sp t) := ⟨fun pins s σ H Q I h => by
  refine wpAny_Call_Name_kw (ld_glob I hg hm (PySem.W.callWith_K (h₀ := X.base) I.ok.mod.kin hk (thn (ha.run pos pins s σ H _ I h) ?_) he hpl) hdb)
  rintro us s1 ⟨vs, H1, I1, r, q⟩
  have hl : (us ++ []).length = ps.length := by rw [List.append_nil, ← r.length]; exact F.len _ _ _ _ q
  have b := hb s1 us I1.kIn hl
  rw [List.append_nil] at b
  refine ⟨I1.kIn, wpAny_call (codeAny_mono (run_fnG F hr hgd I1 b r q) fun res s' hq => ?_)⟩
  match res, hq with
  | .error e, hq => exact hq
  | .ok (.ret u), hq => exact hq
  | .ok .next, hq => exact False.elim hq
  | .ok .brk, hq => exact False.elim hq
  | .ok .cont, hq => exact False.elim hq⟩
theorem rd_call {K : PySem.W.Frag} {n : Nat} {σ : L2.St} {H : Hp} {Q : VK} (hn : ∀ cs s r, g cs s = some r → cs.length = n) (h : rdE K (mCall g m) σ H Q) : tCallG (spOf K n g) (rdA K m) σ H Q := by
  obtain ⟨C, fz, ρ, sto, z, sto', F, e, k⟩ := h
  obtain ⟨rs, s1, ea, e1⟩ := bnd_some e
  clear e
  split at e1
  · rename_i cs ec
    refine ⟨C, fz, ρ, sto, rs, s1, F, ea, fun vs fz1 H1 st1 l1 i1 => ?_⟩
    obtain ⟨fz2, st2, B2, _, a⟩ := ImRs.args i1 ec fz1 st1 (F.bs.step st1 l1) fun _ h => h
    exact ⟨C.sp, fz2, cs, s1, z, sto', hn cs s1 _ e1, a, B2, e1, fun v fz3 H3 st3 l3 i3 => k v fz3 H3 (st2.trans st3) l3 (i3.early st2)⟩
  · cases e1
/-- a def of n parameters -/
def run' (n l : Nat) (m : Ms) : Fx := fun cs s => if cs.length = n then run l m cs s else none
theorem run'_len {n l : Nat} {m : Ms} : ∀ cs s r, run' n l m cs s = some r → cs.length = n := fun cs s r h => by
  unfold run' at h
  split at h
  · assumption
  · cases h
theorem spOf_run' {K : PySem.W.Frag} {n l : Nat} {m : Ms} {vs : List V} {H : Hp} {Q : VK} {E : XK} (h : spOf K n (run' n l m) vs H Q E) : spOf K n (run l m) vs H Q E := by
  obtain ⟨sp, fz, cs, sto, r, sto', hl, a, B, e, q⟩ := h
  unfold run' at e
  rw [if_pos hl] at e
  exact ⟨sp, fz, cs, sto, r, sto', hl, a, B, e, q⟩
theorem FnG.imp {P : Program} {w : World} {K : PySem.W.Frag} {mg : Str → Option Value} {base : Heap} {j : Nat} {f : Addr} {fd : FuncData} {ps : List Str} {sp sp' : Sp} (F : FnG P w K mg base j f fd ps sp) (h : ∀ vs H Q E, sp' vs H Q E → sp vs H Q E) : FnG P w K mg base j f fd ps sp' :=
  ⟨fun vs H Q E q => F.len vs H Q E (h _ _ _ _ q), fun A outer s H args us vs Q hr hg e0 bd rv q => F.run A outer s H args us vs Q hr hg e0 bd rv (h _ _ _ _ q)⟩
theorem se_call {n l : Nat} {mb : Ms} (F : FnG X.prog X.w X.K X.mg X.base k f fd ps (spOf X.K n (run' n l mb))) (hr : Room k X.A) (hgd : X.A.guards = some []) (hm : X.mg x = some (.ref f)) (hk : PySem.W.keepIn X.K (.ref f) = true) (hb : Binds X.K fd ps []) (ha : SA X (e :: es) m) (hg : Gl X x := by rfl)
    (hdb : (x == ("__debug__" : Str)) = false := by decide) (he : starEach (e :: es) X.env = (false, eval e X.env) :: starEach es X.env := by rfl) (hpl : (backTo pos (starEach es X.env)).any (·.1) = false := by rfl) :
    SE X (.Call (.Name x p) (e :: es) [] pos) (mCall (run' n l mb) m) := PE.imp (pe_callG F hr hgd hm hk hb ha hg hdb he hpl) fun _ _ _ h => rd_call run'_len h
end
end Dh
namespace Dh
open PySem PySem.Spec L2
section
variable {X : Cx} {x : Str} {p pos : Pos} {e : Expr} {es : List Expr} {m : Ma} {id T : String} {r : List V → Hp → VK → Prop} {f : List R → Option R}
theorem se_bi (hc : CallR X (.builtin id) r) (hf : OkA X.K r f) (ha : SA X (e :: es) m) (hm : X.mg x = none) (hv : bootBuiltins x = some (.builtin id)) (hg : Gl X x := by rfl) (hn : x ≠ "__name__" := by decide) (hdb : (x == ("__debug__" : Str)) = false := by decide)
    (he : starEach (e :: es) X.env = (false, eval e X.env) :: starEach es X.env := by rfl) (hpl : (backTo pos (starEach es X.env)).any (·.1) = false := by rfl) : SE X (.Call (.Name x p) (e :: es) [] pos) (mA f m) :=
  PE.imp (pe_callB hc hg hm hv ha hn hdb he hpl) fun _ _ _ h => rd_args hf h
theorem se_ty (hc : CallR X (.type T) r) (hf : OkA X.K r f) (ha : SA X (e :: es) m) (hm : X.mg x = none) (hv : bootBuiltins x = some (.type T)) (hg : Gl X x := by rfl) (hn : x ≠ "__name__" := by decide) (hdb : (x == ("__debug__" : Str)) = false := by decide)
    (he : starEach (e :: es) X.env = (false, eval e X.env) :: starEach es X.env := by rfl) (hpl : (backTo pos (starEach es X.env)).any (·.1) = false := by rfl) : SE X (.Call (.Name x p) (e :: es) [] pos) (mA f m) :=
  PE.imp (pe_callTy hc hg hm hv ha hn hdb he hpl) fun _ _ _ h => rd_args hf h
theorem se_bf (hc : CallR X (.builtin id) r) (hf : OkA X.K r f) (ha : SA X (e :: es) m) (hm : X.mg x = some (.builtin id)) (hg : Gl X x := by rfl) (hdb : (x == ("__debug__" : Str)) = false := by decide)
    (he : starEach (e :: es) X.env = (false, eval e X.env) :: starEach es X.env := by rfl) (hpl : (backTo pos (starEach es X.env)).any (·.1) = false := by rfl) : SE X (.Call (.Name x p) (e :: es) [] pos) (mA f m) :=
  PE.imp (pe_callBfun hc hg hm ha hdb he hpl) fun _ _ _ h => rd_args hf h
end
def fLen : List R → Option R
  | [x] => (rdQ x).map fun xs => .d (.int xs.length)
  | _ => none
def fTupOf : List R → Option R
  | [.d (.tuple xs)] => some (.d (.tuple xs))
  | [x] => (rdL x).map fun xs => .d (.tuple xs)
  | _ => none
def boolsOf : List PyData → Option (List Bool)
  | [] => some []
  | .bool b :: r => (boolsOf r).map (b :: ·)
  | _ => none
def intsOf : List PyData → Option (List Int)
  | [] => some []
  | .int b :: r => (intsOf r).map (b :: ·)
  | _ => none
def fAll : List R → Option R
  | [x] => match rdL x with | some xs => (boolsOf xs).map fun bs => .d (.bool (bs.all id)) | none => none
  | _ => none
def fAny : List R → Option R
  | [x] => match rdL x with | some xs => (boolsOf xs).map fun bs => .d (.bool (bs.any id)) | none => none
  | _ => none
def fSum : List R → Option R
  | [x] => match rdL x with | some xs => (intsOf xs).map fun ns => .d (.int ns.sum) | none => none
  | _ => none
def fAbs : List R → Option R
  | [.d (.int i)] => some (.d (.int (if i < 0 then -i else i)))
  | _ => none
def fInt : List R → Option R
  | [.d (.int i)] => some (.d (.int i))
  | [.d (.bool k)] => some (.d (.int (if k then 1 else 0)))
  | _ => none
def fGcd : List R → Option R
  | [.d (.int i), .d (.int j)] => some (.d (.int ((Nat.gcd i.natAbs j.natAbs : Nat) : Int)))
  | _ => none
def fDivmod : List R → Option R
  | [.d (.int i), .d (.int j)] => if 0 < j ∧ Builtin.divisionGoesByPylong i j = false then some (.d (.tuple [.int (i / j), .int (i % j)])) else none
  | _ => none
section
variable {K : PySem.W.Frag} {fz : Fz} {H : Hp}
theorem boolsOf_im : ∀ {vs : List V} {xs : List PyData} {bs : List Bool}, ImA K fz H vs xs → boolsOf xs = some bs → vs = bs.map V.bl
  | _, _, _, .nil, e => by cases e; rfl
  | _, d :: ds, _, .cons h t, e => by
    cases d with
    | bool b =>
      simp only [boolsOf] at e
      cases q2 : boolsOf ds with
      | none => rw [q2] at e; cases e
      | some bs => rw [q2] at e; cases e; cases h; rw [boolsOf_im t q2]; rfl
    | _ => simp [boolsOf] at e
theorem intsOf_im : ∀ {vs : List V} {xs : List PyData} {bs : List Int}, ImA K fz H vs xs → intsOf xs = some bs → vs = bs.map V.int
  | _, _, _, .nil, e => by cases e; rfl
  | _, d :: ds, _, .cons h t, e => by
    cases d with
    | int b =>
      simp only [intsOf] at e
      cases q2 : intsOf ds with
      | none => rw [q2] at e; cases e
      | some bs => rw [q2] at e; cases e; cases h; rw [intsOf_im t q2]; rfl
    | _ => simp [intsOf] at e
end
section
variable {X : Cx} {x : Str} {p pos : Pos} {e : Expr} {es : List Expr} {m : Ma}
theorem ok_len : OkA X.K (fun xs H Q => ∃ p ys, xs = [.ref p] ∧ (SqL X.K H p ys ∨ SqT X.K H p ys) ∧ Q (.int ys.length) H) fLen := by
  intro sp fz fzS H H0 sto vs xs z Q s B i e k
  unfold fLen at e
  split at e
  · rename_i r
    cases q : rdQ r with
    | none => rw [q] at e; cases e
    | some ds =>
      rw [q] at e; cases e
      cases i with
      | cons i t =>
        cases t
        obtain ⟨a, ws, rfl, h, im⟩ := i.seq q
        refine ⟨a, ws, rfl, h, k _ fz H s B.spl ?_⟩
        rw [im.length]
        exact .int _
  · cases e
theorem ok_tupOf : OkA X.K (fun xs H Q => ∃ p ys, xs = [.ref p] ∧ ((SqL X.K H p ys ∧ TpQ H ys Q) ∨ (SqT X.K H p ys ∧ Q (.ref p) H))) fTupOf := by
  intro sp fz fzS H H0 sto vs xs z Q s B i e k
  unfold fTupOf at e
  split at e
  · cases e
    cases i with
    | cons i t =>
      cases t
      cases i with
      | tup h im => exact ⟨_, _, rfl, .inr ⟨h.sq, k _ fz H s B.spl (show Im _ _ _ _ _ from .tup h im)⟩⟩
  · rename_i r _
    cases q : rdL r with
    | none => rw [q] at e; cases e
    | some ds =>
      rw [q] at e; cases e
      cases i with
      | cons i t =>
        cases t
        obtain ⟨a, ws, rfl, h, im⟩ := i.list q
        refine ⟨a, ws, rfl, .inl ⟨h, fun l o hl ho => ?_⟩⟩
        obtain ⟨s3, l3, i3⟩ := new_tup B im hl ho
        exact k _ fz _ (s.trans s3) l3 i3
  · cases e
theorem ok_all : OkA X.K (rAll X.K) fAll := by
  intro sp fz fzS H H0 sto vs xs z Q s B i e k
  unfold fAll at e
  split at e
  · rename_i r
    split at e
    · rename_i ds q
      cases q2 : boolsOf ds with
      | none => rw [q2] at e; cases e
      | some bs =>
        rw [q2] at e; cases e
        cases i with
        | cons i t =>
          cases t
          obtain ⟨a, ws, rfl, h, im⟩ := i.list q
          rw [boolsOf_im im q2] at h
          exact ⟨a, bs, rfl, h, k _ fz H s B.spl (.bl _)⟩
    · cases e
  · cases e
theorem ok_any : OkA X.K (rAny X.K) fAny := by
  intro sp fz fzS H H0 sto vs xs z Q s B i e k
  unfold fAny at e
  split at e
  · rename_i r
    split at e
    · rename_i ds q
      cases q2 : boolsOf ds with
      | none => rw [q2] at e; cases e
      | some bs =>
        rw [q2] at e; cases e
        cases i with
        | cons i t =>
          cases t
          obtain ⟨a, ws, rfl, h, im⟩ := i.list q
          rw [boolsOf_im im q2] at h
          exact ⟨a, bs, rfl, h, k _ fz H s B.spl (.bl _)⟩
    · cases e
  · cases e
theorem ok_sum : OkA X.K (rSum X.K) fSum := by
  intro sp fz fzS H H0 sto vs xs z Q s B i e k
  unfold fSum at e
  split at e
  · rename_i r
    split at e
    · rename_i ds q
      cases q2 : intsOf ds with
      | none => rw [q2] at e; cases e
      | some bs =>
        rw [q2] at e; cases e
        cases i with
        | cons i t =>
          cases t
          obtain ⟨a, ws, rfl, h, im⟩ := i.list q
          rw [intsOf_im im q2] at h
          exact ⟨a, bs, rfl, h, k _ fz H s B.spl (.int _)⟩
    · cases e
  · cases e
theorem ok_abs : OkA X.K (fun xs H Q => ∃ i, xs = [.int i] ∧ Q (.int (if i < 0 then -i else i)) H) fAbs := by
  intro sp fz fzS H H0 sto vs xs z Q s B i e k
  unfold fAbs at e
  split at e
  · cases e
    cases i with
    | cons i t => cases t; cases i; exact ⟨_, rfl, k _ fz H s B.spl (.int _)⟩
  · cases e
theorem ok_int : OkA X.K (fun xs H Q => (∃ i, xs = [.int i] ∧ Q (.int i) H) ∨ ∃ k, xs = [.bl k] ∧ Q (.int (if k then 1 else 0)) H) fInt := by
  intro sp fz fzS H H0 sto vs xs z Q s B i e k
  unfold fInt at e
  split at e
  · cases e
    cases i with
    | cons i t => cases t; cases i; exact .inl ⟨_, rfl, k _ fz H s B.spl (.int _)⟩
  · cases e
    cases i with
    | cons i t => cases t; cases i; exact .inr ⟨_, rfl, k _ fz H s B.spl (.int _)⟩
  · cases e
theorem ok_gcd : OkA X.K rGcd fGcd := by
  intro sp fz fzS H H0 sto vs xs z Q s B i e k
  unfold fGcd at e
  split at e
  · cases e
    cases i with
    | cons i t =>
      cases t with
      | cons j t => cases t; cases i; cases j; exact ⟨_, _, rfl, k _ fz H s B.spl (.int _)⟩
  · cases e
theorem ok_divmod : OkA X.K (fun xs H Q => ∃ i j, xs = [.int i, .int j] ∧ CDivP i j ∧ TpQ H [.int (i / j), .int (i % j)] Q) fDivmod := by
  intro sp fz fzS H H0 sto vs xs z Q s B i e k
  unfold fDivmod at e
  split at e
  · split at e
    · rename_i hz
      cases e
      cases i with
      | cons i t =>
        cases t with
        | cons j t =>
          cases t; cases i; cases j
          refine ⟨_, _, rfl, hz, fun q o hq ho => ?_⟩
          obtain ⟨s3, l3, i3⟩ := new_tup (K := X.K) B (.cons (.int _) (.cons (.int _) .nil)) hq ho
          exact k _ fz _ (s.trans s3) l3 i3
    · cases e
  · cases e
theorem se_len (ha : SA X (e :: es) m) (hm : X.mg "len" = none) (hg : Gl X "len" := by rfl) (he : starEach (e :: es) X.env = (false, eval e X.env) :: starEach es X.env := by rfl) (hpl : (backTo pos (starEach es X.env)).any (·.1) = false := by rfl) : SE X (.Call (.Name "len" p) (e :: es) [] pos) (mA fLen m) :=
  se_bi call_len_seq ok_len ha hm PySem.boot_len hg (by decide) (by decide) he hpl
theorem se_all (hc : X.calm = true) (ha : SA X (e :: es) m) (hm : X.mg "all" = none) (hg : Gl X "all" := by rfl) (he : starEach (e :: es) X.env = (false, eval e X.env) :: starEach es X.env := by rfl) (hpl : (backTo pos (starEach es X.env)).any (·.1) = false := by rfl) : SE X (.Call (.Name "all" p) (e :: es) [] pos) (mA fAll m) :=
  se_bi (cr_all hc) ok_all ha hm (by decide +kernel) hg (by decide) (by decide) he hpl
theorem se_any (hc : X.calm = true) (ha : SA X (e :: es) m) (hm : X.mg "any" = none) (hg : Gl X "any" := by rfl) (he : starEach (e :: es) X.env = (false, eval e X.env) :: starEach es X.env := by rfl) (hpl : (backTo pos (starEach es X.env)).any (·.1) = false := by rfl) : SE X (.Call (.Name "any" p) (e :: es) [] pos) (mA fAny m) :=
  se_bi (cr_any hc) ok_any ha hm (by decide +kernel) hg (by decide) (by decide) he hpl
theorem se_sum (hc : X.calm = true) (ha : SA X (e :: es) m) (hm : X.mg "sum" = none) (hg : Gl X "sum" := by rfl) (he : starEach (e :: es) X.env = (false, eval e X.env) :: starEach es X.env := by rfl) (hpl : (backTo pos (starEach es X.env)).any (·.1) = false := by rfl) : SE X (.Call (.Name "sum" p) (e :: es) [] pos) (mA fSum m) :=
  se_bi (cr_sum hc) ok_sum ha hm (by decide +kernel) hg (by decide) (by decide) he hpl
theorem se_abs (ha : SA X (e :: es) m) (hm : X.mg "abs" = none) (hg : Gl X "abs" := by rfl) (he : starEach (e :: es) X.env = (false, eval e X.env) :: starEach es X.env := by rfl) (hpl : (backTo pos (starEach es X.env)).any (·.1) = false := by rfl) : SE X (.Call (.Name "abs" p) (e :: es) [] pos) (mA fAbs m) :=
  se_bi call_abs ok_abs ha hm (by decide +kernel) hg (by decide) (by decide) he hpl
theorem se_divmod (ha : SA X (e :: es) m) (hm : X.mg "divmod" = none) (hg : Gl X "divmod" := by rfl) (he : starEach (e :: es) X.env = (false, eval e X.env) :: starEach es X.env := by rfl) (hpl : (backTo pos (starEach es X.env)).any (·.1) = false := by rfl) : SE X (.Call (.Name "divmod" p) (e :: es) [] pos) (mA fDivmod m) :=
  se_bi call_divmodS ok_divmod ha hm (by decide +kernel) hg (by decide) (by decide) he hpl
theorem se_tuple (ha : SA X (e :: es) m) (hm : X.mg "tuple" = none) (hg : Gl X "tuple" := by rfl) (he : starEach (e :: es) X.env = (false, eval e X.env) :: starEach es X.env := by rfl) (hpl : (backTo pos (starEach es X.env)).any (·.1) = false := by rfl) : SE X (.Call (.Name "tuple" p) (e :: es) [] pos) (mA fTupOf m) :=
  se_ty call_tuple_ofS ok_tupOf ha hm (by decide +kernel) hg (by decide) (by decide) he hpl
theorem se_toint (ha : SA X (e :: es) m) (hm : X.mg "int" = none) (hg : Gl X "int" := by rfl) (he : starEach (e :: es) X.env = (false, eval e X.env) :: starEach es X.env := by rfl) (hpl : (backTo pos (starEach es X.env)).any (·.1) = false := by rfl) : SE X (.Call (.Name "int" p) (e :: es) [] pos) (mA fInt m) :=
  se_ty call_int1 ok_int ha hm (by decide +kernel) hg (by decide) (by decide) he hpl
theorem se_gcd (ha : SA X (e :: es) m) (hm : X.mg "gcd" = some (.builtin "math.gcd")) (hg : Gl X "gcd" := by rfl) (he : starEach (e :: es) X.env = (false, eval e X.env) :: starEach es X.env := by rfl) (hpl : (backTo pos (starEach es X.env)).any (·.1) = false := by rfl) : SE X (.Call (.Name "gcd" p) (e :: es) [] pos) (mA fGcd m) :=
  se_bf cr_gcd ok_gcd ha hm hg (by decide) he hpl
end
mutual
theorem noDict_has : ∀ d : PyData, noDict d = true → d.hasDict = false
  | .none, _ => rfl
  | .bool _, _ => rfl
  | .int _, _ => rfl
  | .str _, _ => rfl
  | .list xs, h => by simp only [PyData.hasDict]; exact noDicts_has xs (by simpa [noDict] using h)
  | .tuple xs, h => by simp only [PyData.hasDict]; exact noDicts_has xs (by simpa [noDict] using h)
  | .dict _, h => by simp [noDict] at h
theorem noDicts_has : ∀ d : List PyData, noDicts d = true → PyData.hasDictAll d = false
  | [], _ => by simp [PyData.hasDictAll]
  | x :: xs, h => by
    simp only [noDicts, Bool.and_eq_true] at h
    simp only [PyData.hasDictAll, noDict_has x h.1, noDicts_has xs h.2, Bool.or_self]
end
def isSeq : PyData → Bool
  | .list _ => true
  | .tuple _ => true
  | _ => false
def reprOk (d : PyData) : Bool := isSeq d && noDict d && d.showable && decide (d.depth ≤ 60) && decide (d.shown.length ≤ sizeLine)
def fRepr : List R → Option R
  | [x] => match rdD x with
    | some d => if reprOk d = true then some (.d (.str d.shown)) else none
    | none => none
  | _ => none
section
variable {X : Cx} {p pos : Pos} {e : Expr} {es : List Expr} {m : Ma} {k : Nat}
def rRepr (K : PySem.W.Frag) : List V → Hp → VK → Prop := fun xs H Q => ∃ a d, xs = [.ref a] ∧ Dp K H (.ref a) d ∧ reprOk d = true ∧ Q (.str d.shown) H
theorem call_reprD (hr : Room k X.A) (hg : X.A.guards = some []) : CallR X (.builtin "repr") (rRepr X.K) := by
  intro pins s σ H vs us Q I r h
  obtain ⟨a, d, rfl, hd, ok, q⟩ := h
  simp only [reprOk, Bool.and_eq_true, decide_eq_true_eq] at ok
  obtain ⟨⟨⟨⟨_, nd⟩, sh⟩, dp⟩, sz⟩ := ok
  cases r with
  | cons r t =>
    cases t
    cases r
    obtain ⟨as, rd⟩ := Dp.reads I d _ _ hd rfl
    have hu := hr.units
    exact repr_of_reads' rd sh (PyData.noDict_hsm (noDict_has d nd)) hg (by omega) (fun b o e => e) (fun h' u tk kk => ⟨.str d.shown, H, I.kept (t' := tk) kk, ⟨_, rfl⟩, q⟩) sz
theorem ok_repr : OkA X.K (rRepr X.K) fRepr := by
  intro sp fz fzS H H0 sto vs xs z Q s B i e k
  unfold fRepr at e
  split at e
  · rename_i r
    split at e
    · rename_i d q
      split at e
      · rename_i ok
        cases e
        cases i with
        | cons i t =>
          cases t
          have ok2 := ok
          simp only [reprOk, Bool.and_eq_true, decide_eq_true_eq] at ok2
          obtain ⟨⟨⟨⟨sq, nd⟩, _⟩, _⟩, _⟩ := ok2
          have dp := i.dp q nd
          have : ∃ a, ‹V› = .ref a := by
            cases dp <;> first | exact ⟨_, rfl⟩ | (simp [isSeq] at sq)
          obtain ⟨a, rfl⟩ := this
          exact ⟨a, d, rfl, dp, ok, k _ fz H s B.spl (.str _)⟩
      · cases e
    · cases e
  · cases e
end
def tyName : PyData → String
  | .none => "NoneType"
  | .bool _ => "bool"
  | .int _ => "int"
  | .str _ => "str"
  | .list _ => "list"
  | .tuple _ => "tuple"
  | .dict _ => "dict"
def isN (T S : String) : Bool := S == T || (T == "int" && S == "bool")
def isA (T : String) (d : PyData) : Bool := isN T (tyName d)
def fIsi (T : String) (x : R) : Option R := (rdD x).map fun d => .d (.bool (isA T d))
section
variable {K : PySem.W.Frag} {sp : Option Addr} {fz : Fz} {H H0 : Hp} {v : V} {x : R} {d : PyData}
theorem ImR.ty (i : ImR K sp H0 fz H v x) (e : rdD x = some d) : TyX K H v (.type (tyName d)) := by
  cases x with
  | d y =>
    cases e
    cases i with
    | non => exact .base .non
    | bl b => exact .base (.bl b)
    | int b => exact .base (.int b)
    | str b => exact .base (.str b)
    | lst h _ =>
      rcases h with ⟨h, _⟩ | ⟨o, h⟩ | ⟨o, its, n, h, c, _⟩
      · exact .base (.lst h)
      · exact .base (.frz h)
      · exact .kList h c
    | tup h _ =>
      rcases h with ⟨o, h, _⟩ | ⟨o, its, n, h, c, _⟩
      · exact .fTuple h
      · exact .kTuple h c
    | dct h _ _ _ => exact .base (.dK h)
  | f xs => cases e; obtain ⟨a, vs, rfl, h, _⟩ := i; exact .base (.lst h)
  | b xs => cases e; obtain ⟨a, vs, rfl, h, _⟩ := i; exact .base (.lst h)
  | s => cases e
  | m _ => cases e
  | t _ => cases e
  | n _ => cases e
  | u _ => cases e
end
/-- the built-in classes that are asked for -/
def known (T : String) : Bool := ["int", "bool", "tuple", "str", "list", "dict"].contains T
theorem kit_names : ∀ S ∈ ["NoneType", "bool", "int", "str", "list", "tuple", "dict"], ∀ T ∈ ["int", "bool", "tuple", "str", "list", "dict"], kitB S T = some (isN T S) := by decide +kernel
theorem tyName_mem (d : PyData) : tyName d ∈ ["NoneType", "bool", "int", "str", "list", "tuple", "dict"] := by cases d <;> simp [tyName]
theorem kit_known {K : PySem.W.Frag} {T : String} (h : known T = true) (d : PyData) : PySem.W.kitOne K (.type (tyName d)) (.type T) = some (isA T d) :=
  kit_ty (kit_names _ (tyName_mem d) T (by simpa [known] using h))
section
variable {X : Cx} {p p2 pos : Pos} {e : Expr} {T : String} {x : Str} {me : Mx}
theorem se_isi (hT : known T = true) (he : SE X e me) (hm : X.mg "isinstance" = none) (hm2 : X.mg x = none) (hv : bootBuiltins x = some (.type T)) (hg : Gl X "isinstance" := by rfl) (hg2 : Gl X x := by rfl) (hn2 : x ≠ "__name__" := by decide) (hd2 : (x == ("__debug__" : Str)) = false := by decide)
    (h1 : starEach [e, .Name x p2] X.env = (false, eval e X.env) :: starEach [.Name x p2] X.env := by rfl) (hpl : (backTo pos (starEach [.Name x p2] X.env)).any (·.1) = false := by rfl) : SE X (.Call (.Name "isinstance" p) [e, .Name x p2] [] pos) (m1 (fIsi T) me) :=
  PE.imp (pe_callB call_isi hg hm (by decide +kernel) (pa_cons he (pa_cons (pe_bltn (v := .ty T) hg2 hm2 hv rfl hn2 hd2) pa_nil) h1) (by decide) (by decide) h1 hpl) fun σ H Q h => by
    refine rd_one (r := fun v H Q => rIsi X.K [v, .ty T] H Q) ?_ h
    intro sp fz H H0 sto v x z Q B ix e k
    unfold fIsi at e
    cases q : rdD x with
    | none => rw [q] at e; cases e
    | some d =>
      rw [q] at e; cases e
      exact ⟨v, .ty T, _, _, _, rfl, .ty T, ix.ty q, kit_known hT d, k _ fz H .refl B.spl (.inl (.bl _))⟩
end
abbrev Mo := Ev → Sto → Option (Option Int × Sto)
def rdO (K : PySem.W.Frag) (m : Mo) : TO := fun σ H Q => ∃ (C : Cn) (fz : Fz) (ρ : Ev) (sto : Sto) (r : Option Int) (sto' : Sto), Fm K C fz ρ sto σ H ∧ m ρ sto = some (r, sto') ∧ ∀ fz' H', Stp C.sp fz H fz' H' → SpL C.sp H' sto' → Q r H'
def SO (X : Cx) (e : Option Expr) (m : Mo) : Prop := PO X e (rdO X.K m)
def moNone : Mo := fun _ s => some (none, s)
def moSome (a : Mx) : Mo := bnd a fun x _ => ret (match x with | .d (.int i) => some (some i) | _ => none)
theorem PO.imp {X : Cx} {e : Option Expr} {t t' : TO} (h : PO X e t) (q : ∀ σ H Q, t' σ H Q → t σ H Q) : PO X e t' := ⟨fun pins s σ H Q I w => h.run pins s σ H Q I (q _ _ _ w)⟩
def cutD (xs : List PyData) (lo hi : Option Int) : List PyData := (xs.drop (HT.sIx xs.length 0 lo)).take (HT.sIx xs.length xs.length hi - HT.sIx xs.length 0 lo)
theorem ImA.cut {K : PySem.W.Frag} {fz : Fz} {H : Hp} {vs : List V} {xs : List PyData} (h : ImA K fz H vs xs) (lo hi : Option Int) : ImA K fz H (cutV vs lo hi) (cutD xs lo hi) := by
  unfold cutV cutD
  rw [h.length]
  exact (h.drop _).take _
def fSl (x : R) (lo hi : Option Int) : Option R := match x with
  | .d (.tuple xs) => some (.d (.tuple (cutD xs lo hi)))
  | x => (rdL x).map fun xs => .f (cutD xs lo hi)
def mSl (a : Mx) (l h : Mo) : Mx := bnd a fun x => bnd l fun lo => bnd h fun hi _ => ret (fSl x lo hi)
section
variable {X : Cx} {e : Expr} {a b : Option Expr} {me : Mx} {ma mb : Mo} {p2 pos : Pos}
theorem so_none : SO X none moNone := PO.imp po_none fun σ H Q h => by
  obtain ⟨C, fz, ρ, sto, r, sto', F, e, k⟩ := h
  cases e
  exact k fz H .refl F.bs.spl
theorem so_some (he : SE X e me) : SO X (some e) (moSome me) := PO.imp (po_some he) fun σ H Q h => by
  obtain ⟨C, fz, ρ, sto, r, sto', F, e, k⟩ := h
  obtain ⟨x, s1, ea, e1⟩ := bnd_some e
  obtain ⟨ef, rfl⟩ := ret_some e1
  clear e e1
  refine ⟨C, fz, ρ, sto, x, _, F, ea, fun v fz1 H1 st1 l1 i1 => ?_⟩
  split at ef
  · cases ef; cases i1
    exact ⟨_, rfl, k fz1 H1 st1 l1⟩
  · cases ef
theorem cut_whole {xs : List PyData} {lo hi : Option Int} (h : HT.sIx xs.length 0 lo = 0 ∧ HT.sIx xs.length xs.length hi = xs.length) : cutD xs lo hi = xs := by
  unfold cutD
  rw [h.1, h.2, List.drop_zero, Nat.sub_zero, List.take_length]
theorem se_sl (he : SE X e me) (ha : SO X a ma) (hb : SO X b mb) : SE X (.Subscript e (.Slice a b none p2) pos) (mSl me ma mb) := PE.imp (pe_slice (sl_list.or sl_tupS) he ha hb) fun σ H Q h => by
  obtain ⟨C, fz, ρ, sto, z, sto', F, e, k⟩ := h
  obtain ⟨x, s1, ea, e1⟩ := bnd_some e
  obtain ⟨lo, s2, eb, e2⟩ := bnd_some e1
  obtain ⟨hi, s3, ec, e3⟩ := bnd_some e2
  obtain ⟨ef, rfl⟩ := ret_some e3
  clear e e1 e2 e3
  refine ⟨C, fz, ρ, sto, x, s1, F, ea, fun v fz1 H1 st1 l1 i1 => ?_⟩
  have F1 := F.step st1 l1
  refine ⟨C, fz1, ρ, s1, lo, s2, F1, eb, fun fz2 H2 st2 l2 => ?_⟩
  have F2 := F1.step st2 l2
  refine ⟨C, fz2, ρ, s2, hi, _, F2, ec, fun fz3 H3 st3 l3 => ?_⟩
  have F3 := F2.step st3 l3
  have st := (st1.trans st2).trans st3
  have i3 := (i1.stp st2 F1.bs).stp st3 F2.bs
  unfold fSl at ef
  split at ef
  · cases ef
    obtain ⟨q, vs, rfl, h1, h2⟩ := i3.tup
    refine .inr ⟨q, vs, rfl, h1, fun hw => ?_, fun _ p o hp ho => ?_⟩
    · rw [h2.length] at hw
      refine k _ fz3 H3 st l3 ?_
      rw [cut_whole hw]
      exact i3
    · obtain ⟨s4, l4, i4⟩ := new_tup F3.bs (h2.cut lo hi) hp ho
      exact k _ fz3 _ (st.trans s4) l4 i4
  · rename_i x' _
    cases q : rdL x with
    | none => rw [q] at ef; cases ef
    | some xs =>
      rw [q] at ef; cases ef
      obtain ⟨q, vs, rfl, h1, h2⟩ := i3.list q
      refine .inl ⟨q, vs, rfl, h1, fun p hp => ?_⟩
      obtain ⟨s4, l4, i4⟩ := new_lst F3.bs (h2.cut lo hi) hp
      exact k _ fz3 _ (st.trans s4) l4 (i4.early st)
end
end Dh
namespace Dh
open PySem PySem.Spec L2 PySem.W
/-- the values of the parameters, by the places of the keywords -/
def perm {α : Type} (d : α) (π : List Nat) (xs : List α) : List α := π.map fun i => xs.getD i d
def KB0 (K : PySem.W.Frag) (fd : FuncData) (ps ks : List Str) (π : List Nat) : Prop := ∀ (s : Shared) (ws : List Value), K.In s.heap → ws.length = ks.length → BindsTo s fd ⟨[], ks.zip ws⟩ (ps.zip (perm Value.none π ws))
def mCallK (g : Fx) (π : List Nat) (n : Nat) (a : Ma) : Mx := bnd a fun rs _ s => match toArgs rs with
  | some cs => if cs.length = n then g (perm (.d .none) π cs) s else none
  | none => none
theorem perm_vals {π : List Nat} {vs : List V} {us : List Value} (r : Vals vs us) : Vals (perm V.non π vs) (perm Value.none π us) := by
  induction π with
  | nil => exact .nil
  | cons i π ih =>
    refine .cons ?_ ih
    show RelV (vs.getD i V.non) (us.getD i Value.none)
    rw [List.getD_eq_getElem?_getD, List.getD_eq_getElem?_getD]
    cases q : vs[i]? with
    | none =>
      have h1 := Vals.none_of r q
      rw [h1]
      rfl
    | some v =>
      obtain ⟨u, hu, ru⟩ := r.get q
      rw [hu]
      exact ru
theorem perm_args {K : PySem.W.Frag} {fz : Fz} {sp : Option Addr} {H : Hp} {π : List Nat} {vs : List V} {cs : List Cl} (r : Paired (ArgOk K fz sp H) vs cs) : Paired (ArgOk K fz sp H) (perm V.non π vs) (perm (.d .none) π cs) := by
  induction π with
  | nil => exact .nil
  | cons i π ih =>
    refine .cons ?_ ih
    show ArgOk K fz sp H (vs.getD i V.non) (cs.getD i (.d .none))
    rw [List.getD_eq_getElem?_getD, List.getD_eq_getElem?_getD]
    cases q : cs[i]? with
    | none =>
      have : vs[i]? = none := List.getElem?_eq_none_iff.mpr (by rw [pLen r]; exact List.getElem?_eq_none_iff.mp q)
      rw [this]
      exact .non
    | some c =>
      obtain ⟨v, hv, rv⟩ := pAt r i c q
      rw [hv]
      exact rv
def SK (X : Cx) (kws : List Keyword) (m : Ma) : Prop := PK X kws (rdA X.K m)
theorem PK.imp {X : Cx} {e : List Keyword} {t t' : TA} (h : PK X e t) (q : ∀ σ H Q, t' σ H Q → t σ H Q) : PK X e t' := ⟨fun p pins s σ H Q I w => h.run p pins s σ H Q I (q _ _ _ w)⟩
section
variable {X : Cx} {k : Nat} {f : Addr} {fd : FuncData} {ps ks : List Str} {π : List Nat} {x : Str} {p pos kpos : Pos} {e : Expr} {kws : List Keyword} {m mr : Ma} {me : Mx} {g : Fx} {nm : Option Str}
theorem sk_nil : SK X [] maNil := PK.imp pk_nil fun σ H Q h => by
  obtain ⟨C, fz, ρ, sto, r, sto', F, e, k⟩ := h
  cases e
  exact k [] fz H .refl F.bs.spl .nil
theorem sk_cons (he : SE X e me) (hr : SK X kws mr) : SK X (⟨nm, e, kpos⟩ :: kws) (maCons me mr) := PK.imp (pk_cons he hr) fun σ H Q h => by
  obtain ⟨C, fz, ρ, sto, r, sto', F, e, k⟩ := h
  obtain ⟨x, s1, ea, e1⟩ := bnd_some e
  obtain ⟨xs, s2, eb, e2⟩ := bnd_some e1
  clear e e1
  cases e2
  refine ⟨C, fz, ρ, sto, x, s1, F, ea, fun v fz1 H1 st1 l1 i1 => ?_⟩
  refine ⟨C, fz1, ρ, s1, xs, sto', F.step st1 l1, eb, fun vs fz2 H2 st2 l2 i2 => ?_⟩
  exact k (v :: vs) fz2 H2 (st1.trans st2) l2 (.cons (i1.stp st2 (F.bs.step st1 l1)) (i2.early st1))
def tCallK0 (sp : Sp) (π : List Nat) (n : Nat) (t : TA) : TE := fun σ H Q => t σ H fun vs H1 => vs.length = n ∧ sp (perm V.non π vs) H1 Q E0
theorem pe_callK0 {sp : Sp} {t : TA} (F : FnG X.prog X.w X.K X.mg X.base k f fd ps sp) (hr : Room k X.A) (hgd : X.A.guards = some []) (hm : X.mg x = some (.ref f)) (hk : PySem.W.keepIn X.K (.ref f) = true) (hb : KB0 X.K fd ps ks π) (ha : PK X kws t) (hg : Gl X x)
    (hall : (backToKw pos (keywordEach kws X.env)).all (·.1.isSome) = true := by rfl) (hks : (backToKw pos (keywordEach kws X.env)).filterMap (·.1) = ks := by rfl)
    (hdb : (x == ("__debug__" : Str)) = false := by decide) (hpl : ((backTo pos (starEach [] X.env)).any (·.1) || (backToKw pos (keywordEach kws X.env)).any (·.1.isNone)) = false := by rfl) :
    PE X (.Call (.Name x p) [] kws pos) (tCallK0 sp π ks.length t) := ⟨fun pins s σ H Q I h => by
  refine wpAny_Call_Name_kw (ld_glob I hg hm (PySem.W.callWith_KW0 (h₀ := X.base) I.ok.mod.kin hk hall (thn (ha.run pos pins s σ H _ I h) ?_) hpl) hdb)
  rintro us s1 ⟨vs, H1, I1, r, hl, q⟩
  rw [hks]
  have b := hb s1 us I1.kIn (by rw [← r.length]; exact hl)
  refine ⟨I1.kIn, wpAny_call (codeAny_mono (run_fnG F hr hgd I1 b (perm_vals r) q) fun res s' hq => ?_)⟩
  match res, hq with
  | .error e, hq => exact hq
  | .ok (.ret u), hq => exact hq
  | .ok .next, hq => exact False.elim hq
  | .ok .brk, hq => exact False.elim hq
  | .ok .cont, hq => exact False.elim hq⟩
theorem se_callK {n l : Nat} {mb : Ms} (F : FnG X.prog X.w X.K X.mg X.base k f fd ps (spOf X.K n (run' n l mb))) (hr : Room k X.A) (hgd : X.A.guards = some []) (hm : X.mg x = some (.ref f)) (hk : PySem.W.keepIn X.K (.ref f) = true) (hb : KB0 X.K fd ps ks π) (ha : SK X kws m) (hg : Gl X x := by rfl)
    (hall : (backToKw pos (keywordEach kws X.env)).all (·.1.isSome) = true := by rfl) (hks : (backToKw pos (keywordEach kws X.env)).filterMap (·.1) = ks := by rfl)
    (hdb : (x == ("__debug__" : Str)) = false := by decide) (hpl : ((backTo pos (starEach [] X.env)).any (·.1) || (backToKw pos (keywordEach kws X.env)).any (·.1.isNone)) = false := by rfl) :
    SE X (.Call (.Name x p) [] kws pos) (mCallK (run' n l mb) π ks.length m) := PE.imp (pe_callK0 F hr hgd hm hk hb ha hg hall hks hdb hpl) fun σ H Q h => by
  obtain ⟨C, fz, ρ, sto, z, sto', F, e, k⟩ := h
  obtain ⟨rs, s1, ea, e1⟩ := bnd_some e
  clear e
  split at e1
  · rename_i cs ec
    split at e1
    · rename_i hn
      refine ⟨C, fz, ρ, sto, rs, s1, F, ea, fun vs fz1 H1 st1 l1 i1 => ?_⟩
      obtain ⟨fz2, st2, B2, _, a⟩ := ImRs.args i1 ec fz1 st1 (F.bs.step st1 l1) fun _ h => h
      exact ⟨(pLen a).trans hn, C.sp, fz2, _, s1, z, sto', run'_len _ s1 _ e1, perm_args a, B2, e1, fun v fz3 H3 st3 l3 i3 => k v fz3 H3 (st2.trans st3) l3 (i3.early st2)⟩
    · cases e1
  · cases e1
end
def mPair (i : Nat) (ix : Mx) (j : Nat) (a : Mx) : Ms := fun ρ s => match a ρ s with
  | some (.d (.tuple [.int q, y]), s1) => match ix ρ s1, ρ[i]? with
    | some (.d (.int k), s2), some (some .s) => match ixN s2.length k with
      | some n => some (.nx, ρ.set j (some (.d y)), s2.set n q)
      | none => none
    | _, _ => none
  | _ => none
section
variable {X : Cx} {i j : Nat} {y : Str} {e : Expr} {tgs : Expr} {me mi : Mx} {py pos tpos : Pos} {kk : Nat}
/-- hg is pg_sub (pv i) hix set_list -/
theorem ss_pair (hc : X.calm = true) (hN : X.N.Nodup) (he : SE X e me) (hg : PG X tgs (gSub (tVar i) (rdE X.K mi) rSetL)) (hj : X.N[j]? = some y := by rfl) (hy : Loc X.env.scope y := by first | exact Or.inl rfl | exact Or.inr rfl)
    (hf : X.fn y = true ∨ X.env.scope.names.lookup y = some .local := by first | exact .inl rfl | exact .inr rfl)
    (h1 : (assignEach (tgs :: [.Name y py]) X.env).map (·.2) = assign tgs X.env :: (assignEach [.Name y py] X.env).map (·.2) := by rfl) (h2 : (assignEach (.Name y py :: []) X.env).map (·.2) = assign (.Name y py) X.env :: (assignEach [] X.env).map (·.2) := by rfl)
    (hn : (assignEach [tgs, .Name y py] X.env).length = 2 := by rfl) (hst : (assignEach [tgs, .Name y py] X.env).findIdx? (·.1) = none := by rfl)
    (hs : swapsWithSole [.Tuple [tgs, .Name y py] kk tpos] e pos.line X.env = pure false := by rfl) (hw : swappedStores [.Tuple [tgs, .Name y py] kk tpos] e X.env = pure none := by rfl)
    (h3 : (assignEach [.Tuple [tgs, .Name y py] kk tpos] X.env).map (·.2) = [assign (.Tuple [tgs, .Name y py] kk tpos) X.env] := by rfl) :
    SS X (.Assign [.Tuple [tgs, .Name y py] kk tpos] e pos) (mPair i mi j me) :=
  PS.impI (ps_asg he (pg_tup hc (pgs_cons hg (pgs_cons (pg_name hN hj hy hf) pgs_nil h2) h1) hn hst) hs hw h3) fun D σ H hl h => by
    obtain ⟨C, fz, ρ, sto, out, ρ', sto', F, e, k⟩ := h
    unfold mPair at e
    split at e
    · rename_i q yy s1 e1
      split at e
      · rename_i kk' s2 e2 ei
        split at e
        · rename_i n en
          cases e
          refine ⟨C, fz, ρ, sto, _, s1, F, e1, fun v fz1 H1 st1 l1 i1 => ?_⟩
          cases i1 with
          | tup ht ha =>
            rename_i a xs
            cases ha with
            | cons hq ha =>
              cases ha with
              | cons hyv ha =>
                cases ha
                cases hq
                have F1 := F.step st1 l1
                refine ⟨a, _, rfl, ht.sq, rfl, _, _, rfl, ?_⟩
                obtain ⟨p, hp, hs⟩ := F1.vars _ _ ei
                refine ⟨_, hs, C, fz1, ρ, s1, _, _, F1, e2, fun w fz2 H2 st2 l2 i2 => ?_⟩
                cases i2
                refine ⟨p, _, kk', n, rfl, rfl, l2 p hp, by rw [List.length_map]; exact en, ?_⟩
                have F2 := F1.step st2 l2
                obtain ⟨F4, S4⟩ := F2.spring (s2.set n q) hp
                refine ⟨_, _, rfl, rfl, ?_⟩
                rw [← List.map_set]
                exact k fz2 _ _ (F4.name ((hyv.stp st2 F1.bs).sts S4 F2.bs) (lt_of_slot hj hl)) ((st1.trans st2).sts.trans S4)
        · cases e
      · cases e
    · cases e
end
end Dh
namespace Dh
open PySem PySem.Spec L2
/-- the tuple at a, each item with its place in a new pair -/
def IteT (K : PySem.W.Frag) (a : Addr) : It where
  go := fun i H => ∃ (xs : List V) (x : V), SqT K H a xs ∧ xs[i]? = some x
  yld := fun i H v H' => ∃ T o x, v = .ref T ∧ H T = none ∧ o.dict = none ∧ H' = upd H T (.frz o (.tup [.int (i : Nat), x])) ∧ ∀ xs, SqT K H a xs → xs[i]? = some x
  stop := fun i H => ∃ xs : List V, SqT K H a xs ∧ xs.length = i
theorem turn_enumT {P : Program} {w : World} {K : PySem.W.Frag} {elts : List Expr} {kk : Nat} {tpos : Pos} (a e it : Addr) (hai : a ≠ it) :
    Turn P w K (.Tuple elts kk tpos) (IteT K a) [e, it] e (fun i h => (∃ old, IsEnum h e it ((i : Nat) : Int) old) ∧ h.IsTupleIter it a i ∧ e ≠ it ∧ a ≠ e) where
  mem := List.mem_cons_self
  obj := by
    rintro i h ⟨⟨old, he⟩, ⟨o, ho, hc, hd⟩, _⟩ b hb
    simp only [List.mem_cons, List.not_mem_nil, or_false] at hb
    rcases hb with rfl | rfl
    · exact ⟨_, he, fun v q => nomatch q⟩
    · exact ⟨o, ho, fun v q => by rw [hd] at q; cases q⟩
  keep := by
    rintro i h h' ⟨⟨old, he⟩, hi, hne⟩ k
    exact ⟨⟨old, k e (by simp) _ he⟩, hi.at fun o q => k it (by simp) o q, hne⟩
  item := by
    rintro X rfl rfl rfl hc i pins s σ H E I hf ⟨⟨old, he⟩, hit, hne, hae⟩ ⟨xs, x, hq, hx⟩
    obtain ⟨its, rv, p, hz⟩ := I.tuple hq
    obtain ⟨u, hu, ru⟩ := rv.get hx
    have hlt : i < its.toArray.size := by simpa using (List.getElem?_eq_some_iff.mp hu).1
    have hel : e < s.heap.objs.size := Heap.lt_size he
    have hil : it < s.heap.objs.size := by obtain ⟨_, q, _⟩ := hit; exact Heap.lt_size q
    have D := Draws.tuple (prog := X.prog) (w := X.w) (A := X.A.in1) (I.ok.hd hc) it a hai its.toArray
    refine wpAny_pyNext_enum_itemC D he ⟨hit, p⟩ hlt hne (by simp [hne, Ne.symm hae]) fun x' h' tk hP ho hs' hT hsz hk => ?_
    have ex : x' = u := by
      have q : its.toArray[i]? = some u := by simpa using hu
      rw [show its.toArray[i]? = some x' from hP] at q
      exact Option.some.inj q
    subst ex
    refine ⟨_, rfl, wpAny_letOwnedTupleGo_enum (s := { s with heap := h', toks := tk + 1 }) ho fun h2 he' sb => ?_⟩
    have hT2 : h2.get? s.heap.objs.size = some { cls := .type "tuple", data := .seq #[.int i tk, x'] } := (sb.2 _ (Nat.ne_of_gt hel)).trans hT
    have I1 : Inv X pins σ (upd H s.heap.objs.size (.frz { cls := .type "tuple", data := .seq #[.int i tk, x'] } (.tup [.int (i : Nat), x]))) { s with heap := h2, toks := tk + 1 } := by
      refine I.turnedNew (ch := [e, it]) (fun b ob hb q => ?_) hf (Nat.le_refl _) (obj_tup (its := [.int i tk, x']) hT2 (by show 2 ≤ sizeLine; decide) (.cons ⟨_, rfl⟩ (.cons ru .nil)))
      simp only [List.mem_cons, List.not_mem_nil, or_false, not_or] at hb
      exact (sb.2 b hb.1).trans (hk b ob hb.1 hb.2 q)
    refine ⟨.ref s.heap.objs.size, _, I1, rfl, ⟨_, _, x, rfl, I.hok.fresh (Nat.le_refl _), rfl, rfl, fun ys hy => ?_⟩, ⟨⟨x', ?_⟩, hs'.1.at fun o q => (sb.2 it (Ne.symm hne)).trans q, hne, hae⟩, fun b hb => ?_⟩
    · rw [I.tuple_inj hy hq]; exact hx
    · rw [show ((i + 1 : Nat) : Int) = (i : Int) + 1 from by omega]; exact he'
    · have hb' : b < s.heap.objs.size := by
        simp only [List.mem_cons, List.not_mem_nil, or_false] at hb
        rcases hb with rfl | rfl
        · exact hel
        · exact hil
      rw [upd_ne (Nat.ne_of_lt hb')]
      exact (hf b hb).1
  done := by
    rintro X rfl rfl rfl hc i pins s σ H E I hf ⟨⟨old, he⟩, hit, hne, hae⟩ ⟨xs, hq, hx⟩
    obtain ⟨its, rv, p, hz⟩ := I.tuple hq
    obtain ⟨f0, f1, f2, f3, f4, f5⟩ := hf it (by simp)
    have hl := rv.length
    have hz : i = its.toArray.size := by simp; omega
    subst hz
    exact wpAny_pyNext_enum_endD (Draws.tuple (prog := X.prog) (w := X.w) (A := X.A.in1) (I.ok.hd hc) it a hai its.toArray) he ⟨hit, p⟩ fun h' eb => ⟨rfl, I.turned (t' := s.toks) (fun b o hb q => eb b o hb q) f0 f1 f3 f4 f5⟩
  self := by
    rintro A i s Q E ⟨⟨old, he⟩, _⟩ h
    exact wpAny_pyIter_enum he h
set_option maxHeartbeats 4000000 in
theorem meets_enum1 {v : Value} {o : Obj} {H : Heap → Prop} (B : Begins v o H) : Meets (Builtin.«enumerate.__new__» ⟨[.type "enumerate", v], []⟩) (fun _ R s => H s.heap ∧
    R (.ok (.ret (.ref (s.heap.push o).objs.size))) { s with heap := (s.heap.push o).push { cls := .type "enumerate", data := .fields #[.none, .bool false, .ref s.heap.objs.size, rawInt 0, .none, .none] } }) := .of_wp fun prog w A R s h => by
  obtain ⟨hp, g, d, tk, os⟩ := s
  obtain ⟨h1, h⟩ := h
  have hsub := sub_enumerate
  have q1 : ∀ {A' : Around} {E : Value → Shared → Prop} {Q : Value → Shared → Prop}, Q (.ref hp.objs.size) ⟨hp.push o, g, d, tk, os⟩ → wpAny (model prog w) A' (pyIter v) Q E ⟨hp, g, d, tk, os⟩ := fun q => B.iter prog w _ _ ⟨hp, g, d, tk, os⟩ _ h1 q
  wp_walk using q1
  refine wpAny_stack_any fun st => wpAny_pure ?_
  split
  · rename_i c _ _ _ _ _
    cases (c == Value.type "enumerate") <;> (wp_walk using q1; exact ⟨_, rfl, h⟩)
  · wp_walk using q1
    exact ⟨_, rfl, h⟩
theorem call_enum1 {prog : Program} {w : World} {A : Around} {E : Value → Shared → Prop} {s : Shared} {v : Value} {o : Obj} {H : Heap → Prop} {Q : Value → Shared → Prop} (B : Begins v o H) (h1 : H s.heap)
    (h : ∀ h', IsEnum h' (s.heap.objs.size + 1) s.heap.objs.size 0 .none → h'.get? s.heap.objs.size = some o → (∀ b o, s.heap.get? b = some o → h'.get? b = some o) → Q (.ref (s.heap.objs.size + 1)) { s with heap := h' }) : wpAny (model prog w) A (call (.type "enumerate") [v]) Q E s := by
  refine callType_new F.called_enumerate (by decide) (F.typeCall_enumerate_1 _) (F.newCall_enumerate_1 _) (fun obj => F.args_object_init_2 obj _) F.entry_enumerate_new (meets_enum1 B) ⟨h1, ?_⟩
  have hz : (s.heap.push o).objs.size = s.heap.objs.size + 1 := Heap.size_push ..
  show _ ∧ _
  rw [hz]
  have he : IsEnum ((s.heap.push o).push { cls := .type "enumerate", data := .fields #[.none, .bool false, .ref s.heap.objs.size, rawInt 0, .none, .none] }) (s.heap.objs.size + 1) s.heap.objs.size 0 .none := by
    have q := Heap.get?_push_size (s.heap.push o) (o := { cls := .type "enumerate", data := .fields #[.none, .bool false, .ref s.heap.objs.size, rawInt 0, .none, .none] }) rfl
    rw [hz] at q
    exact q
  exact ⟨⟨_, he, rfl⟩, h _ he (Heap.get?_push_of_some _ (Heap.get?_push_size _ B.free)) fun b o q => Heap.get?_push_of_some _ (Heap.get?_push_of_some _ q)⟩
def iEnumA (K : PySem.W.Frag) (ta : TA) : TI := fun σ H R => ta σ H fun vs H1 => ∃ a xs, vs = [.ref a] ∧ ((SqL K H1 a xs ∧ R (IteS K a) H1) ∨ (SqT K H1 a xs ∧ R (IteT K a) H1))
theorem pi_enumA {X : Cx} {e : Expr} {ta : TA} {p pos tpos : Pos} {elts : List Expr} {kk : Nat} (hg : Gl X "enumerate") (hm : X.mg "enumerate" = none) (ha : PA X [e] ta) (hs : starEach [e] X.env = [(false, eval e X.env)] := by rfl) :
    PI X (.Tuple elts kk tpos) (.Call (.Name "enumerate" p) [e] [] pos) (iEnumA X.K ta) := ⟨fun pins s σ H R I h => by
  refine PyProof.Rows.Call_ (ld_blt I hg hm PyProof.Rows.boot_enumerate (PyProof.Rows.callWith_type1 (thn (ha.run pos pins s σ H _ I h) ?_) hs rfl))
  rintro us s1 ⟨vs, H1, I1, r1, a, xs, rfl, q⟩
  cases r1 with
  | cons r t =>
    cases t
    cases r
    have fr : ∀ b ∈ [s1.heap.objs.size + 1, s1.heap.objs.size], FpOk X pins H1 b := fun b hb => by
      have hle : s1.heap.objs.size ≤ b := by
        simp only [List.mem_cons, List.not_mem_nil, or_false] at hb
        rcases hb with rfl | rfl
        · exact Nat.le_add_right _ _
        · exact Nat.le_refl _
      exact I1.fpOk hle (I1.hok.fresh hle)
    rcases q with ⟨hq, q⟩ | ⟨hq, q⟩
    · obtain ⟨its, rv, p', _⟩ := I1.list hq
      refine call_enumerate_list p'.isList fun h' he hit hsz hk => wpAny_pyIter_enum he ?_
      exact ⟨_, _, _, _, H1, rfl, I1.kept (t' := s1.toks) hk, turn_enumS a (s1.heap.objs.size + 1) s1.heap.objs.size, ⟨⟨.none, he⟩, hit, Nat.succ_ne_self _⟩, fr, q⟩
    · obtain ⟨its, rv, p', _⟩ := I1.tuple hq
      have hlt : a < s1.heap.objs.size := by obtain ⟨o, ho, _⟩ := id p'; exact Heap.lt_size ho
      refine call_enum1 (begins_tuple a its.toArray) (show s1.heap.IsTuple a its.toArray from p') fun h' he hit hk => wpAny_pyIter_enum he ?_
      exact ⟨_, _, _, _, H1, rfl, I1.kept (t' := s1.toks) hk, turn_enumT a (s1.heap.objs.size + 1) s1.heap.objs.size (Nat.ne_of_lt hlt), ⟨⟨.none, he⟩, ⟨_, hit, rfl, rfl⟩, Nat.succ_ne_self _, Nat.ne_of_lt (Nat.lt_succ_of_lt hlt)⟩, fr, q⟩⟩
section
variable {K : PySem.W.Frag} {sp : Option Addr} {fz fz1 : Fz} {H H1 : Hp} {sto : Sto}
def numbered (xs : List PyData) : List PyData := xs.zipIdx.map fun p => PyData.tuple [.int (p.2 : Nat), p.1]
theorem numbered_at {xs : List PyData} {i : Nat} {z : PyData} (h : (numbered xs)[i]? = some z) : ∃ x, xs[i]? = some x ∧ z = .tuple [.int (i : Nat), x] := by
  unfold numbered at h
  rw [List.getElem?_map, List.getElem?_zipIdx] at h
  cases q : xs[i]? with
  | none => rw [q] at h; cases h
  | some x => rw [q] at h; simp at h; exact ⟨x, rfl, h.symm⟩
theorem numbered_length (xs : List PyData) : (numbered xs).length = xs.length := by unfold numbered; simp
theorem goes_enumL {a : Addr} {vs : List V} {xs : List PyData} (h : FzL K fz H a vs) (im : ImA K fz H vs xs) (B0 : Bs sp fz H sto) : Goes K sp fz H (IteS K a) (numbered xs) := by
  refine ⟨fun i fz1 H1 sto hi s B => ?_, fun fz1 H1 sto s B => ?_, fun i x fz1 H1 sto v H2 hx s B y => ?_⟩
  · rw [numbered_length, ← im.length] at hi
    exact ⟨vs, vs[i], (h.sts s B0).sq, List.getElem?_eq_getElem hi⟩
  · exact ⟨vs, (h.sts s B0).sq, by rw [numbered_length, im.length]⟩
  · obtain ⟨T, o, v2, rfl, hT, hd, e, g2⟩ := y
    obtain ⟨x', hx', rfl⟩ := numbered_at hx
    obtain ⟨w, hw, iw⟩ := im.at i x' hx'
    rw [g2 vs (h.sts s B0).sq] at hw; cases hw
    exact pair_new B (.int _) (iw.sts s B0) hT hd e
theorem goes_enumT {a : Addr} {vs : List V} {xs : List PyData} (h : SqT K H a vs) (im : ImA K fz H vs xs) (B0 : Bs sp fz H sto) : Goes K sp fz H (IteT K a) (numbered xs) := by
  refine ⟨fun i fz1 H1 sto hi s B => ?_, fun fz1 H1 sto s B => ?_, fun i x fz1 H1 sto v H2 hx s B y => ?_⟩
  · rw [numbered_length, ← im.length] at hi
    exact ⟨vs, vs[i], SqT.sts s B0 h, List.getElem?_eq_getElem hi⟩
  · exact ⟨vs, SqT.sts s B0 h, by rw [numbered_length, im.length]⟩
  · obtain ⟨T, o, v2, rfl, hT, hd, e, g2⟩ := y
    obtain ⟨x', hx', rfl⟩ := numbered_at hx
    obtain ⟨w, hw, iw⟩ := im.at i x' hx'
    rw [g2 vs (SqT.sts s B0 h)] at hw; cases hw
    exact pair_new B (.int _) (iw.sts s B0) hT hd e
end
def enum1 : List R → Option (List PyData)
  | [x] => (itemsOf x).map numbered
  | _ => none
section
variable {X : Cx} {e : Expr} {m : Ma} {p pos tpos : Pos} {elts : List Expr} {kk : Nat}
theorem si_enum (ha : SA X [e] m) (hm : X.mg "enumerate" = none) (hg : Gl X "enumerate" := by rfl) (hs : starEach [e] X.env = [(false, eval e X.env)] := by rfl) : SI X (.Tuple elts kk tpos) (.Call (.Name "enumerate" p) [e] [] pos) (mArgI enum1 m) := PI.imp (pi_enumA hg hm ha hs) fun σ H R h => by
  obtain ⟨C, fz, ρ, sto, xs, sto', F, e, k⟩ := h
  obtain ⟨x, s1, ea, e1⟩ := bnd_some e
  obtain ⟨ef, rfl⟩ := ret_some e1
  clear e e1
  refine ⟨C, fz, ρ, sto, x, _, F, ea, fun vs fz1 H1 st1 l1 i1 => ?_⟩
  have B1 := F.bs.step st1 l1
  unfold enum1 at ef
  split at ef
  · rename_i r
    cases q : itemsOf r with
    | none => rw [q] at ef; cases ef
    | some ys =>
      rw [q] at ef
      cases ef
      cases i1 with
      | cons i1 t =>
        cases t
        unfold itemsOf at q
        split at q
        · cases q
          cases i1 with
          | lst h im => exact ⟨_, _, rfl, .inl ⟨h.sq, k _ fz1 H1 st1 l1 (goes_enumL h im B1)⟩⟩
        · cases q
          cases i1 with
          | tup h im => exact ⟨_, _, rfl, .inr ⟨h.sq, k _ fz1 H1 st1 l1 (goes_enumT h.sq im B1)⟩⟩
        · cases q
          obtain ⟨a, ws, rfl, h1, h2, h3, h4, h5⟩ := i1
          have st2 := st1.freeze h5 h4 h1
          exact ⟨a, ws, rfl, .inl ⟨.inl (.inl h1), k _ _ H1 st2 l1 (goes_enumL (.inl ⟨h1, .inr rfl⟩) (h2.fzm fun b q => .inl q) (F.bs.step st2 l1))⟩⟩
        · cases q
  · cases ef
end
end Dh
namespace Dh
open PySem PySem.Spec PyProof.Rows L2 PySem.W
def mBrk : Ms := fun ρ s => some (.bk, ρ, s)
def mCnt : Ms := fun ρ s => some (.ct, ρ, s)
def mRetN : Ms := fun ρ s => some (.rt (.d .none), ρ, s)
/-- an expression for what it does alone -/
def mDrop (a : Mx) : Ms := fun ρ s => match a ρ s with
  | some (_, s1) => some (.nx, ρ, s1)
  | none => none
section
variable {X : Cx} {e : Expr} {me : Mx} {pos : Pos}
theorem ss_drop (he : SE X e me) (hs : swapsWith e none pos.line X.env = pure false := by rfl) : SS X (.Expr e pos) (mDrop me) := PS.imp (ps_expr he hs) fun D σ H h => by
  obtain ⟨C, fz, ρ, sto, out, ρ', sto', F, e, k⟩ := h
  unfold mDrop at e
  split at e
  · rename_i r s1 e1
    cases e
    exact ⟨C, fz, ρ, sto, r, _, F, e1, fun v fz1 H1 st1 l1 i1 => k fz1 σ H1 (F.step st1 l1) st1.sts⟩
  · cases e
/-- x, y, z = a, b, c -/
def mPar3 (i j l : Nat) (a : Ma) : Ms := fun ρ s => match a ρ s with
  | some ([r, q, u], s1) => match toCl r, toCl q, toCl u with
    | some (.d c), some (.d d), some f => some (.nx, ((ρ.set i (some (.d c))).set j (some (.d d))).set l (some f), s1)
    | some (.d c), some (.o d), some (.d f) => some (.nx, ((ρ.set i (some (.d c))).set j (some (.o d))).set l (some (.d f)), s1)
    | _, _, _ => none
  | _ => none
end
end Dh
namespace Dh
open PySem PySem.Spec L2 PySem.W PyProof.Rows
def stoOf : List PyData → Option Sto
  | [] => some []
  | .int i :: r => (stoOf r).map (i :: ·)
  | _ :: _ => none
def onlyD : List R → Option (List Cl)
  | [] => some []
  | .d x :: r => (onlyD r).map (.d x :: ·)
  | _ :: _ => none
/-- g(new list, data..): the list is g's spring -/
def mCallN (g : Fx) (a : Ma) : Mx := bnd a fun rs _ s => match rs with
  | .f xs :: r => match stoOf xs, onlyD r with
    | some s0, some cs => match g (.s :: cs) s0 with
      | some (.d x, _) => some (.d x, s)
      | some (.f x, _) => some (.f x, s)
      | _ => none
    | _, _ => none
  | _ => none
section
variable {K : PySem.W.Frag} {sp : Option Addr} {fz fz1 : Fz} {H H1 : Hp} {sto : Sto}
theorem ints_vals : ∀ {vs : List V} {xs : List PyData} {s0 : Sto}, ImA K fz H vs xs → stoOf xs = some s0 → vs = s0.map V.int
  | _, _, _, .nil, e => by cases e; rfl
  | _, _, _, .cons (d := d) h t, e => by
    cases d with
    | int i =>
      cases h
      unfold stoOf at e
      obtain ⟨s1, e1, rfl⟩ := Option.map_eq_some_iff.mp e
      rw [List.map_cons, ints_vals t e1]
    | none => cases e
    | bool _ => cases e
    | str _ => cases e
    | list _ => cases e
    | tuple _ => cases e
    | dict _ => cases e
theorem onlyD_args {q : Option Addr} : ∀ {vs : List V} {rs : List R} {cs : List Cl}, ImRs K sp H fz1 H1 vs rs → onlyD rs = some cs → Paired (ArgOk K fz1 q H1) vs cs
  | _, _, _, .nil, e => by cases e; exact .nil
  | _, _, _, .cons (b := r) h t, e => by
    cases r with
    | d x =>
      unfold onlyD at e
      obtain ⟨c1, e1, rfl⟩ := Option.map_eq_some_iff.mp e
      exact .cons h (onlyD_args t e1)
    | f _ => cases e
    | b _ => cases e
    | s => cases e
    | m _ => cases e
    | t _ => cases e
    | n _ => cases e
    | u _ => cases e
end
theorem rd_callN {K : PySem.W.Frag} {n : Nat} {g : Fx} {m : Ma} {σ : L2.St} {H : Hp} {Q : VK} (hn : ∀ cs s r, g cs s = some r → cs.length = n) (h : rdE K (mCallN g m) σ H Q) : tCallG (spOf K n g) (rdA K m) σ H Q := by
  obtain ⟨C, fz, ρ, sto, z, sto', F, e, k⟩ := h
  obtain ⟨rs, s1, ea, e1⟩ := bnd_some e
  clear e
  refine ⟨C, fz, ρ, sto, rs, s1, F, ea, fun vs fz1 H1 st1 l1 i1 => ?_⟩
  have B1 : Bs C.sp fz1 H1 s1 := F.bs.step st1 l1
  cases i1 with
  | nil => cases e1
  | @cons v r0 ws rs h t =>
    cases r0 with
    | f xs =>
      dsimp only at e1
      split at e1
      · rename_i s0 cs e2 e3
        obtain ⟨p, us, rfl, h1, h2, h3, h4, h5⟩ := h
        have eus := ints_vals h2 e2
        subst eus
        have args : Paired (ArgOk K fz1 (some p) H1) (V.ref p :: ws) (Cl.s :: cs) := .cons ⟨p, rfl, rfl⟩ (onlyD_args t e3)
        have B2 : Bs (some p) fz1 H1 s0 := ⟨fun a ea => by cases ea; exact h1, fun a ea => by cases ea; exact h3, B1.trk⟩
        have back : ∀ {fz2 : Fz} {H2 : Hp}, Stp (some p) fz1 H1 fz2 H2 → Stp C.sp fz1 H1 fz2 H2 → True := fun _ _ => trivial
        have st2 : ∀ {fz2 : Fz} {H2 : Hp}, Stp (some p) fz1 H1 fz2 H2 → Stp C.sp fz H fz2 H2 ∧ SpL C.sp H2 s1 := fun {fz2 H2} t2 => by
          have np : ∀ a, a ≠ p → some a ≠ some p := fun a n z => n (Option.some.inj z)
          refine ⟨⟨fun a q => t2.mono a (st1.mono a q), fun a o q n => ?_, fun a q => ?_, fun t a q => t2.trk (st1.trk t) a q⟩, fun a ea => ?_⟩
          · exact t2.ext a o (st1.ext a o q n) (np a (ne_of_none q h5))
          · rcases t2.new a q with q | ⟨_, q⟩
            · exact st1.new a q
            · have n : some a ≠ C.sp := l1.ne q (by intro z; cases z)
              exact .inr ⟨n, st1.back n q⟩
          · refine t2.ext a _ (l1 a ea) (np a fun z => h4 ?_)
            rw [← z, ea]
        split at e1
        · rename_i x s2 eg
          cases e1
          exact ⟨some p, fz1, _, s0, .d x, s2, hn _ _ _ eg, args, B2, eg, fun v fz3 H3 st3 l3 i3 => k v fz3 H3 (st2 st3).1 (st2 st3).2 i3⟩
        · rename_i x s2 eg
          cases e1
          refine ⟨some p, fz1, _, s0, .f x, s2, hn _ _ _ eg, args, B2, eg, fun v fz3 H3 st3 l3 i3 => k v fz3 H3 (st2 st3).1 (st2 st3).2 ?_⟩
          obtain ⟨a, us, rfl, g1, g2, g3, g4, g5⟩ := i3
          have n : some a ≠ C.sp := l1.ne g5 (by intro z; cases z)
          exact ⟨a, us, rfl, g1, g2, g3, n, st1.back n g5⟩
        · cases e1
      · cases e1
    | d _ => cases e1
    | b _ => cases e1
    | s => cases e1
    | m _ => cases e1
    | t _ => cases e1
    | n _ => cases e1
    | u _ => cases e1
section
variable {X : Cx} {k k2 : Nat} {f : Addr} {fd : FuncData} {ps : List Str} {x : Str} {p pos : Pos} {e : Expr} {es : List Expr} {m : Ma} {n : Nat} {g : Fx}
theorem se_callN (F : FnG X.prog X.w X.K X.mg X.base k f fd ps (spOf X.K n g)) (hr : Room k2 X.A) (hgd : X.A.guards = some []) (hm : X.mg x = some (.ref f)) (hk : PySem.W.keepIn X.K (.ref f) = true) (hb : Binds X.K fd ps []) (ha : SA X (e :: es) m)
    (hkk : k ≤ k2 := by omega) (hn : ∀ cs s r, g cs s = some r → cs.length = n := by first | exact run'_len | assumption) (hg : Gl X x := by rfl)
    (hdb : (x == ("__debug__" : Str)) = false := by decide) (he : starEach (e :: es) X.env = (false, eval e X.env) :: starEach es X.env := by rfl) (hpl : (backTo pos (starEach es X.env)).any (·.1) = false := by rfl) :
    SE X (.Call (.Name x p) (e :: es) [] pos) (mCallN g m) := PE.imp (pe_callG F (hr.mono hkk) hgd hm hk hb ha hg hdb he hpl) fun _ _ _ h => rd_callN hn h
end
/-- one entry of the heap -/
def oneH (a : Addr) (u : HO) : Hp := fun c => if c = a then some u else none
theorem oneH_self {a : Addr} {u : HO} : oneH a u a = some u := by unfold oneH; rw [if_pos rfl]
theorem oneH_some {a c : Addr} {u x : HO} (h : oneH a u c = some x) : c = a ∧ x = u := by
  unfold oneH at h
  split at h
  · cases h; exact ⟨by assumption, rfl⟩
  · cases h
section
variable {P : Program} {w : World} {K : PySem.W.Frag} {mg mb : Str → Option Value} {k : Nat} {fa a : Addr} {fd : FuncData} {x : Str} {g : Fx} {s₁ : Shared} {vs : List Value} {ns : List Int}
/-- what stands behind a tracked heap of frozen things alone -/
structure Und (K : PySem.W.Frag) (mg : Str → Option Value) (h : Heap) (H : Hp) : Prop where
  kin : K.In (hidT h H)
  main : (hidT h H).Ns mainGlobals mg
  mod : Mod K mg (hidT h H)
theorem und_of (KX : K.In s₁.heap) (hns : s₁.heap.Ns mainGlobals mg) (hb : s₁.heap.Ns builtinsNs mb) (hbb : ∀ x : Str, x ≠ "__name__" → mb x = bootBuiltins x) (hlim : s₁.heap.NoLimit) {H : Hp}
    (off : ∀ c o, s₁.heap.get? c = some o → H c ≠ none → K.lookup c = none ∧ ∀ es ep, o.data ≠ .dict es ep) : Und K mg s₁.heap H := by
  have dict : ∀ {c : Addr} {o : Obj} {es : Array DictEntry} {ep : Nat}, s₁.heap.get? c = some o → o.data = .dict es ep → (hidT s₁.heap H).get? c = some o := fun {c o es ep} e d =>
    hidT_get e (Classical.byContradiction fun z => (off c o e z).2 es ep d)
  have names : ∀ {c : Addr} {m : Str → Option Value}, s₁.heap.Ns c m → (hidT s₁.heap H).Ns c m := by
    rintro c m ⟨o, es, ep, e, d, r⟩
    exact ⟨o, es, ep, dict e d, d, r⟩
  have kin : K.In (hidT s₁.heap H) := fun c o e => hidT_get (KX c o e) (Classical.byContradiction fun z => by
    have q := (off c o (KX c o e) z).1
    rw [e] at q
    cases q)
  obtain ⟨mc, n1, n2⟩ := hlim
  exact ⟨kin, names hns, kin, names hns, ⟨mb, names hb, hbb⟩, ⟨mc, names n1, n2⟩⟩
/-- the law from its def's promise, from a tracked heap of frozen things alone -/
theorem law_at (U : Und K mg s₁.heap H) (hg : s₁.gens = #[]) (hr : Room k callerA)
    (F : ∀ base : Heap, K.In base → base.Ns mainGlobals mg → FnG P w K mg base k fa fd [x] (spOf K 1 g)) (hbind : ∀ (s : Shared) (u : Value), BindsTo s fd ⟨[u], []⟩ [(x, u)])
    (hok : HOk P w H s₁.heap) (hO : ∀ c u, H c = some u → ∃ o xs, u = .frz o (.lst xs)) (hS : FzL K (fun _ => False) H a (ns.map V.int)) (hl : ∃ s', g [.d (.list (ns.map .int))] [] = some (.d (.bool true), s')) :
    codeAny (model P w) callerA (.call (.ref fa) ⟨[.ref a], []⟩) (fun r s' => r = .ok (.ret (.bool true)) ∧ OldK s₁.heap s'.heap ∧ s'.os = s₁.os ∧ AllBare s'.gens) s₁ := by
  obtain ⟨sto', hgv⟩ := hl
  have env : Env0 P w K mg (hidT s₁.heap H) callerA [] s₁ H :=
    { frames := rfl, mod := U.mod, bs := fun _ _ e => of_hidT e, bsz := Nat.le_of_eq (hidT_size _ _), funs := trivial, frf := fun c hc => absurd (show c ∈ ([] : List Addr) from hc) List.not_mem_nil, hok := hok, bare := .of_eq hg }
  have call := (F _ U.kin U.main).run callerA [] s₁ H ⟨[.ref a], []⟩ [.ref a] [.ref a] (fun v _ => v = .bl true) hr rfl env (hbind s₁ (.ref a)) (.cons rfl .nil)
    ⟨none, fun _ => False, [.d (.list (ns.map .int))], [], .d (.bool true), sto', rfl, .cons (.lst hS (ImA.ints ns)) .nil, ⟨fun _ e => (nomatch e), fun _ e => (nomatch e), fun _ z => False.elim z⟩, hgv, fun v _ _ _ _ i => by cases i; rfl⟩
  refine codeAny_mono call fun r s' h => ?_
  match r, h with
  | .ok (.ret u), ⟨v, H', os, bare, un, hok', rv, q⟩ =>
    subst q
    refine ⟨by cases rv; rfl, .of_keep fun c o e => ?_, os, bare⟩
    cases hc : H c with
    | none => exact un.keep c o e hc (fun z => absurd (show c ∈ ([] : List Addr) from z) List.not_mem_nil) (by simp)
    | some u =>
      obtain ⟨ob, ys, rfl⟩ := hO c u hc
      have e1 := (hok c _ hc).1
      have e2 := (hok' c _ (un.frzs c ob _ hc)).1
      rw [e] at e1
      cases e1
      exact e2
end
end Dh
namespace Dh
open PySem PySem.Spec L2 PySem.W PyProof.Rows
end Dh
namespace Dh
open PySem PySem.Spec L2 PySem.W PyProof.Rows
theorem law_endH {l : PySem.W.OpenLaw} {n k : Nat} {q : Program} {loose : List Str} {XP : (Str → Option Value) → Heap → Prop} {YP : World → Heap → Prop} {d : DefRec} {x : Str} {g : Fx}
    (hn : l.most = some n) (small : n ≤ sizeLine) (nodef : d.params.defaults = []) (room : Room k callerA)
    (plain : ∀ ns : List Int, ns.length ≤ n → (∀ z ∈ ns, Builtin.Int.intBits z ≤ 1048576) → ∃ s', g [.d (.list (ns.map .int))] [] = some (.d (.bool true), s'))
    (F : ∀ (w : World) (mg : Str → Option Value) (fa : Addr) (h : Heap), YP w h → h.Ns mainGlobals mg → mg d.name = some (.ref fa) →
      ∃ (K : PySem.W.Frag) (fd : FuncData), K.In h ∧ (∀ (s : Shared) (u : Value), BindsTo s fd ⟨[u], []⟩ [(x, u)]) ∧ ∀ base : Heap, K.In base → base.Ns mainGlobals mg → FnG l.prog w K mg base k fa fd [x] (spOf K 1 g)) :
    PySem.W.WalkO q loose XP YP l.row.toRowW d [] (fun f vs => PySem.call f vs) := by
  refine Att.attach_callB hn nodef ?_
  intro w s₀ s mg mb fa o pm cd doc a vs ns G Y ho hd hcd hmg hobj hints hlen hbits hg
  obtain ⟨K, fd, KX, hb, hF⟩ := F w mg fa s.heap Y G.T.g hmg
  have vals := vals_ints hints
  have hl := plain ns hlen hbits
  cases hk : K.lookup a with
  | some ob =>
    have eo := KX a ob hk
    rw [hobj] at eo
    cases eo
    have U : Und K mg s.heap (fun _ => none) := und_of KX G.T.g G.T.b G.T.builtins G.T.nolimit fun c o _ z => absurd rfl z
    refine law_at U hg room hF hb (fun c u z => ?_) (fun c u z => ?_) (.inr (.inr ⟨_, vs.toArray, _, hk, rfl, rfl, rfl, ?_, ?_⟩)) hl
    · cases (show (none : Option HO) = some u from z)
    · cases (show (none : Option HO) = some u from z)
    · rw [List.size_toArray, hints.length]
      exact Nat.le_trans hlen small
    · simpa using vals
  | none =>
    have U : Und K mg s.heap (oneH a (.frz { cls := .type "list", data := .seq vs.toArray } (.lst (ns.map V.int)))) := by
      refine und_of KX G.T.g G.T.b G.T.builtins G.T.nolimit fun c o e z => ?_
      cases hc : oneH a (.frz { cls := .type "list", data := .seq vs.toArray } (.lst (ns.map V.int))) c with
      | none => exact absurd hc z
      | some u =>
        obtain ⟨rfl, _⟩ := oneH_some hc
        rw [hobj] at e
        cases e
        exact ⟨hk, fun es ep z => nomatch z⟩
    refine law_at U hg room hF hb (fun c u z => ?_) (fun c u z => ?_) (.inr (.inl ⟨_, oneH_self⟩)) hl
    · obtain ⟨rfl, rfl⟩ := oneH_some z
      exact ⟨hobj, by rw [List.length_map]; exact Nat.le_trans hlen small, vs, _, vals, hobj⟩
    · obtain ⟨_, rfl⟩ := oneH_some z
      exact ⟨_, _, rfl⟩
/-- a scalar, as the text has it -/
def scaB (u : Value) (d : PyData) : Bool := match d, u with
  | .int i, .int j _ => decide (i = j)
  | .str x, .str y _ => decide (x = y)
  | .bool a, .bool b => a == b
  | .none, .none => true
  | _, _ => false
def scaV : PyData → V
  | .int i => .int i
  | .str x => .str x
  | .bool a => .bl a
  | _ => .non
theorem scaB_ok {u : Value} {d : PyData} (h : scaB u d = true) : RelV (scaV d) u ∧ ∀ (K : PySem.W.Frag) (fz : Fz) (H : Hp), Im K fz H (scaV d) d := by
  unfold scaB at h
  split at h
  · have := of_decide_eq_true h; subst this; exact ⟨⟨_, rfl⟩, fun _ _ _ => .int _⟩
  · have := of_decide_eq_true h; subst this; exact ⟨⟨_, rfl⟩, fun _ _ _ => .str _⟩
  · have := eq_of_beq h; subst this; exact ⟨rfl, fun _ _ _ => .bl _⟩
  · exact ⟨rfl, fun _ _ _ => .non⟩
  · cases h
def scasB : List Value → List PyData → Bool
  | [], [] => true
  | u :: us, d :: ds => scaB u d && scasB us ds
  | _, _ => false
theorem scasB_ok : ∀ {us : List Value} {ds : List PyData}, scasB us ds = true → Vals (ds.map scaV) us ∧ ∀ (K : PySem.W.Frag) (fz : Fz) (H : Hp), ImA K fz H (ds.map scaV) ds
  | [], [], _ => ⟨.nil, fun _ _ _ => .nil⟩
  | [], _ :: _, h => by cases h
  | _ :: _, [], h => by cases h
  | u :: us, d :: ds, h => by
    obtain ⟨h1, h2⟩ := Bool.and_eq_true_iff.mp (show (scaB u d && scasB us ds) = true from h)
    obtain ⟨a1, a2⟩ := scaB_ok h1
    obtain ⟨b1, b2⟩ := scasB_ok h2
    exact ⟨.cons a1 b1, fun K fz H => .cons (a2 K fz H) (b2 K fz H)⟩
/-- a constant of the text: a scalar, or a tuple of scalars -/
def conB (K : PySem.W.Frag) (x : Str) (d : PyData) : Bool := match PySem.W.nsIn K mainGlobals x with
  | some (some u) => (match d, u with
    | .tuple ds, .ref a => (match K.lookup a with
      | some ⟨.type c, none, .seq its _, _⟩ => decide (c = "tuple") && (decide (its.size ≤ sizeLine) && scasB its.toList ds)
      | _ => false)
    | d, u => scaB u d)
  | _ => false
theorem conB_ok {K : PySem.W.Frag} {h : Heap} {mg : Str → Option Value} (X : K.In h) (G : h.Ns mainGlobals mg) {x : Str} {d : PyData} (c : conB K x d = true) : GlK K mg x d := by
  unfold conB at c
  cases e : PySem.W.nsIn K mainGlobals x with
  | none => rw [e] at c; cases c
  | some o =>
    rw [e] at c
    cases o with
    | none => cases c
    | some u =>
      have hm := PySem.W.mg_of X G e
      dsimp only at c
      split at c
      · rename_i ds a
        cases q : K.lookup a with
        | none => rw [q] at c; cases c
        | some o =>
          obtain ⟨oc, od, dt, osl⟩ := o
          rw [q] at c
          cases oc with
          | type t =>
            cases od with
            | none =>
              cases dt with
              | seq its n =>
                obtain ⟨h1, h2⟩ := Bool.and_eq_true_iff.mp (show (decide (t = "tuple") && (decide (its.size ≤ sizeLine) && scasB its.toList ds)) = true from c)
                obtain ⟨h3, h4⟩ := Bool.and_eq_true_iff.mp h2
                obtain ⟨b1, b2⟩ := scasB_ok h4
                exact ⟨⟨.ref a, _, hm, rfl, fun fz H => .tup (.inr ⟨_, its, n, q, congrArg Value.type (of_decide_eq_true h1), rfl, rfl, of_decide_eq_true h3, b1⟩) (b2 K fz H)⟩⟩
              | _ => cases c
            | some _ => cases dt <;> cases c
          | _ => cases od <;> cases dt <;> cases c
      · obtain ⟨a1, a2⟩ := scaB_ok c
        exact ⟨⟨scaV d, _, hm, a1, fun fz H => a2 K fz H⟩⟩
/-- a name that stands for a built-in -/
def bltB (K : PySem.W.Frag) (x : Str) (b : String) : Bool := He.eqO (PySem.W.nsIn K mainGlobals x) (some (some (.builtin b)))
theorem bltB_ok {K : PySem.W.Frag} {h : Heap} {mg : Str → Option Value} (X : K.In h) (G : h.Ns mainGlobals mg) {x : Str} {b : String} (c : bltB K x b = true) : mg x = some (.builtin b) := PySem.W.mg_of X G (He.eqO_ok c)
/-- sys has no limit of its own for texts of numbers -/
def digB (K : PySem.W.Frag) : Bool := He.eqO (PySem.W.nsIn K cStatics "sys.int_max_str_digits") (some none)
/-- the constants and the built-ins under other names -/
def cksB (K : PySem.W.Frag) (cs : List (Str × PyData)) (bs : List (Str × String)) : Bool := ((cs.all fun c => conB K c.1 c.2) && bs.all fun b => bltB K b.1 b.2) && digB K
/-- the head's look: functions, facts, constants -/
abbrev AlM : Type := Bool × He.Al
def obsM (cs : List (Str × PyData)) (bs : List (Str × String)) (fa : List He.Fa) (fn : List He.FnD) (K : PySem.W.Frag) : AlM := (cksB K cs bs, He.obsE fa fn K)
def obsMG (n : Nat) (cs : List (Str × PyData)) (bs : List (Str × String)) (fa : List He.Fa) (fn : List He.FnD) (g : Addr → Option Obj) : AlM := obsM cs bs fa fn (He.frG g (cStatics :: He.asG g n))
structure SaysM (cs : List (Str × PyData)) (bs : List (Str × String)) (fa : List He.Fa) (fn : List He.FnD) (K : PySem.W.Frag) : Prop where
  ck : cksB K cs bs = true
  sy : He.SaysE fa fn K
def hookM (n : Nat) (cs : List (Str × PyData)) (bs : List (Str × String)) (fa : List He.Fa) (fn : List He.FnD) : PySem.W.Hook where
  α := AlM
  obs := fun s => obsMG n cs bs fa fn s.heap.get?
  val := fun _ => (true, He.valE fn)
  says := fun _ h => ∃ K : PySem.W.Frag, K.In h ∧ SaysM cs bs fa fn K
  of := fun _ _ e => ⟨_, He.frG_in, ⟨congrArg Prod.fst e, congrArg Prod.snd e⟩⟩
  keeps := fun _ _ _ ⟨K, hK, c⟩ k => ⟨K, PySem.W.Frag.In.keeps hK k, c⟩
theorem obsMG_eq {n : Nat} {cs : List (Str × PyData)} {bs : List (Str × String)} {fa : List He.Fa} {fn : List He.FnD} {g : Addr → Option Obj} {s : Shared} (h : ∀ a, g a = s.heap.get? a) : obsMG n cs bs fa fn g = (hookM n cs bs fa fn).obs s := by
  have e : g = s.heap.get? := funext h
  rw [e]
  rfl
section
variable {cs : List (Str × PyData)} {bs : List (Str × String)} {fa : List He.Fa} {fn : List He.FnD} {K : PySem.W.Frag} {h : Heap} {mg : Str → Option Value}
theorem SaysM.con (c : SaysM cs bs fa fn K) (X : K.In h) (G : h.Ns mainGlobals mg) (i : Nat) {x : Str} {d : PyData} (e : cs[i]? = some (x, d) := by rfl) : GlK K mg x d :=
  conB_ok X G (List.all_eq_true.mp (Bool.and_eq_true_iff.mp (Bool.and_eq_true_iff.mp (show (((cs.all fun c => conB K c.1 c.2) && bs.all fun b => bltB K b.1 b.2) && digB K) = true from c.ck)).1).1 _ (List.mem_of_getElem? e))
theorem SaysM.blt (c : SaysM cs bs fa fn K) (X : K.In h) (G : h.Ns mainGlobals mg) (i : Nat) {x : Str} {b : String} (e : bs[i]? = some (x, b) := by rfl) : mg x = some (.builtin b) :=
  bltB_ok X G (List.all_eq_true.mp (Bool.and_eq_true_iff.mp (Bool.and_eq_true_iff.mp (show (((cs.all fun c => conB K c.1 c.2) && bs.all fun b => bltB K b.1 b.2) && digB K) = true from c.ck)).1).2 _ (List.mem_of_getElem? e))
/-- the function that stands at a name -/
def fdAt (K : PySem.W.Frag) (x : Str) : FuncData := match K.lookup (He.ga K x) with
  | some ⟨_, _, .func fd, _⟩ => fd
  | _ => PySem.W.fnOf x x ⟨[], [], none, [], [], none, []⟩ [] ⟨.function, [], false, false, []⟩ .none .none .none .none none .none .none
def fnD (x : Str) (st : Stmt) : He.FnD := ⟨(x, none), x, x, defArgs st, defBody st, defScope st⟩
theorem SaysM.func (c : SaysM cs bs fa fn K) (i j : Nat) {x : Str} {st : Stmt} (e : fn[i]? = some (fnD x st) := by rfl) (ek : fa[j]? = some (.keep x) := by rfl) : Fun K x x st (He.ga K x) (fdAt K x) := by
  obtain ⟨oc, od, osl, kV, doc, pm, an, cdv, ct, h1, h2⟩ := c.sy.def_ i e
  have kp := He.keep_ok (c.sy.fact j ek)
  have h3 : K.lookup (He.ga K x) = some ⟨oc, od, .func (PySem.W.fnOf x x (defArgs st) (defBody st) (defScope st) .none kV doc pm an cdv ct), osl⟩ := h1
  have e2 : fdAt K x = PySem.W.fnOf x x (defArgs st) (defBody st) (defScope st) .none kV doc pm an cdv ct := by
    unfold fdAt
    rw [h3]
  rw [e2]
  exact fun_mk h3 h2 kp
end
end Dh
namespace Dh
open PySem PySem.Spec L2 PySem.W
section
variable {α β : Type} {ρ : Ev} {s : Sto} {i j k : Nat} {a b : Mx} {ta tb : Mt} {as : Ma} {x y : R} {d e : PyData} {ma mb : Ms}
@[simp] theorem ev_bnd {a : Ev → Sto → Option (α × Sto)} {f : α → Ev → Sto → Option (β × Sto)} : bnd a f ρ s = (match a ρ s with | some (x, s1) => f x ρ s1 | none => none) := rfl
@[simp] theorem ev_ret {x : Option α} : ret x s = (match x with | some y => some (y, s) | none => none) := rfl
@[simp] theorem ev_m1 {f : R → Option R} : m1 f a ρ s = (match a ρ s with | some (x, s1) => ret (f x) s1 | none => none) := by
  unfold m1 bnd
  rcases a ρ s with _ | ⟨_, _⟩ <;> rfl
@[simp] theorem ev_m2 {f : R → R → Option R} : m2 f a b ρ s = (match a ρ s with | some (x, s1) => (match b ρ s1 with | some (y, s2) => ret (f x y) s2 | none => none) | none => none) := by
  unfold m2 bnd
  rcases a ρ s with _ | ⟨_, s1⟩
  · rfl
  · dsimp only
    rcases b ρ s1 with _ | ⟨_, _⟩ <;> rfl
@[simp] theorem ev_mA {f : List R → Option R} : mA f as ρ s = (match as ρ s with | some (x, s1) => ret (f x) s1 | none => none) := by
  unfold mA bnd
  rcases as ρ s with _ | ⟨_, _⟩ <;> rfl
@[simp] theorem ev_maNil : maNil ρ s = some ([], s) := rfl
@[simp] theorem ev_maCons : maCons a as ρ s = (match a ρ s with | some (x, s1) => (match as ρ s1 with | some (xs, s2) => some (x :: xs, s2) | none => none) | none => none) := by
  unfold maCons bnd
  rcases a ρ s with _ | ⟨_, s1⟩
  · rfl
  · dsimp only
    rcases as ρ s1 with _ | ⟨_, _⟩ <;> rfl
@[simp] theorem ev_mVar : mVar i ρ s = (match ρ[i]? with | some (some c) => some (rdCl c, s) | _ => none) := rfl
@[simp] theorem ev_mKon : mKon d ρ s = some (.d d, s) := rfl
@[simp] theorem ev_rdCl_d : rdCl (.d d) = .d d := rfl
@[simp] theorem ev_rdCl_s : rdCl .s = .s := rfl
@[simp] theorem ev_rdCl_o {xs : List PyData} : rdCl (.o xs) = .b xs := rfl
@[simp] theorem ev_bT : bT a ρ s = (match a ρ s with | some (.d (.bool k), s1) => some (k, s1) | _ => none) := by
  unfold bT bnd
  cases a ρ s with
  | none => rfl
  | some p =>
    obtain ⟨x, s1⟩ := p
    cases x with
    | d z => cases z <;> rfl
    | f _ => rfl
    | b _ => rfl
    | s => rfl
    | m _ => rfl
    | t _ => rfl
    | n _ => rfl
    | u _ => rfl
@[simp] theorem ev_fI {g : Int → Int → Option PyData} {i j : Int} : fI g (.d (.int i)) (.d (.int j)) = (g i j).map .d := rfl
@[simp] theorem ev_gMns {i j : Int} : gMns i j = some (.int (i - j)) := rfl
@[simp] theorem ev_gLt {i j : Int} : gLt i j = some (.bool (decide (i < j))) := rfl
@[simp] theorem ev_gLe {i j : Int} : gLe i j = some (.bool (decide (i ≤ j))) := rfl
@[simp] theorem ev_gGt {i j : Int} : gGt i j = some (.bool (decide (j < i))) := rfl
@[simp] theorem ev_gGe {i j : Int} : gGe i j = some (.bool (decide (j ≤ i))) := rfl
@[simp] theorem ev_fNeg {i : Int} : fNeg (.d (.int i)) = some (.d (.int (-i))) := rfl
@[simp] theorem ev_fNot {k : Bool} : fNot (.d (.bool k)) = some (.d (.bool (!k))) := rfl
@[simp] theorem ev_rdL1 {xs : List PyData} : rdL (.d (.list xs)) = some xs := rfl
@[simp] theorem ev_rdL2 {xs : List PyData} : rdL (.f xs) = some xs := rfl
@[simp] theorem ev_rdL3 {xs : List PyData} : rdL (.b xs) = some xs := rfl
@[simp] theorem ev_rdQ1 {xs : List PyData} : rdQ (.d (.list xs)) = some xs := rfl
@[simp] theorem ev_rdQ2 {xs : List PyData} : rdQ (.f xs) = some xs := rfl
@[simp] theorem ev_rdQ3 {xs : List PyData} : rdQ (.b xs) = some xs := rfl
@[simp] theorem ev_rdQ4 {xs : List PyData} : rdQ (.d (.tuple xs)) = some xs := rfl
@[simp] theorem ev_rdD1 : rdD (.d d) = some d := rfl
@[simp] theorem ev_rdD2 {xs : List PyData} : rdD (.f xs) = some (.list xs) := rfl
@[simp] theorem ev_rdD3 {xs : List PyData} : rdD (.b xs) = some (.list xs) := rfl
@[simp] theorem ev_toD1 : toD (.d d) = some d := rfl
@[simp] theorem ev_toD2 {xs : List PyData} : toD (.f xs) = some (.list xs) := rfl
@[simp] theorem ev_toDs0 : toDs [] = some [] := rfl
@[simp] theorem ev_toDs1 {rs : List R} : toDs (x :: rs) = (match toD x, toDs rs with | some x, some xs => some (x :: xs) | _, _ => none) := rfl
@[simp] theorem ev_toCl1 : toCl (.d d) = some (.d d) := rfl
@[simp] theorem ev_toCl2 {xs : List PyData} : toCl (.f xs) = some (.o xs) := rfl
@[simp] theorem ev_toCl3 : toCl .s = some .s := rfl
@[simp] theorem ev_toArg1 : toArg (.d d) = some (.d d) := rfl
@[simp] theorem ev_toArg2 {xs : List PyData} : toArg (.f xs) = some (.d (.list xs)) := rfl
@[simp] theorem ev_toArg3 : toArg .s = some .s := rfl
@[simp] theorem ev_toArgs0 : toArgs [] = some [] := rfl
@[simp] theorem ev_toArgs1 {rs : List R} : toArgs (x :: rs) = (match toArg x, toArgs rs with | some x, some xs => some (x :: xs) | _, _ => none) := rfl
@[simp] theorem ev_mCall {g : Fx} : mCall g as ρ s = (match as ρ s with | some (rs, s1) => (match toArgs rs with | some cs => g cs s1 | none => none) | none => none) := by
  unfold mCall bnd
  rcases as ρ s with _ | ⟨_, _⟩ <;> rfl
@[simp] theorem ev_tAnd2 : tAnd2 ta tb ρ s = (match ta ρ s with | some (true, s1) => tb ρ s1 | some (false, s1) => some (false, s1) | none => none) := by
  unfold tAnd2 bnd
  rcases ta ρ s with _ | ⟨_ | _, _⟩ <;> rfl
@[simp] theorem ev_tOr2 : tOr2 ta tb ρ s = (match ta ρ s with | some (false, s1) => tb ρ s1 | some (true, s1) => some (true, s1) | none => none) := by
  unfold tOr2 bnd
  rcases ta ρ s with _ | ⟨_ | _, _⟩ <;> rfl
@[simp] theorem ev_tNot2 : tNot2 ta ρ s = (match ta ρ s with | some (k, s1) => some (!k, s1) | none => none) := by
  unfold tNot2 bnd
  rcases ta ρ s with _ | ⟨_, _⟩ <;> rfl
@[simp] theorem ev_mIf : mIf ta a b ρ s = (match ta ρ s with | some (true, s1) => a ρ s1 | some (false, s1) => b ρ s1 | none => none) := by
  unfold mIf bnd
  rcases ta ρ s with _ | ⟨_ | _, _⟩ <;> rfl
@[simp] theorem ev_mAnd : mAnd a b ρ s = (match a ρ s with | some (.d (.bool true), s1) => b ρ s1 | some (.d (.bool false), s1) => some (.d (.bool false), s1) | _ => none) := by
  unfold mAnd bnd
  cases a ρ s with
  | none => rfl
  | some p =>
    obtain ⟨x, s1⟩ := p
    cases x with
    | d z =>
      cases z with
      | bool k => cases k <;> rfl
      | _ => rfl
    | f _ => rfl
    | b _ => rfl
    | s => rfl
    | m _ => rfl
    | t _ => rfl
    | n _ => rfl
    | u _ => rfl
@[simp] theorem ev_mOr : mOr a b ρ s = (match a ρ s with | some (.d (.bool false), s1) => b ρ s1 | some (.d (.bool true), s1) => some (.d (.bool true), s1) | _ => none) := by
  unfold mOr bnd
  cases a ρ s with
  | none => rfl
  | some p =>
    obtain ⟨x, s1⟩ := p
    cases x with
    | d z =>
      cases z with
      | bool k => cases k <;> rfl
      | _ => rfl
    | f _ => rfl
    | b _ => rfl
    | s => rfl
    | m _ => rfl
    | t _ => rfl
    | n _ => rfl
    | u _ => rfl
@[simp] theorem ev_mSeq : mSeq ma mb ρ s = (match ma ρ s with | some (.nx, ρ1, s1) => mb ρ1 s1 | some r => some r | none => none) := rfl
@[simp] theorem ev_mNil : mNil ρ s = some (.nx, ρ, s) := rfl
@[simp] theorem ev_mIfS : mIfS ta ma mb ρ s = (match ta ρ s with | some (true, s1) => ma ρ s1 | some (false, s1) => mb ρ s1 | none => none) := rfl
@[simp] theorem ev_mRet : mRet a ρ s = (match a ρ s with | some (.d x, s1) => some (.rt (.d x), ρ, s1) | some (.f xs, s1) => some (.rt (.f xs), ρ, s1) | _ => none) := rfl
@[simp] theorem ev_mRetV : mRetV i ρ s = (match ρ[i]? with | some (some (.d x)) => some (.rt (.d x), ρ, s) | some (some (.o xs)) => some (.rt (.f xs), ρ, s) | _ => none) := rfl
@[simp] theorem ev_mSet : mSet i a ρ s = (match a ρ s with | some (r, s1) => (match toCl r with | some c => some (.nx, ρ.set i (some c), s1) | none => none) | none => none) := rfl
@[simp] theorem ev_mYes : mYes ρ s = some (true, s) := rfl
@[simp] theorem ev_mFor {it : Mi} {g : Gx} : mFor it g ma ρ s = (match it ρ s with | some (xs, s1) => forRun g ma xs ρ s1 | none => none) := rfl
@[simp] theorem ev_mSeqI : mSeqI a ρ s = (match a ρ s with | some (x, s1) => ret (itemsOf x) s1 | none => none) := by
  unfold mSeqI bnd
  rcases a ρ s with _ | ⟨_, _⟩ <;> rfl
@[simp] theorem ev_mArgI {f : List R → Option (List PyData)} : mArgI f as ρ s = (match as ρ s with | some (x, s1) => ret (f x) s1 | none => none) := by
  unfold mArgI bnd
  rcases as ρ s with _ | ⟨_, _⟩ <;> rfl
@[simp] theorem ev_items1 {xs : List PyData} : itemsOf (.d (.list xs)) = some xs := rfl
@[simp] theorem ev_items2 {xs : List PyData} : itemsOf (.d (.tuple xs)) = some xs := rfl
@[simp] theorem ev_items3 {xs : List PyData} : itemsOf (.f xs) = some xs := rfl
@[simp] theorem ev_gN : gN i d ρ = some (ρ.set i (some (.d d))) := rfl
@[simp] theorem ev_gT {n : Nat} {g : Gxs} {xs : List PyData} : gT n g (.tuple xs) ρ = if xs.length = n then g xs ρ else none := rfl
@[simp] theorem ev_gsNil : gsNil [] ρ = some ρ := rfl
@[simp] theorem ev_gsCons {g : Gx} {r : Gxs} {xs : List PyData} : gsCons g r (d :: xs) ρ = (match g d ρ with | some ρ1 => r xs ρ1 | none => none) := rfl
@[simp] theorem ev_mIx : mIx a b ρ s = (match a ρ s with | some (x, s1) => (match b ρ s1 with | some (y, s2) => (match fIx s2 x y with | some z => some (z, s2) | none => none) | none => none) | none => none) := by
  unfold mIx bnd
  rcases a ρ s with _ | ⟨_, s1⟩
  · rfl
  · dsimp only
    rcases b ρ s1 with _ | ⟨_, _⟩ <;> rfl
@[simp] theorem ev_fIxT {xs : List PyData} {i : Int} : fIx s (.d (.tuple xs)) (.d (.int i)) = (atI xs i).map R.d := by
  show (match rdQ (.d (.tuple xs)) with | some xs => (atI xs i).map R.d | none => none) = _
  rfl
@[simp] theorem ev_fIxL {xs : List PyData} {i : Int} : fIx s (.d (.list xs)) (.d (.int i)) = (atI xs i).map R.d := rfl
@[simp] theorem ev_fIxB {xs : List PyData} {i : Int} : fIx s (.b xs) (.d (.int i)) = (atI xs i).map R.d := rfl
@[simp] theorem ev_fIxF {xs : List PyData} {i : Int} : fIx s (.f xs) (.d (.int i)) = (atI xs i).map R.d := rfl
@[simp] theorem ev_fIxS {i : Int} : fIx s .s (.d (.int i)) = (atI s i).map fun j => .d (.int j) := rfl
@[simp] theorem ev_atI0 {x : α} {xs : List α} : atI (x :: xs) 0 = some x := by
  unfold atI ixN
  simp
@[simp] theorem ev_atI1 {x y : α} {xs : List α} : atI (x :: y :: xs) 1 = some y := by
  have h : (1 : Int) < (xs.length : Int) + 1 + 1 := by omega
  unfold atI ixN
  simp [h]
@[simp] theorem ev_atI2 {x y z : α} {xs : List α} : atI (x :: y :: z :: xs) 2 = some z := by
  have h : (2 : Int) < (xs.length : Int) + 1 + 1 + 1 := by omega
  unfold atI ixN
  simp [h]
@[simp] theorem ev_fLen : fLen [x] = (rdQ x).map fun xs => .d (.int xs.length) := rfl
@[simp] theorem ev_fIsi {T : String} : fIsi T x = (rdD x).map fun d => .d (.bool (isA T d)) := rfl
@[simp] theorem ev_fTup {rs : List R} : fTup rs = (match toDs rs with | some xs => if xs.length ≤ sizeLine then some (.d (.tuple xs)) else none | none => none) := rfl
@[simp] theorem ev_fLst {rs : List R} : fLst rs = (match toDs rs with | some xs => if xs.length ≤ sizeLine then some (.f xs) else none | none => none) := rfl
@[simp] theorem ev_fGcd {i j : Int} : fGcd [.d (.int i), .d (.int j)] = some (.d (.int ((Nat.gcd i.natAbs j.natAbs : Nat) : Int))) := rfl
@[simp] theorem ev_fAbs {i : Int} : fAbs [.d (.int i)] = some (.d (.int (if i < 0 then -i else i))) := rfl
@[simp] theorem ev_fInt {i : Int} : fInt [.d (.int i)] = some (.d (.int i)) := rfl
@[simp] theorem ev_fTupOf1 {xs : List PyData} : fTupOf [.f xs] = some (.d (.tuple xs)) := rfl
@[simp] theorem ev_fTupOf2 {xs : List PyData} : fTupOf [.b xs] = some (.d (.tuple xs)) := rfl
@[simp] theorem ev_fTupOf3 {xs : List PyData} : fTupOf [.d (.list xs)] = some (.d (.tuple xs)) := rfl
@[simp] theorem ev_fTupOf4 {xs : List PyData} : fTupOf [.d (.tuple xs)] = some (.d (.tuple xs)) := rfl
@[simp] theorem ev_fAddI {i j : Int} : fAdd (.d (.int i)) (.d (.int j)) = some (.d (.int (i + j))) := rfl
@[simp] theorem ev_fAddT {xs ys : List PyData} : fAdd (.d (.tuple xs)) (.d (.tuple ys)) = if xs.length + ys.length ≤ sizeLine then some (.d (.tuple (xs ++ ys))) else none := rfl
@[simp] theorem ev_fMulI {i j : Int} : fMul (.d (.int i)) (.d (.int j)) = if mulOk i j = true then some (.d (.int (i * j))) else none := rfl
@[simp] theorem ev_mCnt : mCnt ρ s = some (.ct, ρ, s) := rfl
@[simp] theorem ev_mRetN : mRetN ρ s = some (.rt (.d .none), ρ, s) := rfl
@[simp] theorem ev_forNil {g : Gx} : forRun g ma [] ρ s = some (.nx, ρ, s) := rfl
@[simp] theorem ev_lcNil {vs : List Nat} {g : Gx} : lcRun vs g ta a [] ρ s = some ([], s) := rfl
@[simp] theorem ev_mFrz {is : List Nat} : mFrz is ma ρ s = ma (frzs ρ is) s := rfl
@[simp] theorem ev_wipe0 : wipeE ρ [] = ρ := rfl
@[simp] theorem ev_wipe1 {v : Nat} {vs : List Nat} : wipeE ρ (v :: vs) = (wipeE ρ vs).set v none := rfl
@[simp] theorem ev_isA_int_int {i : Int} : isA "int" (.int i) = true := rfl
@[simp] theorem ev_isA_int_bool {k : Bool} : isA "int" (.bool k) = true := rfl
@[simp] theorem ev_isA_int_none : isA "int" .none = false := rfl
@[simp] theorem ev_isA_int_str {x : Str} : isA "int" (.str x) = false := rfl
@[simp] theorem ev_isA_int_list {xs : List PyData} : isA "int" (.list xs) = false := rfl
@[simp] theorem ev_isA_int_tuple {xs : List PyData} : isA "int" (.tuple xs) = false := rfl
@[simp] theorem ev_isA_int_dict {xs : List (PyData × PyData)} : isA "int" (.dict xs) = false := rfl
@[simp] theorem ev_isA_bool_int {i : Int} : isA "bool" (.int i) = false := rfl
@[simp] theorem ev_isA_bool_bool {k : Bool} : isA "bool" (.bool k) = true := rfl
@[simp] theorem ev_isA_bool_none : isA "bool" .none = false := rfl
@[simp] theorem ev_isA_bool_str {x : Str} : isA "bool" (.str x) = false := rfl
@[simp] theorem ev_isA_bool_list {xs : List PyData} : isA "bool" (.list xs) = false := rfl
@[simp] theorem ev_isA_bool_tuple {xs : List PyData} : isA "bool" (.tuple xs) = false := rfl
@[simp] theorem ev_isA_bool_dict {xs : List (PyData × PyData)} : isA "bool" (.dict xs) = false := rfl
@[simp] theorem ev_isA_tuple_int {i : Int} : isA "tuple" (.int i) = false := rfl
@[simp] theorem ev_isA_tuple_bool {k : Bool} : isA "tuple" (.bool k) = false := rfl
@[simp] theorem ev_isA_tuple_none : isA "tuple" .none = false := rfl
@[simp] theorem ev_isA_tuple_str {x : Str} : isA "tuple" (.str x) = false := rfl
@[simp] theorem ev_isA_tuple_list {xs : List PyData} : isA "tuple" (.list xs) = false := rfl
@[simp] theorem ev_isA_tuple_tuple {xs : List PyData} : isA "tuple" (.tuple xs) = true := rfl
@[simp] theorem ev_isA_tuple_dict {xs : List (PyData × PyData)} : isA "tuple" (.dict xs) = false := rfl
end
end Dh
namespace Dh
open PySem PySem.Spec L2
def isNon : PyData → Bool
  | .none => true
  | _ => false
def fIs (neg : Bool) : R → R → Option R
  | x, .d .none => (rdD x).map fun d => .d (.bool (if neg then !isNon d else isNon d))
  | _, _ => none
section
variable {K : PySem.W.Frag} {sp : Option Addr} {fz : Fz} {H H0 : Hp} {v : V} {x : R} {d : PyData}
theorem ImR.isNon (i : ImR K sp H0 fz H v x) (e : rdD x = some d) : decide (v = V.non) = Dh.isNon d := by
  cases x with
  | d x =>
    cases e
    cases i <;> first | rfl | simp [Dh.isNon]
  | f xs => cases e; obtain ⟨a, vs, rfl, _⟩ := i; simp [Dh.isNon]
  | b xs => cases e; obtain ⟨a, vs, rfl, _⟩ := i; simp [Dh.isNon]
  | s => cases e
  | m _ => cases e
  | t _ => cases e
  | n _ => cases e
  | u _ => cases e
end
section
variable {X : Cx} {a b : Expr} {ma mb : Mx} {pos : Pos}
theorem ok_is : Ok2 X.K (fun x y H Q => y = .non ∧ Q (.bl (decide (x = .non))) H) (fIs false) := by
  intro sp fz H H0 sto v w x y z Q B ix iy h k
  unfold fIs at h
  split at h
  · obtain ⟨d, hd, rfl⟩ := Option.map_eq_some_iff.mp h
    cases iy
    refine ⟨rfl, k _ fz H .refl B.spl ?_⟩
    rw [ix.isNon hd]
    exact .bl _
  · cases h
theorem sb_is (ha : SE X a ma) (hb : SE X b mb) : SB X (.Compare a [.Is] [b] pos) (bT (m2 (fIs false) ma mb)) := sb_cmp op_isN ok_is ha hb (nomark _)
end
end Dh
namespace Dh
open PySem PySem.Spec L2
def lcRun2 (vs vs1 : List Nat) (g : Gx) (t : Mt) (it1 : Mi) (g1 : Gx) (t1 : Mt) (e : Mx) : List PyData → Ev → Sto → Option (List PyData × Sto)
  | [] => fun _ s => some ([], s)
  | x :: xs => fun ρ s => match g x (wipeE ρ vs) with
    | none => none
    | some ρ1 => match t ρ1 s with
      | none => none
      | some (false, s1) => lcRun2 vs vs1 g t it1 g1 t1 e xs ρ s1
      | some (true, s1) => match it1 ρ1 s1 with
        | none => none
        | some (zs, s2) => match lcRun vs1 g1 t1 e zs ρ1 s2 with
          | none => none
          | some (ys, s3) => match lcRun2 vs vs1 g t it1 g1 t1 e xs ρ s3 with
            | none => none
            | some (ys', s4) => some (ys ++ ys', s4)
def mLc2 (it : Mi) (vs : List Nat) (g : Gx) (t : Mt) (it1 : Mi) (vs1 : List Nat) (g1 : Gx) (t1 : Mt) (e : Mx) : Mx := fun ρ s => match it ρ s with
  | some (xs, s1) => match lcRun2 vs vs1 g t it1 g1 t1 e xs ρ s1 with
    | some (ys, s2) => if ys.length ≤ sizeLine then some (.f ys, s2) else none
    | none => none
  | none => none
end Dh
namespace Dh
open PySem PySem.Spec L2
def fIn (neg : Bool) : R → R → Option R := fun x y => match rdD x, y with
  | some d, .d (.tuple ds) => if eqOk d = true ∧ eqOk (.tuple ds) = true then some (.d (.bool (if neg then !(ds.any fun z => PyData.eqv z d) else ds.any fun z => PyData.eqv z d))) else none
  | some d, y => match rdL y with
    | some ds => if eqOk d = true ∧ eqOk (.list ds) = true then some (.d (.bool (if neg then !(ds.any fun z => PyData.eqv z d) else ds.any fun z => PyData.eqv z d))) else none
    | none => none
  | _, _ => none
def rInT (K : PySem.W.Frag) (neg : Bool) : R2 := fun x y H Q => ∃ d ds, Dp K H x d ∧ Dp K H y (.tuple ds) ∧ SeqAt.shaped d = true ∧ SeqAt.shaped (.tuple ds) = true ∧ Q (.bl (if neg then !(ds.any fun z => PyData.eqv z d) else ds.any fun z => PyData.eqv z d)) H
section
variable {X : Cx}
theorem op_inT (hu : X.A.units + 65 < cLine) : OpR X (compareOp .In) (rInT X.K false) := by
  intro pins s σ H x y v u Q I rx ry h
  obtain ⟨d, ds, hd, he, sd, se, q⟩ := h
  obtain ⟨as, r1⟩ := Dp.reads I d x v hd rx
  obtain ⟨bs, r2⟩ := Dp.reads I (.tuple ds) y u he ry
  exact SeqAt.in_tuple_reads r2 r1 (SeqAt.canLay_of_shaped se) (SeqAt.canLay_of_shaped sd) (by have h1 := SeqAt.depth_of_shaped sd; have h2 := Nat.min_le_right (PyData.depthAll ds) d.depth; omega) ⟨.bl _, H, I, rfl, q⟩
theorem op_notInT (hu : X.A.units + 65 < cLine) : OpR X (compareOp .NotIn) (rInT X.K true) := by
  intro pins s σ H x y v u Q I rx ry h
  obtain ⟨d, ds, hd, he, sd, se, q⟩ := h
  obtain ⟨as, r1⟩ := Dp.reads I d x v hd rx
  obtain ⟨bs, r2⟩ := Dp.reads I (.tuple ds) y u he ry
  exact SeqAt.notIn_tuple_reads r2 r1 (SeqAt.canLay_of_shaped se) (SeqAt.canLay_of_shaped sd) (by have h1 := SeqAt.depth_of_shaped sd; have h2 := Nat.min_le_right (PyData.depthAll ds) d.depth; omega) ⟨.bl _, H, I, rfl, q⟩
def rInB (K : PySem.W.Frag) (neg : Bool) : R2 := fun x y H Q => (if neg then rNotInD K x y H Q else rInD K x y H Q) ∨ rInT K neg x y H Q
theorem op_inB (hu : X.A.units + 65 < cLine) : OpR X (compareOp .In) (rInB X.K false) := (op_inD hu).or (op_inT hu)
theorem op_notInB (hu : X.A.units + 65 < cLine) : OpR X (compareOp .NotIn) (rInB X.K true) := (op_notInD hu).or (op_notInT hu)
theorem eqOk_of2 {d : PyData} (h : eqOk d = true) : noDict d = true ∧ SeqAt.shaped d = true := by
  simpa [eqOk] using h
theorem rdL_rdD {y : R} {ds : List PyData} (h : rdL y = some ds) : rdD y = some (.list ds) := by
  unfold rdL at h
  split at h <;> first | (cases h; rfl) | cases h
theorem ok_in (neg : Bool) : Ok2 X.K (rInB X.K neg) (fIn neg) := by
  intro sp fz H H0 sto v w x y z Q B ix iy h k
  unfold fIn at h
  split at h
  · rename_i d ds hd
    split at h
    · rename_i hz
      cases h
      have a := eqOk_of2 hz.1
      have b := eqOk_of2 hz.2
      exact .inr ⟨d, ds, ix.dp hd a.1, iy.dp rfl b.1, a.2, b.2, k _ fz H .refl B.spl (.bl _)⟩
    · cases h
  · rename_i d hd _
    split at h
    · rename_i ds hl
      split at h
      · rename_i hz
        cases h
        have a := eqOk_of2 hz.1
        have b := eqOk_of2 hz.2
        cases neg with
        | true => exact .inl ⟨d, ds, ix.dp hd a.1, iy.dp (rdL_rdD hl) b.1, a.2, b.2, k _ fz H .refl B.spl (.bl _)⟩
        | false => exact .inl ⟨d, ds, ix.dp hd a.1, iy.dp (rdL_rdD hl) b.1, a.2, b.2, k _ fz H .refl B.spl (.bl _)⟩
      · cases h
    · cases h
  · cases h
theorem units65 {A : Around} {k : Nat} (hr : Room k A) : A.units + 65 < cLine := by
  have := hr.un
  omega
variable {a b : Expr} {ma mb : Mx} {pos : Pos}
theorem se_in {k : Nat} (hr : Room k X.A) (ha : SE X a ma) (hb : SE X b mb) (hm : behindInMarks .In b = false := by rfl) : SE X (.Compare a [.In] [b] pos) (m2 (fIn false) ma mb) := se_cmp (op_inB (units65 hr)) (ok_in false) ha hb hm
theorem sb_notin {k : Nat} (hr : Room k X.A) (ha : SE X a ma) (hb : SE X b mb) (hm : behindInMarks .NotIn b = false := by rfl) : SB X (.Compare a [.NotIn] [b] pos) (bT (m2 (fIn true) ma mb)) := sb_cmp (op_notInB (units65 hr)) (ok_in true) ha hb hm
end
end Dh
namespace Dh
open PySem PySem.Spec L2
def putP (acc : List (Key × PyData)) (k : Key) (d : PyData) : List (Key × PyData) :=
  if (acc.any fun p => decide (p.1 = k)) = true then acc.map (fun p => if p.1 = k then (p.1, d) else p) else acc ++ [(k, d)]
def valP (acc : List (Key × PyData)) (k : Key) : Option PyData := (acc.find? fun p => decide (p.1 = k)).map (·.2)
def keyP : R → Option Key
  | .d (.int i) => some (.inl i)
  | .d (.str x) => some (.inr x)
  | _ => none
def kP : Key → PyData
  | .inl i => .int i
  | .inr x => .str x
def dOf (acc : List (Key × PyData)) : PyData := .dict (acc.map fun p => (kP p.1, p.2))
section
variable {K : PySem.W.Frag} {C : Cn} {sp : Option Addr} {fz fz1 : Fz} {ρ : Ev} {sto sto' : Sto} {σ : L2.St} {H H0 H1 : Hp}
theorem ImK.cons_inv {p : Key × V} {kvs : List (Key × V)} {acc : List (Key × PyData)} (h : ImK K fz H (p :: kvs) acc) : ∃ d acc', acc = (p.1, d) :: acc' ∧ Im K fz H p.2 d ∧ ImK K fz H kvs acc' := by
  obtain ⟨h1, h2⟩ := h
  cases acc with
  | nil => cases h1
  | cons q acc =>
    rw [List.map_cons, List.map_cons] at h1 h2
    cases h2 with
    | cons a b =>
      have e := List.cons.inj h1
      exact ⟨q.2, acc, by rw [e.1], a, e.2, b⟩
theorem ImK.any {k : Key} : ∀ {kvs : List (Key × V)} {acc : List (Key × PyData)}, ImK K fz H kvs acc → (kvs.any fun p => decide (p.1 = k)) = acc.any fun p => decide (p.1 = k)
  | [], acc, h => by
    have : acc = [] := List.map_eq_nil_iff.mp h.1.symm
    subst this; rfl
  | p :: kvs, acc, h => by
    obtain ⟨d, acc', rfl, _, h2⟩ := h.cons_inv
    rw [List.any_cons, List.any_cons, h2.any]
theorem ImK.over {k : Key} {v : V} {d : PyData} (i : Im K fz H v d) : ∀ {kvs : List (Key × V)} {acc : List (Key × PyData)}, ImK K fz H kvs acc → ImK K fz H (kvs.map fun kv => if kv.1 = k then (kv.1, v) else kv) (acc.map fun p => if p.1 = k then (p.1, d) else p)
  | [], acc, h => by
    have : acc = [] := List.map_eq_nil_iff.mp h.1.symm
    subst this; exact ⟨rfl, .nil⟩
  | p :: kvs, acc, h => by
    obtain ⟨e, acc', rfl, h1, h2⟩ := h.cons_inv
    obtain ⟨g1, g2⟩ := ImK.over i h2
    by_cases q : p.1 = k
    · refine ⟨?_, ?_⟩
      · simp only [List.map_cons, if_pos q]
        rw [g1]
      · simp only [List.map_cons, if_pos q]
        exact .cons i g2
    · refine ⟨?_, ?_⟩
      · simp only [List.map_cons, if_neg q]
        rw [g1]
      · simp only [List.map_cons, if_neg q]
        exact .cons h1 g2
theorem ImK.put {k : Key} {v : V} {d : PyData} {kvs : List (Key × V)} {acc : List (Key × PyData)} (h : ImK K fz H kvs acc) (i : Im K fz H v d) : ImK K fz H (putK kvs k v) (putP acc k d) := by
  unfold putK putP
  rw [h.any]
  split
  · exact ImK.over i h
  · refine ⟨?_, ?_⟩
    · rw [List.map_append, List.map_append, h.1]; rfl
    · rw [List.map_append, List.map_append]
      exact h.2.append (.cons i .nil)
theorem ImK.val {k : Key} : ∀ {kvs : List (Key × V)} {acc : List (Key × PyData)}, ImK K fz H kvs acc → (∀ v, valV kvs k = some v → ∃ d, valP acc k = some d ∧ Im K fz H v d) ∧ (valV kvs k = none → valP acc k = none)
  | [], acc, h => by
    have : acc = [] := List.map_eq_nil_iff.mp h.1.symm
    subst this; exact ⟨(fun v e => by cases e), fun _ => rfl⟩
  | p :: kvs, acc, h => by
    obtain ⟨d, acc', rfl, i, h2⟩ := h.cons_inv
    obtain ⟨g1, g2⟩ := h2.val (k := k)
    by_cases q : p.1 = k
    · refine ⟨fun v e => ?_, fun e => ?_⟩
      · rw [valV_pos q] at e
        cases e
        exact ⟨d, by simp [valP, q], i⟩
      · rw [valV_pos q] at e; cases e
    · refine ⟨fun v e => ?_, fun e => ?_⟩
      · rw [valV_neg q] at e
        obtain ⟨d', e1, e2⟩ := g1 v e
        exact ⟨d', by rw [← e1]; simp [valP, q], e2⟩
      · rw [valV_neg q] at e
        rw [← g2 e]
        simp [valP, q]
theorem ImK.stp (s : Stp sp fz H fz1 H1) (B : Bs sp fz H sto) {kvs : List (Key × V)} {acc : List (Key × PyData)} (h : ImK K fz H kvs acc) : ImK K fz1 H1 kvs acc := ⟨h.1, h.2.stp s B⟩
theorem ImK.sts (s : Sts sp fz H fz1 H1) (B : Bs sp fz H sto) {kvs : List (Key × V)} {acc : List (Key × PyData)} (h : ImK K fz H kvs acc) : ImK K fz1 H1 kvs acc := ⟨h.1, h.2.sts s B⟩
theorem ImK.len {kvs : List (Key × V)} {acc : List (Key × PyData)} (h : ImK K fz H kvs acc) : kvs.length = acc.length := by
  have := congrArg List.length h.1
  rwa [List.length_map, List.length_map] at this
end
def dcRun (vs : List Nat) (g : Gx) (t : Mt) (ek ev : Mx) : List PyData → List (Key × PyData) → Ev → Sto → Option (List (Key × PyData) × Sto)
  | [], acc => fun _ s => some (acc, s)
  | x :: xs, acc => fun ρ s => match g x (wipeE ρ vs) with
    | none => none
    | some ρ1 => match t ρ1 s with
      | none => none
      | some (false, s1) => dcRun vs g t ek ev xs acc ρ s1
      | some (true, s1) => match ek ρ1 s1 with
        | none => none
        | some (rk, s2) => match ev ρ1 s2 with
          | none => none
          | some (rv, s3) => match keyP rk, toD rv with
            | some k, some y => if acc.length < sizeLine then dcRun vs g t ek ev xs (putP acc k y) ρ s3 else none
            | _, _ => none
def mDc (it : Mi) (vs : List Nat) (g : Gx) (t : Mt) (ek ev : Mx) : Mx := fun ρ s => match it ρ s with
  | some (xs, s1) => match dcRun vs g t ek ev xs [] ρ s1 with
    | some (acc, s2) => some (.d (dOf acc), s2)
    | none => none
  | none => none
theorem keyP_im {K : PySem.W.Frag} {sp : Option Addr} {fz : Fz} {H H0 : Hp} {v : V} {r : R} {k : Key} (i : ImR K sp H0 fz H v r) (e : keyP r = some k) : v = kV k := by
  unfold keyP at e
  split at e
  · cases e; cases i; rfl
  · cases e; cases i; rfl
  · cases e
def kEq (q : PyData) (k : Key) : Bool := match q, k with
  | .int i, .inl j => decide (i = j)
  | .str i, .inr j => decide (i = j)
  | _, _ => false
def m3 (f : R → R → R → Option R) (a b c : Mx) : Mx := bnd a fun x => bnd b fun y => bnd c fun z _ => ret (f x y z)
/-- what a tracked dict has under a key, as data -/
theorem dct_val {K : PySem.W.Frag} {fz : Fz} {H : Hp} {k : Key} : ∀ {kvs : List (Key × V)} {ds : List (PyData × PyData)}, ImA K fz H (kvs.map fun p => kV p.1) (ds.map (·.1)) → ImA K fz H (kvs.map (·.2)) (ds.map (·.2)) →
    (∀ v, valV kvs k = some v → ∃ d, (ds.find? fun p => kEq p.1 k).map (·.2) = some d ∧ Im K fz H v d) ∧
    (valV kvs k = none → (ds.find? fun p => kEq p.1 k).map (·.2) = none)
  | [], ds, a, b => by
    cases ds with
    | nil => exact ⟨(fun v e => by cases e), fun _ => rfl⟩
    | cons q ds => cases a
  | p :: kvs, ds, a, b => by
    cases ds with
    | nil => cases a
    | cons q ds =>
      rw [List.map_cons, List.map_cons] at a b
      cases a with
      | cons a1 a2 =>
        cases b with
        | cons b1 b2 =>
          obtain ⟨g1, g2⟩ := dct_val (k := k) a2 b2
          obtain ⟨p1, p2⟩ := p
          obtain ⟨q1, q2⟩ := q
          have key : kEq q1 k = decide (p1 = k) := by
            cases p1 with
            | inl i =>
              dsimp only [kV] at a1
              cases a1
              cases k with
              | inl j => simp [kEq]
              | inr j => simp [kEq]
            | inr i =>
              dsimp only [kV] at a1
              cases a1
              cases k with
              | inl j => simp [kEq]
              | inr j => simp [kEq]
          by_cases e : p1 = k
          · rw [decide_eq_true e] at key
            refine ⟨fun v h => ?_, fun h => ?_⟩
            · rw [valV_pos (p := (p1, p2)) e] at h
              cases h
              exact ⟨q2, by rw [List.find?_cons]; simp only [key]; rfl, b1⟩
            · rw [valV_pos (p := (p1, p2)) e] at h; cases h
          · rw [decide_eq_false e] at key
            refine ⟨fun v h => ?_, fun h => ?_⟩
            · rw [valV_neg (p := (p1, p2)) e] at h
              obtain ⟨d, e1, e2⟩ := g1 v h
              exact ⟨d, by rw [List.find?_cons]; simp only [key]; exact e1, e2⟩
            · rw [valV_neg (p := (p1, p2)) e] at h
              rw [List.find?_cons]
              simp only [key]
              exact g2 h
def mSwap (i : Nat) (ix1 ix2 : Mx) (a : Mx) : Ms := fun ρ s => match a ρ s with
  | some (.d (.tuple [x, y]), s1) => match ix1 ρ s1, ρ[i]? with
    | some (.d (.int k1), s2), some (some (.o xs)) => match ixN xs.length k1 with
      | some j1 => match ix2 (ρ.set i (some (.o (xs.set j1 x)))) s2 with
        | some (.d (.int k2), s3) => match ixN xs.length k2 with
          | some j2 => some (.nx, (ρ.set i (some (.o (xs.set j1 x)))).set i (some (.o ((xs.set j1 x).set j2 y))), s3)
          | none => none
        | _ => none
      | none => none
    | _, _ => none
  | _ => none
end Dh
namespace Dh
open PySem PySem.Spec L2 PySem.W PyProof.Rows
/-- a list, a tuple -/
inductive Sk where
  | l | t
def Sk.Sq (k : Sk) (K : PySem.W.Frag) (H : Hp) (a : Addr) (xs : List V) : Prop := match k with
  | .l => SqL K H a xs
  | .t => SqT K H a xs
def Sk.Is (k : Sk) (h : Heap) (a : Addr) (its : Array Value) : Prop := match k with
  | .l => h.IsList a its
  | .t => h.IsTuple a its
def Sk.Ir (k : Sk) (h : Heap) (it a : Addr) (i : Nat) : Prop := match k with
  | .l => h.IsListIter it a i
  | .t => h.IsTupleIter it a i
def Sk.ob (k : Sk) (a : Addr) : Obj := match k with
  | .l => { cls := .type "list_iterator", data := .fields #[.ref a, .int 0 0] }
  | .t => { cls := .type "tuple_iterator", data := .fields #[.ref a, .int 0 0] }
section
variable {X : Cx} {pins : List (Addr × Obj)} {σ : L2.St} {H : Hp} {s : Shared} {k : Sk} {a : Addr} {xs ys : List V}
theorem Sk.read (I : Inv X pins σ H s) (h : k.Sq X.K H a xs) : ∃ its : List Value, Vals xs its ∧ k.Is s.heap a its.toArray := by
  cases k with
  | l => obtain ⟨its, rv, p, _⟩ := I.list h; exact ⟨its, rv, p.isList⟩
  | t => obtain ⟨its, rv, p, _⟩ := I.tuple h; exact ⟨its, rv, (show s.heap.IsTuple a its.toArray from p)⟩
theorem Sk.inj (I : Inv X pins σ H s) (h : k.Sq X.K H a xs) (h2 : k.Sq X.K H a ys) : xs = ys := by
  cases k with
  | l => exact I.list_inj h h2
  | t => exact I.tuple_inj h h2
theorem Sk.lt {h : Heap} {its : Array Value} (p : k.Is h a its) : a < h.objs.size := by
  cases k with
  | l => obtain ⟨o, ho, _⟩ := id p; exact Heap.lt_size ho
  | t => obtain ⟨o, ho, _⟩ := id p; exact Heap.lt_size ho
theorem Sk.ir0 {h : Heap} {it : Addr} (e : h.get? it = some (k.ob a)) : k.Ir h it a 0 := by
  cases k with
  | l => exact ⟨_, e, rfl, rfl⟩
  | t => exact ⟨_, e, rfl, rfl⟩
theorem Sk.ir_obj {h : Heap} {it : Addr} {i : Nat} (e : k.Ir h it a i) : ∃ o, h.get? it = some o ∧ ∀ v, o.data ≠ .cell v := by
  cases k with
  | l => obtain ⟨o, e1, _, d⟩ := e; exact ⟨o, e1, fun v q => by rw [d] at q; cases q⟩
  | t => obtain ⟨o, e1, _, d⟩ := e; exact ⟨o, e1, fun v q => by rw [d] at q; cases q⟩
theorem Sk.ir_at {h h' : Heap} {it : Addr} {i : Nat} (e : k.Ir h it a i) (q : ∀ o, h.get? it = some o → h'.get? it = some o) : k.Ir h' it a i := by
  cases k with
  | l => exact Heap.IsListIter.at e fun o => q o
  | t => exact Heap.IsTupleIter.at e fun o => q o
theorem Sk.ir_lt {h : Heap} {it : Addr} {i : Nat} (e : k.Ir h it a i) : it < h.objs.size := by
  obtain ⟨o, e1, _⟩ := k.ir_obj e
  exact Heap.lt_size e1
theorem Sk.ne {h : Heap} {it : Addr} {i : Nat} {its : Array Value} (e : k.Ir h it a i) (p : k.Is h a its) : a ≠ it := fun q => by
  subst q
  cases k with
  | l => obtain ⟨o1, g1, c1, _⟩ := e; obtain ⟨o2, g2, c2, _⟩ := p; rw [g1] at g2; cases g2; rw [c1] at c2; simp at c2
  | t => obtain ⟨o1, g1, c1, _⟩ := e; obtain ⟨o2, g2, c2, _⟩ := p; rw [g1] at g2; cases g2; rw [c1] at c2; simp at c2
theorem Sk.begins (k : Sk) (a : Addr) (its : Array Value) : Begins (.ref a) (k.ob a) fun h => k.Is h a its := by
  cases k with
  | l => exact begins_list a its
  | t => exact begins_tuple a its
theorem Sk.draws {prog : Program} {w : World} {A : Around} (hh : A.handled = none) (k : Sk) (it : Addr) (hne : a ≠ it) (its : Array Value) :
    Draws prog w A it [it, a] its.size (fun i v => its[i]? = some v) (fun i h => k.Ir h it a i ∧ k.Is h a its) := by
  cases k with
  | l => exact Draws.list hh it a hne its
  | t => exact Draws.tuple hh it a hne its
end
/-- both as they stand at each turn, the items in new pairs -/
def Iz2 (K : PySem.W.Frag) (k1 k2 : Sk) (a b : Addr) : It :=
  ⟨fun i H => ∃ (xs ys : List V) (x y : V), k1.Sq K H a xs ∧ k2.Sq K H b ys ∧ xs[i]? = some x ∧ ys[i]? = some y,
    fun i H v H' => ∃ T o x y, v = .ref T ∧ H T = none ∧ o.dict = none ∧ H' = upd H T (.frz o (.tup [x, y])) ∧ (∀ xs, k1.Sq K H a xs → xs[i]? = some x) ∧ ∀ ys, k2.Sq K H b ys → ys[i]? = some y,
    fun i H => ∃ xs ys : List V, k1.Sq K H a xs ∧ k2.Sq K H b ys ∧ i ≤ xs.length ∧ i ≤ ys.length ∧ (xs.length = i ∨ ys.length = i)⟩
theorem turn_z2 {P : Program} {w : World} {K : PySem.W.Frag} {elts : List Expr} {kk : Nat} {tpos : Pos} {k1 k2 : Sk} {a b z TI TO i1 i2 : Addr} (S : ZipSep2 z TI TO i1 i2 [i1, a] [i2, b]) :
    Turn P w K (.Tuple elts kk tpos) (Iz2 K k1 k2 a b) [z, TI, TO, i1, i2] z (fun i h => IsZip h z TI TO .none ∧ IsTupOf2 h TI (.ref i1) (.ref i2) ∧ (∃ x y, IsTupOf2 h TO x y) ∧ k1.Ir h i1 a i ∧ k2.Ir h i2 b i) where
  mem := by simp
  obj := fun i h st c hc => by
    obtain ⟨hz, hTI, ⟨x, y, hTO⟩, h1, h2⟩ := st
    have e' : c = z ∨ c = TI ∨ c = TO ∨ c = i1 ∨ c = i2 := by simpa using hc
    rcases e' with q | q | q | q | q
    · rw [q]; exact ⟨_, hz, fun v q => nomatch q⟩
    · rw [q]; exact ⟨_, hTI, fun v q => nomatch q⟩
    · rw [q]; exact ⟨_, hTO, fun v q => nomatch q⟩
    · rw [q]; exact k1.ir_obj h1
    · rw [q]; exact k2.ir_obj h2
  keep := fun i h h' st k => by
    obtain ⟨hz, hTI, ⟨x, y, hTO⟩, h1, h2⟩ := st
    exact ⟨k z (by simp) _ hz, k TI (by simp) _ hTI, ⟨x, y, k TO (by simp) _ hTO⟩, k1.ir_at h1 fun o q => k i1 (by simp) o q, k2.ir_at h2 fun o q => k i2 (by simp) o q⟩
  item := by
    intro X hP hw hK hc i pins s σ H E I hf st hg
    subst hP hw hK
    obtain ⟨hz, hTI, ⟨x0, y0, hTO⟩, h1, h2⟩ := st
    obtain ⟨xs, ys, x, y, hqx, hqy, hx, hy⟩ := hg
    obtain ⟨its, rv, p⟩ := k1.read I hqx
    obtain ⟨its2, rv2, p2⟩ := k2.read I hqy
    obtain ⟨u, hu, ru⟩ := rv.get hx
    obtain ⟨u2, hu2, ru2⟩ := rv2.get hy
    have hzl : z < s.heap.objs.size := Heap.lt_size hz
    have hh := I.ok.hd hc
    have na := k1.ne h1 p
    have nb := k2.ne h2 p2
    have l1 : i < its.toArray.size := by have := (List.getElem?_eq_some_iff.mp hu).1; simpa using this
    have l2 : i < its2.toArray.size := by have := (List.getElem?_eq_some_iff.mp hu2).1; simpa using this
    refine wpAny_pyNext_zipD2_item S (k1.draws (A := X.A.in1) hh i1 na its.toArray) (k2.draws (A := X.A.in1) hh i2 nb its2.toArray) hz hTI hTO ⟨h1, p⟩ ⟨h2, p2⟩ l1 l2 fun x1 x2 h' tk e1 e2 z' TO' h1' h2' hT hsz hk => ?_
    have eu : x1 = u := by
      have q : its[i]? = some x1 := by simpa using e1
      rw [hu] at q; cases q; rfl
    have eu2 : x2 = u2 := by
      have q : its2[i]? = some x2 := by simpa using e2
      rw [hu2] at q; cases q; rfl
    subst eu eu2
    refine ⟨_, rfl, wpAny_letOwnedTupleGo_zip (s := { s with heap := h', toks := tk }) z' fun h'' z'' sb => ?_⟩
    have hT2 : h''.get? s.heap.objs.size = some { cls := .type "tuple", data := .seq #[x1, x2] } := (sb.2 _ (Nat.ne_of_gt hzl)).trans hT
    have new : ObjOk X.prog X.w (upd H s.heap.objs.size (.frz { cls := .type "tuple", data := .seq #[x1, x2] } (.tup [x, y]))) h'' s.heap.objs.size (.frz { cls := .type "tuple", data := .seq #[x1, x2] } (.tup [x, y])) :=
      obj_tup (its := [x1, x2]) hT2 (by show 2 ≤ sizeLine; decide) (.cons ru (.cons ru2 .nil))
    have I1 : Inv X pins σ (upd H s.heap.objs.size (.frz { cls := .type "tuple", data := .seq #[x1, x2] } (.tup [x, y]))) { s with heap := h'', toks := tk } :=
      I.turnedNew (t' := tk) (ch := [z, TI, TO, i1, i2]) (fun c o hb q => (sb.2 c (fun q' => hb (by simp [q']))).trans (hk c o (fun q' => hb (by simp [q'])) (fun q' => hb (by simp [q'])) (fun q' => hb (by simp [q'])) (fun q' => hb (by simp [q'])) q)) hf (Nat.le_refl _) new
    refine ⟨.ref s.heap.objs.size, _, I1, rfl, ⟨_, _, x, y, rfl, I.hok.fresh (Nat.le_refl _), rfl, rfl, fun l hl => by rw [k1.inj I hl hqx]; exact hx, fun l hl => by rw [k2.inj I hl hqy]; exact hy⟩, ⟨z'', ?_, ⟨x1, x2, ?_⟩, ?_, ?_⟩, fun c hcm => ?_⟩
    · exact (sb.2 _ S.TIz).trans (hk _ _ S.TIz S.TITO S.TIi1 S.TIi2 hTI)
    · exact (sb.2 _ S.TOz).trans TO'
    · exact k1.ir_at h1'.1 fun o q => (sb.2 _ S.zi1.symm).trans q
    · exact k2.ir_at h2'.1 fun o q => (sb.2 _ S.zi2.symm).trans q
    · have hlt : c < s.heap.objs.size := by
        have e' : c = z ∨ c = TI ∨ c = TO ∨ c = i1 ∨ c = i2 := by simpa using hcm
        rcases e' with q | q | q | q | q
        · rw [q]; exact hzl
        · rw [q]; exact Heap.lt_size hTI
        · rw [q]; exact Heap.lt_size hTO
        · rw [q]; exact k1.ir_lt h1
        · rw [q]; exact k2.ir_lt h2
      rw [upd_ne (Nat.ne_of_lt hlt)]
      exact (hf c hcm).1
  done := by
    intro X hP hw hK hc i pins s σ H E I hf st hg
    subst hP hw hK
    obtain ⟨hz, hTI, ⟨x0, y0, hTO⟩, h1, h2⟩ := st
    obtain ⟨xs, ys, hqx, hqy, le1, le2, hend⟩ := hg
    obtain ⟨its, rv, p⟩ := k1.read I hqx
    obtain ⟨its2, rv2, p2⟩ := k2.read I hqy
    have l1 := rv.length
    have l2 := rv2.length
    have hh := I.ok.hd hc
    have na := k1.ne h1 p
    have nb := k2.ne h2 p2
    refine wpAny_pyNext_zipD2_end S (k1.draws (A := X.A.in1) hh i1 na its.toArray) (k2.draws (A := X.A.in1) hh i2 nb its2.toArray) hz hTI hTO ⟨h1, p⟩ ⟨h2, p2⟩ (by simp; omega) (by simp; omega) (by simp; omega) fun h' tk hk => ⟨rfl, I.turnedL (t' := tk) (ch := [z, TI, TO, i1, i2]) (fun c o hb q =>
      hk c o (fun q' => hb (by simp [q'])) (fun q' => hb (by simp [q'])) (fun q' => hb (by simp [q'])) (fun q' => hb (by simp [q'])) q) hf⟩
  self := fun A i s Q E st h => wpAny_pyIter_zip st.1 h
def iZ2 (K : PySem.W.Frag) (ta : TA) : TI := fun σ H R => ta σ H fun vs H1 => ∃ k1 k2 a b xs ys, vs = [.ref a, .ref b] ∧ Sk.Sq k1 K H1 a xs ∧ Sk.Sq k2 K H1 b ys ∧ R (Iz2 K k1 k2 a b) H1
section
variable {X : Cx} {e e2 e3 : Expr} {ta : TA} {p pos tpos : Pos} {elts : List Expr} {kk : Nat}
theorem pi_z2 (hg : Gl X "zip") (hm : X.mg "zip" = none) (ha : PA X [e, e2] ta)
    (hs : starEach [e, e2] X.env = (false, eval e X.env) :: starEach [e2] X.env := by rfl) (hpl : (backTo pos (starEach [e2] X.env)).any (·.1) = false := by rfl) :
    PI X (.Tuple elts kk tpos) (.Call (.Name "zip" p) [e, e2] [] pos) (iZ2 X.K ta) := by
  refine ⟨fun pins s σ H R I h => ?_⟩
  refine Call_ (ld_blt I hg hm PyProof.Rows.boot_zip (PyProof.Rows.callWith_type1 (thn (ha.run pos pins s σ H _ I h) fun us s1 ⟨vs, H1, I1, r1, q1⟩ => ?_) hs hpl))
  obtain ⟨k1, k2, a, b, xs, ys, ex, hqx, hqy, q⟩ := q1
  subst ex
  cases r1 with
  | cons r rr =>
    cases rr with
    | cons r' rr =>
      cases rr
      cases r
      cases r'
      obtain ⟨its, rv, p1⟩ := k1.read I1 hqx
      obtain ⟨its2, rv2, p2⟩ := k2.read I1 hqy
      refine zip_begins2 (k1.begins a its.toArray) (k2.begins b its2.toArray) p1 p2 fun h' hz hTI hTO g1 g2 hsz hk => wpAny_pyIter_zip hz ?_
      have I2 : Inv X pins σ H1 { s1 with heap := h' } := I1.kept (t' := s1.toks) hk
      refine ⟨s1.heap.objs.size + 4, [s1.heap.objs.size + 4, s1.heap.objs.size + 2, s1.heap.objs.size + 3, s1.heap.objs.size, s1.heap.objs.size + 1], _, _, H1, rfl, I2,
        turn_z2 (zip_sep2 (fp1 := [a]) (fp2 := [b]) (by simp; exact k1.lt p1) (by simp; exact k2.lt p2)), ⟨hz, hTI, ⟨_, _, hTO⟩, k1.ir0 g1, k2.ir0 g2⟩, fun c hcm => ?_, q⟩
      have e' : c = s1.heap.objs.size + 4 ∨ c = s1.heap.objs.size + 2 ∨ c = s1.heap.objs.size + 3 ∨ c = s1.heap.objs.size ∨ c = s1.heap.objs.size + 1 := by simpa using hcm
      have hle : s1.heap.objs.size ≤ c := by rcases e' with z | z | z | z | z <;> (rw [z]; first | exact Nat.le_refl _ | exact Nat.le_add_right _ _)
      exact I1.fpOk hle (I1.hok.fresh hle)
end
def seqOf : PyData → Option (List PyData)
  | .list xs => some xs
  | .tuple xs => some xs
  | _ => none
def trip (xs ys zs : List PyData) : List PyData := (xs.zip (ys.zip zs)).map fun p => PyData.tuple [p.1, p.2.1, p.2.2]
def zipQ2 (rs : List R) : Option (List PyData) := match toDs rs with
  | some [x, y] => match seqOf x, seqOf y with
    | some xs, some ys => some (pairs xs ys)
    | _, _ => none
  | _ => none
def zipQ3 (rs : List R) : Option (List PyData) := match toDs rs with
  | some [x, y, z] => match seqOf x, seqOf y, seqOf z with
    | some xs, some ys, some zs => some (trip xs ys zs)
    | _, _, _ => none
  | _ => none
section
variable {K : PySem.W.Frag} {sp : Option Addr} {fz : Fz} {H : Hp} {sto : Sto}
/-- a list or a tuple that stays -/
inductive FzQ (K : PySem.W.Frag) (fz : Fz) (H : Hp) : Sk → Addr → List V → Prop
  | l {a xs} : FzL K fz H a xs → FzQ K fz H .l a xs
  | t {a xs} : FzT K H a xs → FzQ K fz H .t a xs
theorem FzQ.sq {k : Sk} {a : Addr} {xs : List V} (h : FzQ K fz H k a xs) : k.Sq K H a xs := by
  cases h with
  | l h => exact h.sq
  | t h => exact h.sq
theorem FzQ.sts {fz1 : Fz} {H1 : Hp} {k : Sk} {a : Addr} {xs : List V} (s : Sts sp fz H fz1 H1) (B : Bs sp fz H sto) (h : FzQ K fz H k a xs) : FzQ K fz1 H1 k a xs := by
  cases h with
  | l h => exact .l (FzL.sts s B h)
  | t h => exact .t (FzT.sts s B h)
theorem Im.seqOf {v : V} {x : PyData} {xs : List PyData} (i : Im K fz H v x) (e : Dh.seqOf x = some xs) : ∃ k a vs, v = .ref a ∧ FzQ K fz H k a vs ∧ ImA K fz H vs xs := by
  unfold Dh.seqOf at e
  split at e
  · cases e
    cases i with
    | lst h a => exact ⟨.l, _, _, rfl, .l h, a⟩
  · cases e
    cases i with
    | tup h a => exact ⟨.t, _, _, rfl, .t h, a⟩
  · cases e
theorem goes_z2 {k1 k2 : Sk} {a b : Addr} {vs ws : List V} {xs ys : List PyData} (h1 : FzQ K fz H k1 a vs) (h2 : FzQ K fz H k2 b ws) (m1 : ImA K fz H vs xs) (m2 : ImA K fz H ws ys) (B0 : Bs sp fz H sto) : Goes K sp fz H (Iz2 K k1 k2 a b) (pairs xs ys) := by
  have len : (pairs xs ys).length = min vs.length ws.length := by unfold pairs; rw [List.length_map, List.length_zip, m1.length, m2.length]
  refine ⟨fun i fz1 H1 sto hi s B => ?_, fun fz1 H1 sto s B => ?_, fun i x fz1 H1 sto v H2 hx s B y => ?_⟩
  · rw [len] at hi
    have a1 : i < vs.length := by omega
    have a2 : i < ws.length := by omega
    exact ⟨vs, ws, vs[i], ws[i], (h1.sts s B0).sq, (h2.sts s B0).sq, List.getElem?_eq_getElem a1, List.getElem?_eq_getElem a2⟩
  · exact ⟨vs, ws, (h1.sts s B0).sq, (h2.sts s B0).sq, by rw [len]; omega, by rw [len]; omega, by rw [len]; omega⟩
  · obtain ⟨T, o, v1, v2, rfl, hT, hd, e, g1, g2⟩ := y
    obtain ⟨x1, x2, q1, q2, rfl⟩ := pairs_at hx
    obtain ⟨u1, p1, i1⟩ := m1.at i x1 q1
    obtain ⟨u2, p2, i2⟩ := m2.at i x2 q2
    rw [g1 vs (h1.sts s B0).sq] at p1; cases p1
    rw [g2 ws (h2.sts s B0).sq] at p2; cases p2
    exact pair_new B (i1.sts s B0) (i2.sts s B0) hT hd e
end
section
variable {X : Cx} {a b c : Expr} {m : Ma} {p pos tpos : Pos} {elts : List Expr} {kk : Nat}
theorem si_z2 (ha : SA X [a, b] m) (hm : X.mg "zip" = none) (hg : Gl X "zip" := by rfl) (hs : starEach [a, b] X.env = (false, eval a X.env) :: starEach [b] X.env := by rfl) (hpl : (backTo pos (starEach [b] X.env)).any (·.1) = false := by rfl) :
    SI X (.Tuple elts kk tpos) (.Call (.Name "zip" p) [a, b] [] pos) (mArgI zipQ2 m) := PI.imp (pi_z2 hg hm ha hs hpl) fun σ H R h => by
  obtain ⟨C, fz, ρ, sto, xs, sto', F, e, k⟩ := h
  obtain ⟨x, s1, ea, e1⟩ := bnd_some e
  obtain ⟨ef, rfl⟩ := ret_some e1
  clear e e1
  refine ⟨C, fz, ρ, sto, x, _, F, ea, fun v fz1 H1 st1 l1 i1 => ?_⟩
  have B1 := F.bs.step st1 l1
  unfold zipQ2 at ef
  split at ef
  · rename_i y1 y2 hds
    obtain ⟨fz2, st2, B2, g, im⟩ := ImRs.keep i1 hds st1 B1 fz1 st1 B1 fun _ h => h
    split at ef
    · rename_i q1 q2
      cases ef
      cases im with
      | cons j1 t1 =>
        cases t1 with
        | cons j2 t2 =>
          cases t2
          obtain ⟨k1, a1, v1, rfl, f1, m1⟩ := j1.seqOf q1
          obtain ⟨k2, a2, v2, rfl, f2, m2⟩ := j2.seqOf q2
          exact ⟨k1, k2, a1, a2, v1, v2, rfl, f1.sq, f2.sq, k _ fz2 H1 st2 l1 (goes_z2 f1 f2 m1 m2 B2)⟩
    · cases ef
  · cases ef
end
end Dh
namespace Dh
open PySem PySem.Spec PyProof.Rows L2 PySem.W
/-- fresh lists are not one another -/
def Dst (vs : List V) (rs : List R) : Prop := ∀ (i j : Nat) (a : Addr) (xs ys : List PyData), i < j → vs[i]? = some (.ref a) → rs[i]? = some (.f xs) → rs[j]? = some (.f ys) → vs[j]? ≠ some (.ref a)
def rdA2 (K : PySem.W.Frag) (m : Ma) : TA := fun σ H Q => ∃ (C : Cn) (fz : Fz) (ρ : Ev) (sto : Sto) (r : List R) (sto' : Sto), Fm K C fz ρ sto σ H ∧ m ρ sto = some (r, sto') ∧
  ∀ vs fz' H', Stp C.sp fz H fz' H' → SpL C.sp H' sto' → ImRs K C.sp H fz' H' vs r → Dst vs r → Q vs H'
def SA2 (X : Cx) (es : List Expr) (m : Ma) : Prop := PA X es (rdA2 X.K m)
theorem ImRs.at {K : PySem.W.Frag} {sp : Option Addr} {fz1 : Fz} {H H1 : Hp} : ∀ {vs : List V} {rs : List R}, ImRs K sp H fz1 H1 vs rs → ∀ (i : Nat) (r : R), rs[i]? = some r → ∃ v, vs[i]? = some v ∧ ImR K sp H fz1 H1 v r
  | _, _, .nil, i, x, h => by simp at h
  | _, _, .cons h t, 0, x, e => by
    simp only [List.getElem?_cons_zero, Option.some.injEq] at e
    subst e
    exact ⟨_, rfl, h⟩
  | _, _, .cons h t, i + 1, x, e => by
    simp only [List.getElem?_cons_succ] at e ⊢
    exact ImRs.at t i x e
section
variable {X : Cx} {e : Expr} {es : List Expr} {me : Mx} {mr : Ma}
theorem sa2_nil : SA2 X [] maNil := PA.imp pa_nil fun σ H Q h => by
  obtain ⟨C, fz, ρ, sto, r, sto', F, e, k⟩ := h
  cases e
  exact k [] fz H .refl F.bs.spl .nil fun i j a xs ys _ h => by simp at h
theorem sa2_cons (he : SE X e me) (hr : SA2 X es mr) (hs : starEach (e :: es) X.env = (false, eval e X.env) :: starEach es X.env := by rfl) : SA2 X (e :: es) (maCons me mr) := PA.imp (pa_cons he hr hs) fun σ H Q h => by
  obtain ⟨C, fz, ρ, sto, r, sto', F, e, k⟩ := h
  obtain ⟨x, s1, ea, e⟩ := bnd_some e
  obtain ⟨xs, s2, eb, e⟩ := bnd_some e
  cases e
  refine ⟨C, fz, ρ, sto, x, s1, F, ea, fun v fz1 H1 st1 l1 i1 => ?_⟩
  refine ⟨C, fz1, ρ, s1, xs, sto', F.step st1 l1, eb, fun vs fz2 H2 st2 l2 i2 d2 => ?_⟩
  refine k (v :: vs) fz2 H2 (st1.trans st2) l2 (.cons (i1.stp st2 (F.bs.step st1 l1)) (i2.early st1)) fun i j a ys zs hij h1 h2 h3 h4 => ?_
  cases j with
  | zero => omega
  | succ j =>
    rw [List.getElem?_cons_succ] at h3 h4
    cases i with
    | zero =>
      rw [List.getElem?_cons_zero] at h1 h2
      cases h1
      cases h2
      obtain ⟨b, ws, eb, g1, _⟩ := i1
      cases eb
      obtain ⟨w, g2, g3⟩ := i2.at j _ h3
      rw [g2] at h4
      cases h4
      obtain ⟨b, ws, eb, _, _, _, _, g4⟩ := g3
      cases eb
      rw [g1] at g4
      cases g4
    | succ i =>
      rw [List.getElem?_cons_succ] at h1 h2
      exact d2 i j a ys zs (by omega) h1 h2 h3 h4
end
end Dh
namespace Dh
open PySem PySem.Spec PyProof.Rows L2 PySem.W
def mPar2f (i j : Nat) (a : Ma) : Ms := fun ρ s => match a ρ s with
  | some ([.f c, .f d], s1) => some (.nx, (ρ.set i (some (.o c))).set j (some (.o d)), s1)
  | _ => none
section
variable {X : Cx} {i j : Nat} {x y : Str} {a b : Expr} {m : Ma} {px py pt pos : Pos} {kt k2 pt2}
theorem ss_par2f (hc : X.calm = true) (hN : X.N.Nodup) (ha : SA2 X [a, b] m) (hi : X.N[i]? = some x := by rfl) (hj : X.N[j]? = some y := by rfl) (hij : i ≠ j := by decide)
    (hx : X.env.scope.names.lookup x = some .local := by rfl) (hy : X.env.scope.names.lookup y = some .local := by rfl)
    (hw : swappedStores [.Tuple [.Name x px, .Name y py] kt pt] (.Tuple [a, b] k2 pt2) X.env = pure (some [x, y]) := by rfl)
    (hs : swapsWithSole [.Tuple [.Name x px, .Name y py] kt pt] (.Tuple [a, b] k2 pt2) pos.line X.env = pure false := by rfl) :
    SS X (.Assign [.Tuple [.Name x px, .Name y py] kt pt] (.Tuple [a, b] k2 pt2) pos) (mPar2f i j m) := PS.impI (ps_par hc hN hi hj hij hx hy ha hw hs) fun D σ H hl h => by
  obtain ⟨C, fz, ρ, sto, out, ρ', sto', F, e, k⟩ := h
  have hi' := lt_of_slot hi hl
  have hj' := lt_of_slot hj hl
  unfold mPar2f at e
  split at e
  · rename_i c1 d1 s1 e1
    cases e
    refine ⟨C, fz, ρ, sto, _, _, F, e1, fun vs fz1 H1 st1 l1 i1 dd => ?_⟩
    cases i1 with
    | cons iv t =>
      cases t with
      | cons iw t =>
        cases t
        rename_i v w
        refine ⟨v, w, rfl, ?_⟩
        have F1 := F.give st1 l1 iv (c := .o c1) rfl hi'
        obtain ⟨p, vs1, rfl, a1, a2, a3, a4, a5⟩ := iv
        obtain ⟨q, vs2, rfl, b1, b2, b3, b4, b5⟩ := iw
        have npq : q ≠ p := fun e => dd 0 1 p c1 d1 (by decide) rfl rfl rfl (by rw [e]; rfl)
        refine k fz1 _ H1 (F1.put j (by rw [List.length_set]; exact hj') ⟨q, vs2, List.getElem?_set_self (by rw [List.length_set]; exact hj'), b1, b2, b3, b4, F.st.back b4 b5⟩ ?_) st1.sts
        intro xs a ec ev n ys hn g1 g2
        cases ev
        by_cases en : n = i
        · subst en
          rw [List.getElem?_set_self hi'] at g2
          cases g2
          exact npq rfl
        · rw [List.getElem?_set_ne (Ne.symm en)] at g1 g2
          obtain ⟨b, ws, q1, q2, _⟩ := F.owned g1
          rw [g2] at q1; cases q1
          rw [b5] at q2; cases q2
  · cases e
end
end Dh
namespace Dh
open PySem PySem.Spec PyProof.Rows L2 PySem.W
/-- three values given at once: data, fresh lists -/
def mPar3g (i j l : Nat) (a : Ma) : Ms := fun ρ s => match a ρ s with
  | some ([r, q, u], s1) => match toCl r, toCl q, toCl u with
    | some c, some d, some f => some (.nx, ((ρ.set i (some c)).set j (some d)).set l (some f), s1)
    | _, _, _ => none
  | _ => none
section
variable {K : PySem.W.Frag} {C : Cn} {fz fz1 : Fz} {ρ ρ1 : Ev} {sto sto' : Sto} {σ σ1 : L2.St} {H H1 : Hp}
/-- one more value put, new lists apart from those put before -/
theorem Fm.more (F : Fm K C fz ρ sto σ H) (F1 : Fm K C fz1 ρ1 sto' σ1 H1) {w : V} {q : R} {d : Cl} (iw : ImR K C.sp H fz1 H1 w q) (ed : toCl q = some d) {j : Nat} (hj : j < σ1.length)
    (old : ∀ n ys a, n ≠ j → ρ1[n]? = some (some (.o ys)) → σ1[n]? = some (some (.ref a)) → (ρ[n]? = some (some (.o ys)) ∧ σ[n]? = some (some (.ref a))) ∨ ∀ xs, q = .f xs → w ≠ .ref a) :
    Fm K C fz1 (ρ1.set j (some d)) sto' (σ1.set j (some w)) H1 := by
  refine F1.put j hj ?_ ?_
  · have g : (σ1.set j (some w))[j]? = some (some w) := List.getElem?_set_self hj
    cases q with
    | d x => cases ed; exact ⟨w, g, iw⟩
    | f xs =>
      cases ed
      obtain ⟨a, vs, rfl, h1, h2, h3, h4, h5⟩ := iw
      exact ⟨a, vs, g, h1, h2, h3, h4, F.st.back h4 h5⟩
    | b xs => cases ed
    | s => cases ed; obtain ⟨a, ea, rfl⟩ := (show IsS C.sp w from iw); exact ⟨a, ea, g⟩
    | m acc =>
      cases ed
      obtain ⟨a, vs, rfl, h1, h2, h3, h4, h5⟩ := iw
      exact ⟨a, vs, g, h1, h2, h3, h4, F.st.back h4 h5⟩
    | t acc =>
      cases ed
      obtain ⟨a, vs, rfl, h1, h2, h3, h4, h5⟩ := iw
      exact ⟨a, vs, g, h1, h2, h3, h4, F.st.back h4 h5⟩
    | n acc => cases ed
    | u acc => cases ed
  · intro xs a ec ev n ys hn h1 h2
    subst ec
    cases q with
    | d x => cases ed
    | b zs => cases ed
    | s => cases ed
    | m _ => cases ed
    | t _ => cases ed
    | n _ => cases ed
    | u _ => cases ed
    | f zs =>
      cases ed
      rcases old n ys a hn h1 h2 with ⟨g1, g2⟩ | g
      · obtain ⟨b, vs, eb, h3, h4, h5, h6, h7⟩ := iw
        rw [ev] at eb; cases eb
        obtain ⟨b, ws, q1, q2, _⟩ := F.owned g1
        rw [g2] at q1; cases q1
        rw [h7] at q2; cases q2
      · exact g _ rfl ev
end
section
variable {X : Cx} {i j l : Nat} {x y z : Str} {a b c : Expr} {m : Ma} {px py pz pt pos : Pos} {kt k2 pt2}
theorem ss_par3g (hc : X.calm = true) (hN : X.N.Nodup) (ha : SA2 X [a, b, c] m) (hi : X.N[i]? = some x := by rfl) (hj : X.N[j]? = some y := by rfl) (hl : X.N[l]? = some z := by rfl) (hij : i ≠ j := by decide) (hil : i ≠ l := by decide) (hjl : j ≠ l := by decide)
    (hx : X.env.scope.names.lookup x = some .local := by rfl) (hy : X.env.scope.names.lookup y = some .local := by rfl) (hz : X.env.scope.names.lookup z = some .local := by rfl)
    (hw : swappedStores [.Tuple [.Name x px, .Name y py, .Name z pz] kt pt] (.Tuple [a, b, c] k2 pt2) X.env = pure (some [x, y, z]) := by rfl)
    (hs : swapsWithSole [.Tuple [.Name x px, .Name y py, .Name z pz] kt pt] (.Tuple [a, b, c] k2 pt2) pos.line X.env = pure false := by rfl) :
    SS X (.Assign [.Tuple [.Name x px, .Name y py, .Name z pz] kt pt] (.Tuple [a, b, c] k2 pt2) pos) (mPar3g i j l m) := PS.impI (ps_par3 hc hN hi hj hl hij hil hjl hx hy hz ha hw hs) fun D σ H hlen h => by
  obtain ⟨C, fz, ρ, sto, out, ρ', sto', F, e, k⟩ := h
  have hi' := lt_of_slot hi hlen
  have hj' := lt_of_slot hj hlen
  have hl' := lt_of_slot hl hlen
  unfold mPar3g at e
  split at e
  · rename_i r q u s1 e1
    split at e
    · rename_i c1 d1 f1 ec ed ef
      cases e
      refine ⟨C, fz, ρ, sto, _, _, F, e1, fun vs fz1 H1 st1 l1 i1 dd => ?_⟩
      cases i1 with
      | cons iv t =>
        cases t with
        | cons iw t =>
          cases t with
          | cons iu t =>
            cases t
            rename_i v w uu
            refine ⟨v, w, uu, rfl, ?_⟩
            have fr : ∀ {r' : R} {ys : List PyData}, toCl r' = some (.o ys) → r' = .f ys := fun {r'} {ys} e => by
              cases r' with
              | d x => cases e
              | f zs => cases e; rfl
              | b zs => cases e
              | s => cases e
              | m _ => cases e
              | t _ => cases e
              | n _ => cases e
              | u _ => cases e
            have hρ : ρ.length = σ.length := F.len
            have F1 := F.give st1 l1 iv ec hi'
            have F2 := F.more F1 iw ed (j := j) (by rw [List.length_set]; exact hj') fun n ys a hn g1 g2 => by
              by_cases en : n = i
              · subst en
                right
                intro xs eq ew
                rw [List.getElem?_set_self (by rw [hρ]; exact hi')] at g1
                rw [List.getElem?_set_self hi'] at g2
                cases g1
                cases g2
                exact dd 0 1 a ys xs (by decide) rfl (by rw [fr ec]; rfl) (by rw [eq]; rfl) (by rw [ew]; rfl)
              · rw [List.getElem?_set_ne (Ne.symm en)] at g1 g2
                exact .inl ⟨g1, g2⟩
            have F3 := F.more F2 iu ef (j := l) (by rw [List.length_set, List.length_set]; exact hl') fun n ys a hn g1 g2 => by
              by_cases ej : n = j
              · subst ej
                right
                intro xs eq ew
                rw [List.getElem?_set_self (by rw [List.length_set, hρ]; exact hj')] at g1
                rw [List.getElem?_set_self (by rw [List.length_set]; exact hj')] at g2
                cases g1
                cases g2
                exact dd 1 2 a ys xs (by decide) rfl (by rw [fr ed]; rfl) (by rw [eq]; rfl) (by rw [ew]; rfl)
              · rw [List.getElem?_set_ne (Ne.symm ej)] at g1 g2
                by_cases en : n = i
                · subst en
                  right
                  intro xs eq ew
                  rw [List.getElem?_set_self (by rw [hρ]; exact hi')] at g1
                  rw [List.getElem?_set_self hi'] at g2
                  cases g1
                  cases g2
                  exact dd 0 2 a ys xs (by decide) rfl (by rw [fr ec]; rfl) (by rw [eq]; rfl) (by rw [ew]; rfl)
                · rw [List.getElem?_set_ne (Ne.symm en)] at g1 g2
                  exact .inl ⟨g1, g2⟩
            exact k fz1 _ H1 F3 st1.sts
    · cases e
  · cases e
end
end Dh
namespace Dh
open PySem PySem.Spec PyProof.Rows L2 PySem.W
def mPar2g (i j : Nat) (a : Ma) : Ms := fun ρ s => match a ρ s with
  | some ([r, q], s1) => match toCl r, toCl q with
    | some c, some d => some (.nx, (ρ.set i (some c)).set j (some d), s1)
    | _, _ => none
  | _ => none
section
variable {X : Cx} {i j : Nat} {x y : Str} {a b : Expr} {m : Ma} {px py pt pos : Pos} {kt k2 pt2}
theorem ss_par2t (hc : X.calm = true) (hN : X.N.Nodup) (ha : SA2 X [a, b] m) (hi : X.N[i]? = some x := by rfl) (hj : X.N[j]? = some y := by rfl) (hij : i ≠ j := by decide)
    (hx : Loc X.env.scope x := by first | exact Or.inl rfl | exact Or.inr rfl) (hy : Loc X.env.scope y := by first | exact Or.inl rfl | exact Or.inr rfl)
    (fx : X.fn x = true ∨ X.env.scope.names.lookup x = some .local := by first | exact .inl rfl | exact .inr rfl) (fy : X.fn y = true ∨ X.env.scope.names.lookup y = some .local := by first | exact .inl rfl | exact .inr rfl)
    (hs : swapsWithSole [.Tuple [.Name x px, .Name y py] kt pt] (.Tuple [a, b] k2 pt2) pos.line X.env = pure false := by rfl)
    (hw : swappedStores [.Tuple [.Name x px, .Name y py] kt pt] (.Tuple [a, b] k2 pt2) X.env = pure none := by rfl)
    (h1 : (assignEach [.Tuple [.Name x px, .Name y py] kt pt] X.env).map (·.2) = [assign (.Tuple [.Name x px, .Name y py] kt pt) X.env] := by rfl)
    (hn : (assignEach [.Name x px, .Name y py] X.env).length = 2 := by rfl) (hst : (assignEach [.Name x px, .Name y py] X.env).findIdx? (·.1) = none := by rfl)
    (s1 : (assignEach [.Name x px, .Name y py] X.env).map (·.2) = assign (.Name x px) X.env :: (assignEach [.Name y py] X.env).map (·.2) := by rfl)
    (s2 : (assignEach [.Name y py] X.env).map (·.2) = assign (.Name y py) X.env :: (assignEach [] X.env).map (·.2) := by rfl) :
    SS X (.Assign [.Tuple [.Name x px, .Name y py] kt pt] (.Tuple [a, b] k2 pt2) pos) (mPar2g i j m) :=
  PS.impI (ps_asg (pe_tup ha) (pg_tup hc (pgs_cons (pg_name hN hi hx fx) (pgs_cons (pg_name hN hj hy fy) pgs_nil s2) s1) hn hst) hs hw h1) fun D σ H hlen h => by
  obtain ⟨C, fz, ρ, sto, out, ρ', sto', F, e, k⟩ := h
  have hi' := lt_of_slot hi hlen
  have hj' := lt_of_slot hj hlen
  unfold mPar2g at e
  split at e
  · rename_i r q s1 e1
    split at e
    · rename_i c1 d1 ec ed
      cases e
      refine ⟨C, fz, ρ, sto, _, _, F, e1, fun vs fz1 H1 st1 l1 i1 dd => ?_⟩
      cases i1 with
      | cons iv t =>
        cases t with
        | cons iw t =>
          cases t
          rename_i v w
          refine ⟨(show 2 ≤ sizeLine by decide), fun p hp => ⟨p, [v, w], rfl, .inl (.inl upd_same), rfl, v, [w], rfl, w, [], rfl, rfl, ?_⟩⟩
          have B1 := F.bs.step st1 l1
          have lay : Stp C.sp fz1 H1 fz1 (upd H1 p (.tup [v, w])) := .laid hp
          have ep : some p ≠ C.sp := l1.ne hp (by intro z; cases z)
          have l2 := (SpL.upd (o := .tup [v, w]) l1 ep)
          have st2 := st1.trans lay
          have iv2 := iv.stp lay B1
          have iw2 := iw.stp lay B1
          have fr : ∀ {r' : R} {ys : List PyData}, toCl r' = some (.o ys) → r' = .f ys := fun {r'} {ys} e => by
            cases r' with
            | d x => cases e
            | f zs => cases e; rfl
            | b zs => cases e
            | s => cases e
            | m _ => cases e
            | t _ => cases e
            | n _ => cases e
            | u _ => cases e
          have hρ : ρ.length = σ.length := F.len
          have F1 := F.give st2 l2 iv2 ec hi'
          have F2 := F.more F1 iw2 ed (j := j) (by rw [List.length_set]; exact hj') fun n ys a hn g1 g2 => by
            by_cases en : n = i
            · subst en
              right
              intro xs eq ew
              rw [List.getElem?_set_self (by rw [hρ]; exact hi')] at g1
              rw [List.getElem?_set_self hi'] at g2
              cases g1
              cases g2
              exact dd 0 1 a ys xs (by decide) rfl (by rw [fr ec]; rfl) (by rw [eq]; rfl) (by rw [ew]; rfl)
            · rw [List.getElem?_set_ne (Ne.symm en)] at g1 g2
              exact .inl ⟨g1, g2⟩
          exact k fz1 _ _ F2 st2.sts
    · cases e
  · cases e
end
end Dh
namespace Dh
open PySem PySem.Spec PyProof.Rows L2
def fEqE (neg : Bool) : R → R → Option R
  | .d (.tuple xs), .d (.tuple []) => some (.d (.bool (if neg then !xs.isEmpty else xs.isEmpty)))
  | _, _ => none
def rEqE (K : PySem.W.Frag) (neg : Bool) : R2 := fun x y H Q => ∃ (a b : Addr) (xs : List V), x = .ref a ∧ y = .ref b ∧ SqT K H a xs ∧ SqT K H b [] ∧ Q (.bl (if neg then !xs.isEmpty else xs.isEmpty)) H
section
variable {X : Cx} {pos : Pos} {a b : Expr} {ma mb : Mx}
theorem op_eqE (hu : X.A.units < cLine) : OpR X (compareOp .Eq) (rEqE X.K false) := by
  intro pins s σ H x y v u Q I rx ry h
  obtain ⟨a, b, xs, rfl, rfl, ha, hb, q⟩ := h
  cases (show v = Value.ref a from rx)
  cases (show u = Value.ref b from ry)
  obtain ⟨us, r1, p1, _⟩ := I.tuple ha
  obtain ⟨ws, r2, p2, _⟩ := I.tuple hb
  cases r2
  refine SeqAt.RcAt.tuples (e := fun _ => true) p1 p2 hu (fun j _ h2 => absurd h2 (Nat.not_lt_zero j)) _ _ _ _ ?_
  refine ⟨.bl xs.isEmpty, H, I, ?_, q⟩
  show RelV (.bl xs.isEmpty) (Value.bool _)
  have e : ((List.range (min us.toArray.size (#[] : Array Value).size)).all (fun _ => true) && us.toArray.size == (#[] : Array Value).size) = xs.isEmpty := by
    cases r1 with
    | nil => rfl
    | cons _ _ => simp
  rw [show (List.toArray ([] : List Value)) = #[] from rfl, e]
  rfl
theorem op_neE (hu : X.A.units < cLine) : OpR X (compareOp .NotEq) (rEqE X.K true) := by
  intro pins s σ H x y v u Q I rx ry h
  obtain ⟨a, b, xs, rfl, rfl, ha, hb, q⟩ := h
  cases (show v = Value.ref a from rx)
  cases (show u = Value.ref b from ry)
  obtain ⟨us, r1, p1, _⟩ := I.tuple ha
  obtain ⟨ws, r2, p2, _⟩ := I.tuple hb
  cases r2
  refine SeqAt.RcNeAt.tuples (e := fun _ => true) p1 p2 hu (fun j _ h2 => absurd h2 (Nat.not_lt_zero j)) _ _ _ _ ?_
  refine ⟨.bl (!xs.isEmpty), H, I, ?_, q⟩
  show RelV (.bl (!xs.isEmpty)) (Value.bool _)
  have e : ((List.range (min us.toArray.size (#[] : Array Value).size)).all (fun _ => true) && us.toArray.size == (#[] : Array Value).size) = xs.isEmpty := by
    cases r1 with
    | nil => rfl
    | cons _ _ => simp
  rw [show (List.toArray ([] : List Value)) = #[] from rfl, e]
  rfl
theorem ok_eqE (neg : Bool) : Ok2 X.K (rEqE X.K neg) (fEqE neg) := by
  intro sp fz H H0 sto v w x y z Q B ix iy h k
  unfold fEqE at h
  split at h
  · rename_i ds
    cases h
    cases ix with
    | tup h1 a1 =>
      cases iy with
      | tup h2 a2 =>
        cases a2
        rename_i a xs b
        have e : xs.isEmpty = ds.isEmpty := by cases a1 <;> rfl
        refine ⟨a, b, xs, rfl, rfl, h1.sq, h2.sq, ?_⟩
        rw [e]
        exact k _ fz H .refl B.spl (.bl _)
  · cases h
theorem sb_eqE {k : Nat} (hr : Room k X.A) (ha : SE X a ma) (hb : SE X b mb) : SB X (.Compare a [.Eq] [b] pos) (bT (m2 (fEqE false) ma mb)) := sb_cmp (op_eqE (by have := hr.units; omega)) (ok_eqE false) ha hb (nomark _)
theorem sb_neE {k : Nat} (hr : Room k X.A) (ha : SE X a ma) (hb : SE X b mb) : SB X (.Compare a [.NotEq] [b] pos) (bT (m2 (fEqE true) ma mb)) := sb_cmp (op_neE (by have := hr.units; omega)) (ok_eqE true) ha hb (nomark _)
end
end Dh
namespace Dh
open PySem PySem.Spec PyProof.Rows L2
def fEqN (neg : Bool) : R → R → Option R := fun x y => match rdL x, rdL y with
  | some xs, some [] => some (.d (.bool (if neg then !xs.isEmpty else xs.isEmpty)))
  | _, _ => none
def rEqN (K : PySem.W.Frag) (neg : Bool) : R2 := fun x y H Q => ∃ (a b : Addr) (xs : List V), x = .ref a ∧ y = .ref b ∧ SqL K H a xs ∧ SqL K H b [] ∧ Q (.bl (if neg then !xs.isEmpty else xs.isEmpty)) H
section
variable {X : Cx} {pos : Pos} {a b : Expr} {ma mb : Mx}
theorem op_eqN (hu : X.A.units < cLine) : OpR X (compareOp .Eq) (rEqN X.K false) := by
  intro pins s σ H x y v u Q I rx ry h
  obtain ⟨a, b, xs, rfl, rfl, ha, hb, q⟩ := h
  cases (show v = Value.ref a from rx)
  cases (show u = Value.ref b from ry)
  obtain ⟨us, r1, p1, _⟩ := I.list ha
  obtain ⟨ws, r2, p2, _⟩ := I.list hb
  cases r2
  cases r1 with
  | nil =>
    refine SeqAt.RcAt.lists (e := fun _ => true) p1.isList p2.isList rfl hu (fun j h1 _ => absurd h1 (Nat.not_lt_zero j)) _ _ _ _ ?_
    exact ⟨.bl true, H, I, rfl, q⟩
  | cons r t =>
    refine SeqAt.RcAt.lists_lengths p1.isList p2.isList (by simp) hu _ _ _ _ ?_
    exact ⟨.bl false, H, I, rfl, q⟩
theorem op_neN (hu : X.A.units < cLine) : OpR X (compareOp .NotEq) (rEqN X.K true) := by
  intro pins s σ H x y v u Q I rx ry h
  obtain ⟨a, b, xs, rfl, rfl, ha, hb, q⟩ := h
  cases (show v = Value.ref a from rx)
  cases (show u = Value.ref b from ry)
  obtain ⟨us, r1, p1, _⟩ := I.list ha
  obtain ⟨ws, r2, p2, _⟩ := I.list hb
  cases r2
  cases r1 with
  | nil =>
    refine SeqAt.RcNeAt.lists (e := fun _ => true) p1.isList p2.isList rfl hu (fun j h1 _ => absurd h1 (Nat.not_lt_zero j)) _ _ _ _ ?_
    exact ⟨.bl false, H, I, rfl, q⟩
  | cons r t =>
    refine SeqAt.RcNeAt.lists_lengths p1.isList p2.isList (by simp) hu _ _ _ _ ?_
    exact ⟨.bl true, H, I, rfl, q⟩
theorem ok_eqN (neg : Bool) : Ok2 X.K (rEqN X.K neg) (fEqN neg) := by
  intro sp fz H H0 sto v w x y z Q B ix iy h k
  unfold fEqN at h
  split at h
  · rename_i ds e1 e2
    cases h
    obtain ⟨a, xs, rfl, h1, a1⟩ := ix.list e1
    obtain ⟨b, ys, rfl, h2, a2⟩ := iy.list e2
    cases a2
    have e : xs.isEmpty = ds.isEmpty := by cases a1 <;> rfl
    refine ⟨a, b, xs, rfl, rfl, h1, h2, ?_⟩
    rw [e]
    exact k _ fz H .refl B.spl (.bl _)
  · cases h
theorem sb_eqN {k : Nat} (hr : Room k X.A) (ha : SE X a ma) (hb : SE X b mb) : SB X (.Compare a [.Eq] [b] pos) (bT (m2 (fEqN false) ma mb)) := sb_cmp (op_eqN (by have := hr.units; omega)) (ok_eqN false) ha hb (nomark _)
theorem sb_neN {k : Nat} (hr : Room k X.A) (ha : SE X a ma) (hb : SE X b mb) : SB X (.Compare a [.NotEq] [b] pos) (bT (m2 (fEqN true) ma mb)) := sb_cmp (op_neN (by have := hr.units; omega)) (ok_eqN true) ha hb (nomark _)
end
@[simp] theorem fEqN_ff {xs : List PyData} {neg : Bool} : fEqN neg (.f xs) (.f []) = some (.d (.bool (if neg then !xs.isEmpty else xs.isEmpty))) := rfl
@[simp] theorem fEqN_bf {xs : List PyData} {neg : Bool} : fEqN neg (.b xs) (.f []) = some (.d (.bool (if neg then !xs.isEmpty else xs.isEmpty))) := rfl
@[simp] theorem fEqN_df {xs : List PyData} {neg : Bool} : fEqN neg (.d (.list xs)) (.f []) = some (.d (.bool (if neg then !xs.isEmpty else xs.isEmpty))) := rfl
end Dh
namespace Dh
open PySem PySem.Spec PyProof.Rows L2
end Dh
namespace Dh
open PySem PySem.Spec PyProof.Rows L2
def boolT (b : Bool) : Str := if b then "True" else "False"
def fReprT : List R → Option R
  | [.d (.bool b)] => some (.d (.str (boolT b)))
  | _ => none
@[simp] theorem fReprT_b {b : Bool} : fReprT [.d (.bool b)] = some (.d (.str (boolT b))) := rfl
end Dh
namespace Dh
open PySem PySem.Spec L2
theorem ImK.isSome {K : PySem.W.Frag} {fz : Fz} {H : Hp} {kvs : List (Key × V)} {acc : List (Key × PyData)} {k : Key} (im : ImK K fz H kvs acc) : (valV kvs k).isSome = (valP acc k).isSome := by
  obtain ⟨g1, g2⟩ := im.val (k := k)
  cases q : valV kvs k with
  | none => rw [g2 q]; rfl
  | some v =>
    obtain ⟨d, e, _⟩ := g1 v q
    rw [e]; rfl
theorem unitsM {A : Around} {k : Nat} (hr : Room k A) : A.units + 1 < cLine := by
  have := hr.un
  omega
section
variable {X : Cx} {a b e : Expr} {ma mb m : Mx} {pos p : Pos} {kk : Nat}
def fIxM : R → R → Option R := fun x y => match x, keyP y with
  | .n acc, some k => (valP acc k).map .d
  | .d (.dict ds), some k => ((ds.find? fun p => kEq p.1 k).map (·.2)).map .d
  | _, _ => none
theorem se_ixM (hr : Room kk X.A) (ha : SE X a ma) (hb : SE X b mb) (hs : NoSl b := by exact fun _ _ => rfl) : SE X (.Subscript a b pos) (m2 fIxM ma mb) := PE.imp (pe_dget (unitsM hr) ha hb hs) fun σ H Q h => by
  obtain ⟨C, fz, ρ, sto, z, sto', F, e, k⟩ := h
  obtain ⟨x, s1, ea, e1⟩ := bnd_some e
  obtain ⟨y, s2, eb, e2⟩ := bnd_some e1
  obtain ⟨ef, rfl⟩ := ret_some e2
  clear e e1 e2
  refine ⟨C, fz, ρ, sto, x, s1, F, ea, fun v fz1 H1 st1 l1 i1 => ⟨C, fz1, ρ, s1, y, _, F.step st1 l1, eb, fun w fz2 H2 st2 l2 i2 => ?_⟩⟩
  have B1 := (F.step st1 l1).bs
  have i3 := i1.stp st2 B1
  unfold fIxM at ef
  split at ef
  · rename_i acc kx ek
    obtain ⟨d, ed, rfl⟩ := Option.map_eq_some_iff.mp ef
    obtain ⟨a, kvs, rfl, hd, im, ns⟩ := i3
    have ev := keyP_im i2 ek
    subst ev
    obtain ⟨g1, g2⟩ := im.val (k := kx)
    cases q : valV kvs kx with
    | none => rw [g2 q] at ed; cases ed
    | some u =>
      obtain ⟨d', e', iu⟩ := g1 u q
      rw [ed] at e'; cases e'
      exact ⟨a, u, rfl, q ▸ DGet.k hd, k _ fz2 H2 (st1.trans st2) l2 iu⟩
  · rename_i ds kx ek
    obtain ⟨d, ed, rfl⟩ := Option.map_eq_some_iff.mp ef
    have ev := keyP_im i2 ek
    subst ev
    cases i3 with
    | dct hd hf hk hv =>
      rename_i a kvs
      obtain ⟨g1, g2⟩ := dct_val (k := kx) hk hv
      cases q : valV kvs kx with
      | none => rw [g2 q] at ed; cases ed
      | some u =>
        obtain ⟨d', e', iu⟩ := g1 u q
        rw [ed] at e'; cases e'
        exact ⟨a, u, rfl, q ▸ DGet.k hd, k _ fz2 H2 (st1.trans st2) l2 iu⟩
  · cases ef
end
end Dh
namespace Dh
open PySem PySem.Spec PyProof.Rows L2 PySem.W
end Dh
namespace Dh
open PySem PySem.Spec L2 RZ PyProof.Rows
end Dh
namespace Dh
open PySem PySem.Spec PyProof.Rows L2 PySem.W
end Dh
namespace Dh
open PySem PySem.Spec PyProof.Rows L2 PySem.W RZ
def range3 : List R → Option (List PyData)
  | [.d (.int i), .d (.int j), .d (.int c)] => if c ≠ 0 ∧ c.natAbs < 1073741824 ∧ Builtin.Range.small i j c = true ∧ Builtin.Range.rangeSize i j c = ((Builtin.Range.rangeSize i j c).toNat : Int) then some ((List.range (Builtin.Range.rangeSize i j c).toNat).map fun k => PyData.int (i + (k : Nat) * c)) else none
  | _ => none
section
variable {K : PySem.W.Frag} {sp : Option Addr} {fz fz1 : Fz} {H H1 : Hp} {sto : Sto}
theorem goes_rangeC {lo c : Int} {n : Nat} : Goes K sp fz H (Itc lo c n) ((List.range n).map fun k => PyData.int (lo + (k : Nat) * c)) :=
  .of walk_rangeC (by rw [List.length_map, List.length_range]) (fun _ _ _ _ _ => trivial) fun i x fz1 H1 sto v H2 hx s B y => by
    obtain ⟨rfl, rfl⟩ := y
    rw [List.getElem?_map] at hx
    cases q : (List.range n)[i]? with
    | none => rw [q] at hx; cases hx
    | some j =>
      rw [q] at hx
      cases hx
      have : j = i := by
        obtain ⟨h1, h2⟩ := List.getElem?_eq_some_iff.mp q
        rw [List.getElem_range] at h2
        exact h2.symm
      subst this
      exact ⟨.refl, B.spl, .int _⟩
end
section
variable {X : Cx} {tg a b c : Expr} {m : Ma} {p pos : Pos}
theorem si_range3 (ha : SA X [a, b, c] m) (hm : X.mg "range" = none) (hg : Gl X "range" := by rfl) (hs : starEach [a, b, c] X.env = (false, eval a X.env) :: starEach [b, c] X.env := by rfl) (hpl : (backTo pos (starEach [b, c] X.env)).any (·.1) = false := by rfl) : SI X tg (.Call (.Name "range" p) [a, b, c] [] pos) (mArgI range3 m) := PI.imp (pi_range3 hg hm ha hs hpl) fun σ H R h => by
  obtain ⟨C, fz, ρ, sto, xs, sto', F, e, k⟩ := h
  obtain ⟨x, s1, ea, e1⟩ := bnd_some e
  obtain ⟨ef, rfl⟩ := ret_some e1
  clear e e1
  refine ⟨C, fz, ρ, sto, x, _, F, ea, fun v fz1 H1 st1 l1 i1 => ?_⟩
  unfold range3 at ef
  split at ef
  · split at ef
    · rename_i hz
      cases ef
      cases i1 with
      | cons i1 t =>
        cases t with
        | cons i2 t =>
          cases t with
          | cons i3 t =>
            cases t; cases i1; cases i2; cases i3
            exact ⟨_, _, _, _, rfl, ⟨hz.1, hz.2.1, hz.2.2.1, hz.2.2.2⟩, k _ fz1 H1 st1 l1 goes_rangeC⟩
    · cases ef
  · cases ef
end
def fLtT : R → R → Option R := fun x y => match x, y with
  | .d (.tuple xs), .d (.tuple ys) => match stoOf xs, stoOf ys with
    | some ns, some ms => some (.d (.bool (HT.lexLt ns ms)))
    | _, _ => none
  | _, _ => none
section
variable {X : Cx} {a b : Expr} {ma mb : Mx} {pos p : Pos} {kk : Nat}
theorem ok_ltT : Ok2 X.K (rLtT X.K) fLtT := by
  intro sp fz H H0 sto v w x y z Q B ix iy h k
  unfold fLtT at h
  split at h
  · rename_i xs ys
    split at h
    · rename_i ns ms e1 e2
      cases h
      cases ix with
      | tup h1 i1 =>
        cases iy with
        | tup h2 i2 =>
          have v1 := ints_vals i1 e1
          have v2 := ints_vals i2 e2
          subst v1
          subst v2
          exact ⟨_, _, ns, ms, rfl, rfl, h1.sq, h2.sq, k _ fz H .refl B.spl (.bl _)⟩
    · cases h
  · cases h
theorem se_ltT (hr : Room kk X.A) (ha : SE X a ma) (hb : SE X b mb) (hm : behindInMarks .Lt b = false := by rfl) : SE X (.Compare a [.Lt] [b] pos) (m2 fLtT ma mb) := se_cmp (op_ltT (by have := units65 hr; omega)) ok_ltT ha hb hm
end
def keyI : R → Option (List Int)
  | .d (.tuple ys) => stoOf ys
  | _ => none
def tupI (ks : List Int) : PyData := .tuple (ks.map PyData.int)
theorem keyI_im {K : PySem.W.Frag} {sp : Option Addr} {fz : Fz} {H H0 : Hp} {v : V} {r : R} {ks : List Int} (i : ImR K sp H0 fz H v r) (e : keyI r = some ks) : ∃ b, v = .ref b ∧ FzT K H b (ks.map V.int) := by
  unfold keyI at e
  split at e
  · cases i with
    | tup h im =>
      have := ints_vals im e
      subst this
      exact ⟨_, rfl, h⟩
  · cases e
theorem items_int {P : Program} {w : World} : ∀ {ks : List Int} {us : List Value}, Vals (ks.map V.int) us → ItemsAre (PySem.intKind P w) ks us
  | [], _, h => by cases h; exact .nil
  | k :: ks, _, h => by
    cases h with
    | cons h t =>
      obtain ⟨tk, rfl⟩ := h
      exact .cons (by show (k == k) = true; simp) (items_int t)
section
variable {X : Cx} {pins : List (Addr × Obj)} {σ : L2.St} {H : Hp} {s : Shared} {a b : Addr} {fz : Fz}
theorem keyT_of (I : Inv X pins σ H s) {ks : List Int} (h : FzT X.K H b (ks.map V.int)) : (tupleKind (PySem.intKind X.prog X.w)).is s.heap ks b := by
  obtain ⟨its, r1, ⟨o, h1, h2, n, h3⟩, _⟩ := I.tuple h.sq
  exact ⟨o, its.toArray, n, h1, h2, h3, by simpa using items_int r1⟩
theorem dto_of (I : Inv X pins σ H s) {xs : List (List Int × Addr × Value)} {acc : List (List Int × PyData)} (e : H a = some (DTO a xs)) (t : TK X.K fz H xs acc) : s.heap.DictOfH (tupleKind (PySem.intKind X.prog X.w)) a xs := by
  obtain ⟨⟨_, P, w, o, es, ep, h1, h2, h3, h4, h5⟩, _⟩ := I.hok a _ e
  refine ⟨o, es, ep, h1, h2, h3, h4, fun x hx => ?_, h5⟩
  clear h4 h5
  have all : ∀ {m : List (List Int × Addr × Value)} {l : List (List Int × PyData)}, TK X.K fz H m l → ∀ x ∈ m, (tupleKind (PySem.intKind X.prog X.w)).is s.heap x.1 x.2.1 := by
    intro m l q
    unfold TK at q
    induction q with
    | nil => intro x hx; exact nomatch hx
    | @cons p q ps qs hq t ih =>
      intro x hx
      rcases List.mem_cons.mp hx with e | hx
      · subst e
        exact keyT_of I hq.2.1
      · exact ih x hx
  exact all t x hx
theorem dto_ok {P : Program} {w : World} {H' : Hp} {h' : Heap} {xs : List (List Int × Addr × Value)} (lo : (a == sysModules) = false) (d : h'.DictOfH (tupleKind (PySem.intKind P w)) a xs) : ObjOk P w H' h' a (DTO a xs) := by
  obtain ⟨o, es, ep, h1, h2, h3, h4, _, h5⟩ := d
  exact ⟨⟨lo, P, w, o, es, ep, h1, h2, h3, h4, h5⟩, ⟨o, h1⟩, fun q1 q2 ⟨l, P', w', o', es', ep', g1, g2⟩ st => ⟨l, P', w', o', es', ep', st _ g1, g2⟩⟩
/-- what stands at a key -/
def valT (acc : List (List Int × PyData)) (k : List Int) : Option PyData := (acc.find? fun p => decide (p.1 = k)).map (·.2)
def putT (acc : List (List Int × PyData)) (k : List Int) (x : PyData) : List (List Int × PyData) := if (acc.any fun p => decide (p.1 = k)) = true then acc.map fun p => if p.1 = k then (p.1, x) else p else acc ++ [(k, x)]
end
end Dh
namespace Dh
open PySem PySem.Spec PyProof.Rows L2 PySem.W RZ
section
variable {K : PySem.W.Frag} {C : Cn} {sp : Option Addr} {fz fz1 : Fz} {ρ : Ev} {sto sto' : Sto} {σ : L2.St} {H H0 H1 : Hp} {xs : List (List Int × Addr × Value)} {acc : List (List Int × PyData)}
theorem TK.len (h : TK K fz H xs acc) : acc.length = xs.length := Paired.length h
theorem TK.val (h : TK K fz H xs acc) (k : List Int) : (∀ d, valT acc k = some d → ∃ b u v, atKey xs k = some (b, u) ∧ RelV v u ∧ Im K fz H v d) ∧ (valT acc k = none → atKey xs k = none) := by
  unfold TK at h
  induction h with
  | nil => exact ⟨fun d e => by simp [valT] at e, fun _ => by simp [atKey]⟩
  | @cons p q ps qs hq t ih =>
    obtain ⟨h1, _, v, h2, h3⟩ := hq
    by_cases e : p.1 = k
    · have e' : q.1 = k := h1.symm.trans e
      have b : atKey (q :: qs) k = some q.2 := by simp [atKey, List.find?_cons, e']
      have c : valT (p :: ps) k = some p.2 := by simp [valT, List.find?_cons, e]
      rw [b, c]
      exact ⟨fun d e => by cases e; exact ⟨q.2.1, q.2.2, v, rfl, h2, h3⟩, fun z => by cases z⟩
    · have e' : ¬ q.1 = k := fun z => e (h1.trans z)
      have b : atKey (q :: qs) k = atKey qs k := by simp [atKey, List.find?_cons, e']
      have c : valT (p :: ps) k = valT ps k := by simp [valT, List.find?_cons, e]
      rw [b, c]
      exact ih
theorem paired_snoc {α β : Type} {F : α → β → Prop} : ∀ {l : List α} {m : List β} {x : α} {y : β}, Paired F l m → F x y → Paired F (l ++ [x]) (m ++ [y])
  | _, _, _, _, .nil, h => .cons h .nil
  | _, _, _, _, .cons r t, h => .cons r (paired_snoc t h)
theorem TK.put (h : TK K fz H xs acc) {k : List Int} {b : Addr} {u : Value} {v : V} {x : PyData} (hb : FzT K H b (k.map V.int)) (rv : RelV v u) (im : Im K fz H v x) : TK K fz H (storedH xs k b u) (putT acc k x) := by
  have e : (acc.any fun p => decide (p.1 = k)) = (atKey xs k).isSome := by
    unfold TK at h
    clear hb rv im
    induction h with
    | nil => simp [atKey]
    | @cons p q ps qs hq t ih =>
      by_cases e : p.1 = k
      · have e' : q.1 = k := hq.1.symm.trans e
        simp [atKey, List.find?_cons, e, e']
      · have e' : ¬ q.1 = k := fun z => e (hq.1.trans z)
        have b : atKey (q :: qs) k = atKey qs k := by simp [atKey, List.find?_cons, e']
        rw [b, ← ih]
        simp [e]
  unfold putT storedH
  rw [e]
  by_cases q : (atKey xs k).isSome = true
  · rw [if_pos q, if_pos q]
    clear e q
    unfold TK at h ⊢
    induction h with
    | nil => exact .nil
    | @cons p q ps qs hq t ih =>
      refine .cons ?_ ih
      obtain ⟨h1, h2, w, h3, h4⟩ := hq
      by_cases e : p.1 = k
      · have e' : q.1 = k := h1.symm.trans e
        dsimp only
        rw [if_pos e]
        unfold putAt
        rw [if_pos e']
        exact ⟨h1, h2, v, rv, im⟩
      · have e' : ¬ q.1 = k := fun z => e (h1.trans z)
        dsimp only
        rw [if_neg e]
        unfold putAt
        rw [if_neg e']
        exact ⟨h1, h2, w, h3, h4⟩
  · rw [if_neg q, if_neg q]
    exact paired_snoc h ⟨rfl, hb, v, rv, im⟩
def frgT (ρ : Ev) : Ev := ρ.map fun c => match c with
  | some (.t _) => none
  | c => c
theorem frgT_some {ρ : Ev} {j : Nat} {c : Cl} (h : (frgT ρ)[j]? = some (some c)) : ρ[j]? = some (some c) ∧ ∀ acc, c ≠ .t acc := by
  unfold frgT at h
  rw [List.getElem?_map] at h
  cases q : ρ[j]? with
  | none => rw [q] at h; cases h
  | some o =>
    rw [q] at h
    cases o with
    | none => cases h
    | some c' =>
      cases c' with
      | t acc => cases h
      | d x => cases h; exact ⟨rfl, fun acc z => nomatch z⟩
      | o x => cases h; exact ⟨rfl, fun acc z => nomatch z⟩
      | s => cases h; exact ⟨rfl, fun acc z => nomatch z⟩
      | m x => cases h; exact ⟨rfl, fun acc z => nomatch z⟩
theorem frgT_len {ρ : Ev} : (frgT ρ).length = ρ.length := by unfold frgT; rw [List.length_map]
/-- an own dict keyed by tuples is written -/
theorem Fm.writeT (F : Fm K C fz ρ sto σ H) {i : Nat} {acc' : List (List Int × PyData)} {a : Addr} {ws : List (List Int × Addr × Value)} (h : ρ[i]? = some (some (.t acc))) (ha : σ[i]? = some (some (.ref a))) (im : TK K fz H ws acc') :
    Fm K C fz ((frgT ρ).set i (some (.t acc'))) sto σ (upd H a (DTO a ws)) ∧ Sts C.sp fz H fz (upd H a (DTO a ws)) := by
  obtain ⟨b, vs, e1, h2, h3, h4, h5, h6⟩ := F.vars i _ h
  rw [ha] at e1; cases e1
  have hi : i < ρ.length := (List.getElem?_eq_some_iff.mp h).1
  have S : Sts C.sp fz H fz (upd H a (DTO a ws)) := ⟨fun _ q => q, fun b o q n c => by
    have : b ≠ a := fun z => by
      subst z
      rcases c with c | c
      · exact h4 c
      · rw [h2] at q; cases q; exact c.2.2 _ rfl
    rw [upd_ne this]; exact q⟩
  refine ⟨⟨by rw [List.length_set, frgT_len, F.len], ⟨F.st.mono, fun b o q n => ?_, F.st.new, fun t b q z => ?_⟩, ⟨?_, F.bs.nsp, fun b q z => ?_⟩, fun j c q => ?_, fun j k us zs b hjk q1 q2 => ?_⟩, S⟩
  · have : b ≠ a := fun z => by subst z; rw [h6] at q; cases q
    rw [upd_ne this]; exact F.st.ext b o q n
  · by_cases e : b = a
    · subst e; rw [upd_same] at z; cases z
    · rw [upd_ne e] at z; exact F.st.trk t b q z
  · exact F.bs.spl.upd h5
  · by_cases e : b = a
    · subst e; rw [upd_same] at z; cases z
    · rw [upd_ne e] at z; exact F.bs.trk b q z
  · by_cases ej : j = i
    · subst ej
      rw [List.getElem?_set_self (by rw [frgT_len]; exact hi)] at q
      cases q
      exact ⟨a, ws, ha, upd_same, im.sts S F.bs, h4, h5, h6⟩
    · rw [List.getElem?_set_ne (Ne.symm ej)] at q
      obtain ⟨q, nm⟩ := frgT_some q
      have g := F.vars j c q
      cases c with
      | d x => obtain ⟨u, g1, g2⟩ := g; exact ⟨u, g1, g2.sts S F.bs⟩
      | o us =>
        obtain ⟨b, ts, g1, g2, g3, g4, g5, g6⟩ := g
        have : b ≠ a := fun z => by subst z; rw [h2] at g2; cases g2
        exact ⟨b, ts, g1, by rw [upd_ne this]; exact g2, g3.sts S F.bs, g4, g5, g6⟩
      | s => exact g
      | m acc2 =>
        obtain ⟨b, ts, g1, g2, g3, g4, g5, g6⟩ := g
        have : b ≠ a := fun z => by subst z; rw [h2] at g2; cases g2
        exact ⟨b, ts, g1, by rw [upd_ne this]; exact g2, ⟨g3.1, g3.2.sts S F.bs⟩, g4, g5, g6⟩
      | t acc2 => exact absurd rfl (nm acc2)
  · have ej : j ≠ i := fun z => by
      subst z
      rw [List.getElem?_set_self (by rw [frgT_len]; exact hi)] at q1
      cases q1
    have ek : k ≠ i := fun z => by
      subst z
      rw [List.getElem?_set_self (by rw [frgT_len]; exact hi)] at q2
      cases q2
    rw [List.getElem?_set_ne (Ne.symm ej)] at q1
    rw [List.getElem?_set_ne (Ne.symm ek)] at q2
    exact F.sep j k us zs b hjk (frgT_some q1).1 (frgT_some q2).1
end
def mNewT : Mx := fun _ s => some (.t [], s)
section
variable {X : Cx} {pos : Pos}
theorem se_dictT : SE X (.Dict [] [] pos) mNewT := ⟨fun pins s σ H Q I h => by
  obtain ⟨C, fz, ρ, sto, r, sto', F, e, k⟩ := h
  cases e
  have hp : H s.heap.objs.size = none := I.hok.fresh (Nat.le_refl _)
  have n : some s.heap.objs.size ≠ C.sp := F.bs.spl.ne hp (by intro z; cases z)
  have nf : ¬ fz s.heap.objs.size := fun q => F.bs.trk _ q hp
  have lo : (s.heap.objs.size == sysModules) = false := by
    have h := I.big
    rw [beq_eq_false_iff_ne]
    intro z
    rw [z] at h
    exact Nat.lt_irrefl _ h
  exact wpAny_Dict_empty ⟨.ref s.heap.objs.size, _, I.laid (a := s.heap.objs.size) (o := DTO s.heap.objs.size []) (t' := s.toks) (fun _ _ q => Heap.get?_push_of_some _ q) (Nat.le_refl _) (dto_ok (P := X.prog) (w := X.w) lo (Heap.DictOfH.new s.heap)), rfl,
    k _ fz _ (.laid hp) (F.bs.spl.upd n) ⟨s.heap.objs.size, [], rfl, upd_same, .nil, nf, n, hp⟩⟩⟩
end
def rSetT (K : PySem.W.Frag) : TSet := fun o i v H Q => ∃ a xs acc fz b ks, o = .ref a ∧ H a = some (DTO a xs) ∧ TK K fz H xs acc ∧ xs.length ≤ sizeLine ∧ i = .ref b ∧ FzT K H b (ks.map V.int) ∧ ∀ u, RelV v u → Q (upd H a (DTO a (storedH xs ks b u)))
theorem set_dictT {X : Cx} (hu : X.A.units + 1 < cLine) : PSet X (rSetT X.K) := by
  intro pins s σ H o i v ov iv u Q I ro ri rv h
  obtain ⟨a, xs, acc, fz, b, ks, eo, e, t, hz, ei, hb, q⟩ := h
  subst eo
  subst ei
  cases (show ov = Value.ref a from ro)
  cases (show iv = Value.ref b from ri)
  obtain ⟨⟨lo, _⟩, _⟩ := I.hok a _ e
  refine wpAny_setItem_heap (hsz := hz) (tupleKind_room_in1 hu) (keyT_of I hb) (dto_of I e t) fun h' dd' hs => ⟨_, ?_, q u rv⟩
  obtain ⟨ob, es, ep, hq, rest⟩ := id dd'
  exact d_write I (by rw [e]; exact True.intro) hs ⟨ob, hq⟩ (dto_ok lo dd')
def mPutT (i : Nat) (ix a : Mx) : Ms := fun ρ s => match a ρ s with
  | some (r, s1) => match ix ρ s1 with
    | some (rk, s2) => match ρ[i]?, keyI rk, toD r with
      | some (some (.t acc)), some k, some x => if acc.length ≤ 1000 then some (.nx, (frgT ρ).set i (some (.t (putT acc k x))), s2) else none
      | _, _, _ => none
    | none => none
  | none => none
section
variable {X : Cx} {e : Expr} {me mi : Mx} {pos : Pos} {kk : Nat}
/-- hg is pg_sub (pv i) hix (set_dictT ..) -/
theorem ss_putT {i : Nat} {tg : Expr} (he : SE X e me) (hg : PG X tg (gSub (tVar i) (rdE X.K mi) (rSetT X.K)))
    (hs : swapsWithSole [tg] e pos.line X.env = pure false := by rfl) (hw : swappedStores [tg] e X.env = pure none := by rfl) (h1 : (assignEach [tg] X.env).map (·.2) = [assign tg X.env] := by rfl) : SS X (.Assign [tg] e pos) (mPutT i mi me) :=
  PS.imp (ps_asg he hg hs hw h1) fun D σ H h => by
  obtain ⟨C, fz, ρ, sto, out, ρ', sto', F, e, k⟩ := h
  unfold mPutT at e
  split at e
  · rename_i r s1 e1
    split at e
    · rename_i rk s2 e2
      split at e
      · rename_i acc kx x ex ek er
        split at e
        · rename_i hz
          cases e
          refine ⟨C, fz, ρ, sto, r, s1, F, e1, fun v fz1 H1 st1 l1 i1 => ?_⟩
          have F1 := F.step st1 l1
          obtain ⟨a, vs, ha, h2, h3, h4, h5, h6⟩ := F.vars _ _ ex
          refine ⟨_, ha, C, fz1, ρ, s1, _, _, F1, e2, fun w fz2 H2 st2 l2 i2 => ?_⟩
          obtain ⟨b, ew, hb⟩ := keyI_im i2 ek
          subst ew
          obtain ⟨fz3, F3, st3, im⟩ := F.keep (st1.trans st2) l2 (i1.stp st2 F1.bs) er
          obtain ⟨a', vs', ha', q2, q3, q4, q5, q6⟩ := F3.vars _ _ ex
          rw [ha] at ha'; cases ha'
          refine ⟨a, vs', acc, fz3, b, kx, rfl, q2, q3, ?_, rfl, hb, fun u ru => ?_⟩
          · rw [← q3.len]; exact Nat.le_trans hz (by decide)
          · obtain ⟨F4, S4⟩ := F3.writeT ex ha (q3.put (k := kx) hb ru im)
            exact k fz3 σ _ F4 (st3.sts.trans S4)
        · cases e
      · cases e
    · cases e
  · cases e
end
def fIxT : R → R → Option R := fun x y => match x, keyI y with
  | .u acc, some k => (valT acc k).map .d
  | _, _ => none
section
variable {X : Cx} {a b : Expr} {ma mb : Mx} {pos : Pos} {kk : Nat}
def tTGet (K : PySem.W.Frag) (td ty : TE) : TE := fun σ H Q => td σ H fun x H1 => ty σ H1 fun y H2 => ∃ a xs acc fz b ks p v, x = .ref a ∧ H2 a = some (DTO a xs) ∧ TK K fz H2 xs acc ∧ y = .ref b ∧ FzT K H2 b (ks.map V.int) ∧ atKey xs ks = some p ∧ RelV v p.2 ∧ Q v H2
theorem pe_tget {td ty : TE} (hu : X.A.units + 1 < cLine) (ho : PE X a td) (hi : PE X b ty) (hs : NoSl b) : PE X (.Subscript a b pos) (tTGet X.K td ty) := by
  refine ⟨fun pins s σ H Q I h => ?_⟩
  refine subD_of PySem.F.slot_dict_getitem.lookup hs (thn (ho.run pins s σ H _ I h) fun u s1 ⟨x, H1, I1, rx, q1⟩ => thn (hi.run pins s1 σ H1 _ I1 q1) fun iv s2 ⟨y, H2, I2, ry, a, xs, acc, fz, bb, ks, p, v, ex, e, t, ey, hb, hp, rv, q2⟩ => ?_)
  subst ex
  subst ey
  obtain rfl : u = Value.ref a := rx
  cases (show iv = Value.ref bb from ry)
  have dd := dto_of I2 e t
  refine ⟨dd.typeIs, wpAny_getItem_heap (tupleKind_room_in1 hu) (keyT_of I2 hb) dd hp ⟨v, H2, I2.tok _, rv, q2⟩⟩
theorem se_ixT (hr : Room kk X.A) (ha : SE X a ma) (hb : SE X b mb) (hs : NoSl b := by exact fun _ _ => rfl) : SE X (.Subscript a b pos) (m2 fIxT ma mb) := PE.imp (pe_tget (unitsM hr) ha hb hs) fun σ H Q h => by
  obtain ⟨C, fz, ρ, sto, z, sto', F, e, k⟩ := h
  obtain ⟨x, s1, ea, e1⟩ := bnd_some e
  obtain ⟨y, s2, eb, e2⟩ := bnd_some e1
  obtain ⟨ef, rfl⟩ := ret_some e2
  clear e e1 e2
  refine ⟨C, fz, ρ, sto, x, s1, F, ea, fun v fz1 H1 st1 l1 i1 => ⟨C, fz1, ρ, s1, y, _, F.step st1 l1, eb, fun w fz2 H2 st2 l2 i2 => ?_⟩⟩
  have B1 := (F.step st1 l1).bs
  have i3 := i1.stp st2 B1
  unfold fIxT at ef
  split at ef
  · rename_i acc kx ek
    obtain ⟨d, ed, rfl⟩ := Option.map_eq_some_iff.mp ef
    obtain ⟨a, xs, rfl, hd, im, ns⟩ := i3
    obtain ⟨b, rfl, hb⟩ := keyI_im i2 ek
    obtain ⟨bb, u, v', e', rv, iu⟩ := (im.val kx).1 d ed
    exact ⟨a, xs, acc, fz2, b, kx, _, v', rfl, hd, im, rfl, hb, e', rv, k _ fz2 H2 (st1.trans st2) l2 iu⟩
  · cases ef
end
end Dh
namespace Dh
open PySem PySem.Spec PyProof.Rows L2 PySem.W RZ
/-- the keys in order -/
def leT : List Int → List Int → Bool := dataLe false tupI
def srtT (acc : List (List Int × PyData)) : List (List Int) := (acc.map (·.1)).mergeSort leT
def fSortT : List R → Option R
  | [.u acc] => if acc.length ≤ 1000 ∧ (acc.all fun p => decide (p.1 ≠ [])) = true then some (.f ((srtT acc).map tupI)) else none
  | _ => none
theorem each_refs {β : Type} {f : β → Addr} : ∀ {out : List Value} {ys : List β}, EachIs (fun v b => v = Value.ref (f b)) out ys → Vals (ys.map fun y => V.ref (f y)) out
  | _, _, .nil => .nil
  | _, _, .cons h t => by
    subst h
    exact .cons rfl (each_refs t)
theorem each_ofT {α β : Type} {R : α → β → Prop} (f : β → α) : ∀ {ys : List β}, (∀ y ∈ ys, R (f y) y) → EachIs R (ys.map f) ys
  | [], _ => .nil
  | y :: ys, h => .cons (h y (by simp)) (each_ofT f fun z hz => h z (List.mem_cons_of_mem _ hz))
def keysA (xs : List (List Int × Addr × Value)) : List (List Int × Addr) := xs.map fun x => (x.1, x.2.1)
theorem TK.keyAt {K : PySem.W.Frag} {fz : Fz} {H : Hp} {xs : List (List Int × Addr × Value)} {acc : List (List Int × PyData)} (h : TK K fz H xs acc) : (∀ x ∈ keysA xs, FzT K H x.2 (x.1.map V.int)) ∧ (keysA xs).map (·.1) = acc.map (·.1) := by
  unfold TK at h
  unfold keysA
  induction h with
  | nil => exact ⟨fun x hx => by simp at hx, rfl⟩
  | @cons p q ps qs hq t ih =>
    refine ⟨fun x hx => ?_, ?_⟩
    · rw [List.map_cons, List.mem_cons] at hx
      rcases hx with rfl | hx
      · exact hq.2.1
      · exact ih.1 x hx
    · rw [List.map_cons, List.map_cons, List.map_cons, ih.2, hq.1]
theorem depth_intsT : ∀ l : List Int, PyData.depthAll (l.map PyData.int) ≤ 1
  | [] => by simp [PyData.depthAll]
  | x :: l => by
    have := depth_intsT l
    rw [List.map_cons]
    simp only [PyData.depthAll, PyData.depth]
    omega
theorem noDicts_intsT : ∀ l : List Int, noDicts (l.map PyData.int) = true
  | [] => rfl
  | x :: l => by
    rw [List.map_cons]
    simp only [noDicts, noDict, Bool.true_and]
    exact noDicts_intsT l
section
variable {X : Cx}
def rSortT (K : PySem.W.Frag) : List V → Hp → VK → Prop := fun vs H Q => ∃ a xs acc fz, vs = [.ref a] ∧ H a = some (DTO a xs) ∧ TK K fz H xs acc ∧ xs.length ≤ 1000 ∧ (∀ x ∈ xs, x.1 ≠ []) ∧
  ∀ p, H p = none → Q (.ref p) (upd H p (.lst (((keysA xs).mergeSort (dataLe false fun b => tupI b.1)).map fun y => V.ref y.2)))
theorem call_sortedT (hcalm : X.calm = true) (hu : X.A.units + 65 < cLine) : CallR X (.builtin "sorted") (rSortT X.K) := by
  intro pins s σ H vs us Q I r q
  obtain ⟨a, xs, acc, fz, ex, hd, tk, hz, hne, q⟩ := q
  subst ex
  obtain ⟨u, eu, rx⟩ := vals1 r
  subst eu
  cases rx
  obtain ⟨⟨lo, _⟩, _⟩ := I.hok a _ hd
  obtain ⟨o, es, ep, ho, hx, hdt, he, hk5, hn⟩ := dto_of I hd tk
  obtain ⟨ka, _⟩ := tk.keyAt
  have l1 : es.size = xs.length := size_of_entries he
  have h16 : es.size ≤ sizeLine := by rw [l1]; exact Nat.le_trans hz (by decide)
  refine Calls.call_function_entry PyProof.Rows.kind_sorted PyProof.Rows.plain_sorted PyProof.Rows.entry_sorted (PyProof.Rows.args_sorted1 _) ?_
  unfold Builtin.«sorted»
  refine wpAny_bind (m := checkCount "sorted" 1 1 _) (wpAny_pure ?_)
  refine wpAny_bind (PySem.W.kdu_collect (A := X.A.in1) (kdl_raw lo hx hdt) (I.ok.hd hcalm) ho h16 fun h' tok acc' hk it => ?_)
  have ea : acc'.toList = (keysA xs).map fun y => Value.ref y.2 := by
    have hl : acc'.toList.length = xs.length := by rw [Array.length_toList, it.1]; exact l1
    have hl2 : ((keysA xs).map fun y => Value.ref y.2).length = xs.length := by unfold keysA; rw [List.length_map, List.length_map]
    apply List.ext_getElem?
    intro j
    cases hj : acc'.toList[j]? with
    | none =>
      have h1 := List.getElem?_eq_none_iff.mp hj
      rw [List.getElem?_eq_none (by omega)]
    | some v =>
      obtain ⟨en, hen, hv⟩ := it.2 j v (by rw [← Array.getElem?_toList]; exact hj)
      have qe := entry_at he j
      rw [hen] at qe
      unfold keysA
      rw [List.getElem?_map, List.getElem?_map]
      cases hb : xs[j]? with
      | none =>
        rw [hb] at qe
        exact nomatch (show some en = none from qe)
      | some b =>
        rw [hb] at qe
        have e2 : en = entryOfKey (tupleKind (PySem.intKind X.prog X.w)) b := Option.some.inj qe
        rw [hv, e2]
        rfl
  have hal : acc'.toList.length = xs.length := by rw [Array.length_toList, it.1]; exact l1
  have hL : acc'.toList.length ≤ sizeLine := by rw [hal]; exact Nat.le_trans hz (by decide)
  have I1 : Inv X pins σ H { s with heap := h', toks := tok } := I.kept hk
  refine wpAny_bind (wpAny_newList ?_ hL)
  have hoL : (h'.push (seqObj "list" acc'.toList.toArray 0)).get? h'.objs.size = some (seqObj "list" acc'.toList.toArray 0) := Heap.get?_push_size _ rfl
  show wpAny _ _ _ _ _ { s with heap := h'.push (seqObj "list" acc'.toList.toArray 0), toks := tok }
  have hks : ∀ y ∈ keysA xs, y.1 ≠ [] := fun y hy => by
    obtain ⟨x, hx, rfl⟩ := List.mem_map.mp hy
    exact hne x hx
  have rd0 : ∀ y ∈ keysA xs, ∃ as, Reads h' (Value.ref y.2) (tupI y.1) as := fun y hy => by
    have im : Im X.K fz H (.ref y.2) (tupI y.1) := .tup (ka y hy) (ImA.ints y.1)
    exact Dp.reads I1 _ _ _ (Im.dp im (by simp only [tupI, noDict]; exact noDicts_intsT y.1)) rfl
  have rd1 : EachIs (fun v b => ∃ as, Reads (sortingHeap (h'.push (seqObj "list" acc'.toList.toArray 0)) h'.objs.size acc'.toList) v (tupI b.1) as) acc'.toList (keysA xs) := by
    have z := each_ofT (R := fun v (b : List Int × Addr) => ∃ as, Reads (sortingHeap (h'.push (seqObj "list" acc'.toList.toArray 0)) h'.objs.size acc'.toList) v (tupI b.1) as) (fun y => Value.ref y.2) (ys := keysA xs) fun y hy => by
      obtain ⟨as, rd⟩ := rd0 y hy
      exact ⟨as, PyProof.Rows.Reads.keeps (fun b o e => sortingHeap_old (Nat.ne_of_lt (Heap.lt_size e)) (Heap.get?_push_of_some _ e)) rd⟩
    rw [← ea] at z
    exact z
  have eR : EachIs (fun v (b : List Int × Addr) => v = Value.ref b.2) acc'.toList (keysA xs) := by
    have z := each_ofT (R := fun v (b : List Int × Addr) => v = Value.ref b.2) (fun y => Value.ref y.2) (ys := keysA xs) fun y _ => rfl
    rw [← ea] at z
    exact z
  have alik : AllAlike ((keysA xs).map fun b => tupI b.1) := fun d hd d' hd' => by
    obtain ⟨b, _, rfl⟩ := List.mem_map.mp hd
    obtain ⟨b', _, rfl⟩ := List.mem_map.mp hd'
    show alike (tupI b.1) (tupI b'.1) = true
    unfold tupI
    rw [alike]
    exact alike_ints _ _
  have sortable : Sortable ((keysA xs).map fun b => tupI b.1) := .inl fun d hd => by
    obtain ⟨b, hb, rfl⟩ := List.mem_map.mp hd
    have := hks b hb
    cases h : b.1 with
    | nil => exact absurd h this
    | cons x l => exact ⟨.int x, l.map .int, rfl⟩
  have S := SortsAt.data (prog := X.prog) (w := X.w) (A := X.A.in1.in1) (s := { s with heap := sortingHeap (h'.push (seqObj "list" acc'.toList.toArray 0)) h'.objs.size acc'.toList, toks := tok }) (each_map (R := fun v d => ∃ as, Reads (sortingHeap (h'.push (seqObj "list" acc'.toList.toArray 0)) h'.objs.size acc'.toList) v d as) (fun b : List Int × Addr => tupI b.1) rd1) alik sortable fun d hd => by
    obtain ⟨b, _, rfl⟩ := List.mem_map.mp hd
    have := depth_intsT b.1
    show X.A.units + 1 + 1 + (tupI b.1).depth < cLine
    simp only [tupI, PyData.depth]
    omega
  refine wpAny_bind (wpAny_holding (wpAny_call_entry PyProof.Rows.slot_list_sort ⟨_, hoL, rfl⟩ PyProof.Rows.entry_list_sort
    (list_sort_vals (s := { s with heap := h'.push (seqObj "list" acc'.toList.toArray 0), toks := tok }) hoL S hL ⟨_, rfl, ?_⟩) (PyProof.Rows.args_list_sort _)))
  have sv := sortVals_data (h' := sortingHeap (h'.push (seqObj "list" acc'.toList.toArray 0)) h'.objs.size acc'.toList) (enc := fun b : List Int × Addr => tupI b.1) false eR rd1 alik
  obtain ⟨e', he'⟩ := PyProof.Rows.sortedHeap_at (vs := acc'.toList) (out := (sortVals (dataKind (sortingHeap (h'.push (seqObj "list" acc'.toList.toArray 0)) h'.objs.size acc'.toList) ((keysA xs).map fun b => tupI b.1)) false acc'.toList acc'.toList).toArray) hoL
  have rv := each_refs (f := fun b : List Int × Addr => b.2) sv
  have hlen : (((keysA xs).mergeSort (dataLe false fun b => tupI b.1)).map fun y => V.ref y.2).length ≤ sizeLine := by
    rw [List.length_map, List.length_mergeSort]
    unfold keysA
    rw [List.length_map]
    exact Nat.le_trans hz (by decide)
  refine wpAny_pure ⟨_, rfl, .ref h'.objs.size, upd H h'.objs.size (.lst (((keysA xs).mergeSort (dataLe false fun b => tupI b.1)).map fun y => V.ref y.2)), I1.laid (t' := tok) (fun b u e => ?_) (Nat.le_refl _)
    (show ObjOk X.prog X.w _ _ _ (.lst (((keysA xs).mergeSort (dataLe false fun b => tupI b.1)).map fun y => V.ref y.2)) from ⟨hlen, _, e', rv, he'⟩), rfl, q _ (I1.hok.fresh (Nat.le_refl _))⟩
  have hb : b < h'.objs.size := Heap.lt_size e
  rw [PyProof.Rows.sortedHeap_old (Nat.ne_of_lt hb) (by rw [size_push']; exact Nat.lt_succ_of_lt hb)]
  exact Heap.get?_push_of_some _ e
theorem ok_sortT : OkA X.K (rSortT X.K) fSortT := by
  intro sp fz fzS H H0 sto vs xs z Q s B i e k
  unfold fSortT at e
  split at e
  · rename_i acc
    split at e
    · rename_i hz
      cases e
      cases i with
      | cons i1 t =>
        cases t
        obtain ⟨a, ks, rfl, hd, tk, ns⟩ := i1
        obtain ⟨ka, kb⟩ := tk.keyAt
        refine ⟨a, ks, acc, fz, rfl, hd, tk, by rw [← tk.len]; exact hz.1, fun x hx => ?_, fun p hp => ?_⟩
        · have m1 : x.1 ∈ (keysA ks).map (·.1) := by
            unfold keysA
            rw [List.map_map]
            exact List.mem_map.mpr ⟨x, hx, rfl⟩
          rw [kb] at m1
          obtain ⟨p, hp, e⟩ := List.mem_map.mp m1
          have := List.all_eq_true.mp hz.2 p hp
          rw [← e]
          simpa using this
        · have n : some p ≠ sp := B.spl.ne hp (by intro z; cases z)
          have nf : ¬ fz p := fun q => B.trk p q hp
          have st : Stp sp fz H fz (upd H p (.lst (((keysA ks).mergeSort (dataLe false fun b => tupI b.1)).map fun y => V.ref y.2))) := .laid hp
          refine k _ fz _ (s.trans st) (B.spl.upd n) ⟨p, _, rfl, upd_same, ?_, nf, n, s.back n hp⟩
          have em : ((keysA ks).mergeSort (dataLe false fun b => tupI b.1)).map (·.1) = srtT acc := by
            unfold srtT
            rw [← kb]
            exact List.map_mergeSort (fun a _ b _ => rfl)
          rw [← em, List.map_map]
          have all : ∀ y ∈ (keysA ks).mergeSort (dataLe false fun b => tupI b.1), FzT X.K H y.2 (y.1.map V.int) := fun y hy => ka y ((List.mergeSort_perm _ _).mem_iff.mp hy)
          generalize (keysA ks).mergeSort (dataLe false fun b => tupI b.1) = L at *
          clear em
          have go : ∀ L : List (List Int × Addr), (∀ y ∈ L, FzT X.K H y.2 (y.1.map V.int)) → ∀ H2, (∀ b xs, FzT X.K H b xs → FzT X.K H2 b xs) → ImA X.K fz H2 (L.map fun y => V.ref y.2) (L.map (tupI ∘ fun y => y.1)) := fun L => by
            induction L with
            | nil => intro _ _ _; exact .nil
            | cons y L ih =>
              intro h H2 g
              exact .cons (.tup (g _ _ (h y (by simp))) (ImA.ints y.1)) (ih (fun z hz => h z (List.mem_cons_of_mem _ hz)) H2 g)
          exact go L all _ fun b xs h => FzT.stp st B h
    · cases e
  · cases e
variable {x : Str} {p pos : Pos} {e : Expr} {es : List Expr} {m : Ma} {kk : Nat}
theorem se_sortT (hr : Room kk X.A) (hc : X.calm = true) (ha : SA X (e :: es) m) (hm : X.mg "sorted" = none) (hg : Gl X "sorted" := by rfl) (he : starEach (e :: es) X.env = (false, eval e X.env) :: starEach es X.env := by rfl) (hpl : (backTo pos (starEach es X.env)).any (·.1) = false := by rfl) : SE X (.Call (.Name "sorted" p) (e :: es) [] pos) (mA fSortT m) :=
  se_bi (call_sortedT hc (units65 hr)) ok_sortT ha hm (by decide +kernel) hg (by decide) (by decide) he hpl
end
end Dh
namespace Dh
open PySem PySem.Spec PyProof.Rows L2
section
variable {X : Cx}
theorem pairs_ofT {pins : List (Addr × Obj)} {σ : L2.St} {H : Hp} {s : Shared} (I : Inv X pins σ H s) : ∀ {ps : List Addr} {kvs : List (Key × V)}, Paired (fun p kv => SqT X.K H p [kV kv.1, kv.2]) ps kvs →
    ∃ (prs : List (Key × Value)) (us : List (Value × Value)), KV kvs prs ∧ prs.length = ps.length ∧ us.length = ps.length ∧ ∀ (j : Nat) (u : Value × Value), us[j]? = some u → ∃ b k, ps[j]? = some b ∧ prs[j]? = some (k, u.2) ∧ IsTup s.heap b #[u.1, u.2] ∧ keyIs k u.1 = true
  | _, _, .nil => ⟨[], [], .nil, rfl, rfl, fun j q e => by simp at e⟩
  | _, _, .cons (a := p) (b := kv) h t => by
    obtain ⟨prs, us, r, hl, hu, hp⟩ := pairs_ofT I t
    obtain ⟨its, rv, ht, _⟩ := I.tuple h
    obtain ⟨u, y, ei, ru, ry⟩ := vals2 rv
    subst ei
    refine ⟨(kv.1, y) :: prs, (u, y) :: us, .cons ⟨rfl, ry⟩ r, by rw [List.length_cons, List.length_cons, hl], by rw [List.length_cons, List.length_cons, hu], fun j q e => ?_⟩
    cases j with
    | zero =>
      have e' : (u, y) = q := Option.some.inj e
      subst e'
      exact ⟨p, kv.1, rfl, rfl, ht, kV_is (P := X.prog) (w := X.w) ru⟩
    | succ j =>
      obtain ⟨b, k, e1, e2, e3, e4⟩ := hp j q (by simpa using e)
      exact ⟨b, k, by simpa using e1, by simpa using e2, e3, e4⟩
theorem tup_plain {pins : List (Addr × Obj)} {σ : L2.St} {H : Hp} {s : Shared} (I : Inv X pins σ H s) {a : Addr} {xs : List V} (h : FzT X.K H a xs) : ∃ its : List Value, Vals xs its ∧ PlainSeq "tuple" s.heap a its.toArray ∧ xs.length ≤ sizeLine := by
  rcases h with ⟨o, e, hd⟩ | ⟨o, its, n, e1, e2, e3, e4, e5, e6⟩
  · obtain ⟨g1, g2, its, r, o', g3, g4, n, g5⟩ := I.hok a _ e
    rw [g1] at g3
    cases g3
    exact ⟨its, r, ⟨o, n, g1, g4, hd, g5⟩, g2⟩
  · refine ⟨its.toList, e6, ⟨o, n, I.kIn a o e1, e2, e3, by simpa using e4⟩, ?_⟩
    have := e6.length
    simp only [Array.length_toList] at this
    omega
def rDictP (K : PySem.W.Frag) : List V → Hp → VK → Prop := fun xs H Q => ∃ (a : Addr) (ps : List Addr) (kvs : List (Key × V)), xs = [.ref a] ∧ FzT K H a (ps.map V.ref) ∧ Paired (fun p kv => SqT K H p [kV kv.1, kv.2]) ps kvs ∧
    ∀ p, H p = none → Q (.ref p) (upd H p (.dK (mergeK [] kvs)))
theorem call_dictPT (hcalm : X.calm = true) : CallR X (.type "dict") (rDictP X.K) := by
  intro pins s σ H xs us Q I r q
  obtain ⟨a, ps, kvs, ex, hq, hp, q⟩ := q
  subst ex
  obtain ⟨u, eu, rx⟩ := vals1 r
  subst eu
  cases rx
  obtain ⟨its, rv, pl, hz⟩ := tup_plain I hq
  have ei := refs_at rv
  subst ei
  rw [List.length_map] at hz
  obtain ⟨prs, us, rel, hl, hu, hpr⟩ := pairs_ofT I hp
  refine PySem.call_dict_pairs (knd := mixKind X.prog X.w) (kvs := prs) (PairArg.tuple a (ps.map Value.ref).toArray (fun j => ps.getD j 0) us) (I.ok.hd hcalm) ⟨pl, by simp [hu], fun j k v hj => ?_⟩ ⟨by rw [hl, hu], fun i key v hi => ?_⟩ (by rw [hu]; exact hz) fun h' tk hd' k => ?_
  · obtain ⟨b, k', e1, e2, e3, e4⟩ := hpr j _ hj
    have eg : ps.getD j 0 = b := by rw [List.getD_eq_getElem?_getD, e1]; rfl
    dsimp only
    rw [eg]
    exact ⟨by simp [e1], .inl e3⟩
  · obtain ⟨b, k', e1, e2, e3, e4⟩ := hpr i _ hi
    exact ⟨k', e2, e4⟩
  · have hm : (s.heap.objs.size == sysModules) = false := beq_eq_false_iff_ne.mpr (Nat.ne_of_gt I.big)
    have hlen : (mergeK [] kvs).length ≤ sizeLine := by
      refine Nat.le_trans (length_mergeK kvs []) ?_
      rw [List.length_nil, Nat.zero_add, rel.length, hl]
      exact hz
    exact ⟨.ref s.heap.objs.size, upd H s.heap.objs.size (.dK (mergeK [] kvs)), I.laid (t' := tk) (fun b o e => k b o (by simp) e) (Nat.le_refl _) (show ObjOk X.prog X.w _ _ _ (.dK (mergeK [] kvs)) from ⟨hlen, hm, merged [] prs, KV.merge rel .nil, hd'⟩), rfl, q _ (I.hok.fresh (Nat.le_refl _))⟩
end
def pairP : PyData → Option (Key × PyData)
  | .tuple [k, v] => (keyP (.d k)).map fun k => (k, v)
  | _ => none
def pairsP : List PyData → Option (List (Key × PyData))
  | [] => some []
  | x :: xs => match pairP x, pairsP xs with
    | some p, some ps => some (p :: ps)
    | _, _ => none
def fDictP : List R → Option R
  | [.d (.tuple xs)] => (pairsP xs).map fun ps => .m (ps.foldl (fun acc p => putP acc p.1 p.2) [])
  | _ => none
section
variable {K : PySem.W.Frag} {sp : Option Addr} {fz : Fz} {H : Hp}
theorem pairsP_im : ∀ {xs : List PyData} {vs : List V} {ps : List (Key × PyData)}, ImA K fz H vs xs → pairsP xs = some ps → ∃ (as : List Addr) (kvs : List (Key × V)), vs = as.map V.ref ∧ Paired (fun p kv => SqT K H p [kV kv.1, kv.2]) as kvs ∧ ImK K fz H kvs ps
  | _, _, _, .nil, e => by
    cases e
    exact ⟨[], [], rfl, .nil, rfl, .nil⟩
  | x :: xs, _, _, .cons i t, e => by
    unfold pairsP at e
    split at e
    · rename_i p ps' e1 e2
      cases e
      obtain ⟨as, kvs, rfl, h1, h2, h3⟩ := pairsP_im t e2
      unfold pairP at e1
      split at e1
      · rename_i k v
        obtain ⟨k', ek, rfl⟩ := Option.map_eq_some_iff.mp e1
        cases i with
        | tup h im =>
          rename_i a ws
          cases im with
          | cons j1 t1 =>
            cases t1 with
            | cons j2 t2 =>
              cases t2
              rename_i w1 w2
              have ev := keyP_im (K := K) (fz := fz) (H := H) (show ImR K none H fz H w1 (.d k) from j1) ek
              subst ev
              exact ⟨a :: as, (k', w2) :: kvs, rfl, .cons h.sq h1, by rw [List.map_cons, List.map_cons, h2], .cons j2 h3⟩
      · cases e1
    · cases e
theorem merge_im : ∀ (kvs : List (Key × V)) {ps : List (Key × PyData)} {ws : List (Key × V)} {acc : List (Key × PyData)}, ImK K fz H kvs ps → ImK K fz H ws acc → ImK K fz H (mergeK ws kvs) (ps.foldl (fun acc p => putP acc p.1 p.2) acc)
  | [], ps, _, _, h, g => by
    have : ps = [] := List.map_eq_nil_iff.mp h.1.symm
    subst this
    exact g
  | p :: kvs, ps, ws, acc, h, g => by
    obtain ⟨d, ps', rfl, i, h2⟩ := h.cons_inv
    show ImK K fz H (mergeK (putK ws p.1 p.2) kvs) (ps'.foldl (fun acc p => putP acc p.1 p.2) (putP acc p.1 d))
    exact merge_im kvs h2 (g.put i)
end
section
variable {X : Cx} {p pos : Pos} {e : Expr} {es : List Expr} {m : Ma}
theorem ok_dictP : OkA X.K (rDictP X.K) fDictP := by
  intro sp fz fzS H H0 sto vs xs z Q s B i e k
  unfold fDictP at e
  split at e
  · rename_i ds
    obtain ⟨ps, ep, rfl⟩ := Option.map_eq_some_iff.mp e
    cases i with
    | cons i t =>
      cases t
      cases i with
      | tup h im =>
        rename_i a ws
        obtain ⟨as, kvs, rfl, h1, h2⟩ := pairsP_im im ep
        refine ⟨a, as, kvs, rfl, h, h1, fun q hq => ?_⟩
        have hf : ¬ fz q := fun z => B.trk _ z hq
        have n : some q ≠ sp := B.spl.ne hq (by intro z; cases z)
        have st : Stp sp fz H fz (upd H q (.dK (mergeK [] kvs))) := .laid hq
        have im2 : ImK X.K fz (upd H q (.dK (mergeK [] kvs))) (mergeK [] kvs) (ps.foldl (fun acc p => putP acc p.1 p.2) []) := (merge_im _ h2 ⟨rfl, .nil⟩).stp st B
        exact k _ fz _ (s.trans st) (B.spl.upd n) ⟨q, mergeK [] kvs, rfl, upd_same, im2, hf, n, s.back n hq⟩
  · cases e
theorem se_dictP (hc : X.calm = true) (ha : SA X (e :: es) m) (hm : X.mg "dict" = none) (hg : Gl X "dict" := by rfl) (he : starEach (e :: es) X.env = (false, eval e X.env) :: starEach es X.env := by rfl) (hpl : (backTo pos (starEach es X.env)).any (·.1) = false := by rfl) : SE X (.Call (.Name "dict" p) (e :: es) [] pos) (mA fDictP m) :=
  se_ty (call_dictPT hc) ok_dictP ha hm (by decide +kernel) hg (by decide) (by decide) he hpl
end
def noneT : Str := "None"
def fReprN : List R → Option R
  | [.d .none] => some (.d (.str noneT))
  | xs => fRepr xs
theorem fReprN_none : fReprN [.d .none] = some (.d (.str noneT)) := rfl
theorem fReprN_of {x : R} {z : R} (h : fRepr [x] = some z) : fReprN [x] = some z := by
  unfold fReprN
  split
  · rename_i e
    cases e
    exact absurd (show (none : Option R) = some z from h) (by intro q; cases q)
  · exact h
def rReprN (K : PySem.W.Frag) : List V → Hp → VK → Prop := fun xs H Q => (xs = [V.non] ∧ Q (.str noneT) H) ∨ rRepr K xs H Q
section
variable {X : Cx} {p pos : Pos} {e : Expr} {es : List Expr} {m : Ma} {k : Nat}
theorem call_reprN (hr : Room k X.A) (hg : X.A.guards = some []) : CallR X (.builtin "repr") (rReprN X.K) := by
  intro pins s σ H vs us Q I r h
  rcases h with ⟨rfl, q⟩ | h
  · cases r with
    | cons r t =>
      cases t
      cases r
      exact PySem.P.repr_of_none ⟨.str _, H, I.tok _, ⟨_, rfl⟩, q⟩
  · exact call_reprD hr hg pins s σ H vs us Q I r h
theorem ok_reprN : OkA X.K (rReprN X.K) fReprN := by
  intro sp fz fzS H H0 sto vs xs z Q s B i e k
  unfold fReprN at e
  split at e
  · cases e
    cases i with
    | cons i t =>
      cases t
      cases i
      exact .inl ⟨rfl, k _ fz H s B.spl (.str _)⟩
  · exact .inr (ok_repr sp fz fzS H H0 sto vs _ z Q s B i e k)
theorem se_reprN (hr : Room k X.A) (hgd : X.A.guards = some []) (ha : SA X (e :: es) m) (hm : X.mg "repr" = none) (hg : Gl X "repr" := by rfl) (he : starEach (e :: es) X.env = (false, eval e X.env) :: starEach es X.env := by rfl) (hpl : (backTo pos (starEach es X.env)).any (·.1) = false := by rfl) : SE X (.Call (.Name "repr" p) (e :: es) [] pos) (mA fReprN m) :=
  se_bi (call_reprN hr hgd) ok_reprN ha hm (by decide +kernel) hg (by decide) (by decide) he hpl
end
def fIdxL : R → R → Option R := fun x y => match rdL x, y with
  | some ds, .d (.int g) => match intsOf ds with
    | some ns => (ns.findIdx? fun n => n == g).map fun j => .d (.int (j : Nat))
    | none => none
  | _, _ => none
section
variable {X : Cx} {apos cpos : Pos} {e o : Expr} {mo me : Mx}
theorem se_idxL (ho : SE X o mo) (he : SE X e me) (hse : starEach [e] X.env = (false, eval e X.env) :: starEach [] X.env := by rfl) (hbase : attributeBase o "index" X.env (eval o X.env) = eval o X.env := by rfl)
    (hfew : ((backTo cpos (starEach [e] X.env)).all (fun x => !x.1) && (backToKw cpos (keywordEach [] X.env)).all (fun x => x.1.isSome)
      && decide (([e] : List Expr).length + ([] : List Keyword).length + (if ([] : List Keyword).isEmpty then 0 else 1) < 30)) = true := by rfl)
    (hline : (apos.endLine == cpos.line) = true := by rfl) : SE X (.Call (.Attribute o "index" apos) [e] [] cpos) (m2 fIdxL mo me) :=
  PE.imp (pe_bm PySem.F.plainAttrs_list PySem.F.slot_list_index PySem.F.type_list_index mt_index ho (pa_cons he pa_nil hse) hbase hfew hline hse) fun σ H Q h => by
  obtain ⟨C, fz, ρ, sto, z, sto', F, e, k⟩ := h
  obtain ⟨x, s1, ea, e1⟩ := bnd_some e
  obtain ⟨y, s2, eb, e2⟩ := bnd_some e1
  obtain ⟨ef, rfl⟩ := ret_some e2
  clear e e1 e2
  refine ⟨C, fz, ρ, sto, x, s1, F, ea, fun v fz1 H1 st1 l1 i1 => ?_⟩
  unfold fIdxL at ef
  split at ef
  · rename_i ds g ed
    split at ef
    · rename_i ns en
      obtain ⟨j, hj, rfl⟩ := Option.map_eq_some_iff.mp ef
      have B1 := (F.step st1 l1).bs
      refine ⟨?_, C, fz1, ρ, s1, _, _, F.step st1 l1, eb, fun w fz2 H2 st2 l2 i2 => ?_⟩
      · obtain ⟨a, vs, rfl, hs, _⟩ := i1.list ed
        exact .inl ⟨rfl, vs, hs⟩
      · obtain ⟨a, vs, rfl, hs, im⟩ := (i1.stp st2 B1).list ed
        rw [intsOf_im im en] at hs
        cases i2
        rw [List.findIdx?_eq_some_iff_getElem] at hj
        obtain ⟨hjl, h1, h2⟩ := hj
        refine ⟨a, _, _, j, .int ns[j], rfl, rfl, hs, rfl, ?_, by simp [hjl], h1, fun m z' hm hz => ?_, k _ fz2 H2 (st1.trans st2) l2 (.int _)⟩
        · rw [List.all_eq_true]
          intro u hu
          obtain ⟨n, _, rfl⟩ := List.mem_map.mp hu
          rfl
        · rw [List.getElem?_map, List.getElem?_eq_getElem (by omega)] at hz
          cases hz
          have := h2 m hm
          show (ns[m] == g) = false
          simpa using this
    · cases ef
  · cases ef
end
@[simp] theorem fIdxL_f {ds : List PyData} {g : Int} : fIdxL (.f ds) (.d (.int g)) = match intsOf ds with | some ns => (ns.findIdx? fun n => n == g).map fun j => .d (.int (j : Nat)) | none => none := rfl
end Dh
namespace Dh
open PySem PySem.Spec L2
end Dh
namespace Dh
open PySem PySem.Spec L2
end Dh
namespace Dh
open PySem PySem.Spec L2
end Dh
namespace Dh
open PySem PySem.Spec L2
theorem alike_ints (ns : List Int) : PySem.W.AlikeAll (ns.map PyData.int) := by
  constructor
  · intro x hx y hy
    obtain ⟨a, _, rfl⟩ := List.mem_map.mp hx
    obtain ⟨b, _, rfl⟩ := List.mem_map.mp hy
    simp only [PySem.W.alike]
  · intro x hx
    obtain ⟨a, _, rfl⟩ := List.mem_map.mp hx
    intro e
    cases e
end Dh
namespace Dh
open PySem PySem.Spec PyProof.Rows L2 PySem.W
end Dh
namespace Dh
open PySem PySem.Spec L2
end Dh
namespace Dh
open PySem PySem.Spec L2 PySem.W PyProof.Rows
theorem Sk.ext {k : Sk} {K : PySem.W.Frag} {H H' : Hp} {a : Addr} {xs : List V} (h : k.Sq K H a xs) (e : ∀ c o, H c = some o → H' c = some o) : k.Sq K H' a xs := by
  cases k with
  | l =>
    rcases (show SqL K H a xs from h) with (h | ⟨o, h⟩) | h
    · exact .inl (.inl (e _ _ h))
    · exact .inl (.inr ⟨o, e _ _ h⟩)
    · exact .inr h
  | t =>
    rcases (show SqT K H a xs from h) with (h | ⟨o, h⟩) | h
    · exact .inl (.inl (e _ _ h))
    · exact .inl (.inr ⟨o, e _ _ h⟩)
    · exact .inr h
end Dh
namespace Dh
open PySem PySem.Spec L2 PySem.W
/-- a mark: what it stands for is left as it is -/
inductive Tg {α : Type} (a : α) : Type
  | mk : Tg a
def WO {α : Type} (x : Option α) (Q : α → Prop) (_t : Tg Q := .mk) : Prop := ∃ z, x = some z ∧ Q z
def WX (m : Mx) (ρ : Ev) (s : Sto) (Q : R → Sto → Prop) (_t : Tg (m, Q) := .mk) : Prop := ∃ r s', m ρ s = some (r, s') ∧ Q r s'
def WT (m : Mt) (ρ : Ev) (s : Sto) (Q : Bool → Sto → Prop) (_t : Tg (m, Q) := .mk) : Prop := ∃ r s', m ρ s = some (r, s') ∧ Q r s'
def WA (m : Ma) (ρ : Ev) (s : Sto) (Q : List R → Sto → Prop) (_t : Tg (m, Q) := .mk) : Prop := ∃ r s', m ρ s = some (r, s') ∧ Q r s'
def WI (m : Mi) (ρ : Ev) (s : Sto) (Q : List PyData → Sto → Prop) (_t : Tg (m, Q) := .mk) : Prop := ∃ r s', m ρ s = some (r, s') ∧ Q r s'
def WN (m : Mo) (ρ : Ev) (s : Sto) (Q : Option Int → Sto → Prop) (_t : Tg (m, Q) := .mk) : Prop := ∃ r s', m ρ s = some (r, s') ∧ Q r s'
def WS (m : Ms) (ρ : Ev) (s : Sto) (Q : Out → Ev → Sto → Prop) (_t : Tg (m, Q) := .mk) : Prop := ∃ o ρ' s', m ρ s = some (o, ρ', s') ∧ Q o ρ' s'
def WF (g : Fx) (cs : List Cl) (s : Sto) (Q : R → Sto → Prop) (_t : Tg (g, Q) := .mk) : Prop := ∃ r s', g cs s = some (r, s') ∧ Q r s'
def WFor (g : Gx) (body : Ms) (xs : List PyData) (ρ : Ev) (s : Sto) (Q : Out → Ev → Sto → Prop) (_t : Tg (g, body, Q) := .mk) : Prop := WS (forRun g body xs) ρ s Q
def WWh (c : Mt) (body : Ms) (ρ : Ev) (s : Sto) (Q : Out → Ev → Sto → Prop) (_t : Tg (c, body, Q) := .mk) : Prop := WS (mWhile c body) ρ s Q
def WLc (vs : List Nat) (g : Gx) (t : Mt) (e : Mx) (xs : List PyData) (ρ : Ev) (s : Sto) (Q : List PyData → Sto → Prop) (_t : Tg (vs, g, t, e, Q) := .mk) : Prop := ∃ ys s', lcRun vs g t e xs ρ s = some (ys, s') ∧ Q ys s'
def WLc2 (vs vs1 : List Nat) (g : Gx) (t : Mt) (it1 : Mi) (g1 : Gx) (t1 : Mt) (e : Mx) (xs : List PyData) (ρ : Ev) (s : Sto) (Q : List PyData → Sto → Prop) (_t : Tg (vs, vs1, g, t, it1, g1, t1, e, Q) := .mk) : Prop := ∃ ys s', lcRun2 vs vs1 g t it1 g1 t1 e xs ρ s = some (ys, s') ∧ Q ys s'
def IfK (k : Bool) (A B : Prop) (_t : Tg (A, B) := .mk) : Prop := if k = true then A else B
def seqK (b : Ms) (Q : Out → Ev → Sto → Prop) : Out → Ev → Sto → Prop
  | .nx, ρ, s => WS b ρ s Q
  | o, ρ, s => Q o ρ s
def loopK (J : Ev → Sto → Prop) (Q : Out → Ev → Sto → Prop) : Out → Ev → Sto → Prop
  | .nx, ρ, s => J ρ s
  | .ct, ρ, s => J ρ s
  | .bk, ρ, s => Q .nx ρ s
  | .rt r, ρ, s => Q (.rt r) ρ s
def getC : Ev → Nat → Option Cl
  | [], _ => none
  | c :: _, 0 => c
  | _ :: ρ, n + 1 => getC ρ n
/-- the end of a def -/
def endK (Q : R → Sto → Prop) : Out → Ev → Sto → Prop
  | .rt r, _, s => Q r s
  | .nx, _, s => Q (.d .none) s
  | _, _, _ => False
def boolK (r : R) : Option Bool := match r with | .d (.bool k) => some k | _ => none
def retK (r : R) : Option R := match r with | .d x => some (.d x) | .f x => some (.f x) | _ => none
def intK (r : R) : Option Int := match r with | .d (.int k) => some k | _ => none
def retVK (c : Cl) : Option R := match c with | .d x => some (.d x) | .o x => some (.f x) | _ => none
def ownK (c : Cl) : Option (List PyData) := match c with | .o x => some x | _ => none
@[simp] theorem ex2 {α β : Type} {z : α} {s : β} {K : α → β → Prop} : (∃ r s', (z = r ∧ s = s') ∧ K r s') ↔ K z s := ⟨fun ⟨_, _, ⟨rfl, rfl⟩, k⟩ => k, fun k => ⟨_, _, ⟨rfl, rfl⟩, k⟩⟩
@[simp] theorem ex2' {α β : Type} {z : α} {s : β} {K : α → β → Prop} : (∃ r s', (r = z ∧ s = s') ∧ K r s') ↔ K z s := ⟨fun ⟨_, _, ⟨rfl, rfl⟩, k⟩ => k, fun k => ⟨_, _, ⟨rfl, rfl⟩, k⟩⟩
@[simp] theorem ex3 {α β γ : Type} {z : α} {s : β} {t : γ} {K : α → β → γ → Prop} : (∃ r s' t', (z = r ∧ s = s' ∧ t = t') ∧ K r s' t') ↔ K z s t := ⟨fun ⟨_, _, _, ⟨rfl, rfl, rfl⟩, k⟩ => k, fun k => ⟨_, _, _, ⟨rfl, rfl, rfl⟩, k⟩⟩
@[simp] theorem ex3' {α β γ : Type} {z : α} {s : β} {t : γ} {K : α → β → γ → Prop} : (∃ r s' t', (r = z ∧ s = s' ∧ t = t') ∧ K r s' t') ↔ K z s t := ⟨fun ⟨_, _, _, ⟨rfl, rfl, rfl⟩, k⟩ => k, fun k => ⟨_, _, _, ⟨rfl, rfl, rfl⟩, k⟩⟩
section rules
variable {α : Type} {ρ : Ev} {s : Sto} {i j : Nat} {a b : Mx} {ta tb : Mt} {as : Ma} {ma mb : Ms} {mo mo' : Mo} {it : Mi} {d : PyData}
variable {Q : R → Sto → Prop} {QT : Bool → Sto → Prop} {QA : List R → Sto → Prop} {QI : List PyData → Sto → Prop} {QS : Out → Ev → Sto → Prop} {QN : Option Int → Sto → Prop}
@[simp] theorem WO_some {z : α} {Q : α → Prop} : WO (some z) Q = Q z := by simp [WO]
@[simp] theorem WO_none {Q : α → Prop} : WO none Q = False := by simp [WO]
@[simp] theorem WO_ite {c : Prop} [Decidable c] {x : Option α} {Q : α → Prop} : WO (if c then x else none) Q = (c ∧ WO x Q) := by
  by_cases h : c <;> simp [h]
@[simp] theorem IfK_true {A B : Prop} : IfK true A B = A := by simp [IfK]
@[simp] theorem IfK_false {A B : Prop} : IfK false A B = B := by simp [IfK]
@[simp] theorem seqK_nx : seqK mb QS .nx ρ s = WS mb ρ s QS := rfl
@[simp] theorem seqK_bk : seqK mb QS .bk ρ s = QS .bk ρ s := rfl
@[simp] theorem seqK_ct : seqK mb QS .ct ρ s = QS .ct ρ s := rfl
@[simp] theorem seqK_rt {r : R} : seqK mb QS (.rt r) ρ s = QS (.rt r) ρ s := rfl
@[simp] theorem loopK_nx {J : Ev → Sto → Prop} : loopK J QS .nx ρ s = J ρ s := rfl
@[simp] theorem loopK_ct {J : Ev → Sto → Prop} : loopK J QS .ct ρ s = J ρ s := rfl
@[simp] theorem loopK_bk {J : Ev → Sto → Prop} : loopK J QS .bk ρ s = QS .nx ρ s := rfl
@[simp] theorem loopK_rt {J : Ev → Sto → Prop} {r : R} : loopK J QS (.rt r) ρ s = QS (.rt r) ρ s := rfl
@[simp] theorem endK_rt {r : R} : endK Q (.rt r) ρ s = Q r s := rfl
@[simp] theorem endK_nx : endK Q .nx ρ s = Q (.d .none) s := rfl
@[simp] theorem getC_0 {c : Option Cl} : getC (c :: ρ) 0 = c := rfl
@[simp] theorem getC_s {c : Option Cl} {n : Nat} : getC (c :: ρ) (n + 1) = getC ρ n := rfl
@[simp] theorem boolK_b {k : Bool} : boolK (.d (.bool k)) = some k := rfl
@[simp] theorem retK_d : retK (.d d) = some (.d d) := rfl
@[simp] theorem retK_f {xs : List PyData} : retK (.f xs) = some (.f xs) := rfl
@[simp] theorem intK_i {k : Int} : intK (.d (.int k)) = some k := rfl
@[simp] theorem retVK_d : retVK (.d d) = some (.d d) := rfl
@[simp] theorem retVK_o {xs : List PyData} : retVK (.o xs) = some (.f xs) := rfl
@[simp] theorem ownK_o {xs : List PyData} : ownK (.o xs) = some xs := rfl
theorem getC_eq : ∀ (ρ : Ev) (i : Nat), getC ρ i = (ρ[i]?).join
  | [], _ => rfl
  | c :: ρ, 0 => by cases c <;> rfl
  | c :: ρ, n + 1 => by rw [getC_s, List.getElem?_cons_succ, getC_eq ρ n]
theorem getC_of {c : Cl} (h : ρ[i]? = some (some c)) : getC ρ i = some c := by rw [getC_eq, h]; rfl
theorem of_getC {c : Cl} (h : getC ρ i = some c) : ρ[i]? = some (some c) := by
  rw [getC_eq] at h
  cases q : ρ[i]? with
  | none => rw [q] at h; cases h
  | some x => rw [q] at h; exact congrArg some h
@[simp ↓] theorem wx_m1 {f : R → Option R} : WX (m1 f a) ρ s Q = WX a ρ s fun x s1 => WO (f x) fun z => Q z s1 := by
  apply propext
  unfold WX WO
  rw [ev_m1]
  rcases a ρ s with _ | ⟨x, s1⟩
  · simp
  · simp only [Option.some.injEq, Prod.mk.injEq]
    constructor
    · rintro ⟨r, s', e, q⟩
      cases h : f x with
      | none => simp [ret, h] at e
      | some z =>
        simp [ret, h] at e
        obtain ⟨rfl, rfl⟩ := e
        exact ⟨x, s1, ⟨rfl, rfl⟩, z, h, q⟩
    · rintro ⟨_, _, ⟨rfl, rfl⟩, z, h, q⟩
      exact ⟨z, s1, by simp [ret, h], q⟩
theorem wbnd {β γ : Type} {m : Ev → Sto → Option (β × Sto)} {f : β → Ev → Sto → Option (γ × Sto)} {K : γ → Sto → Prop} : (∃ r s', bnd m f ρ s = some (r, s') ∧ K r s') = ∃ x s1, m ρ s = some (x, s1) ∧ ∃ r s', f x ρ s1 = some (r, s') ∧ K r s' := by
  apply propext
  rw [ev_bnd]
  rcases m ρ s with _ | ⟨x, s1⟩
  · simp
  · simp
theorem wret {x : Option α} {K : α → Sto → Prop} : (∃ r s', ret x s = some (r, s') ∧ K r s') = WO x fun z => K z s := by
  apply propext
  unfold WO
  cases x with
  | none => simp [ret]
  | some z => simp [ret]
@[simp ↓] theorem wx_m2 {f : R → R → Option R} : WX (m2 f a b) ρ s Q = WX a ρ s fun x s1 => WX b ρ s1 fun y s2 => WO (f x y) fun z => Q z s2 := by
  unfold WX m2
  simp only [wbnd, wret]
@[simp ↓] theorem wx_mA {f : List R → Option R} : WX (mA f as) ρ s Q = WA as ρ s fun x s1 => WO (f x) fun z => Q z s1 := by
  unfold WX WA mA
  simp only [wbnd, wret]
@[simp ↓] theorem wa_nil : WA maNil ρ s QA = QA [] s := by
  unfold WA maNil
  simp
@[simp ↓] theorem wa_cons : WA (maCons a as) ρ s QA = WX a ρ s fun x s1 => WA as ρ s1 fun xs s2 => QA (x :: xs) s2 := by
  unfold WA WX maCons
  simp only [wbnd]
  simp
@[simp ↓] theorem wx_var : WX (mVar i) ρ s Q = WO (getC ρ i) fun c => Q (rdCl c) s := by
  apply propext
  unfold WX WO
  rw [ev_mVar]
  constructor
  · rintro ⟨r, s', e, q⟩
    split at e
    · rename_i c hc
      cases e
      exact ⟨c, getC_of hc, q⟩
    · cases e
  · rintro ⟨c, hc, q⟩
    exact ⟨rdCl c, s, by rw [of_getC hc], q⟩
@[simp ↓] theorem wx_kon : WX (mKon d) ρ s Q = Q (.d d) s := by
  unfold WX
  simp
@[simp ↓] theorem wx_ix : WX (mIx a b) ρ s Q = WX a ρ s fun x s1 => WX b ρ s1 fun y s2 => WO (fIx s2 x y) fun z => Q z s2 := by
  apply propext
  unfold WX WO
  rw [ev_mIx]
  rcases a ρ s with _ | ⟨x, s1⟩
  · simp
  · dsimp only
    rcases hb : b ρ s1 with _ | ⟨y, s2⟩
    · simp [hb]
    · dsimp only
      rcases hf : fIx s2 x y with _ | z
      · simp [hb, hf]
      · simp [hb, hf]
@[simp ↓] theorem wx_call {g : Fx} : WX (mCall g as) ρ s Q = WA as ρ s fun rs s1 => WO (toArgs rs) fun cs => WF g cs s1 Q := by
  apply propext
  unfold WX WA WO WF
  rw [ev_mCall]
  rcases as ρ s with _ | ⟨x, s1⟩
  · simp
  · dsimp only
    rcases h : toArgs x with _ | cs <;> simp [h]
@[simp ↓] theorem wx_callK {g : Fx} {π : List Nat} {n : Nat} : WX (mCallK g π n as) ρ s Q = WA as ρ s fun rs s1 => WO (toArgs rs) fun cs => cs.length = n ∧ WF g (perm (.d .none) π cs) s1 Q := by
  apply propext
  unfold WX WA WO WF mCallK
  rw [ev_bnd]
  rcases as ρ s with _ | ⟨x, s1⟩
  · simp
  · dsimp only
    rcases h0 : toArgs x with _ | cs
    · simp [h0]
    · dsimp only
      by_cases h : cs.length = n <;> simp [h, h0]
def callNK (rs : List R) : Option (Sto × List Cl) := match rs with
  | .f xs :: r => match stoOf xs, onlyD r with
    | some s0, some cs => some (s0, cs)
    | _, _ => none
  | _ => none
@[simp ↓] theorem wx_callN {g : Fx} : WX (mCallN g as) ρ s Q = WA as ρ s fun rs s1 => WO (callNK rs) fun p => WF g (.s :: p.2) p.1 fun r _ => WO (retK r) fun r' => Q r' s1 := by
  apply propext
  unfold WX WA WO WF mCallN callNK
  rw [ev_bnd]
  rcases as ρ s with _ | ⟨x, s1⟩
  · simp
  · dsimp only
    cases x with
    | nil => simp
    | cons r rs =>
      cases r with
      | f xs =>
        dsimp only
        rcases h0 : stoOf xs with _ | s0
        · simp [h0]
        · rcases h1 : onlyD rs with _ | cs
          · simp [h0, h1]
          · dsimp only
            rcases hg : g (.s :: cs) s0 with _ | ⟨z, s2⟩
            · simp [hg, h0, h1]
            · cases z <;> simp [hg, h0, h1, retK]
      | _ => simp
@[simp ↓] theorem wt_bT : WT (bT a) ρ s QT = WX a ρ s fun r s1 => WO (boolK r) fun k => QT k s1 := by
  apply propext
  unfold WT WX WO
  rw [ev_bT]
  rcases a ρ s with _ | ⟨x, s1⟩
  · simp
  · cases x with
    | d z =>
      cases z with
      | bool k => cases k <;> simp [boolK]
      | _ => simp [boolK]
    | _ => simp [boolK]
@[simp ↓] theorem wt_and : WT (tAnd2 ta tb) ρ s QT = WT ta ρ s fun k s1 => IfK k (WT tb ρ s1 QT) (QT false s1) := by
  apply propext
  unfold WT
  rw [ev_tAnd2]
  rcases ta ρ s with _ | ⟨_ | _, s1⟩ <;> simp
@[simp ↓] theorem wt_or : WT (tOr2 ta tb) ρ s QT = WT ta ρ s fun k s1 => IfK k (QT true s1) (WT tb ρ s1 QT) := by
  apply propext
  unfold WT
  rw [ev_tOr2]
  rcases ta ρ s with _ | ⟨_ | _, s1⟩ <;> simp
@[simp ↓] theorem wt_not : WT (tNot2 ta) ρ s QT = WT ta ρ s fun k s1 => QT (!k) s1 := by
  apply propext
  unfold WT
  rw [ev_tNot2]
  rcases ta ρ s with _ | ⟨_ | _, s1⟩ <;> simp
@[simp ↓] theorem wt_yes : WT mYes ρ s QT = QT true s := by
  unfold WT
  simp
@[simp ↓] theorem wx_if : WX (mIf ta a b) ρ s Q = WT ta ρ s fun k s1 => IfK k (WX a ρ s1 Q) (WX b ρ s1 Q) := by
  apply propext
  unfold WX WT
  rw [ev_mIf]
  rcases ta ρ s with _ | ⟨_ | _, s1⟩ <;> simp
@[simp ↓] theorem wx_and : WX (mAnd a b) ρ s Q = WX a ρ s fun r s1 => WO (boolK r) fun k => IfK k (WX b ρ s1 Q) (Q (.d (.bool false)) s1) := by
  apply propext
  unfold WX WO
  rw [ev_mAnd]
  rcases a ρ s with _ | ⟨x, s1⟩
  · simp
  · cases x with
    | d z =>
      cases z with
      | bool k => cases k <;> simp [boolK]
      | _ => simp [boolK]
    | _ => simp [boolK]
@[simp ↓] theorem wx_or : WX (mOr a b) ρ s Q = WX a ρ s fun r s1 => WO (boolK r) fun k => IfK k (Q (.d (.bool true)) s1) (WX b ρ s1 Q) := by
  apply propext
  unfold WX WO
  rw [ev_mOr]
  rcases a ρ s with _ | ⟨x, s1⟩
  · simp
  · cases x with
    | d z =>
      cases z with
      | bool k => cases k <;> simp [boolK]
      | _ => simp [boolK]
    | _ => simp [boolK]
@[simp ↓] theorem wn_none : WN moNone ρ s QN = QN none s := by
  unfold WN moNone
  simp
@[simp ↓] theorem wn_some : WN (moSome a) ρ s QN = WX a ρ s fun r s1 => WO (intK r) fun k => QN (some k) s1 := by
  unfold WN WX moSome
  simp only [wbnd, wret]
  apply propext
  constructor
  · rintro ⟨x, s1, e, h⟩
    refine ⟨x, s1, e, ?_⟩
    cases x with
    | d z => cases z <;> simp_all [intK]
    | _ => simp_all [intK]
  · rintro ⟨x, s1, e, h⟩
    refine ⟨x, s1, e, ?_⟩
    cases x with
    | d z => cases z <;> simp_all [intK]
    | _ => simp_all [intK]
@[simp ↓] theorem wx_sl : WX (mSl a mo mo') ρ s Q = WX a ρ s fun x s1 => WN mo ρ s1 fun l s2 => WN mo' ρ s2 fun h s3 => WO (fSl x l h) fun z => Q z s3 := by
  unfold WX WN mSl
  simp only [wbnd, wret]
@[simp ↓] theorem wx_chain {g1 g2 : Int → Int → Option PyData} {c : Mx} : WX (mChain g1 g2 a b c) ρ s Q = WX a ρ s fun x s1 => WX b ρ s1 fun y s2 => WO (fI g1 x y) fun z => WO (boolK z) fun k => IfK k (WX c ρ s2 fun w s3 => WO (fI g2 y w) fun z => Q z s3) (Q (.d (.bool false)) s2) := by
  unfold WX mChain
  simp only [wbnd, wret]
  apply propext
  unfold WO
  constructor
  · rintro ⟨x, s1, e1, y, s2, e2, z, e3, r, s', e4, q⟩
    refine ⟨x, s1, e1, y, s2, e2, z, e3, ?_⟩
    cases z with
    | d z =>
      cases z with
      | bool k =>
        refine ⟨k, rfl, ?_⟩
        cases k with
        | true =>
          rw [IfK_true]
          dsimp only at e4
          rw [ev_bnd] at e4
          rcases hc : c ρ s2 with _ | ⟨w, s3⟩
          · simp [hc] at e4
          · simp only [hc] at e4
            rcases hg : fI g2 y w with _ | v
            · simp [hg] at e4
            · simp [hg] at e4
              obtain ⟨rfl, rfl⟩ := e4
              exact ⟨w, s3, rfl, v, hg, q⟩
        | false =>
          rw [IfK_false]
          simp at e4
          obtain ⟨rfl, rfl⟩ := e4
          exact q
      | _ => simp at e4
    | _ => simp at e4
  · rintro ⟨x, s1, e1, y, s2, e2, z, e3, k, e4, q⟩
    refine ⟨x, s1, e1, y, s2, e2, z, e3, ?_⟩
    cases z with
    | d z =>
      cases z with
      | bool k' =>
        cases e4
        cases k with
        | true =>
          rw [IfK_true] at q
          obtain ⟨w, s3, e5, v, e6, q⟩ := q
          exact ⟨v, s3, by simp [e5, e6], q⟩
        | false =>
          rw [IfK_false] at q
          exact ⟨_, _, rfl, q⟩
      | _ => cases e4
    | _ => cases e4
@[simp ↓] theorem ws_nil : WS mNil ρ s QS = QS .nx ρ s := by
  unfold WS
  simp
@[simp ↓] theorem ws_seq : WS (mSeq ma mb) ρ s QS = WS ma ρ s (seqK mb QS) := by
  apply propext
  unfold WS
  rw [ev_mSeq]
  rcases ma ρ s with _ | ⟨o, ρ1, s1⟩
  · simp
  · cases o <;> simp [seqK, WS]
@[simp ↓] theorem ws_if : WS (mIfS ta ma mb) ρ s QS = WT ta ρ s fun k s1 => IfK k (WS ma ρ s1 QS) (WS mb ρ s1 QS) := by
  apply propext
  unfold WS WT
  rw [ev_mIfS]
  rcases ta ρ s with _ | ⟨_ | _, s1⟩ <;> simp
@[simp ↓] theorem ws_ret : WS (mRet a) ρ s QS = WX a ρ s fun r s1 => WO (retK r) fun r' => QS (.rt r') ρ s1 := by
  apply propext
  unfold WS WX WO
  rw [ev_mRet]
  rcases a ρ s with _ | ⟨x, s1⟩
  · simp
  · cases x <;> simp [retK]
@[simp ↓] theorem ws_retV : WS (mRetV i) ρ s QS = WO (getC ρ i) fun c => WO (retVK c) fun r => QS (.rt r) ρ s := by
  apply propext
  unfold WS WO
  rw [ev_mRetV]
  constructor
  · rintro ⟨o, ρ', s', e, q⟩
    split at e
    · rename_i x hc
      cases e
      exact ⟨_, getC_of hc, _, rfl, q⟩
    · rename_i x hc
      cases e
      exact ⟨_, getC_of hc, _, rfl, q⟩
    · cases e
  · rintro ⟨c, hc, r, hr, q⟩
    have h := of_getC hc
    cases c with
    | d x => cases hr; exact ⟨_, _, _, by simp only [h], q⟩
    | o x => cases hr; exact ⟨_, _, _, by simp only [h], q⟩
    | s => cases hr
    | m _ => cases hr
    | t _ => cases hr
@[simp ↓] theorem ws_retN : WS mRetN ρ s QS = QS (.rt (.d .none)) ρ s := by
  unfold WS
  simp
@[simp ↓] theorem ws_brk : WS mBrk ρ s QS = QS .bk ρ s := by
  unfold WS mBrk
  simp
@[simp ↓] theorem ws_cnt : WS mCnt ρ s QS = QS .ct ρ s := by
  unfold WS
  simp
@[simp ↓] theorem ws_drop : WS (mDrop a) ρ s QS = WX a ρ s fun _ s1 => QS .nx ρ s1 := by
  apply propext
  unfold WS WX mDrop
  rcases a ρ s with _ | ⟨x, s1⟩ <;> simp
@[simp ↓] theorem ws_set : WS (mSet i a) ρ s QS = WX a ρ s fun r s1 => WO ((toCl r).map fun c => ρ.set i (some c)) fun ρ1 => QS .nx ρ1 s1 := by
  apply propext
  unfold WS WX WO
  rw [ev_mSet]
  rcases a ρ s with _ | ⟨x, s1⟩
  · simp
  · dsimp only
    rcases h0 : toCl x with _ | c <;> simp [h0]
@[simp ↓] theorem ws_frz {is : List Nat} : WS (mFrz is ma) ρ s QS = WO (some (frzs ρ is)) fun ρ1 => WS ma ρ1 s QS := by
  rw [WO_some]
  rfl
@[simp ↓] theorem ws_app : WS (mApp i a) ρ s QS = WX a ρ s fun r s1 => WO (toD r) fun x => WO ((getC ρ i).bind ownK) fun xs => xs.length < sizeLine ∧ WO (some (ρ.set i (some (.o (xs ++ [x]))))) fun ρ1 => QS .nx ρ1 s1 := by
  apply propext
  unfold WS WX WO mApp
  rcases a ρ s with _ | ⟨r, s1⟩
  · simp
  · dsimp only
    rcases hx : toD r with _ | x
    · simp [hx]
    · constructor
      · rintro ⟨o, ρ', s', e, q⟩
        split at e
        · rename_i y xs e1 e2
          cases e1
          split at e
          · rename_i hl
            cases e
            exact ⟨r, s1, rfl, x, hx, xs, by rw [getC_of e2]; rfl, hl, _, rfl, q⟩
          · cases e
        · cases e
      · rintro ⟨r', s1', e, x', hx', xs, hg, hl, _, e5, q⟩
        cases e
        cases e5
        rw [hx] at hx'
        cases hx'
        cases hc : getC ρ i with
        | none => rw [hc] at hg; cases hg
        | some c =>
          rw [hc] at hg
          cases c with
          | o ys =>
            cases hg
            exact ⟨_, _, _, by simp [of_getC hc, hl], q⟩
          | _ => cases hg
def putL (xs : List PyData) (k : Int) (r : R) : Option (List PyData) := match toD r, ixN xs.length k with
  | some x, some j => some (xs.set j x)
  | _, _ => none
def putS (s : Sto) (k : Int) (r : R) : Option Sto := match r, ixN s.length k with
  | .d (.int v), some j => some (s.set j v)
  | _, _ => none
def putK (ρ : Ev) (i : Nat) (c : Cl) (k : Int) (r : R) (s : Sto) : Option (Ev × Sto) := match c with
  | .o xs => (putL xs k r).map fun ys => (ρ.set i (some (.o ys)), s)
  | .s => (putS s k r).map fun s' => (ρ, s')
  | _ => none
@[simp] theorem putK_o {xs : List PyData} {k : Int} {r : R} : putK ρ i (.o xs) k r s = (putL xs k r).map fun ys => (ρ.set i (some (.o ys)), s) := rfl
@[simp] theorem putK_s {k : Int} {r : R} : putK ρ i .s k r s = (putS s k r).map fun s' => (ρ, s') := rfl
@[simp ↓] theorem ws_put {ix : Mx} : WS (mPut i ix a) ρ s QS = WX a ρ s fun r s1 => WX ix ρ s1 fun z s2 => WO (intK z) fun k => WO (getC ρ i) fun c => WO (putK ρ i c k r s2) fun p => QS .nx p.1 p.2 := by
  apply propext
  unfold WS WX WO mPut
  rcases a ρ s with _ | ⟨r, s1⟩
  · simp
  · dsimp only
    rcases hi : ix ρ s1 with _ | ⟨z, s2⟩
    · simp [hi]
    · constructor
      · rintro ⟨o, ρ', s', e, q⟩
        refine ⟨r, s1, rfl, z, s2, hi, ?_⟩
        split at e
        · rename_i k s3 e1
          cases e1
          refine ⟨k, rfl, ?_⟩
          split at e
          · rename_i xs e2
            split at e
            · rename_i x j e3 e4
              cases e
              exact ⟨_, getC_of e2, (_, _), by rw [putK_o]; unfold putL; rw [e3, e4]; rfl, q⟩
            · cases e
          · rename_i e2
            split at e
            · rename_i v j e4
              cases e
              exact ⟨_, getC_of e2, (_, _), by rw [putK_s]; unfold putS; rw [e4]; rfl, q⟩
            · cases e
          · cases e
        · cases e
      · rintro ⟨r', s1', e, z', s2', e2, k, hk, c, hc, p, hp, q⟩
        cases e
        rw [hi] at e2
        cases e2
        have hz : z = .d (.int k) := by
          cases z with
          | d z =>
            cases z with
            | int i => cases hk; rfl
            | _ => cases hk
          | _ => cases hk
        subst hz
        have g := of_getC hc
        cases c with
        | d _ => cases hp
        | o xs =>
          rw [putK_o] at hp
          unfold putL at hp
          split at hp
          · rename_i x j e3 e4
            cases hp
            exact ⟨_, _, _, by simp only [g, e3, e4], q⟩
          · cases hp
        | s =>
          rw [putK_s] at hp
          unfold putS at hp
          split at hp
          · rename_i v j e4
            cases hp
            exact ⟨_, _, _, by simp only [g, e4], q⟩
          · cases hp
        | m _ => cases hp
        | t _ => cases hp
@[simp ↓] theorem ws_asg {g : Gx} : WS (mAsg g a) ρ s QS = WX a ρ s fun r s1 => WO (toD r) fun x => WO (g x ρ) fun ρ1 => QS .nx ρ1 s1 := by
  apply propext
  unfold WS WX WO mAsg
  rcases a ρ s with _ | ⟨r, s1⟩
  · simp
  · dsimp only
    rcases hx : toD r with _ | x
    · simp [hx]
    · dsimp only
      rcases hg : g x ρ with _ | ρ1 <;> simp [hx, hg]
def parK (ρ : Ev) (i j : Nat) (rs : List R) : Option Ev := match rs with
  | [r, q] => match toCl r, toCl q with
    | some c, some d => match c, d with
      | .o _, .o _ => none
      | c, d => some ((ρ.set i (some c)).set j (some d))
    | _, _ => none
  | _ => none
theorem mPar_eq {x : List R} {s1 : Sto} (e : as ρ s = some (x, s1)) : mPar i j as ρ s = (parK ρ i j x).map fun ρ1 => (.nx, ρ1, s1) := by
  unfold mPar parK
  rw [e]
  split
  · rename_i r q s2 e2
    cases e2
    dsimp only
    rcases toCl r with _ | c
    · rfl
    · rcases toCl q with _ | d
      · rfl
      · cases c <;> cases d <;> rfl
  · rename_i h
    split
    · rename_i r q
      exact absurd rfl (h r q s1)
    · rfl
@[simp ↓] theorem ws_par : WS (mPar i j as) ρ s QS = WA as ρ s fun rs s1 => WO (parK ρ i j rs) fun ρ1 => QS .nx ρ1 s1 := by
  apply propext
  unfold WS WA WO
  constructor
  · rintro ⟨o, ρ', s', e, q⟩
    rcases h : as ρ s with _ | ⟨x, s1⟩
    · unfold mPar at e; rw [h] at e; cases e
    · rw [mPar_eq h] at e
      obtain ⟨ρ1, e1, e2⟩ := Option.map_eq_some_iff.mp e
      cases e2
      exact ⟨x, _, rfl, _, e1, q⟩
  · rintro ⟨x, s1, h, ρ1, e1, q⟩
    exact ⟨_, _, _, by rw [mPar_eq h, e1]; rfl, q⟩
@[simp] theorem parK_dd {x y : PyData} : parK ρ i j [.d x, .d y] = some ((ρ.set i (some (.d x))).set j (some (.d y))) := rfl
@[simp] theorem parK_df {x : PyData} {y : List PyData} : parK ρ i j [.d x, .f y] = some ((ρ.set i (some (.d x))).set j (some (.o y))) := rfl
@[simp] theorem parK_fd {x : List PyData} {y : PyData} : parK ρ i j [.f x, .d y] = some ((ρ.set i (some (.o x))).set j (some (.d y))) := rfl
def par3K (ρ : Ev) (i j l : Nat) (rs : List R) : Option Ev := match rs with
  | [r, q, u] => match toCl r, toCl q, toCl u with
    | some (.d c), some (.d d), some f => some (((ρ.set i (some (.d c))).set j (some (.d d))).set l (some f))
    | some (.d c), some (.o d), some (.d f) => some (((ρ.set i (some (.d c))).set j (some (.o d))).set l (some (.d f)))
    | _, _, _ => none
  | _ => none
@[simp] theorem par3K_ddd {l : Nat} {x y z : PyData} : par3K ρ i j l [.d x, .d y, .d z] = some (((ρ.set i (some (.d x))).set j (some (.d y))).set l (some (.d z))) := rfl
@[simp] theorem par3K_ddf {l : Nat} {x y : PyData} {z : List PyData} : par3K ρ i j l [.d x, .d y, .f z] = some (((ρ.set i (some (.d x))).set j (some (.d y))).set l (some (.o z))) := rfl
@[simp] theorem par3K_dfd {l : Nat} {x z : PyData} {y : List PyData} : par3K ρ i j l [.d x, .f y, .d z] = some (((ρ.set i (some (.d x))).set j (some (.o y))).set l (some (.d z))) := rfl
theorem mPar3_eq {l : Nat} {x : List R} {s1 : Sto} (e : as ρ s = some (x, s1)) : mPar3 i j l as ρ s = (par3K ρ i j l x).map fun ρ1 => (.nx, ρ1, s1) := by
  unfold mPar3 par3K
  rw [e]
  split
  · rename_i r q u s2 e2
    cases e2
    dsimp only
    rcases toCl r with _ | c
    · rfl
    · rcases toCl q with _ | d
      · cases c <;> rfl
      · rcases toCl u with _ | f
        · cases c <;> cases d <;> rfl
        · cases c <;> cases d <;> cases f <;> rfl
  · rename_i h
    split
    · rename_i r q u
      exact absurd rfl (h r q u s1)
    · rfl
@[simp ↓] theorem ws_par3 {l : Nat} : WS (mPar3 i j l as) ρ s QS = WA as ρ s fun rs s1 => WO (par3K ρ i j l rs) fun ρ1 => QS .nx ρ1 s1 := by
  apply propext
  unfold WS WA WO
  constructor
  · rintro ⟨o, ρ', s', e, q⟩
    rcases h : as ρ s with _ | ⟨x, s1⟩
    · unfold mPar3 at e; rw [h] at e; cases e
    · rw [mPar3_eq h] at e
      obtain ⟨ρ1, e1, e2⟩ := Option.map_eq_some_iff.mp e
      cases e2
      exact ⟨x, _, rfl, _, e1, q⟩
  · rintro ⟨x, s1, h, ρ1, e1, q⟩
    exact ⟨_, _, _, by rw [mPar3_eq h, e1]; rfl, q⟩
@[simp ↓] theorem wi_seq : WI (mSeqI a) ρ s QI = WX a ρ s fun x s1 => WO (itemsOf x) fun xs => QI xs s1 := by
  unfold WI WX mSeqI
  simp only [wbnd, wret]
@[simp ↓] theorem wi_arg {f : List R → Option (List PyData)} : WI (mArgI f as) ρ s QI = WA as ρ s fun x s1 => WO (f x) fun xs => QI xs s1 := by
  unfold WI WA mArgI
  simp only [wbnd, wret]
@[simp ↓] theorem ws_for {g : Gx} : WS (mFor it g ma) ρ s QS = WI it ρ s fun xs s1 => WFor g ma xs ρ s1 QS := by
  apply propext
  unfold WFor WS WI
  rw [ev_mFor]
  rcases it ρ s with _ | ⟨xs, s1⟩ <;> simp
@[simp ↓] theorem ws_wh : WS (mWhile ta ma) ρ s QS = WWh ta ma ρ s QS := rfl
@[simp ↓] theorem wx_lc {vs : List Nat} {g : Gx} : WX (mLc it vs g ta a) ρ s Q = WI it ρ s fun xs s1 => WLc vs g ta a xs ρ s1 fun ys s2 => ys.length ≤ sizeLine ∧ Q (.f ys) s2 := by
  apply propext
  unfold WX WLc WI mLc
  rcases it ρ s with _ | ⟨xs, s1⟩
  · simp
  · dsimp only
    rcases h : lcRun vs g ta a xs ρ s1 with _ | ⟨ys, s2⟩
    · simp [h]
    · dsimp only
      by_cases hl : ys.length ≤ sizeLine <;> simp [hl, h]
@[simp ↓] theorem wx_lc2 {vs vs1 : List Nat} {g g1 : Gx} {it1 : Mi} : WX (mLc2 it vs g ta it1 vs1 g1 tb a) ρ s Q = WI it ρ s fun xs s1 => WLc2 vs vs1 g ta it1 g1 tb a xs ρ s1 fun ys s2 => ys.length ≤ sizeLine ∧ Q (.f ys) s2 := by
  apply propext
  unfold WX WLc2 WI mLc2
  rcases it ρ s with _ | ⟨xs, s1⟩
  · simp
  · dsimp only
    rcases h : lcRun2 vs vs1 g ta it1 g1 tb a xs ρ s1 with _ | ⟨ys, s2⟩
    · simp [h]
    · dsimp only
      by_cases hl : ys.length ≤ sizeLine <;> simp [hl, h]
end rules
section use
variable {ρ : Ev} {s : Sto}
theorem WF.use {g : Fx} {cs : List Cl} {P Q : R → Sto → Prop} (h : WF g cs s P) (k : ∀ r s', P r s' → Q r s') : WF g cs s Q := by
  obtain ⟨r, s', e, p⟩ := h
  exact ⟨r, s', e, k r s' p⟩
theorem WF.of {g : Fx} {cs : List Cl} {Q : R → Sto → Prop} {r : R} {s' : Sto} (h : g cs s = some (r, s')) (k : Q r s') : WF g cs s Q := ⟨r, s', h, k⟩
/-- a def, from its body -/
theorem WF.body {n l : Nat} {m : Ms} {cs : List Cl} {Q : R → Sto → Prop} (hn : cs.length = n) (h : WS m (cs.map some ++ List.replicate (l - cs.length) none) s (endK Q)) : WF (run' n l m) cs s Q := by
  obtain ⟨o, ρ', s', e, q⟩ := h
  unfold WF run' run
  rw [if_pos hn, e]
  cases o with
  | nx => exact ⟨_, _, rfl, q⟩
  | rt r => exact ⟨_, _, rfl, q⟩
  | bk => cases q
  | ct => cases q
theorem WF.eq {g : Fx} {cs : List Cl} {r : R} {s' : Sto} (h : WF g cs s fun r1 s1 => r1 = r ∧ s1 = s') : g cs s = some (r, s') := by
  obtain ⟨r1, s1, e, rfl, rfl⟩ := h
  exact e
theorem WS.mono {m : Ms} {P Q : Out → Ev → Sto → Prop} (h : WS m ρ s P) (k : ∀ o ρ' s', P o ρ' s' → Q o ρ' s') : WS m ρ s Q := by
  obtain ⟨o, ρ', s', e, p⟩ := h
  exact ⟨o, ρ', s', e, k _ _ _ p⟩
theorem WFor_nil {g : Gx} {body : Ms} {Q : Out → Ev → Sto → Prop} (h : Q .nx ρ s) : WFor g body [] ρ s Q := ⟨.nx, ρ, s, rfl, h⟩
theorem WFor_cons {g : Gx} {body : Ms} {x : PyData} {xs : List PyData} {Q : Out → Ev → Sto → Prop} (h : WO (g x ρ) fun ρ1 => WS body ρ1 s (loopK (fun ρ2 s2 => WFor g body xs ρ2 s2 Q) Q)) : WFor g body (x :: xs) ρ s Q := by
  obtain ⟨ρ1, e1, o, ρ2, s2, e2, q⟩ := h
  cases o with
  | nx =>
    obtain ⟨o, ρ', s', e3, q⟩ := q
    exact ⟨o, ρ', s', by unfold forRun; simp [e1, e2, e3], q⟩
  | ct =>
    obtain ⟨o, ρ', s', e3, q⟩ := q
    exact ⟨o, ρ', s', by unfold forRun; simp [e1, e2, e3], q⟩
  | bk => exact ⟨.nx, ρ2, s2, by unfold forRun; simp [e1, e2], q⟩
  | rt r => exact ⟨.rt r, ρ2, s2, by unfold forRun; simp [e1, e2], q⟩
/-- a for by its invariant -/
theorem WFor_inv {α : Type} {g : Gx} {body : Ms} {Q : Out → Ev → Sto → Prop} (enc : α → PyData) (l : List α) (I : Nat → Ev → Sto → Prop) (h0 : I 0 ρ s)
    (step : ∀ (i : Nat) (x : α) ρ s, l[i]? = some x → I i ρ s → WO (g (enc x) ρ) fun ρ1 => WS body ρ1 s (loopK (I (i + 1)) Q)) (fin : ∀ ρ s, I l.length ρ s → Q .nx ρ s) : WFor g body (l.map enc) ρ s Q := by
  have key : ∀ (m : List α) (i : Nat) (ρ : Ev) (s : Sto), i + m.length = l.length → (∀ j, m[j]? = l[i + j]?) → I i ρ s → WFor g body (m.map enc) ρ s Q := by
    intro m
    induction m with
    | nil =>
      intro i ρ s hl _ h
      refine WFor_nil (fin _ _ ?_)
      rw [List.length_nil, Nat.add_zero] at hl
      rwa [← hl]
    | cons x m ih =>
      intro i ρ s hl hj h
      have hx : l[i]? = some x := by
        have := hj 0
        simpa using this.symm
      refine WFor_cons ?_
      obtain ⟨ρ1, e1, o, ρ2, s2, e2, q⟩ := step i x ρ s hx h
      refine ⟨ρ1, e1, o, ρ2, s2, e2, ?_⟩
      rw [List.length_cons] at hl
      have next : I (i + 1) ρ2 s2 → WFor g body (m.map enc) ρ2 s2 Q := fun h => ih (i + 1) ρ2 s2 (by omega) (fun j => by
        have := hj (j + 1)
        rw [List.getElem?_cons_succ] at this
        rw [this]
        congr 1
        omega) h
      cases o with
      | nx => exact next q
      | ct => exact next q
      | bk => exact q
      | rt r => exact q
  exact key l 0 ρ s (Nat.zero_add _) (fun j => by rw [Nat.zero_add]) h0
theorem WWh_next {c : Mt} {body : Ms} {Q : Out → Ev → Sto → Prop} (h : WT c ρ s fun k s1 => IfK k (WS body ρ s1 (loopK (fun ρ' s' => WWh c body ρ' s' Q) Q)) (Q .nx ρ s1)) : WWh c body ρ s Q := by
  obtain ⟨k, s1, ec, h⟩ := h
  cases k with
  | false =>
    rw [IfK_false] at h
    exact ⟨.nx, ρ, s1, mWhile_of (n := 1) (by rw [whRun_eq, ec]), h⟩
  | true =>
    rw [IfK_true] at h
    obtain ⟨o, ρ2, s2, eb, h⟩ := h
    cases o with
    | nx =>
      obtain ⟨o, ρ', s', ew, q⟩ := h
      obtain ⟨n, en⟩ := mWhile_some ew
      exact ⟨o, ρ', s', mWhile_of (n := n + 1) (by rw [whRun_eq, ec]; simp only [eb]; exact en), q⟩
    | ct =>
      obtain ⟨o, ρ', s', ew, q⟩ := h
      obtain ⟨n, en⟩ := mWhile_some ew
      exact ⟨o, ρ', s', mWhile_of (n := n + 1) (by rw [whRun_eq, ec]; simp only [eb]; exact en), q⟩
    | bk => exact ⟨.nx, ρ2, s2, mWhile_of (n := 1) (by rw [whRun_eq, ec]; simp only [eb]), h⟩
    | rt r => exact ⟨.rt r, ρ2, s2, mWhile_of (n := 1) (by rw [whRun_eq, ec]; simp only [eb]), h⟩
/-- a comprehension whose elements are alone with their item -/
theorem WLc_opt {α : Type} {vs : List Nat} {g : Gx} {t : Mt} {e : Mx} {Q : List PyData → Sto → Prop} (enc : α → PyData) (f : α → Option PyData) : ∀ (l : List α), (∀ x ∈ l, WO (g (enc x) (wipeE ρ vs)) fun ρ1 => WT t ρ1 s fun k s1 => s1 = s ∧ k = (f x).isSome ∧ IfK k (WX e ρ1 s fun r s2 => s2 = s ∧ toD r = f x) True) →
    Q (l.filterMap f) s → WLc vs g t e (l.map enc) ρ s Q := by
  intro l h q
  refine ⟨_, s, ?_, q⟩
  clear q
  induction l with
  | nil => rfl
  | cons x l ih =>
    have r := ih fun y hy => h y (List.mem_cons_of_mem _ hy)
    obtain ⟨ρ1, e1, k, s1, e2, rfl, hk, q⟩ := h x List.mem_cons_self
    rw [List.map_cons]
    unfold lcRun
    rw [e1]
    dsimp only
    rw [e2]
    cases k with
    | false =>
      dsimp only
      rw [r, List.filterMap_cons]
      cases hf : f x with
      | none => rfl
      | some y => rw [hf] at hk; cases hk
    | true =>
      rw [IfK_true] at q
      obtain ⟨rr, s2, e3, rfl, hd⟩ := q
      dsimp only
      rw [e3]
      dsimp only
      rw [r, List.filterMap_cons]
      cases hf : f x with
      | none => rw [hf] at hk; cases hk
      | some y => rw [hd, hf]
theorem WLc_map {α : Type} {vs : List Nat} {g : Gx} {e : Mx} {Q : List PyData → Sto → Prop} (enc f : α → PyData) (l : List α) (h : ∀ x ∈ l, WO (g (enc x) (wipeE ρ vs)) fun ρ1 => WX e ρ1 s fun r s2 => s2 = s ∧ toD r = some (f x))
    (q : Q (l.map f) s) : WLc vs g mYes e (l.map enc) ρ s Q := by
  refine WLc_opt enc (fun x => some (f x)) l (fun x hx => ?_) (by rw [List.filterMap_eq_map']; exact q)
  obtain ⟨ρ1, e1, r⟩ := h x hx
  exact ⟨ρ1, e1, true, s, rfl, rfl, rfl, by rw [IfK_true]; exact r⟩
end use
end Dh
def gg (a b : Int) : Int := ((Nat.gcd a.natAbs b.natAbs : Nat) : Int)
def QLt (k : Nat) (q : Rat) : Prop := q.num.natAbs < 2 ^ k ∧ q.den < 2 ^ k
theorem divInt_num {t l : Int} (h : 0 < l) : (Rat.divInt t l).num = t / gg t l := by
  rw [Rat.num_divInt]
  unfold gg
  rw [Int.sign_eq_one_of_pos h, Int.one_mul, Int.gcd_comm]
  rfl
theorem divInt_den {t l : Int} (h : 0 < l) : ((Rat.divInt t l).den : Int) = l / gg t l := by
  rw [Rat.den_divInt, if_neg (by omega), Int.gcd_comm]
  unfold gg
  rw [Int.natCast_ediv, Int.natAbs_of_nonneg (by omega)]
  rfl
theorem QLt_divInt {t l : Int} {k : Nat} (h : 0 < l) (h1 : t.natAbs < 2 ^ k) (h2 : l.natAbs < 2 ^ k) : QLt k (Rat.divInt t l) := by
  refine ⟨?_, ?_⟩
  · rw [Rat.num_divInt, Int.sign_eq_one_of_pos h, Int.one_mul, Int.natAbs_ediv_of_dvd (Int.gcd_dvd_right ..)]
    exact Nat.lt_of_le_of_lt (Nat.div_le_self _ _) h1
  · rw [Rat.den_divInt, if_neg (by omega)]
    exact Nat.lt_of_le_of_lt (Nat.div_le_self _ _) h2
theorem QLt.mono {a b : Nat} {q : Rat} (h : QLt a q) (hab : a ≤ b) : QLt b q :=
  ⟨Nat.lt_of_lt_of_le h.1 (Nat.pow_le_pow_right (by decide) hab), Nat.lt_of_lt_of_le h.2 (Nat.pow_le_pow_right (by decide) hab)⟩
theorem add_divInt (p q : Rat) : p + q = Rat.divInt (p.num * q.den + q.num * p.den) ((p.den : Int) * q.den) := by
  rw [Rat.add_def', ← Rat.divInt_ofNat, Int.natCast_mul]
theorem sub_divInt (p q : Rat) : p - q = Rat.divInt (p.num * q.den - q.num * p.den) ((p.den : Int) * q.den) := by
  rw [Rat.sub_def', ← Rat.divInt_ofNat, Int.natCast_mul]
theorem mul_divInt (p q : Rat) : p * q = Rat.divInt (p.num * q.num) ((p.den : Int) * q.den) := by
  rw [Rat.mul_def', ← Rat.divInt_ofNat, Int.natCast_mul]
theorem den_pos (q : Rat) : (0 : Int) < q.den := by have := q.den_pos; omega
theorem den_mul_pos (p q : Rat) : (0 : Int) < (p.den : Int) * q.den := Int.mul_pos (den_pos p) (den_pos q)
theorem lt_mulB {i j : Int} {a b : Nat} (h1 : i.natAbs < 2 ^ a) (h2 : j.natAbs < 2 ^ b) : (i * j).natAbs < 2 ^ (a + b) := by
  rw [Int.natAbs_mul, Nat.pow_add]
  exact Nat.mul_lt_mul'' h1 h2
theorem lt_sumB {i j : Int} {a : Nat} (h1 : i.natAbs < 2 ^ a) (h2 : j.natAbs < 2 ^ a) : (i + j).natAbs < 2 ^ (a + 1) := by
  have := Int.natAbs_add_le i j
  rw [Nat.pow_succ]
  omega
theorem lt_subB {i j : Int} {a : Nat} (h1 : i.natAbs < 2 ^ a) (h2 : j.natAbs < 2 ^ a) : (i - j).natAbs < 2 ^ (a + 1) := by
  rw [Nat.pow_succ]
  omega
theorem lt_monoB {i : Int} {a b : Nat} (h1 : i.natAbs < 2 ^ a) (h : a ≤ b) : i.natAbs < 2 ^ b := Nat.lt_of_lt_of_le h1 (Nat.pow_le_pow_right (by decide) h)
theorem QLt.den' {a : Nat} {q : Rat} (h : QLt a q) : (q.den : Int).natAbs < 2 ^ a := by rw [Int.natAbs_natCast]; exact h.2
theorem QLt_add {a b : Nat} {p q : Rat} (hp : QLt a p) (hq : QLt b q) : QLt (a + b + 1) (p + q) := by
  rw [add_divInt]
  refine QLt_divInt (den_mul_pos p q) (lt_sumB (lt_mulB hp.1 hq.den') ?_) (lt_monoB (lt_mulB hp.den' hq.den') (by omega))
  rw [Nat.add_comm a b]
  exact lt_mulB hq.1 hp.den'
theorem QLt_sub {a b : Nat} {p q : Rat} (hp : QLt a p) (hq : QLt b q) : QLt (a + b + 1) (p - q) := by
  rw [sub_divInt]
  refine QLt_divInt (den_mul_pos p q) (lt_subB (lt_mulB hp.1 hq.den') ?_) (lt_monoB (lt_mulB hp.den' hq.den') (by omega))
  rw [Nat.add_comm a b]
  exact lt_mulB hq.1 hp.den'
theorem QLt_mul {a b : Nat} {p q : Rat} (hp : QLt a p) (hq : QLt b q) : QLt (a + b) (p * q) := by
  rw [mul_divInt]
  exact QLt_divInt (den_mul_pos p q) (lt_mulB hp.1 hq.1) (lt_mulB hp.den' hq.den')
theorem QLt_div {a b : Nat} {p q : Rat} (hp : QLt a p) (hq : QLt b q) : QLt (a + b) (p / q) := by
  rw [Rat.div_def]
  refine QLt_mul hp ⟨?_, ?_⟩
  · rw [Rat.num_inv, Int.natAbs_mul]
    have : q.num.sign.natAbs ≤ 1 := by
      rw [Int.natAbs_sign]; split <;> omega
    exact Nat.lt_of_le_of_lt (Nat.mul_le_mul_right _ this) (by rw [Nat.one_mul]; exact hq.den')
  · rw [Rat.den_inv]
    split
    · have := hq.2
      have := q.den_pos
      omega
    · exact hq.1
namespace El
/-- one turn of the elimination -/
def step (k : Nat) (R : Nat → Nat → Rat) : Nat → Nat → Rat := fun i j => if i = k then R k j / R k k else R i j - R i k * (R k j / R k k)
end El
namespace El
theorem den_mul_self (q : Rat) : (q.den : Rat) * q = q.num := by
  have hb : ((q.den : Int) : Rat) ≠ 0 := by
    rw [Ne, Rat.intCast_eq_zero_iff]
    have := q.den_pos
    omega
  have h : (q.num : Rat) / ((q.den : Int) : Rat) = q := by rw [← Rat.divInt_eq_div, Rat.num_divInt_den]
  have h2 := Rat.div_mul_cancel (a := (q.num : Rat)) hb
  rw [h, Rat.intCast_natCast] at h2
  rw [Rat.mul_comm]
  exact h2
end El
namespace Dh
open PySem PySem.Spec L2 PySem.W
def pQ (q : Rat) : PyData := .tuple [.int q.num, .int (q.den : Int)]
def pQs (l : List Rat) : PyData := .tuple (l.map pQ)
/-- small enough for all that is reckoned once more -/
def Bd (q : Rat) : Prop := QLt 4500 q
theorem QLt.bd {k : Nat} {q : Rat} (h : QLt k q) (hk : k ≤ 4500 := by omega) : Bd q := h.mono hk
theorem intBits_le {i : Int} {k : Nat} (h : i.natAbs < 2 ^ k) : Builtin.Int.intBits i ≤ k := by
  unfold Builtin.Int.intBits
  split
  · exact Nat.zero_le _
  · rename_i q
    have hz : i.natAbs ≠ 0 := by
      intro z
      exact q (by simpa using z)
    have := (Nat.log2_lt hz).mpr h
    omega
theorem mulOk_of {i j : Int} {a b : Nat} (h1 : i.natAbs < 2 ^ a) (h2 : j.natAbs < 2 ^ b) (h : a + b ≤ 134217728) : mulOk i j = true := by
  have x := intBits_le h1
  have y := intBits_le h2
  exact Nat.ble_eq_true_of_le (by omega)
theorem mulOk_nn {p q : Rat} (hp : Bd p) (hq : Bd q) : mulOk p.num q.num = true := mulOk_of hp.1 hq.1 (by decide)
theorem mulOk_nd {p q : Rat} (hp : Bd p) (hq : Bd q) : mulOk p.num (q.den : Int) = true := mulOk_of hp.1 hq.den' (by decide)
theorem mulOk_dd {p q : Rat} (hp : Bd p) (hq : Bd q) : mulOk (p.den : Int) (q.den : Int) = true := mulOk_of hp.den' hq.den' (by decide)
theorem pylong_of {i j : Int} (h : j.natAbs < 2 ^ 9000) : Builtin.divisionGoesByPylong i j = false := by
  unfold Builtin.divisionGoesByPylong
  by_cases hz : j = 0
  · subst hz; simp
  · have hn : j.natAbs ≠ 0 := by omega
    have := (Nat.log2_lt hn).mpr h
    have q : ¬ (j.natAbs.log2 / 30 + 1 > 300) := by omega
    simp [hz, q]
theorem gg_pos {a b : Int} (h : b ≠ 0) : 0 < gg a b := by
  unfold gg
  have := Nat.gcd_pos_of_pos_right a.natAbs (n := b.natAbs) (by omega)
  omega
theorem gg_le {a b : Int} (h : b ≠ 0) : (gg a b).natAbs ≤ b.natAbs := by
  unfold gg
  rw [Int.natAbs_natCast]
  exact Nat.gcd_le_right _ (by omega)
theorem fdiv_pos {i j : Int} (h : 0 < j) : i.fdiv j = i / j := Int.fdiv_eq_ediv_of_nonneg _ (Int.le_of_lt h)
theorem fmod_pos {i j : Int} (h : 0 < j) : i.fmod j = i % j := Int.fmod_eq_emod_of_nonneg _ (Int.le_of_lt h)
theorem sz1 : 1 ≤ sizeLine := by decide
theorem sz2 : 2 ≤ sizeLine := by decide
theorem sz3 : 3 ≤ sizeLine := by decide
theorem szle {n : Nat} (h : n ≤ 1000) : n ≤ sizeLine := Nat.le_trans h (by decide)
theorem szlt {n : Nat} (h : n ≤ 1000) : n < sizeLine := Nat.lt_of_le_of_lt h (by decide)
theorem eqv_int {a b : Int} : PyData.eqv (.int a) (.int b) = decide (a = b) := by
  simp [PyData.eqv]
  by_cases h : a = b <;> simp [h]
theorem eqv_pQ {p q : Rat} : PyData.eqv (pQ p) (pQ q) = decide (p = q) := by
  unfold pQ
  simp only [PyData.eqv, PyData.eqvAll, Bool.and_true]
  by_cases h : p = q
  · subst h; simp
  · have : ¬ (p.num = q.num ∧ p.den = q.den) := fun ⟨a, b⟩ => h (Rat.ext a b)
    simp only [h, decide_false]
    by_cases a : p.num = q.num
    · have b : ¬ (p.den : Int) = q.den := fun z => this ⟨a, by omega⟩
      simp [a, b]
    · simp [a]
theorem eqOk_pQ {q : Rat} : eqOk (pQ q) = true := by
  unfold pQ eqOk SeqAt.shaped
  simp [noDict, noDicts, PyData.canLay0, PyData.canLayAll0, PyData.depth, PyData.depthAll]
theorem fEq_pQ {p q : Rat} {neg : Bool} : fEq neg (.d (pQ p)) (.d (pQ q)) = some (.d (.bool (if neg then !decide (p = q) else decide (p = q)))) := by
  have : fEq neg (.d (pQ p)) (.d (pQ q)) = fEqD neg (.d (pQ p)) (.d (pQ q)) := rfl
  rw [this]
  unfold fEqD
  simp [eqOk_pQ, eqv_pQ]
theorem eqOk_int {i : Int} : eqOk (.int i) = true := by
  unfold eqOk SeqAt.shaped
  simp [noDict, PyData.canLay0, PyData.depth]
theorem fEq_int {i j : Int} {neg : Bool} : fEq neg (.d (.int i)) (.d (.int j)) = some (.d (.bool (if neg then !decide (i = j) else decide (i = j)))) := by
  have : fEq neg (.d (.int i)) (.d (.int j)) = fEqD neg (.d (.int i)) (.d (.int j)) := rfl
  rw [this]
  unfold fEqD
  simp [eqOk_int, eqv_int]
theorem gFdiv_pos {i j : Int} (h : 0 < j) (hl : j.natAbs < 2 ^ 9000) : gFdiv i j = some (.int (i / j)) := by
  unfold gFdiv
  rw [if_pos ⟨by omega, pylong_of hl⟩, fdiv_pos h]
theorem gMod_pos {i j : Int} (h : 0 < j) : gMod i j = some (.int (i % j)) := by
  unfold gMod
  rw [if_pos (by omega), fmod_pos h]
theorem fMul_ok {i j : Int} (h : mulOk i j = true) : fMul (.d (.int i)) (.d (.int j)) = some (.d (.int (i * j))) := by
  rw [ev_fMulI, if_pos h]
theorem den_lt {p q : Rat} (hp : Bd p) (hq : Bd q) : ((p.den : Int) * (q.den : Int)).natAbs < 2 ^ 9000 := lt_mulB hp.den' hq.den'
def pairK (r : R) : Option (Int × PyData) := match r with | .d (.tuple [.int q, y]) => some (q, y) | _ => none
@[simp] theorem pairK_d {q : Int} {y : PyData} : pairK (.d (.tuple [.int q, y])) = some (q, y) := rfl
theorem mPair_eq {i j : Nat} {ix a : Mx} {ρ : Ev} {s s1 : Sto} {r : R} (e : a ρ s = some (r, s1)) : mPair i ix j a ρ s = match pairK r with
    | some (q, y) => (match ix ρ s1, ρ[i]? with
      | some (.d (.int k), s2), some (some .s) => (match ixN s2.length k with
        | some n => some (.nx, ρ.set j (some (.d y)), s2.set n q)
        | none => none)
      | _, _ => none)
    | none => none := by
  unfold mPair pairK
  rw [e]
  split
  · rename_i q y s2 e2
    cases e2
    rfl
  · rename_i h
    split
    · rename_i q y h2
      split at h2
      · rename_i q' y'
        cases h2
        exact absurd rfl (h _ _ s1)
      · cases h2
    · rfl
@[simp ↓] theorem ws_pair {i j : Nat} {ix a : Mx} {ρ : Ev} {s : Sto} {QS : Out → Ev → Sto → Prop} : WS (mPair i ix j a) ρ s QS = WX a ρ s fun r s1 => WO (pairK r) fun p => WX ix ρ s1 fun z s2 => WO (intK z) fun k => getC ρ i = some .s ∧ WO (ixN s2.length k) fun n => WO (some (ρ.set j (some (.d p.2)))) fun ρ1 => WO (some (s2.set n p.1)) fun s3 => QS .nx ρ1 s3 := by
  apply propext
  unfold WS WX WO
  constructor
  · rintro ⟨o, ρ', s', e, q⟩
    rcases h : a ρ s with _ | ⟨r, s1⟩
    · unfold mPair at e; rw [h] at e; cases e
    · rw [mPair_eq h] at e
      split at e
      · rename_i q' y hp
        split at e
        · rename_i k s2 e1 e2
          split at e
          · rename_i n en
            cases e
            exact ⟨r, s1, rfl, (q', y), hp, _, s2, e1, k, rfl, getC_of e2, n, en, _, rfl, _, rfl, q⟩
          · cases e
        · cases e
      · cases e
  · rintro ⟨r, s1, h, ⟨q', y⟩, hp, z, s2, e1, k, hk, hs, n, en, _, e5, _, e6, q⟩
    cases e5
    cases e6
    have hz : z = .d (.int k) := by
      cases z with
      | d z =>
        cases z with
        | int i => cases hk; rfl
        | _ => cases hk
      | _ => cases hk
    subst hz
    exact ⟨_, _, _, by rw [mPair_eq h, hp]; simp only [e1, of_getC hs, en], q⟩
@[simp ↓] theorem wx_m3 {f : R → R → R → Option R} {a b c : Mx} {ρ : Ev} {s : Sto} {Q : R → Sto → Prop} : WX (m3 f a b c) ρ s Q = WX a ρ s fun x s1 => WX b ρ s1 fun y s2 => WX c ρ s2 fun z s3 => WO (f x y z) fun w => Q w s3 := by
  unfold WX m3
  simp only [wbnd, wret]
def tup2 (r : R) : Option (PyData × PyData) := match r with | .d (.tuple [x, y]) => some (x, y) | _ => none
@[simp] theorem tup2_d {x y : PyData} : tup2 (.d (.tuple [x, y])) = some (x, y) := rfl
theorem mSwap_eq {i : Nat} {ix1 ix2 a : Mx} {ρ : Ev} {s s1 : Sto} {r : R} (e : a ρ s = some (r, s1)) : mSwap i ix1 ix2 a ρ s = match tup2 r with
    | some (x, y) => (match ix1 ρ s1, ρ[i]? with
      | some (.d (.int k1), s2), some (some (.o xs)) => (match ixN xs.length k1 with
        | some j1 => (match ix2 (ρ.set i (some (.o (xs.set j1 x)))) s2 with
          | some (.d (.int k2), s3) => (match ixN xs.length k2 with
            | some j2 => some (.nx, (ρ.set i (some (.o (xs.set j1 x)))).set i (some (.o ((xs.set j1 x).set j2 y))), s3)
            | none => none)
          | _ => none)
        | none => none)
      | _, _ => none)
    | none => none := by
  unfold mSwap tup2
  rw [e]
  split
  · rename_i x y s2 e2
    cases e2
    rfl
  · rename_i h
    split
    · rename_i x y h2
      split at h2
      · rename_i x' y'
        cases h2
        exact absurd rfl (h _ _ s1)
      · cases h2
    · rfl
@[simp ↓] theorem ws_swap {i : Nat} {ix1 ix2 a : Mx} {ρ : Ev} {s : Sto} {QS : Out → Ev → Sto → Prop} : WS (mSwap i ix1 ix2 a) ρ s QS = WX a ρ s fun r s1 => WO (tup2 r) fun p => WX ix1 ρ s1 fun z s2 => WO (intK z) fun k1 => WO ((getC ρ i).bind ownK) fun xs => WO (ixN xs.length k1) fun j1 =>
    WO (some (ρ.set i (some (.o (xs.set j1 p.1))))) fun ρ1 => WX ix2 ρ1 s2 fun z s3 => WO (intK z) fun k2 => WO (ixN xs.length k2) fun j2 => WO (some (ρ1.set i (some (.o ((xs.set j1 p.1).set j2 p.2))))) fun ρ2 => QS .nx ρ2 s3 := by
  apply propext
  unfold WS WX WO
  constructor
  · rintro ⟨o, ρ', s', e, q⟩
    rcases h : a ρ s with _ | ⟨r, s1⟩
    · unfold mSwap at e; rw [h] at e; cases e
    · rw [mSwap_eq h] at e
      split at e
      · rename_i x y hp
        split at e
        · rename_i k1 s2 xs e1 e2
          split at e
          · rename_i j1 ej1
            split at e
            · rename_i k2 s3 e3
              split at e
              · rename_i j2 ej2
                cases e
                exact ⟨r, s1, rfl, (x, y), hp, _, s2, e1, k1, rfl, xs, by rw [getC_of e2]; rfl, j1, ej1, _, rfl, _, _, e3, k2, rfl, j2, ej2, _, rfl, q⟩
              · cases e
            · cases e
          · cases e
        · cases e
      · cases e
  · rintro ⟨r, s1, h, ⟨x, y⟩, hp, z, s2, e1, k1, hk, xs, hg, j1, ej1, _, e5, z2, s3, e3, k2, hk2, j2, ej2, _, e6, q⟩
    cases e5
    cases e6
    have hz : z = .d (.int k1) := by
      cases z with
      | d z =>
        cases z with
        | int i => cases hk; rfl
        | _ => cases hk
      | _ => cases hk
    have hz2 : z2 = .d (.int k2) := by
      cases z2 with
      | d z =>
        cases z with
        | int i => cases hk2; rfl
        | _ => cases hk2
      | _ => cases hk2
    subst hz hz2
    cases hc : getC ρ i with
    | none => rw [hc] at hg; cases hg
    | some c =>
      rw [hc] at hg
      cases c with
      | o ys =>
        cases hg
        exact ⟨_, _, _, by rw [mSwap_eq h, hp]; simp only [e1, of_getC hc, ej1, e3, ej2], q⟩
      | _ => cases hg
/-- a dict made by a comprehension -/
def WDc (vs : List Nat) (g : Gx) (t : Mt) (ek ev : Mx) (xs : List PyData) (acc : List (Key × PyData)) (ρ : Ev) (s : Sto) (Q : List (Key × PyData) → Sto → Prop) (_t : Tg (vs, g, t, ek, ev, Q) := .mk) : Prop := ∃ r s', dcRun vs g t ek ev xs acc ρ s = some (r, s') ∧ Q r s'
@[simp ↓] theorem wx_dc {it : Mi} {vs : List Nat} {g : Gx} {t : Mt} {ek ev : Mx} {ρ : Ev} {s : Sto} {Q : R → Sto → Prop} : WX (mDc it vs g t ek ev) ρ s Q = WI it ρ s fun xs s1 => WDc vs g t ek ev xs [] ρ s1 fun acc s2 => Q (.d (dOf acc)) s2 := by
  apply propext
  unfold WX WDc WI mDc
  rcases it ρ s with _ | ⟨xs, s1⟩
  · simp
  · dsimp only
    rcases h : dcRun vs g t ek ev xs [] ρ s1 with _ | ⟨acc, s2⟩ <;> simp [h]
end Dh
namespace WW
open PySem PySem.Spec L2 Dh
def top (i : Nat) : Stmt := PySem.Challenge.pw_deedhouses_k83_whole_dice_that_make_a_wa.main.body.getD i (.Pass ⟨0, 0, 0, 0⟩)
abbrev s_is_whole : Stmt := top 2
abbrev n_is_whole : List Str := ["value"]
abbrev p_is_whole : List Str := ["value"]
abbrev s_is_between : Stmt := top 3
abbrev n_is_between : List Str := ["value", "low", "high"]
abbrev p_is_between : List Str := ["value", "low", "high"]
abbrev s_is_tuple_of : Stmt := top 4
abbrev n_is_tuple_of : List Str := ["value", "many"]
abbrev p_is_tuple_of : List Str := ["value", "many"]
abbrev s_is_ratio : Stmt := top 8
abbrev n_is_ratio : List Str := ["value"]
abbrev p_is_ratio : List Str := ["value"]
abbrev s_is_row : Stmt := top 9
abbrev n_is_row : List Str := ["value", "many", "each"]
abbrev p_is_row : List Str := ["value", "many"]
abbrev s_ratio : Stmt := top 10
abbrev n_ratio : List Str := ["top", "low", "part"]
abbrev p_ratio : List Str := ["top", "low"]
abbrev s_plus : Stmt := top 11
abbrev n_plus : List Str := ["one", "two"]
abbrev p_plus : List Str := ["one", "two"]
abbrev s_times : Stmt := top 12
abbrev n_times : List Str := ["one", "two"]
abbrev p_times : List Str := ["one", "two"]
abbrev s_is_less : Stmt := top 13
abbrev n_is_less : List Str := ["one", "two"]
abbrev p_is_less : List Str := ["one", "two"]
abbrev s_total : Stmt := top 14
abbrev n_total : List Str := ["fractions", "found", "each"]
abbrev p_total : List Str := ["fractions"]
abbrev s_is_chance_row : Stmt := top 15
abbrev n_is_chance_row : List Str := ["value", "many", "each"]
abbrev p_is_chance_row : List Str := ["value", "many"]
abbrev s_is_still_by : Stmt := top 18
abbrev n_is_still_by : List Str := ["house", "value", "odds", "deeds"]
abbrev p_is_still_by : List Str := ["house", "value"]
abbrev s_are_odds : Stmt := top 19
abbrev n_are_odds : List Str := ["value", "minds", "deeds", "odds"]
abbrev p_are_odds : List Str := ["value", "minds", "deeds"]
abbrev s_are_nexts : Stmt := top 20
abbrev n_are_nexts : List Str := ["value", "minds", "deeds", "row", "mind"]
abbrev p_are_nexts : List Str := ["value", "minds", "deeds"]
abbrev s_is_minded_by : Stmt := top 21
abbrev n_is_minded_by : List Str := ["house", "value", "minds", "odds_rows", "nexts", "each", "deeds"]
abbrev p_is_minded_by : List Str := ["house", "value"]
abbrev s_are_chances : Stmt := top 26
abbrev n_are_chances : List Str := ["value", "stands", "goals", "each", "stand", "chance", "_", "one", "two"]
abbrev p_are_chances : List Str := ["value", "stands"]
abbrev s_is_deed : Stmt := top 27
abbrev n_is_deed : List Str := ["value", "pays", "stands"]
abbrev p_is_deed : List Str := ["value", "pays", "stands"]
abbrev s_is_stand : Stmt := top 28
abbrev n_is_stand : List Str := ["value", "pays", "stands", "each"]
abbrev p_is_stand : List Str := ["value", "pays", "stands"]
abbrev s_is_share : Stmt := top 29
abbrev n_is_share : List Str := ["value"]
abbrev p_is_share : List Str := ["value"]
abbrev s_is_house_by : Stmt := top 30
abbrev n_is_house_by : List Str := ["value", "stands", "each"]
abbrev p_is_house_by : List Str := ["value"]
abbrev s_check_house : Stmt := top 39
abbrev n_check_house : List Str := ["value"]
abbrev p_check_house : List Str := ["value"]
abbrev s_check_start : Stmt := top 40
abbrev n_check_start : List Str := ["house", "value", "index", "each"]
abbrev p_check_start : List Str := ["house", "value"]
abbrev s_is_memory : Stmt := top 44
abbrev n_is_memory : List Str := ["house", "value", "at", "deeds", "goal", "_"]
abbrev p_is_memory : List Str := ["house", "value"]
abbrev s_is_told_by : Stmt := top 45
abbrev n_is_told_by : List Str := ["house", "value", "each", "one", "two", "memory", "odds"]
abbrev p_is_told_by : List Str := ["house", "value"]
abbrev s_is_player_by : Stmt := top 46
abbrev n_is_player_by : List Str := ["house", "value"]
abbrev p_is_player_by : List Str := ["house", "value"]
abbrev s_kept_of : Stmt := top 47
abbrev n_kept_of : List Str := ["told", "memory", "each", "_"]
abbrev p_kept_of : List Str := ["told", "memory"]
abbrev s_first_kept : Stmt := top 48
abbrev n_first_kept : List Str := ["player", "stand"]
abbrev p_first_kept : List Str := ["player", "stand"]
abbrev s_next_kept : Stmt := top 49
abbrev n_next_kept : List Str := ["player", "stand", "deed", "goal", "kept"]
abbrev p_next_kept : List Str := ["player", "stand", "deed", "goal", "kept"]
abbrev s_odds_at : Stmt := top 50
abbrev n_odds_at : List Str := ["player", "stand", "kept", "memory", "odds"]
abbrev p_odds_at : List Str := ["player", "stand", "kept"]
abbrev s_check_player : Stmt := top 52
abbrev n_check_player : List Str := ["house", "start", "value"]
abbrev p_check_player : List Str := ["house", "start", "value"]
abbrev s_is_die : Stmt := top 55
abbrev n_is_die : List Str := ["value"]
abbrev p_is_die : List Str := ["value"]
abbrev s_is_step : Stmt := top 56
abbrev n_is_step : List Str := ["house", "value", "deeds", "goal", "_"]
abbrev p_is_step : List Str := ["house", "value"]
abbrev s_wrong_steps : Stmt := top 57
abbrev n_wrong_steps : List Str := ["house", "value", "found", "index", "each"]
abbrev p_wrong_steps : List Str := ["house", "value"]
abbrev s_picked : Stmt := top 58
abbrev n_picked : List Str := ["row", "die", "reached", "index", "each"]
abbrev p_picked : List Str := ["row", "die"]
abbrev s_run_by : Stmt := top 59
abbrev n_run_by : List Str := ["house", "start", "player", "dice", "stand", "kept", "found", "at", "deed", "chances", "goal", "_", "chance"]
abbrev p_run_by : List Str := ["house", "start", "player", "dice"]
abbrev s_stretch_of : Stmt := top 60
abbrev n_stretch_of : List Str := ["row", "index", "low"]
abbrev p_stretch_of : List Str := ["row", "index"]
abbrev s_box_by : Stmt := top 61
abbrev n_box_by : List Str := ["house", "start", "player", "way", "found", "kept", "stand", "deed", "goal", "chances", "_", "chance", "each"]
abbrev p_box_by : List Str := ["house", "start", "player", "way"]
abbrev s_chance_by : Stmt := top 62
abbrev n_chance_by : List Str := ["house", "start", "player", "way", "found", "kept", "stand", "deed", "goal", "told"]
abbrev p_chance_by : List Str := ["house", "start", "player", "way"]
abbrev s_check_dice : Stmt := top 65
abbrev n_check_dice : List Str := ["value", "index", "each"]
abbrev p_check_dice : List Str := ["value"]
abbrev s_check_way : Stmt := top 66
abbrev n_check_way : List Str := ["house", "value", "index"]
abbrev p_check_way : List Str := ["house", "value"]
abbrev s_run : Stmt := top 67
abbrev n_run : List Str := ["house", "start", "player", "dice"]
abbrev p_run : List Str := ["house", "start", "player", "dice"]
abbrev s_way_chance : Stmt := top 68
abbrev n_way_chance : List Str := ["house", "start", "player", "way"]
abbrev p_way_chance : List Str := ["house", "start", "player", "way"]
abbrev s_box_of : Stmt := top 69
abbrev n_box_of : List Str := ["house", "start", "player", "way"]
abbrev p_box_of : List Str := ["house", "start", "player", "way"]
abbrev s_law_urn : Stmt := top 71
abbrev n_law_urn : List Str := ["_law_script", "_law_salt", "_law_mixed", "_law_cell", "_law_great"]
abbrev p_law_urn : List Str := ["_law_script", "_law_salt"]
abbrev s_law_draw : Stmt := top 72
abbrev n_law_draw : List Str := ["_law_urn_here", "_law_size", "_law_digit", "_law_mixed"]
abbrev p_law_draw : List Str := ["_law_urn_here", "_law_size"]
abbrev s_law_pick : Stmt := top 73
abbrev n_law_pick : List Str := ["_law_urn_here", "_law_some"]
abbrev p_law_pick : List Str := ["_law_urn_here", "_law_some"]
abbrev s_law_cut : Stmt := top 74
abbrev n_law_cut : List Str := ["_law_top", "_law_below", "_law_high", "_law_low"]
abbrev p_law_cut : List Str := ["_law_top", "_law_below"]
abbrev s_law_plus : Stmt := top 75
abbrev n_law_plus : List Str := ["_law_first", "_law_second"]
abbrev p_law_plus : List Str := ["_law_first", "_law_second"]
abbrev s_law_times : Stmt := top 76
abbrev n_law_times : List Str := ["_law_first", "_law_second"]
abbrev p_law_times : List Str := ["_law_first", "_law_second"]
abbrev s_law_less : Stmt := top 77
abbrev n_law_less : List Str := ["_law_first", "_law_second"]
abbrev p_law_less : List Str := ["_law_first", "_law_second"]
abbrev s_law_is_under : Stmt := top 78
abbrev n_law_is_under : List Str := ["_law_first", "_law_second"]
abbrev p_law_is_under : List Str := ["_law_first", "_law_second"]
abbrev s_law_odds : Stmt := top 79
abbrev n_law_odds : List Str := ["_law_urn_here", "_law_size", "_law_parts", "_law_lap", "_law_whole", "_law_each"]
abbrev p_law_odds : List Str := ["_law_urn_here", "_law_size"]
abbrev s_law_hall : Stmt := top 80
abbrev n_law_hall : List Str := ["_law_urn_here", "_law_most", "_law_purse", "_law_size", "_law_rooms", "_law_at", "_law_acts", "_law_lap", "_law_odds_here", "_law_gains", "_law_turned", "_law_k"]
abbrev p_law_hall : List Str := ["_law_urn_here", "_law_most", "_law_purse"]
abbrev s_law_habit : Stmt := top 81
abbrev n_law_habit : List Str := ["_law_urn_here", "_law_hall_here", "_law_found", "_law_acts"]
abbrev p_law_habit : List Str := ["_law_urn_here", "_law_hall_here"]
abbrev s_law_memory : Stmt := top 82
abbrev n_law_memory : List Str := ["_law_urn_here", "_law_hall_here", "_law_path", "_law_lap", "_law_act"]
abbrev p_law_memory : List Str := ["_law_urn_here", "_law_hall_here"]
abbrev s_law_recalled : Stmt := top 83
abbrev n_law_recalled : List Str := ["_law_urn_here", "_law_hall_here", "_law_table", "_law_lap", "_law_path"]
abbrev p_law_recalled : List Str := ["_law_urn_here", "_law_hall_here"]
abbrev s_law_mindful : Stmt := top 84
abbrev n_law_mindful : List Str := ["_law_urn_here", "_law_hall_here", "_law_minds", "_law_odds_here", "_law_after", "_law_acts", "_law_some", "_law_behind", "_law_lap", "_law_act", "_law_goals"]
abbrev p_law_mindful : List Str := ["_law_urn_here", "_law_hall_here"]
abbrev s_law_hero : Stmt := top 85
abbrev n_law_hero : List Str := ["_law_urn_here", "_law_hall_here", "_law_kind"]
abbrev p_law_hero : List Str := ["_law_urn_here", "_law_hall_here"]
abbrev s_law_first_note : Stmt := top 86
abbrev n_law_first_note : List Str := ["_law_hero_here", "_law_at"]
abbrev p_law_first_note : List Str := ["_law_hero_here", "_law_at"]
abbrev s_law_next_note : Stmt := top 87
abbrev n_law_next_note : List Str := ["_law_hero_here", "_law_note", "_law_act", "_law_goal", "_law_path", "_law_some", "_law_pair"]
abbrev p_law_next_note : List Str := ["_law_hero_here", "_law_note", "_law_act", "_law_goal"]
abbrev s_law_note_odds : Stmt := top 88
abbrev n_law_note_odds : List Str := ["_law_hero_here", "_law_note", "_law_some", "_law_pair"]
abbrev p_law_note_odds : List Str := ["_law_hero_here", "_law_note"]
abbrev s_law_picked : Stmt := top 89
abbrev n_law_picked : List Str := ["_law_odds_here", "_law_die_here", "_law_total", "_law_k"]
abbrev p_law_picked : List Str := ["_law_odds_here", "_law_die_here"]
abbrev s_law_stretch : Stmt := top 90
abbrev n_law_stretch : List Str := ["_law_odds_here", "_law_k", "_law_low", "_law_each"]
abbrev p_law_stretch : List Str := ["_law_odds_here", "_law_k"]
abbrev s_law_die : Stmt := top 91
abbrev n_law_die : List Str := ["_law_urn_here", "_law_odds_here", "_law_some", "_law_k", "_law_kind", "_law_low", "_law_part", "_law_at"]
abbrev p_law_die : List Str := ["_law_urn_here", "_law_odds_here"]
abbrev s_law_followed : Stmt := top 92
abbrev n_law_followed : List Str := ["_law_hall_here", "_law_hero_here", "_law_outset", "_law_throws", "_law_note", "_law_road", "_law_k", "_law_act", "_law_chances", "_law_goal", "_law_pair"]
abbrev p_law_followed : List Str := ["_law_hall_here", "_law_hero_here", "_law_outset", "_law_throws"]
abbrev s_law_thrown : Stmt := top 93
abbrev n_law_thrown : List Str := ["_law_urn_here", "_law_hall_here", "_law_hero_here", "_law_outset", "_law_size", "_law_throws", "_law_note", "_law_lap", "_law_odds_here", "_law_first", "_law_act", "_law_chances", "_law_ahead", "_law_second", "_law_pair"]
abbrev p_law_thrown : List Str := ["_law_urn_here", "_law_hall_here", "_law_hero_here", "_law_outset", "_law_size"]
abbrev s_law_road_box : Stmt := top 94
abbrev n_law_road_box : List Str := ["_law_hall_here", "_law_hero_here", "_law_outset", "_law_road", "_law_note", "_law_box", "_law_at", "_law_act", "_law_goal", "_law_chances", "_law_pair"]
abbrev p_law_road_box : List Str := ["_law_hall_here", "_law_hero_here", "_law_outset", "_law_road"]
abbrev s_law_volume : Stmt := top 95
abbrev n_law_volume : List Str := ["_law_box", "_law_total", "_law_low", "_law_high"]
abbrev p_law_volume : List Str := ["_law_box"]
abbrev s_law_free_road : Stmt := top 96
abbrev n_law_free_road : List Str := ["_law_urn_here", "_law_hall_here", "_law_size", "_law_at", "_law_road", "_law_lap", "_law_act", "_law_goal"]
abbrev p_law_free_road : List Str := ["_law_urn_here", "_law_hall_here", "_law_size"]
abbrev s_law_within : Stmt := top 97
abbrev n_law_within : List Str := ["_law_urn_here", "_law_box", "_law_throws", "_law_low", "_law_high", "_law_part"]
abbrev p_law_within : List Str := ["_law_urn_here", "_law_box"]
abbrev s_law_outside : Stmt := top 98
abbrev n_law_outside : List Str := ["_law_urn_here", "_law_box", "_law_throws", "_law_some", "_law_k", "_law_low", "_law_high", "_law_part", "_law_other"]
abbrev p_law_outside : List Str := ["_law_urn_here", "_law_box", "_law_throws"]
abbrev s_law_is_right : Stmt := top 99
abbrev n_law_is_right : List Str := ["_law_urn_here", "_law_hall_here", "_law_hero_here", "_law_outset", "_law_size", "_law_road", "_law_box", "_law_chance", "_law_due", "_law_throws", "_law_other", "_law_told"]
abbrev p_law_is_right : List Str := ["_law_urn_here"]
abbrev s_law : Stmt := top 100
abbrev n_law : List Str := ["_law_script", "_law_lap"]
abbrev p_law : List Str := ["_law_script"]
def k_MOST_DEEDS : PyData := (.int 4)
def k_MOST_DICE : PyData := (.int 121)
def k_MOST_LISTS : PyData := (.int 32)
def k_MOST_MEMORY : PyData := (.int 9)
def k_MOST_MINDS : PyData := (.int 4)
def k_MOST_PAYS : PyData := (.int 4)
def k_MOST_STANDS : PyData := (.int 8)
def k_MOST_WAY : PyData := (.int 60)
def k_ONE : PyData := (.tuple [(.int 1), (.int 1)])
def k_ZERO : PyData := (.tuple [(.int 0), (.int 1)])
/-- what the top has made of the text -/
structure Txt (K : PySem.W.Frag) (mg : Str → Option Value) (ad : Nat → Addr) (fd : Nat → FuncData) : Prop where
  d_is_whole : Fun K "is_whole" "is_whole" s_is_whole (ad 0) (fd 0)
  m_is_whole : mg "is_whole" = some (.ref (ad 0))
  d_is_between : Fun K "is_between" "is_between" s_is_between (ad 1) (fd 1)
  m_is_between : mg "is_between" = some (.ref (ad 1))
  d_is_tuple_of : Fun K "is_tuple_of" "is_tuple_of" s_is_tuple_of (ad 2) (fd 2)
  m_is_tuple_of : mg "is_tuple_of" = some (.ref (ad 2))
  d_is_ratio : Fun K "is_ratio" "is_ratio" s_is_ratio (ad 3) (fd 3)
  m_is_ratio : mg "is_ratio" = some (.ref (ad 3))
  d_is_row : Fun K "is_row" "is_row" s_is_row (ad 4) (fd 4)
  m_is_row : mg "is_row" = some (.ref (ad 4))
  d_ratio : Fun K "ratio" "ratio" s_ratio (ad 5) (fd 5)
  m_ratio : mg "ratio" = some (.ref (ad 5))
  d_plus : Fun K "plus" "plus" s_plus (ad 6) (fd 6)
  m_plus : mg "plus" = some (.ref (ad 6))
  d_times : Fun K "times" "times" s_times (ad 7) (fd 7)
  m_times : mg "times" = some (.ref (ad 7))
  d_is_less : Fun K "is_less" "is_less" s_is_less (ad 8) (fd 8)
  m_is_less : mg "is_less" = some (.ref (ad 8))
  d_total : Fun K "total" "total" s_total (ad 9) (fd 9)
  m_total : mg "total" = some (.ref (ad 9))
  d_is_chance_row : Fun K "is_chance_row" "is_chance_row" s_is_chance_row (ad 10) (fd 10)
  m_is_chance_row : mg "is_chance_row" = some (.ref (ad 10))
  d_is_still_by : Fun K "is_still_by" "is_still_by" s_is_still_by (ad 11) (fd 11)
  m_is_still_by : mg "is_still_by" = some (.ref (ad 11))
  d_are_odds : Fun K "are_odds" "are_odds" s_are_odds (ad 12) (fd 12)
  m_are_odds : mg "are_odds" = some (.ref (ad 12))
  d_are_nexts : Fun K "are_nexts" "are_nexts" s_are_nexts (ad 13) (fd 13)
  m_are_nexts : mg "are_nexts" = some (.ref (ad 13))
  d_is_minded_by : Fun K "is_minded_by" "is_minded_by" s_is_minded_by (ad 14) (fd 14)
  m_is_minded_by : mg "is_minded_by" = some (.ref (ad 14))
  d_are_chances : Fun K "are_chances" "are_chances" s_are_chances (ad 15) (fd 15)
  m_are_chances : mg "are_chances" = some (.ref (ad 15))
  d_is_deed : Fun K "is_deed" "is_deed" s_is_deed (ad 16) (fd 16)
  m_is_deed : mg "is_deed" = some (.ref (ad 16))
  d_is_stand : Fun K "is_stand" "is_stand" s_is_stand (ad 17) (fd 17)
  m_is_stand : mg "is_stand" = some (.ref (ad 17))
  d_is_share : Fun K "is_share" "is_share" s_is_share (ad 18) (fd 18)
  m_is_share : mg "is_share" = some (.ref (ad 18))
  d_is_house_by : Fun K "is_house_by" "is_house_by" s_is_house_by (ad 19) (fd 19)
  m_is_house_by : mg "is_house_by" = some (.ref (ad 19))
  d_check_house : Fun K "check_house" "check_house" s_check_house (ad 20) (fd 20)
  m_check_house : mg "check_house" = some (.ref (ad 20))
  d_check_start : Fun K "check_start" "check_start" s_check_start (ad 21) (fd 21)
  m_check_start : mg "check_start" = some (.ref (ad 21))
  d_is_memory : Fun K "is_memory" "is_memory" s_is_memory (ad 22) (fd 22)
  m_is_memory : mg "is_memory" = some (.ref (ad 22))
  d_is_told_by : Fun K "is_told_by" "is_told_by" s_is_told_by (ad 23) (fd 23)
  m_is_told_by : mg "is_told_by" = some (.ref (ad 23))
  d_is_player_by : Fun K "is_player_by" "is_player_by" s_is_player_by (ad 24) (fd 24)
  m_is_player_by : mg "is_player_by" = some (.ref (ad 24))
  d_kept_of : Fun K "kept_of" "kept_of" s_kept_of (ad 25) (fd 25)
  m_kept_of : mg "kept_of" = some (.ref (ad 25))
  d_first_kept : Fun K "first_kept" "first_kept" s_first_kept (ad 26) (fd 26)
  m_first_kept : mg "first_kept" = some (.ref (ad 26))
  d_next_kept : Fun K "next_kept" "next_kept" s_next_kept (ad 27) (fd 27)
  m_next_kept : mg "next_kept" = some (.ref (ad 27))
  d_odds_at : Fun K "odds_at" "odds_at" s_odds_at (ad 28) (fd 28)
  m_odds_at : mg "odds_at" = some (.ref (ad 28))
  d_check_player : Fun K "check_player" "check_player" s_check_player (ad 29) (fd 29)
  m_check_player : mg "check_player" = some (.ref (ad 29))
  d_is_die : Fun K "is_die" "is_die" s_is_die (ad 30) (fd 30)
  m_is_die : mg "is_die" = some (.ref (ad 30))
  d_is_step : Fun K "is_step" "is_step" s_is_step (ad 31) (fd 31)
  m_is_step : mg "is_step" = some (.ref (ad 31))
  d_wrong_steps : Fun K "wrong_steps" "wrong_steps" s_wrong_steps (ad 32) (fd 32)
  m_wrong_steps : mg "wrong_steps" = some (.ref (ad 32))
  d_picked : Fun K "picked" "picked" s_picked (ad 33) (fd 33)
  m_picked : mg "picked" = some (.ref (ad 33))
  d_run_by : Fun K "run_by" "run_by" s_run_by (ad 34) (fd 34)
  m_run_by : mg "run_by" = some (.ref (ad 34))
  d_stretch_of : Fun K "stretch_of" "stretch_of" s_stretch_of (ad 35) (fd 35)
  m_stretch_of : mg "stretch_of" = some (.ref (ad 35))
  d_box_by : Fun K "box_by" "box_by" s_box_by (ad 36) (fd 36)
  m_box_by : mg "box_by" = some (.ref (ad 36))
  d_chance_by : Fun K "chance_by" "chance_by" s_chance_by (ad 37) (fd 37)
  m_chance_by : mg "chance_by" = some (.ref (ad 37))
  d_check_dice : Fun K "check_dice" "check_dice" s_check_dice (ad 38) (fd 38)
  m_check_dice : mg "check_dice" = some (.ref (ad 38))
  d_check_way : Fun K "check_way" "check_way" s_check_way (ad 39) (fd 39)
  m_check_way : mg "check_way" = some (.ref (ad 39))
  d_run : Fun K "run" "run" s_run (ad 40) (fd 40)
  m_run : mg "run" = some (.ref (ad 40))
  d_way_chance : Fun K "way_chance" "way_chance" s_way_chance (ad 41) (fd 41)
  m_way_chance : mg "way_chance" = some (.ref (ad 41))
  d_box_of : Fun K "box_of" "box_of" s_box_of (ad 42) (fd 42)
  m_box_of : mg "box_of" = some (.ref (ad 42))
  d_law_urn : Fun K "_law_urn" "_law_urn" s_law_urn (ad 43) (fd 43)
  m_law_urn : mg "_law_urn" = some (.ref (ad 43))
  d_law_draw : Fun K "_law_draw" "_law_draw" s_law_draw (ad 44) (fd 44)
  m_law_draw : mg "_law_draw" = some (.ref (ad 44))
  d_law_pick : Fun K "_law_pick" "_law_pick" s_law_pick (ad 45) (fd 45)
  m_law_pick : mg "_law_pick" = some (.ref (ad 45))
  d_law_cut : Fun K "_law_cut" "_law_cut" s_law_cut (ad 46) (fd 46)
  m_law_cut : mg "_law_cut" = some (.ref (ad 46))
  d_law_plus : Fun K "_law_plus" "_law_plus" s_law_plus (ad 47) (fd 47)
  m_law_plus : mg "_law_plus" = some (.ref (ad 47))
  d_law_times : Fun K "_law_times" "_law_times" s_law_times (ad 48) (fd 48)
  m_law_times : mg "_law_times" = some (.ref (ad 48))
  d_law_less : Fun K "_law_less" "_law_less" s_law_less (ad 49) (fd 49)
  m_law_less : mg "_law_less" = some (.ref (ad 49))
  d_law_is_under : Fun K "_law_is_under" "_law_is_under" s_law_is_under (ad 50) (fd 50)
  m_law_is_under : mg "_law_is_under" = some (.ref (ad 50))
  d_law_odds : Fun K "_law_odds" "_law_odds" s_law_odds (ad 51) (fd 51)
  m_law_odds : mg "_law_odds" = some (.ref (ad 51))
  d_law_hall : Fun K "_law_hall" "_law_hall" s_law_hall (ad 52) (fd 52)
  m_law_hall : mg "_law_hall" = some (.ref (ad 52))
  d_law_habit : Fun K "_law_habit" "_law_habit" s_law_habit (ad 53) (fd 53)
  m_law_habit : mg "_law_habit" = some (.ref (ad 53))
  d_law_memory : Fun K "_law_memory" "_law_memory" s_law_memory (ad 54) (fd 54)
  m_law_memory : mg "_law_memory" = some (.ref (ad 54))
  d_law_recalled : Fun K "_law_recalled" "_law_recalled" s_law_recalled (ad 55) (fd 55)
  m_law_recalled : mg "_law_recalled" = some (.ref (ad 55))
  d_law_mindful : Fun K "_law_mindful" "_law_mindful" s_law_mindful (ad 56) (fd 56)
  m_law_mindful : mg "_law_mindful" = some (.ref (ad 56))
  d_law_hero : Fun K "_law_hero" "_law_hero" s_law_hero (ad 57) (fd 57)
  m_law_hero : mg "_law_hero" = some (.ref (ad 57))
  d_law_first_note : Fun K "_law_first_note" "_law_first_note" s_law_first_note (ad 58) (fd 58)
  m_law_first_note : mg "_law_first_note" = some (.ref (ad 58))
  d_law_next_note : Fun K "_law_next_note" "_law_next_note" s_law_next_note (ad 59) (fd 59)
  m_law_next_note : mg "_law_next_note" = some (.ref (ad 59))
  d_law_note_odds : Fun K "_law_note_odds" "_law_note_odds" s_law_note_odds (ad 60) (fd 60)
  m_law_note_odds : mg "_law_note_odds" = some (.ref (ad 60))
  d_law_picked : Fun K "_law_picked" "_law_picked" s_law_picked (ad 61) (fd 61)
  m_law_picked : mg "_law_picked" = some (.ref (ad 61))
  d_law_stretch : Fun K "_law_stretch" "_law_stretch" s_law_stretch (ad 62) (fd 62)
  m_law_stretch : mg "_law_stretch" = some (.ref (ad 62))
  d_law_die : Fun K "_law_die" "_law_die" s_law_die (ad 63) (fd 63)
  m_law_die : mg "_law_die" = some (.ref (ad 63))
  d_law_followed : Fun K "_law_followed" "_law_followed" s_law_followed (ad 64) (fd 64)
  m_law_followed : mg "_law_followed" = some (.ref (ad 64))
  d_law_thrown : Fun K "_law_thrown" "_law_thrown" s_law_thrown (ad 65) (fd 65)
  m_law_thrown : mg "_law_thrown" = some (.ref (ad 65))
  d_law_road_box : Fun K "_law_road_box" "_law_road_box" s_law_road_box (ad 66) (fd 66)
  m_law_road_box : mg "_law_road_box" = some (.ref (ad 66))
  d_law_volume : Fun K "_law_volume" "_law_volume" s_law_volume (ad 67) (fd 67)
  m_law_volume : mg "_law_volume" = some (.ref (ad 67))
  d_law_free_road : Fun K "_law_free_road" "_law_free_road" s_law_free_road (ad 68) (fd 68)
  m_law_free_road : mg "_law_free_road" = some (.ref (ad 68))
  d_law_within : Fun K "_law_within" "_law_within" s_law_within (ad 69) (fd 69)
  m_law_within : mg "_law_within" = some (.ref (ad 69))
  d_law_outside : Fun K "_law_outside" "_law_outside" s_law_outside (ad 70) (fd 70)
  m_law_outside : mg "_law_outside" = some (.ref (ad 70))
  d_law_is_right : Fun K "_law_is_right" "_law_is_right" s_law_is_right (ad 71) (fd 71)
  m_law_is_right : mg "_law_is_right" = some (.ref (ad 71))
  d_law : Fun K "law" "law" s_law (ad 72) (fd 72)
  m_law : mg "law" = some (.ref (ad 72))
  b_abs : mg "abs" = none
  b_all : mg "all" = none
  b_any : mg "any" = none
  b_bool : mg "bool" = none
  b_dict : mg "dict" = none
  b_divmod : mg "divmod" = none
  b_enumerate : mg "enumerate" = none
  b_gcd : mg "gcd" = some (.builtin "math.gcd")
  b_int : mg "int" = none
  b_isinstance : mg "isinstance" = none
  b_len : mg "len" = none
  b_range : mg "range" = none
  b_repr : mg "repr" = none
  b_sorted : mg "sorted" = none
  b_str : mg "str" = none
  b_sum : mg "sum" = none
  b_tuple : mg "tuple" = none
  b_zip : mg "zip" = none
  g_MOST_DEEDS : GlK K mg "MOST_DEEDS" k_MOST_DEEDS
  g_MOST_DICE : GlK K mg "MOST_DICE" k_MOST_DICE
  g_MOST_LISTS : GlK K mg "MOST_LISTS" k_MOST_LISTS
  g_MOST_MEMORY : GlK K mg "MOST_MEMORY" k_MOST_MEMORY
  g_MOST_MINDS : GlK K mg "MOST_MINDS" k_MOST_MINDS
  g_MOST_PAYS : GlK K mg "MOST_PAYS" k_MOST_PAYS
  g_MOST_STANDS : GlK K mg "MOST_STANDS" k_MOST_STANDS
  g_MOST_WAY : GlK K mg "MOST_WAY" k_MOST_WAY
  g_ONE : GlK K mg "ONE" k_ONE
  g_ZERO : GlK K mg "ZERO" k_ZERO
noncomputable def m_is_whole : Ms :=
  (mRet (mAnd (m1 (fIsi "int") (mVar 0)) (m1 fNot (m1 (fIsi "bool") (mVar 0)))))
noncomputable def f_is_whole : Fx := run' 1 1 m_is_whole
noncomputable def m_is_between : Ms :=
  (mRet (mAnd (mCall f_is_whole (maCons (mVar 0) maNil)) (mChain gLe gLe (mVar 1) (mVar 0) (mVar 2))))
noncomputable def f_is_between : Fx := run' 3 3 m_is_between
noncomputable def m_is_tuple_of : Ms :=
  (mRet (mAnd (m1 (fIsi "tuple") (mVar 0)) (m2 (fEq false) (mA fLen (maCons (mVar 0) maNil)) (mVar 1))))
noncomputable def f_is_tuple_of : Fx := run' 2 2 m_is_tuple_of
noncomputable def m_is_ratio : Ms :=
  (mSeq (mIfS (tOr2 (tNot2 (bT (mCall f_is_tuple_of (maCons (mVar 0) (maCons (mKon (.int 2)) maNil))))) (tOr2 (tNot2 (bT (mCall f_is_whole (maCons (mIx (mVar 0) (mKon (.int 0))) maNil)))) (tNot2 (bT (mCall f_is_whole (maCons (mIx (mVar 0) (mKon (.int 1))) maNil))))))
    (mRet (mKon (.bool false)))
    mNil)
    (mRet (mAnd (m2 (fI gGt) (mIx (mVar 0) (mKon (.int 1))) (mKon (.int 0))) (m2 (fEq false) (mA fGcd (maCons (mIx (mVar 0) (mKon (.int 0))) (maCons (mIx (mVar 0) (mKon (.int 1))) maNil))) (mKon (.int 1))))))
noncomputable def f_is_ratio : Fx := run' 1 1 m_is_ratio
noncomputable def m_is_row : Ms :=
  (mRet (mAnd (mCall f_is_tuple_of (maCons (mVar 0) (maCons (mVar 1) maNil))) (mA fAll (maCons (mLc (mSeqI (mVar 0)) [2] (gN 2) mYes (mCall f_is_ratio (maCons (mVar 2) maNil))) maNil))))
noncomputable def f_is_row : Fx := run' 2 3 m_is_row
noncomputable def m_ratio : Ms :=
  (mSeq (mSet 2 (mIf (bT (m2 (fI gGt) (mVar 1) (mKon (.int 0)))) (mA fGcd (maCons (mVar 0) (maCons (mVar 1) maNil))) (m1 fNeg (mA fGcd (maCons (mVar 0) (maCons (mVar 1) maNil))))))
    (mRet (mA fTup (maCons (m2 (fI gFdiv) (mVar 0) (mVar 2)) (maCons (m2 (fI gFdiv) (mVar 1) (mVar 2)) maNil)))))
noncomputable def f_ratio : Fx := run' 2 3 m_ratio
noncomputable def m_plus : Ms :=
  (mRet (mCall f_ratio (maCons (m2 fAdd (m2 fMul (mIx (mVar 0) (mKon (.int 0))) (mIx (mVar 1) (mKon (.int 1)))) (m2 fMul (mIx (mVar 1) (mKon (.int 0))) (mIx (mVar 0) (mKon (.int 1))))) (maCons (m2 fMul (mIx (mVar 0) (mKon (.int 1))) (mIx (mVar 1) (mKon (.int 1)))) maNil))))
noncomputable def f_plus : Fx := run' 2 2 m_plus
noncomputable def m_times : Ms :=
  (mRet (mCall f_ratio (maCons (m2 fMul (mIx (mVar 0) (mKon (.int 0))) (mIx (mVar 1) (mKon (.int 0)))) (maCons (m2 fMul (mIx (mVar 0) (mKon (.int 1))) (mIx (mVar 1) (mKon (.int 1)))) maNil))))
noncomputable def f_times : Fx := run' 2 2 m_times
noncomputable def m_is_less : Ms :=
  (mRet (m2 (fI gLt) (m2 fMul (mIx (mVar 0) (mKon (.int 0))) (mIx (mVar 1) (mKon (.int 1)))) (m2 fMul (mIx (mVar 1) (mKon (.int 0))) (mIx (mVar 0) (mKon (.int 1))))))
noncomputable def f_is_less : Fx := run' 2 2 m_is_less
noncomputable def m_total : Ms :=
  (mSeq (mSet 1 (mKon k_ZERO))
    (mSeq (mFor (mSeqI (mVar 0)) (gN 2)
    (mSet 1 (mCall f_plus (maCons (mVar 1) (maCons (mVar 2) maNil)))))
    (mRetV 1)))
noncomputable def f_total : Fx := run' 1 3 m_total
noncomputable def m_is_chance_row : Ms :=
  (mRet (mAnd (mCall f_is_row (maCons (mVar 0) (maCons (mVar 1) maNil))) (mAnd (mA fAll (maCons (mLc (mSeqI (mVar 0)) [2] (gN 2) mYes (m2 (fI gGe) (mIx (mVar 2) (mKon (.int 0))) (mKon (.int 0)))) maNil)) (m2 (fEq false) (mCall f_total (maCons (mVar 0) maNil)) (mKon k_ONE)))))
noncomputable def f_is_chance_row : Fx := run' 2 3 m_is_chance_row
noncomputable def m_is_still_by : Ms :=
  (mSeq (mIfS (tNot2 (bT (mCall f_is_tuple_of (maCons (mVar 1) (maCons (mA fLen (maCons (mIx (mVar 0) (mKon (.int 2))) maNil)) maNil)))))
    (mRet (mKon (.bool false)))
    mNil)
    (mRet (mA fAll (maCons (mLc (mArgI zipQ2 (maCons (mVar 1) (maCons (mIx (mVar 0) (mKon (.int 2))) maNil))) [2, 3] (gT 2 (gsCons (gN 2) (gsCons (gN 3) gsNil))) mYes (mCall f_is_chance_row (maCons (mVar 2) (maCons (mA fLen (maCons (mVar 3) maNil)) maNil)))) maNil))))
noncomputable def f_is_still_by : Fx := run' 2 4 m_is_still_by
noncomputable def m_are_odds : Ms :=
  (mRet (mAnd (mCall f_is_tuple_of (maCons (mVar 0) (maCons (mVar 1) maNil))) (mA fAll (maCons (mLc (mSeqI (mVar 0)) [3] (gN 3) mYes (mCall f_is_chance_row (maCons (mVar 3) (maCons (mA fLen (maCons (mVar 2) maNil)) maNil)))) maNil))))
noncomputable def f_are_odds : Fx := run' 3 4 m_are_odds
noncomputable def m_are_nexts : Ms :=
  (mSeq (mIfS (tNot2 (bT (mCall f_is_tuple_of (maCons (mVar 0) (maCons (mA fLen (maCons (mVar 2) maNil)) maNil)))))
    (mRet (mKon (.bool false)))
    mNil)
    (mRet (mA fAll (maCons (mLc (mSeqI (mVar 0)) [3] (gN 3) mYes (mAnd (mCall f_is_tuple_of (maCons (mVar 3) (maCons (mVar 1) maNil))) (mA fAll (maCons (mLc (mSeqI (mVar 3)) [4] (gN 4) mYes (mCall f_is_between (maCons (mVar 4) (maCons (mKon (.int 0)) (maCons (m2 (fI gMns) (mVar 1) (mKon (.int 1))) maNil))))) maNil)))) maNil))))
noncomputable def f_are_nexts : Fx := run' 3 5 m_are_nexts
noncomputable def m_is_minded_by : Ms :=
  (mSeq (mIfS (tOr2 (tNot2 (bT (mCall f_is_tuple_of (maCons (mVar 1) (maCons (mKon (.int 3)) maNil))))) (tNot2 (bT (mCall f_is_between (maCons (mIx (mVar 1) (mKon (.int 0))) (maCons (mKon (.int 1)) (maCons (mKon k_MOST_MINDS) maNil)))))))
    (mRet (mKon (.bool false)))
    mNil)
    (mSeq (mAsg (gT 3 (gsCons (gN 2) (gsCons (gN 3) (gsCons (gN 4) gsNil)))) (mVar 1))
    (mSeq (mIfS (tOr2 (tNot2 (bT (mCall f_is_tuple_of (maCons (mVar 3) (maCons (mA fLen (maCons (mIx (mVar 0) (mKon (.int 2))) maNil)) maNil))))) (tNot2 (bT (mCall f_is_tuple_of (maCons (mVar 4) (maCons (mA fLen (maCons (mIx (mVar 0) (mKon (.int 2))) maNil)) maNil))))))
    (mRet (mKon (.bool false)))
    mNil)
    (mSeq (mIfS (tNot2 (bT (mA fAll (maCons (mLc (mArgI zipQ2 (maCons (mVar 3) (maCons (mIx (mVar 0) (mKon (.int 2))) maNil))) [5, 6] (gT 2 (gsCons (gN 5) (gsCons (gN 6) gsNil))) mYes (mCall f_are_odds (maCons (mVar 5) (maCons (mVar 2) (maCons (mVar 6) maNil))))) maNil))))
    (mRet (mKon (.bool false)))
    mNil)
    (mRet (mA fAll (maCons (mLc (mArgI zipQ2 (maCons (mVar 4) (maCons (mIx (mVar 0) (mKon (.int 2))) maNil))) [5, 6] (gT 2 (gsCons (gN 5) (gsCons (gN 6) gsNil))) mYes (mCall f_are_nexts (maCons (mVar 5) (maCons (mVar 2) (maCons (mVar 6) maNil))))) maNil)))))))
noncomputable def f_is_minded_by : Fx := run' 2 7 m_is_minded_by
noncomputable def m_are_chances : Ms :=
  (mSeq (mIfS (tOr2 (tNot2 (bT (m1 (fIsi "tuple") (mVar 0)))) (tNot2 (bT (mA fAll (maCons (mLc (mSeqI (mVar 0)) [3] (gN 3) mYes (mCall f_is_tuple_of (maCons (mVar 3) (maCons (mKon (.int 2)) maNil)))) maNil)))))
    (mRet (mKon (.bool false)))
    mNil)
    (mSeq (mIfS (tNot2 (bT (mA fAll (maCons (mLc (mSeqI (mVar 0)) [4, 5] (gT 2 (gsCons (gN 4) (gsCons (gN 5) gsNil))) mYes (mAnd (mCall f_is_between (maCons (mVar 4) (maCons (mKon (.int 0)) (maCons (m2 (fI gMns) (mVar 1) (mKon (.int 1))) maNil)))) (mAnd (mCall f_is_ratio (maCons (mVar 5) maNil)) (m2 (fI gGt) (mIx (mVar 5) (mKon (.int 0))) (mKon (.int 0)))))) maNil))))
    (mRet (mKon (.bool false)))
    mNil)
    (mSeq (mSet 2 (mLc (mSeqI (mVar 0)) [4, 6] (gT 2 (gsCons (gN 4) (gsCons (gN 6) gsNil))) mYes (mVar 4)))
    (mFrz [2] (mRet (mAnd (mA fAll (maCons (mLc (mArgI zipQ2 (maCons (mVar 2) (maCons (mSl (mVar 2) (moSome (mKon (.int 1))) moNone) maNil))) [7, 8] (gT 2 (gsCons (gN 7) (gsCons (gN 8) gsNil))) mYes (m2 (fI gLt) (mVar 7) (mVar 8))) maNil)) (m2 (fEq false) (mCall f_total (maCons (mLc (mSeqI (mVar 0)) [6, 5] (gT 2 (gsCons (gN 6) (gsCons (gN 5) gsNil))) mYes (mVar 5)) maNil)) (mKon k_ONE))))))))
noncomputable def f_are_chances : Fx := run' 2 9 m_are_chances
noncomputable def m_is_deed : Ms :=
  (mRet (mAnd (mCall f_is_tuple_of (maCons (mVar 0) (maCons (mKon (.int 2)) maNil))) (mAnd (mCall f_are_chances (maCons (mIx (mVar 0) (mKon (.int 0))) (maCons (mVar 2) maNil))) (mCall f_is_row (maCons (mIx (mVar 0) (mKon (.int 1))) (maCons (mVar 1) maNil))))))
noncomputable def f_is_deed : Fx := run' 3 3 m_is_deed
noncomputable def m_is_stand : Ms :=
  (mSeq (mIfS (tOr2 (tNot2 (bT (m1 (fIsi "tuple") (mVar 0)))) (tNot2 (bT (mCall f_is_between (maCons (mA fLen (maCons (mVar 0) maNil)) (maCons (mKon (.int 1)) (maCons (mKon k_MOST_DEEDS) maNil)))))))
    (mRet (mKon (.bool false)))
    mNil)
    (mRet (mA fAll (maCons (mLc (mSeqI (mVar 0)) [3] (gN 3) mYes (mCall f_is_deed (maCons (mVar 3) (maCons (mVar 1) (maCons (mVar 2) maNil))))) maNil))))
noncomputable def f_is_stand : Fx := run' 3 4 m_is_stand
noncomputable def m_is_share : Ms :=
  (mRet (mAnd (mCall f_is_ratio (maCons (mVar 0) maNil)) (mChain gLe gLt (mKon (.int 0)) (mIx (mVar 0) (mKon (.int 0))) (mIx (mVar 0) (mKon (.int 1))))))
noncomputable def f_is_share : Fx := run' 1 1 m_is_share
noncomputable def m_is_house_by : Ms :=
  (mSeq (mIfS (tOr2 (tNot2 (bT (mCall f_is_tuple_of (maCons (mVar 0) (maCons (mKon (.int 3)) maNil))))) (tOr2 (tNot2 (bT (mCall f_is_share (maCons (mIx (mVar 0) (mKon (.int 0))) maNil)))) (tNot2 (bT (mCall f_is_between (maCons (mIx (mVar 0) (mKon (.int 1))) (maCons (mKon (.int 1)) (maCons (mKon k_MOST_PAYS) maNil))))))))
    (mRet (mKon (.bool false)))
    mNil)
    (mSeq (mSet 1 (mIx (mVar 0) (mKon (.int 2))))
    (mSeq (mIfS (tOr2 (tNot2 (bT (m1 (fIsi "tuple") (mVar 1)))) (tNot2 (bT (mCall f_is_between (maCons (mA fLen (maCons (mVar 1) maNil)) (maCons (mKon (.int 1)) (maCons (mKon k_MOST_STANDS) maNil)))))))
    (mRet (mKon (.bool false)))
    mNil)
    (mRet (mA fAll (maCons (mLc (mSeqI (mVar 1)) [2] (gN 2) mYes (mCall f_is_stand (maCons (mVar 2) (maCons (mIx (mVar 0) (mKon (.int 1))) (maCons (mA fLen (maCons (mVar 1) maNil)) maNil))))) maNil))))))
noncomputable def f_is_house_by : Fx := run' 1 3 m_is_house_by
noncomputable def m_check_house : Ms :=
  (mIfS (tNot2 (bT (mCall f_is_house_by (maCons (mVar 0) maNil))))
    mNever
    mNil)
noncomputable def f_check_house : Fx := run' 1 1 m_check_house
noncomputable def m_check_start : Ms :=
  (mSeq (mIfS (tNot2 (bT (mCall f_is_tuple_of (maCons (mVar 1) (maCons (mA fLen (maCons (mIx (mVar 0) (mKon (.int 2))) maNil)) maNil)))))
    mNever
    mNil)
    (mSeq (mFor (mArgI enum1 (maCons (mVar 1) maNil)) (gT 2 (gsCons (gN 2) (gsCons (gN 3) gsNil)))
    (mIfS (tOr2 (tNot2 (bT (mCall f_is_ratio (maCons (mVar 3) maNil)))) (bT (m2 (fI gLt) (mIx (mVar 3) (mKon (.int 0))) (mKon (.int 0)))))
    mNever
    mNil))
    (mIfS (bT (m2 (fEq true) (mCall f_total (maCons (mVar 1) maNil)) (mKon k_ONE)))
    mNever
    mNil)))
noncomputable def f_check_start : Fx := run' 2 4 m_check_start
noncomputable def m_is_memory : Ms :=
  (mSeq (mIfS (tOr2 (tNot2 (bT (m1 (fIsi "tuple") (mVar 1)))) (tOr2 (tNot2 (bT (mChain gLe gLe (mKon (.int 1)) (mA fLen (maCons (mVar 1) maNil)) (mKon k_MOST_MEMORY)))) (bT (m2 (fEq false) (m2 (fI gMod) (mA fLen (maCons (mVar 1) maNil)) (mKon (.int 2))) (mKon (.int 0))))))
    (mRet (mKon (.bool false)))
    mNil)
    (mSeq (mIfS (tNot2 (bT (mCall f_is_between (maCons (mIx (mVar 1) (mKon (.int 0))) (maCons (mKon (.int 0)) (maCons (m2 (fI gMns) (mA fLen (maCons (mIx (mVar 0) (mKon (.int 2))) maNil)) (mKon (.int 1))) maNil))))))
    (mRet (mKon (.bool false)))
    mNil)
    (mSeq (mFor (mArgI range3 (maCons (mKon (.int 1)) (maCons (mA fLen (maCons (mVar 1) maNil)) (maCons (mKon (.int 2)) maNil)))) (gN 2)
    (mSeq (mSet 3 (mIx (mIx (mVar 0) (mKon (.int 2))) (mIx (mVar 1) (m2 (fI gMns) (mVar 2) (mKon (.int 1))))))
    (mSeq (mIfS (tOr2 (tNot2 (bT (mCall f_is_between (maCons (mIx (mVar 1) (mVar 2)) (maCons (mKon (.int 0)) (maCons (m2 (fI gMns) (mA fLen (maCons (mVar 3) maNil)) (mKon (.int 1))) maNil)))))) (tNot2 (bT (mCall f_is_between (maCons (mIx (mVar 1) (m2 fAdd (mVar 2) (mKon (.int 1)))) (maCons (mKon (.int 0)) (maCons (m2 (fI gMns) (mA fLen (maCons (mIx (mVar 0) (mKon (.int 2))) maNil)) (mKon (.int 1))) maNil)))))))
    (mRet (mKon (.bool false)))
    mNil)
    (mIfS (bT (m2 (fIn true) (mIx (mVar 1) (m2 fAdd (mVar 2) (mKon (.int 1)))) (mLc (mSeqI (mIx (mIx (mVar 3) (mIx (mVar 1) (mVar 2))) (mKon (.int 0)))) [4, 5] (gT 2 (gsCons (gN 4) (gsCons (gN 5) gsNil))) mYes (mVar 4))))
    (mRet (mKon (.bool false)))
    mNil))))
    (mRet (mKon (.bool true))))))
noncomputable def f_is_memory : Fx := run' 2 6 m_is_memory
noncomputable def m_is_told_by : Ms :=
  (mSeq (mIfS (tOr2 (tNot2 (bT (mCall f_is_tuple_of (maCons (mVar 1) (maCons (mKon (.int 2)) maNil))))) (tOr2 (tNot2 (bT (m1 (fIsi "tuple") (mIx (mVar 1) (mKon (.int 0)))))) (bT (m2 (fI gGt) (mA fLen (maCons (mIx (mVar 1) (mKon (.int 0))) maNil)) (mKon k_MOST_LISTS)))))
    (mRet (mKon (.bool false)))
    mNil)
    (mSeq (mIfS (tNot2 (bT (mA fAll (maCons (mLc (mSeqI (mIx (mVar 1) (mKon (.int 0)))) [2] (gN 2) mYes (mAnd (mCall f_is_tuple_of (maCons (mVar 2) (maCons (mKon (.int 2)) maNil))) (mCall f_is_memory (maCons (mVar 0) (maCons (mIx (mVar 2) (mKon (.int 0))) maNil))))) maNil))))
    (mRet (mKon (.bool false)))
    mNil)
    (mSeq (mIfS (tNot2 (bT (mA fAll (maCons (mLc (mArgI zipQ2 (maCons (mIx (mVar 1) (mKon (.int 0))) (maCons (mSl (mIx (mVar 1) (mKon (.int 0))) (moSome (mKon (.int 1))) moNone) maNil))) [3, 4] (gT 2 (gsCons (gN 3) (gsCons (gN 4) gsNil))) mYes (m2 fLtT (mIx (mVar 3) (mKon (.int 0))) (mIx (mVar 4) (mKon (.int 0))))) maNil))))
    (mRet (mKon (.bool false)))
    mNil)
    (mSeq (mIfS (tNot2 (bT (mA fAll (maCons (mLc (mSeqI (mIx (mVar 1) (mKon (.int 0)))) [5, 6] (gT 2 (gsCons (gN 5) (gsCons (gN 6) gsNil))) mYes (mCall f_is_chance_row (maCons (mVar 6) (maCons (mA fLen (maCons (mIx (mIx (mVar 0) (mKon (.int 2))) (mIx (mVar 5) (m1 fNeg (mKon (.int 1))))) maNil)) maNil)))) maNil))))
    (mRet (mKon (.bool false)))
    mNil)
    (mRet (mCall f_is_still_by (maCons (mVar 0) (maCons (mIx (mVar 1) (mKon (.int 1))) maNil))))))))
noncomputable def f_is_told_by : Fx := run' 2 7 m_is_told_by
noncomputable def m_is_player_by : Ms :=
  (mSeq (mIfS (tOr2 (tNot2 (bT (mCall f_is_tuple_of (maCons (mVar 1) (maCons (mKon (.int 2)) maNil))))) (tNot2 (bT (m1 (fIsi "str") (mIx (mVar 1) (mKon (.int 0)))))))
    (mRet (mKon (.bool false)))
    mNil)
    (mSeq (mIfS (bT (m2 (fEq false) (mIx (mVar 1) (mKon (.int 0))) (mKon (.str (Str.ofString "still")))))
    (mRet (mCall f_is_still_by (maCons (mVar 0) (maCons (mIx (mVar 1) (mKon (.int 1))) maNil))))
    mNil)
    (mSeq (mIfS (bT (m2 (fEq false) (mIx (mVar 1) (mKon (.int 0))) (mKon (.str (Str.ofString "minded")))))
    (mRet (mCall f_is_minded_by (maCons (mVar 0) (maCons (mIx (mVar 1) (mKon (.int 1))) maNil))))
    mNil)
    (mRet (mAnd (m2 (fEq false) (mIx (mVar 1) (mKon (.int 0))) (mKon (.str (Str.ofString "told")))) (mCall f_is_told_by (maCons (mVar 0) (maCons (mIx (mVar 1) (mKon (.int 1))) maNil))))))))
noncomputable def f_is_player_by : Fx := run' 2 2 m_is_player_by
noncomputable def m_kept_of : Ms :=
  (mSeq (mIfS (bT (mA fAny (maCons (mLc (mSeqI (mIx (mVar 0) (mKon (.int 0)))) [2, 3] (gT 2 (gsCons (gN 2) (gsCons (gN 3) gsNil))) mYes (m2 (fEq false) (mSl (mVar 2) moNone (moSome (mA fLen (maCons (mVar 1) maNil)))) (mVar 1))) maNil)))
    (mRetV 1)
    mNil)
    (mRet (mKon .none)))
noncomputable def f_kept_of : Fx := run' 2 4 m_kept_of
noncomputable def m_first_kept : Ms :=
  (mSeq (mIfS (bT (m2 (fEq false) (mIx (mVar 0) (mKon (.int 0))) (mKon (.str (Str.ofString "still")))))
    (mRet (mKon .none))
    mNil)
    (mRet (mIf (bT (m2 (fEq false) (mIx (mVar 0) (mKon (.int 0))) (mKon (.str (Str.ofString "minded"))))) (mKon (.int 0)) (mCall f_kept_of (maCons (mIx (mVar 0) (mKon (.int 1))) (maCons (mA fTup (maCons (mVar 1) maNil)) maNil))))))
noncomputable def f_first_kept : Fx := run' 2 2 m_first_kept
noncomputable def m_next_kept : Ms :=
  (mSeq (mIfS (bT (m2 (fEq false) (mIx (mVar 0) (mKon (.int 0))) (mKon (.str (Str.ofString "minded")))))
    (mRet (mIx (mIx (mIx (mIx (mIx (mVar 0) (mKon (.int 1))) (mKon (.int 2))) (mVar 1)) (mVar 2)) (mVar 4)))
    mNil)
    (mRet (mIf (bT (m2 (fIs false) (mVar 4) (mKon .none))) (mKon .none) (mCall f_kept_of (maCons (mIx (mVar 0) (mKon (.int 1))) (maCons (m2 fAdd (mVar 4) (mA fTup (maCons (mVar 2) (maCons (mVar 3) maNil)))) maNil))))))
noncomputable def f_next_kept : Fx := run' 5 5 m_next_kept
noncomputable def m_odds_at : Ms :=
  (mSeq (mIfS (bT (m2 (fEq false) (mIx (mVar 0) (mKon (.int 0))) (mKon (.str (Str.ofString "still")))))
    (mRet (mIx (mIx (mVar 0) (mKon (.int 1))) (mVar 1)))
    mNil)
    (mSeq (mIfS (bT (m2 (fEq false) (mIx (mVar 0) (mKon (.int 0))) (mKon (.str (Str.ofString "minded")))))
    (mRet (mIx (mIx (mIx (mIx (mVar 0) (mKon (.int 1))) (mKon (.int 1))) (mVar 1)) (mVar 2)))
    mNil)
    (mSeq (mFor (mSeqI (mIx (mIx (mVar 0) (mKon (.int 1))) (mKon (.int 0)))) (gT 2 (gsCons (gN 3) (gsCons (gN 4) gsNil)))
    (mIfS (bT (m2 (fEq false) (mVar 3) (mVar 2)))
    (mRetV 4)
    mNil))
    (mRet (mIx (mIx (mIx (mVar 0) (mKon (.int 1))) (mKon (.int 1))) (mVar 1))))))
noncomputable def f_odds_at : Fx := run' 3 5 m_odds_at
noncomputable def m_check_player : Ms :=
  (mSeq (mDrop (mCall f_check_house (maCons (mVar 0) maNil)))
    (mSeq (mDrop (mCall f_check_start (maCons (mVar 0) (maCons (mVar 1) maNil))))
    (mIfS (tNot2 (bT (mCall f_is_player_by (maCons (mVar 0) (maCons (mVar 2) maNil)))))
    mNever
    mNil)))
noncomputable def f_check_player : Fx := run' 3 3 m_check_player
noncomputable def m_is_die : Ms :=
  (mRet (mAnd (mCall f_is_ratio (maCons (mVar 0) maNil)) (mChain gLe gLt (mKon (.int 0)) (mIx (mVar 0) (mKon (.int 0))) (mIx (mVar 0) (mKon (.int 1))))))
noncomputable def f_is_die : Fx := run' 1 1 m_is_die
noncomputable def m_is_step : Ms :=
  (mSeq (mIfS (tOr2 (tNot2 (bT (mCall f_is_tuple_of (maCons (mVar 1) (maCons (mKon (.int 3)) maNil))))) (tNot2 (bT (mCall f_is_between (maCons (mIx (mVar 1) (mKon (.int 0))) (maCons (mKon (.int 0)) (maCons (m2 (fI gMns) (mA fLen (maCons (mIx (mVar 0) (mKon (.int 2))) maNil)) (mKon (.int 1))) maNil)))))))
    (mRet (mKon (.bool false)))
    mNil)
    (mSeq (mSet 2 (mIx (mIx (mVar 0) (mKon (.int 2))) (mIx (mVar 1) (mKon (.int 0)))))
    (mSeq (mIfS (tOr2 (tNot2 (bT (mCall f_is_between (maCons (mIx (mVar 1) (mKon (.int 1))) (maCons (mKon (.int 0)) (maCons (m2 (fI gMns) (mA fLen (maCons (mVar 2) maNil)) (mKon (.int 1))) maNil)))))) (tNot2 (bT (mCall f_is_between (maCons (mIx (mVar 1) (mKon (.int 2))) (maCons (mKon (.int 0)) (maCons (m2 (fI gMns) (mA fLen (maCons (mIx (mVar 0) (mKon (.int 2))) maNil)) (mKon (.int 1))) maNil)))))))
    (mRet (mKon (.bool false)))
    mNil)
    (mRet (m2 (fIn false) (mIx (mVar 1) (mKon (.int 2))) (mLc (mSeqI (mIx (mIx (mVar 2) (mIx (mVar 1) (mKon (.int 1)))) (mKon (.int 0)))) [3, 4] (gT 2 (gsCons (gN 3) (gsCons (gN 4) gsNil))) mYes (mVar 3)))))))
noncomputable def f_is_step : Fx := run' 2 5 m_is_step
noncomputable def m_wrong_steps : Ms :=
  (mSeq (mSet 2 (mA fLst maNil))
    (mSeq (mFor (mArgI enum1 (maCons (mVar 1) maNil)) (gT 2 (gsCons (gN 3) (gsCons (gN 4) gsNil)))
    (mIfS (tOr2 (tNot2 (bT (mCall f_is_step (maCons (mVar 0) (maCons (mVar 4) maNil))))) (tAnd2 (bT (m2 (fI gGt) (mVar 3) (mKon (.int 0)))) (tAnd2 (bT (m2 (fEqN false) (mVar 2) (mA fLst maNil))) (bT (m2 (fEq true) (mIx (mIx (mVar 1) (m2 (fI gMns) (mVar 3) (mKon (.int 1)))) (mKon (.int 2))) (mIx (mVar 4) (mKon (.int 0))))))))
    (mApp 2 (mVar 3))
    mNil))
    (mRetV 2)))
noncomputable def f_wrong_steps : Fx := run' 2 5 m_wrong_steps
noncomputable def m_picked : Ms :=
  (mSeq (mSet 2 (mKon k_ZERO))
    (mSeq (mFor (mArgI enum1 (maCons (mVar 0) maNil)) (gT 2 (gsCons (gN 3) (gsCons (gN 4) gsNil)))
    (mSeq (mSet 2 (mCall f_plus (maCons (mVar 2) (maCons (mVar 4) maNil))))
    (mIfS (bT (mCall f_is_less (maCons (mVar 1) (maCons (mVar 2) maNil))))
    (mRetV 3)
    mNil)))
    (mRet (m2 (fI gMns) (mA fLen (maCons (mVar 0) maNil)) (mKon (.int 1))))))
noncomputable def f_picked : Fx := run' 2 5 m_picked
noncomputable def m_run_by : Ms :=
  (mSeq (mSet 4 (mCall f_picked (maCons (mVar 1) (maCons (mIx (mVar 3) (mKon (.int 0))) maNil))))
    (mSeq (mPar 5 6 (maCons (mCall f_first_kept (maCons (mVar 2) (maCons (mVar 4) maNil))) (maCons (mA fLst maNil) maNil)))
    (mSeq (mFor (mArgI range3 (maCons (mKon (.int 1)) (maCons (mA fLen (maCons (mVar 3) maNil)) (maCons (mKon (.int 2)) maNil)))) (gN 7)
    (mSeq (mSet 8 (mCall f_picked (maCons (mCall f_odds_at (maCons (mVar 2) (maCons (mVar 4) (maCons (mVar 5) maNil)))) (maCons (mIx (mVar 3) (mVar 7)) maNil))))
    (mSeq (mSet 9 (mIx (mIx (mIx (mIx (mVar 0) (mKon (.int 2))) (mVar 4)) (mVar 8)) (mKon (.int 0))))
    (mSeq (mSet 10 (mIx (mIx (mVar 9) (mCall f_picked (maCons (mLc (mSeqI (mVar 9)) [11, 12] (gT 2 (gsCons (gN 11) (gsCons (gN 12) gsNil))) mYes (mVar 12)) (maCons (mIx (mVar 3) (m2 fAdd (mVar 7) (mKon (.int 1)))) maNil)))) (mKon (.int 0))))
    (mSeq (mApp 6 (mA fTup (maCons (mVar 4) (maCons (mVar 8) (maCons (mVar 10) maNil)))))
    (mPar 4 5 (maCons (mVar 10) (maCons (mCall f_next_kept (maCons (mVar 2) (maCons (mVar 4) (maCons (mVar 8) (maCons (mVar 10) (maCons (mVar 5) maNil)))))) maNil))))))))
    (mRet (mA fTupOf (maCons (mVar 6) maNil))))))
noncomputable def f_run_by : Fx := run' 4 13 m_run_by
noncomputable def m_stretch_of : Ms :=
  (mSeq (mSet 2 (mCall f_total (maCons (mSl (mVar 0) moNone (moSome (mVar 1))) maNil)))
    (mRet (mA fTup (maCons (mVar 2) (maCons (mCall f_plus (maCons (mVar 2) (maCons (mIx (mVar 0) (mVar 1)) maNil))) maNil)))))
noncomputable def f_stretch_of : Fx := run' 2 3 m_stretch_of
noncomputable def m_box_by : Ms :=
  (mSeq (mIfS (bT (m2 (fEqE false) (mVar 3) (mA fTup maNil)))
    (mRet (mA fTup (maCons (mA fTup (maCons (mKon k_ZERO) (maCons (mKon k_ONE) maNil))) maNil)))
    mNil)
    (mSeq (mPar 4 5 (maCons (mA fLst (maCons (mCall f_stretch_of (maCons (mVar 1) (maCons (mIx (mIx (mVar 3) (mKon (.int 0))) (mKon (.int 0))) maNil))) maNil)) (maCons (mCall f_first_kept (maCons (mVar 2) (maCons (mIx (mIx (mVar 3) (mKon (.int 0))) (mKon (.int 0))) maNil))) maNil)))
    (mSeq (mFor (mSeqI (mVar 3)) (gT 3 (gsCons (gN 6) (gsCons (gN 7) (gsCons (gN 8) gsNil))))
    (mSeq (mSet 9 (mIx (mIx (mIx (mIx (mVar 0) (mKon (.int 2))) (mVar 6)) (mVar 7)) (mKon (.int 0))))
    (mSeq (mApp 4 (mCall f_stretch_of (maCons (mCall f_odds_at (maCons (mVar 2) (maCons (mVar 6) (maCons (mVar 5) maNil)))) (maCons (mVar 7) maNil))))
    (mSeq (mApp 4 (mCall f_stretch_of (maCons (mLc (mSeqI (mVar 9)) [10, 11] (gT 2 (gsCons (gN 10) (gsCons (gN 11) gsNil))) mYes (mVar 11)) (maCons (m2 fIdxL (mLc (mSeqI (mVar 9)) [12, 10] (gT 2 (gsCons (gN 12) (gsCons (gN 10) gsNil))) mYes (mVar 12)) (mVar 8)) maNil))))
    (mSet 5 (mCall f_next_kept (maCons (mVar 2) (maCons (mVar 6) (maCons (mVar 7) (maCons (mVar 8) (maCons (mVar 5) maNil)))))))))))
    (mRet (mA fTupOf (maCons (mVar 4) maNil))))))
noncomputable def f_box_by : Fx := run' 4 13 m_box_by
noncomputable def m_chance_by : Ms :=
  (mSeq (mIfS (bT (m2 (fEqE false) (mVar 3) (mA fTup maNil)))
    (mRet (mKon k_ONE))
    mNil)
    (mSeq (mPar 4 5 (maCons (mIx (mVar 1) (mIx (mIx (mVar 3) (mKon (.int 0))) (mKon (.int 0)))) (maCons (mCall f_first_kept (maCons (mVar 2) (maCons (mIx (mIx (mVar 3) (mKon (.int 0))) (mKon (.int 0))) maNil))) maNil)))
    (mSeq (mFor (mSeqI (mVar 3)) (gT 3 (gsCons (gN 6) (gsCons (gN 7) (gsCons (gN 8) gsNil))))
    (mSeq (mSet 9 (mA fDictP (maCons (mIx (mIx (mIx (mIx (mVar 0) (mKon (.int 2))) (mVar 6)) (mVar 7)) (mKon (.int 0))) maNil)))
    (mSeq (mSet 4 (mCall f_times (maCons (mVar 4) (maCons (mCall f_times (maCons (mIx (mCall f_odds_at (maCons (mVar 2) (maCons (mVar 6) (maCons (mVar 5) maNil)))) (mVar 7)) (maCons (m2 fIxM (mVar 9) (mVar 8)) maNil))) maNil))))
    (mSet 5 (mCall f_next_kept (maCons (mVar 2) (maCons (mVar 6) (maCons (mVar 7) (maCons (mVar 8) (maCons (mVar 5) maNil))))))))))
    (mRetV 4))))
noncomputable def f_chance_by : Fx := run' 4 10 m_chance_by
noncomputable def m_check_dice : Ms :=
  (mSeq (mIfS (tOr2 (tNot2 (bT (m1 (fIsi "tuple") (mVar 0)))) (tOr2 (bT (m2 (fI gGt) (mA fLen (maCons (mVar 0) maNil)) (mKon k_MOST_DICE))) (bT (m2 (fEq false) (m2 (fI gMod) (mA fLen (maCons (mVar 0) maNil)) (mKon (.int 2))) (mKon (.int 0))))))
    mNever
    mNil)
    (mFor (mArgI enum1 (maCons (mVar 0) maNil)) (gT 2 (gsCons (gN 1) (gsCons (gN 2) gsNil)))
    (mIfS (tNot2 (bT (mCall f_is_die (maCons (mVar 2) maNil))))
    mNever
    mNil)))
noncomputable def f_check_dice : Fx := run' 1 3 m_check_dice
noncomputable def m_check_way : Ms :=
  (mSeq (mIfS (tOr2 (tNot2 (bT (m1 (fIsi "tuple") (mVar 1)))) (bT (m2 (fI gGt) (mA fLen (maCons (mVar 1) maNil)) (mKon k_MOST_WAY))))
    mNever
    mNil)
    (mFor (mSeqI (mCall f_wrong_steps (maCons (mVar 0) (maCons (mVar 1) maNil)))) (gN 2)
    mNever))
noncomputable def f_check_way : Fx := run' 2 3 m_check_way
noncomputable def m_run : Ms :=
  (mSeq (mDrop (mCall f_check_player (maCons (mVar 0) (maCons (mVar 1) (maCons (mVar 2) maNil)))))
    (mSeq (mDrop (mCall f_check_dice (maCons (mVar 3) maNil)))
    (mRet (mCall f_run_by (maCons (mVar 0) (maCons (mVar 1) (maCons (mVar 2) (maCons (mVar 3) maNil))))))))
noncomputable def f_run : Fx := run' 4 4 m_run
noncomputable def m_way_chance : Ms :=
  (mSeq (mDrop (mCall f_check_player (maCons (mVar 0) (maCons (mVar 1) (maCons (mVar 2) maNil)))))
    (mSeq (mDrop (mCall f_check_way (maCons (mVar 0) (maCons (mVar 3) maNil))))
    (mRet (mCall f_chance_by (maCons (mVar 0) (maCons (mVar 1) (maCons (mVar 2) (maCons (mVar 3) maNil))))))))
noncomputable def f_way_chance : Fx := run' 4 4 m_way_chance
noncomputable def m_box_of : Ms :=
  (mSeq (mDrop (mCall f_check_player (maCons (mVar 0) (maCons (mVar 1) (maCons (mVar 2) maNil)))))
    (mSeq (mDrop (mCall f_check_way (maCons (mVar 0) (maCons (mVar 3) maNil))))
    (mSeq (mIfS (bT (m2 (fEq false) (mCall f_chance_by (maCons (mVar 0) (maCons (mVar 1) (maCons (mVar 2) (maCons (mVar 3) maNil))))) (mKon k_ZERO)))
    (mRet (mKon .none))
    mNil)
    (mRet (mCall f_box_by (maCons (mVar 0) (maCons (mVar 1) (maCons (mVar 2) (maCons (mVar 3) maNil)))))))))
noncomputable def f_box_of : Fx := run' 4 4 m_box_of
noncomputable def m_law_urn : Ms :=
  (mSeq (mSet 2 (m2 fAdd (mKon (.int 9683)) (m2 fMul (mKon (.int 331)) (mVar 1))))
    (mSeq (mFor (mSeqI (mSl (mVar 0) moNone (moSome (mKon (.int 10))))) (gN 3)
    (mSet 2 (m2 (fI gMod) (mA fInt (maCons (m2 fAdd (m2 fAdd (m2 fMul (mVar 2) (mKon (.int 52361))) (m2 (fI gMod) (mA fInt (maCons (mVar 3) maNil)) (mKon (.int 2147483629)))) (mKon (.int 17))) maNil)) (mKon (.int 2147483587)))))
    (mSeq (mSet 4 (mIf (bT (m2 (fI gLt) (mVar 1) (mA fLen (maCons (mVar 0) maNil)))) (mA fInt (maCons (mIx (mVar 0) (mVar 1)) maNil)) (mKon (.int 0))))
    (mRet (mA fLst (maCons (mIf (tOr2 (bT (m2 (fI gLt) (mVar 4) (mKon (.int 0)))) (bT (m2 (fI gGe) (mVar 4) (m2 (fI gPow) (mKon (.int 10)) (mKon (.int 16)))))) (mA fAbs (maCons (mVar 4) maNil)) (mKon (.int 0))) (maCons (mVar 2) (maCons (mKon (.int 0)) maNil))))))))
noncomputable def f_law_urn : Fx := run' 2 5 m_law_urn
noncomputable def m_law_draw : Ms :=
  (mSeq (mIfS (bT (m2 (fI gGt) (mIx (mVar 0) (mKon (.int 0))) (mKon (.int 0))))
    (mSeq (mPair 0 (mKon (.int 0)) 2 (mA fDivmod (maCons (mIx (mVar 0) (mKon (.int 0))) (maCons (mVar 1) maNil))))
    (mRetV 2))
    mNil)
    (mSeq (mPut 0 (mKon (.int 2)) (m2 fAdd (mIx (mVar 0) (mKon (.int 2))) (mKon (.int 1))))
    (mSeq (mSet 3 (m2 (fI gMod) (mA fInt (maCons (m2 fAdd (m2 fAdd (m2 fMul (mIx (mVar 0) (mKon (.int 1))) (mKon (.int 48271))) (m2 fMul (mIx (mVar 0) (mKon (.int 2))) (mKon (.int 69621)))) (mKon (.int 11))) maNil)) (mKon (.int 2147483587))))
    (mSeq (mPut 0 (mKon (.int 1)) (mVar 3))
    (mRet (m2 (fI gMod) (mA fInt (maCons (m2 (fI gFdiv) (mA fInt (maCons (m2 fMul (mVar 3) (m2 fAdd (m2 (fI gMod) (mA fInt (maCons (mVar 3) maNil)) (mKon (.int 8191))) (mKon (.int 30029)))) maNil)) (mKon (.int 4099))) maNil)) (mVar 1)))))))
noncomputable def f_law_draw : Fx := run' 2 4 m_law_draw
noncomputable def m_law_pick : Ms :=
  (mRet (mIx (mVar 1) (mCall f_law_draw (maCons (mVar 0) (maCons (mA fLen (maCons (mVar 1) maNil)) maNil)))))
noncomputable def f_law_pick : Fx := run' 2 2 m_law_pick
noncomputable def m_law_cut : Ms :=
  (mSeq (mPar 2 3 (maCons (mA fAbs (maCons (mVar 0) maNil)) (maCons (mVar 1) maNil)))
    (mSeq (mWhile (bT (m2 (fI gGt) (mVar 3) (mKon (.int 0))))
    (mPar 2 3 (maCons (mVar 3) (maCons (m2 (fI gMod) (mA fInt (maCons (mVar 2) maNil)) (mVar 3)) maNil))))
    (mRet (mA fTup (maCons (m2 (fI gFdiv) (mVar 0) (mVar 2)) (maCons (m2 (fI gFdiv) (mVar 1) (mVar 2)) maNil))))))
noncomputable def f_law_cut : Fx := run' 2 4 m_law_cut
noncomputable def m_law_plus : Ms :=
  (mRet (mCall f_law_cut (maCons (m2 fAdd (m2 fMul (mIx (mVar 0) (mKon (.int 0))) (mIx (mVar 1) (mKon (.int 1)))) (m2 fMul (mIx (mVar 1) (mKon (.int 0))) (mIx (mVar 0) (mKon (.int 1))))) (maCons (m2 fMul (mIx (mVar 0) (mKon (.int 1))) (mIx (mVar 1) (mKon (.int 1)))) maNil))))
noncomputable def f_law_plus : Fx := run' 2 2 m_law_plus
noncomputable def m_law_times : Ms :=
  (mRet (mCall f_law_cut (maCons (m2 fMul (mIx (mVar 0) (mKon (.int 0))) (mIx (mVar 1) (mKon (.int 0)))) (maCons (m2 fMul (mIx (mVar 0) (mKon (.int 1))) (mIx (mVar 1) (mKon (.int 1)))) maNil))))
noncomputable def f_law_times : Fx := run' 2 2 m_law_times
noncomputable def m_law_less : Ms :=
  (mRet (mCall f_law_cut (maCons (m2 (fI gMns) (m2 fMul (mIx (mVar 0) (mKon (.int 0))) (mIx (mVar 1) (mKon (.int 1)))) (m2 fMul (mIx (mVar 1) (mKon (.int 0))) (mIx (mVar 0) (mKon (.int 1))))) (maCons (m2 fMul (mIx (mVar 0) (mKon (.int 1))) (mIx (mVar 1) (mKon (.int 1)))) maNil))))
noncomputable def f_law_less : Fx := run' 2 2 m_law_less
noncomputable def m_law_is_under : Ms :=
  (mRet (m2 (fI gLt) (m2 fMul (mIx (mVar 0) (mKon (.int 0))) (mIx (mVar 1) (mKon (.int 1)))) (m2 fMul (mIx (mVar 1) (mKon (.int 0))) (mIx (mVar 0) (mKon (.int 1))))))
noncomputable def f_law_is_under : Fx := run' 2 2 m_law_is_under
noncomputable def m_law_odds : Ms :=
  (mSeq (mSet 2 (mA fLst maNil))
    (mSeq (mFor (mArgI range1 (maCons (mVar 1) maNil)) (gN 3)
    (mApp 2 (mCall f_law_pick (maCons (mVar 0) (maCons (mA fLst (maCons (mKon (.int 0)) (maCons (mKon (.int 0)) (maCons (mKon (.int 1)) (maCons (mKon (.int 1)) (maCons (mKon (.int 1)) (maCons (mKon (.int 2)) (maCons (mKon (.int 3)) maNil)))))))) maNil)))))
    (mSeq (mIfS (bT (m2 (fEq false) (mA fSum (maCons (mVar 2) maNil)) (mKon (.int 0))))
    (mPut 2 (mCall f_law_draw (maCons (mVar 0) (maCons (mVar 1) maNil))) (mKon (.int 1)))
    mNil)
    (mSeq (mSet 4 (mA fSum (maCons (mVar 2) maNil)))
    (mFrz [2] (mRet (mA fTupOf (maCons (mLc (mSeqI (mVar 2)) [5] (gN 5) mYes (mCall f_law_cut (maCons (mVar 5) (maCons (mVar 4) maNil)))) maNil))))))))
noncomputable def f_law_odds : Fx := run' 2 6 m_law_odds
noncomputable def m_law_hall : Ms :=
  (mSeq (mPar 3 4 (maCons (m2 fAdd (mKon (.int 1)) (mCall f_law_draw (maCons (mVar 0) (maCons (mVar 1) maNil)))) (maCons (mA fLst maNil) maNil)))
    (mSeq (mFor (mArgI range1 (maCons (mVar 3) maNil)) (gN 5)
    (mSeq (mSet 6 (mA fLst maNil))
    (mSeq (mFor (mArgI range1 (maCons (mCall f_law_pick (maCons (mVar 0) (maCons (mA fLst (maCons (mKon (.int 1)) (maCons (mKon (.int 2)) (maCons (mKon (.int 2)) (maCons (mKon (.int 3)) maNil))))) maNil))) maNil)) (gN 7)
    (mSeq (mPar2g 8 9 (maCons (mCall f_law_odds (maCons (mVar 0) (maCons (mVar 3) maNil))) (maCons (mA fLst maNil) maNil)))
    (mSeq (mFor (mArgI range1 (maCons (mVar 2) maNil)) (gN 10)
    (mApp 9 (mCall f_law_cut (maCons (m2 (fI gMns) (mCall f_law_draw (maCons (mVar 0) (maCons (mKon (.int 11)) maNil))) (mKon (.int 4))) (maCons (mCall f_law_pick (maCons (mVar 0) (maCons (mA fLst (maCons (mKon (.int 1)) (maCons (mKon (.int 1)) (maCons (mKon (.int 2)) maNil)))) maNil))) maNil)))))
    (mApp 6 (mA fTup (maCons (mA fTupOf (maCons (mLc (mArgI range1 (maCons (mVar 3) maNil)) [11] (gN 11) (bT (m2 (fI gGt) (mIx (mIx (mVar 8) (mVar 11)) (mKon (.int 0))) (mKon (.int 0)))) (mA fTup (maCons (mVar 11) (maCons (mIx (mVar 8) (mVar 11)) maNil)))) maNil)) (maCons (mA fTupOf (maCons (mVar 9) maNil)) maNil)))))))
    (mApp 4 (mA fTupOf (maCons (mVar 6) maNil))))))
    (mRet (mA fTup (maCons (mCall f_law_pick (maCons (mVar 0) (maCons (mA fLst (maCons (mA fTup (maCons (mKon (.int 0)) (maCons (mKon (.int 1)) maNil))) (maCons (mA fTup (maCons (mKon (.int 1)) (maCons (mKon (.int 2)) maNil))) (maCons (mA fTup (maCons (mKon (.int 1)) (maCons (mKon (.int 2)) maNil))) (maCons (mA fTup (maCons (mKon (.int 1)) (maCons (mKon (.int 3)) maNil))) (maCons (mA fTup (maCons (mKon (.int 2)) (maCons (mKon (.int 3)) maNil))) (maCons (mA fTup (maCons (mKon (.int 3)) (maCons (mKon (.int 4)) maNil))) maNil))))))) maNil))) (maCons (mVar 2) (maCons (mA fTupOf (maCons (mVar 4) maNil)) maNil)))))))
noncomputable def f_law_hall : Fx := run' 3 12 m_law_hall
noncomputable def m_law_habit : Ms :=
  (mSeq (mSet 2 (mA fLst maNil))
    (mSeq (mFor (mSeqI (mIx (mVar 1) (mKon (.int 2)))) (gN 3)
    (mApp 2 (mCall f_law_odds (maCons (mVar 0) (maCons (mA fLen (maCons (mVar 3) maNil)) maNil)))))
    (mRet (mA fTupOf (maCons (mVar 2) maNil)))))
noncomputable def f_law_habit : Fx := run' 2 4 m_law_habit
noncomputable def m_law_memory : Ms :=
  (mSeq (mSet 2 (mA fTup (maCons (mCall f_law_draw (maCons (mVar 0) (maCons (mA fLen (maCons (mIx (mVar 1) (mKon (.int 2))) maNil)) maNil))) maNil)))
    (mSeq (mFor (mArgI range1 (maCons (mCall f_law_pick (maCons (mVar 0) (maCons (mA fLst (maCons (mKon (.int 0)) (maCons (mKon (.int 0)) (maCons (mKon (.int 1)) (maCons (mKon (.int 1)) (maCons (mKon (.int 2)) (maCons (mKon (.int 3)) (maCons (mKon (.int 4)) maNil)))))))) maNil))) maNil)) (gN 3)
    (mSeq (mSet 4 (mCall f_law_draw (maCons (mVar 0) (maCons (mA fLen (maCons (mIx (mIx (mVar 1) (mKon (.int 2))) (mIx (mVar 2) (m1 fNeg (mKon (.int 1))))) maNil)) maNil))))
    (mSet 2 (m2 fAdd (mVar 2) (mA fTup (maCons (mVar 4) (maCons (mIx (mCall f_law_pick (maCons (mVar 0) (maCons (mIx (mIx (mIx (mIx (mVar 1) (mKon (.int 2))) (mIx (mVar 2) (m1 fNeg (mKon (.int 1))))) (mVar 4)) (mKon (.int 0))) maNil))) (mKon (.int 0))) maNil)))))))
    (mRetV 2)))
noncomputable def f_law_memory : Fx := run' 2 5 m_law_memory
noncomputable def m_law_recalled : Ms :=
  (mSeq (mSet 2 mNewT)
    (mSeq (mFor (mArgI range1 (maCons (mCall f_law_pick (maCons (mVar 0) (maCons (mA fLst (maCons (mKon (.int 0)) (maCons (mKon (.int 1)) (maCons (mKon (.int 2)) (maCons (mKon (.int 3)) (maCons (mKon (.int 4)) maNil)))))) maNil))) maNil)) (gN 3)
    (mSeq (mSet 4 (mCall f_law_memory (maCons (mVar 0) (maCons (mVar 1) maNil))))
    (mPutT 2 (mVar 4) (mCall f_law_odds (maCons (mVar 0) (maCons (mA fLen (maCons (mIx (mIx (mVar 1) (mKon (.int 2))) (mIx (mVar 4) (m1 fNeg (mKon (.int 1))))) maNil)) maNil))))))
    (mRet (mA fTup (maCons (mA fTupOf (maCons (mLc (mSeqI (mA fSortT (maCons (mVar 2) maNil))) [4] (gN 4) mYes (mA fTup (maCons (mVar 4) (maCons (m2 fIxT (mVar 2) (mVar 4)) maNil)))) maNil)) (maCons (mCall f_law_habit (maCons (mVar 0) (maCons (mVar 1) maNil))) maNil))))))
noncomputable def f_law_recalled : Fx := run' 2 5 m_law_recalled
noncomputable def m_law_mindful : Ms :=
  (mSeq (mPar3g 2 3 4 (maCons (m2 fAdd (mKon (.int 1)) (mCall f_law_draw (maCons (mVar 0) (maCons (mKon (.int 3)) maNil)))) (maCons (mA fLst maNil) (maCons (mA fLst maNil) maNil))))
    (mSeq (mFor (mSeqI (mIx (mVar 1) (mKon (.int 2)))) (gN 5)
    (mSeq (mPar2f 6 7 (maCons (mA fLst maNil) (maCons (mA fLst maNil) maNil)))
    (mSeq (mFor (mArgI range1 (maCons (mVar 2) maNil)) (gN 8)
    (mApp 6 (mCall f_law_odds (maCons (mVar 0) (maCons (mA fLen (maCons (mVar 5) maNil)) maNil)))))
    (mSeq (mFor (mSeqI (mVar 5)) (gN 9)
    (mSeq (mSet 10 (mA fLst maNil))
    (mSeq (mFor (mArgI range1 (maCons (mVar 2) maNil)) (gN 8)
    (mApp 10 (mCall f_law_draw (maCons (mVar 0) (maCons (mVar 2) maNil)))))
    (mApp 7 (mA fTupOf (maCons (mVar 10) maNil))))))
    (mSeq (mApp 3 (mA fTupOf (maCons (mVar 6) maNil)))
    (mApp 4 (mA fTupOf (maCons (mVar 7) maNil))))))))
    (mRet (mA fTup (maCons (mVar 2) (maCons (mA fTupOf (maCons (mVar 3) maNil)) (maCons (mA fTupOf (maCons (mVar 4) maNil)) maNil)))))))
noncomputable def f_law_mindful : Fx := run' 2 11 m_law_mindful
noncomputable def m_law_hero : Ms :=
  (mSeq (mSet 2 (mCall f_law_pick (maCons (mVar 0) (maCons (mA fLst (maCons (mKon (.str (Str.ofString "still"))) (maCons (mKon (.str (Str.ofString "minded"))) (maCons (mKon (.str (Str.ofString "minded"))) (maCons (mKon (.str (Str.ofString "told"))) (maCons (mKon (.str (Str.ofString "told"))) (maCons (mKon (.str (Str.ofString "told"))) maNil))))))) maNil))))
    (mSeq (mIfS (bT (m2 (fEq false) (mVar 2) (mKon (.str (Str.ofString "told")))))
    (mRet (mA fTup (maCons (mVar 2) (maCons (mCall f_law_recalled (maCons (mVar 0) (maCons (mVar 1) maNil))) maNil))))
    mNil)
    (mRet (mA fTup (maCons (mVar 2) (maCons (mIf (bT (m2 (fEq false) (mVar 2) (mKon (.str (Str.ofString "still"))))) (mCall f_law_habit (maCons (mVar 0) (maCons (mVar 1) maNil))) (mCall f_law_mindful (maCons (mVar 0) (maCons (mVar 1) maNil)))) maNil))))))
noncomputable def f_law_hero : Fx := run' 2 3 m_law_hero
noncomputable def m_law_first_note : Ms :=
  (mRet (mA fTup (maCons (mVar 1) (maCons (mIf (bT (m2 (fEq true) (mIx (mVar 0) (mKon (.int 0))) (mKon (.str (Str.ofString "told"))))) (mKon (.int 0)) (mA fTup (maCons (mVar 1) maNil))) maNil))))
noncomputable def f_law_first_note : Fx := run' 2 2 m_law_first_note
noncomputable def m_law_next_note : Ms :=
  (mSeq (mIfS (bT (m2 (fEq false) (mIx (mVar 0) (mKon (.int 0))) (mKon (.str (Str.ofString "still")))))
    (mRet (mA fTup (maCons (mVar 3) (maCons (mKon (.int 0)) maNil))))
    mNil)
    (mSeq (mIfS (bT (m2 (fEq false) (mIx (mVar 0) (mKon (.int 0))) (mKon (.str (Str.ofString "minded")))))
    (mRet (mA fTup (maCons (mVar 3) (maCons (mIx (mIx (mIx (mIx (mIx (mVar 0) (mKon (.int 1))) (mKon (.int 2))) (mIx (mVar 1) (mKon (.int 0)))) (mVar 2)) (mIx (mVar 1) (mKon (.int 1)))) maNil))))
    mNil)
    (mSeq (mSet 4 (m2 fAdd (mIx (mVar 1) (mKon (.int 1))) (mA fTup (maCons (mVar 2) (maCons (mVar 3) maNil)))))
    (mSeq (mSet 5 (mLc (mSeqI (mIx (mIx (mVar 0) (mKon (.int 1))) (mKon (.int 0)))) [6] (gN 6) (tAnd2 (bT (m2 (fEqE true) (mIx (mVar 1) (mKon (.int 1))) (mA fTup maNil))) (bT (m2 (fEq false) (mSl (mIx (mVar 6) (mKon (.int 0))) moNone (moSome (mA fLen (maCons (mVar 4) maNil)))) (mVar 4)))) (mVar 6)))
    (mRet (mA fTup (maCons (mVar 3) (maCons (mIf (bT (m2 (fEqN true) (mVar 5) (mA fLst maNil))) (mVar 4) (mA fTup maNil)) maNil))))))))
noncomputable def f_law_next_note : Fx := run' 4 7 m_law_next_note
noncomputable def m_law_note_odds : Ms :=
  (mSeq (mIfS (bT (m2 (fEq false) (mIx (mVar 0) (mKon (.int 0))) (mKon (.str (Str.ofString "still")))))
    (mRet (mIx (mIx (mVar 0) (mKon (.int 1))) (mIx (mVar 1) (mKon (.int 0)))))
    mNil)
    (mSeq (mIfS (bT (m2 (fEq false) (mIx (mVar 0) (mKon (.int 0))) (mKon (.str (Str.ofString "minded")))))
    (mRet (mIx (mIx (mIx (mIx (mVar 0) (mKon (.int 1))) (mKon (.int 1))) (mIx (mVar 1) (mKon (.int 0)))) (mIx (mVar 1) (mKon (.int 1)))))
    mNil)
    (mSeq (mSet 2 (mLc (mSeqI (mIx (mIx (mVar 0) (mKon (.int 1))) (mKon (.int 0)))) [3] (gN 3) (bT (m2 (fEq false) (mIx (mVar 3) (mKon (.int 0))) (mIx (mVar 1) (mKon (.int 1))))) (mIx (mVar 3) (mKon (.int 1)))))
    (mRet (mIf (bT (m2 (fEqN true) (mVar 2) (mA fLst maNil))) (mIx (mVar 2) (mKon (.int 0))) (mIx (mIx (mIx (mVar 0) (mKon (.int 1))) (mKon (.int 1))) (mIx (mVar 1) (mKon (.int 0)))))))))
noncomputable def f_law_note_odds : Fx := run' 2 4 m_law_note_odds
noncomputable def m_law_picked : Ms :=
  (mSeq (mSet 2 (mA fTup (maCons (mKon (.int 0)) (maCons (mKon (.int 1)) maNil))))
    (mSeq (mFor (mArgI range1 (maCons (mA fLen (maCons (mVar 0) maNil)) maNil)) (gN 3)
    (mSeq (mSet 2 (mCall f_law_plus (maCons (mVar 2) (maCons (mIx (mVar 0) (mVar 3)) maNil))))
    (mIfS (bT (mCall f_law_is_under (maCons (mVar 1) (maCons (mVar 2) maNil))))
    (mRetV 3)
    mNil)))
    (mRet (m2 (fI gMns) (mA fLen (maCons (mVar 0) maNil)) (mKon (.int 1))))))
noncomputable def f_law_picked : Fx := run' 2 4 m_law_picked
noncomputable def m_law_stretch : Ms :=
  (mSeq (mSet 2 (mA fTup (maCons (mKon (.int 0)) (maCons (mKon (.int 1)) maNil))))
    (mSeq (mFor (mSeqI (mSl (mVar 0) moNone (moSome (mVar 1)))) (gN 3)
    (mSet 2 (mCall f_law_plus (maCons (mVar 2) (maCons (mVar 3) maNil)))))
    (mRet (mA fTup (maCons (mVar 2) (maCons (mCall f_law_plus (maCons (mVar 2) (maCons (mIx (mVar 0) (mVar 1)) maNil))) maNil))))))
noncomputable def f_law_stretch : Fx := run' 2 4 m_law_stretch
noncomputable def m_law_die : Ms :=
  (mSeq (mSet 2 (mLc (mArgI range1 (maCons (mA fLen (maCons (mVar 1) maNil)) maNil)) [7] (gN 7) (bT (m2 (fI gGt) (mIx (mIx (mVar 1) (mVar 7)) (mKon (.int 0))) (mKon (.int 0)))) (mVar 7)))
    (mSeq (mFrz [2] (mPar 3 4 (maCons (mCall f_law_pick (maCons (mVar 0) (maCons (mVar 2) maNil))) (maCons (mCall f_law_draw (maCons (mVar 0) (maCons (mKon (.int 6)) maNil))) maNil))))
    (mSeq (mSet 5 (mIx (mCall f_law_stretch (maCons (mVar 1) (maCons (mVar 3) maNil))) (mKon (.int 0))))
    (mSeq (mIfS (bT (m2 (fEq false) (mVar 4) (mKon (.int 0))))
    (mRet (mCall f_law_pick (maCons (mVar 0) (maCons (mA fLst (maCons (mA fTup (maCons (mKon (.int 0)) (maCons (mKon (.int 1)) maNil))) (maCons (mA fTup (maCons (mKon (.int 1)) (maCons (mKon (.int 2)) maNil))) (maCons (mA fTup (maCons (mKon (.int 2)) (maCons (mKon (.int 3)) maNil))) (maCons (mA fTup (maCons (mKon (.int 999999)) (maCons (mKon (.int 1000000)) maNil))) (maCons (mCall f_law_cut (maCons (mCall f_law_draw (maCons (mVar 0) (maCons (m2 (fI gPow) (mKon (.int 10)) (mKon (.int 9))) maNil))) (maCons (m2 (fI gPow) (mKon (.int 10)) (mKon (.int 9))) maNil))) maNil)))))) maNil))))
    mNil)
    (mSeq (mSet 6 (mCall f_law_pick (maCons (mVar 0) (maCons (mA fLst (maCons (mA fTup (maCons (mKon (.int 0)) (maCons (mKon (.int 1)) maNil))) (maCons (mA fTup (maCons (mKon (.int 0)) (maCons (mKon (.int 1)) maNil))) (maCons (mA fTup (maCons (mKon (.int 1)) (maCons (mKon (.int 2)) maNil))) (maCons (mA fTup (maCons (mKon (.int 1)) (maCons (mKon (.int 3)) maNil))) (maCons (mA fTup (maCons (m2 (fI gPow) (mKon (.int 10)) (mKon (.int 6))) (maCons (m2 fAdd (m2 (fI gPow) (mKon (.int 10)) (mKon (.int 6))) (mKon (.int 1))) maNil))) (maCons (mA fTup (maCons (m2 (fI gMns) (m2 (fI gPow) (mKon (.int 10)) (mKon (.int 30))) (mKon (.int 1))) (maCons (m2 (fI gPow) (mKon (.int 10)) (mKon (.int 30))) maNil))) maNil))))))) maNil))))
    (mRet (mCall f_law_plus (maCons (mVar 5) (maCons (mCall f_law_times (maCons (mIx (mVar 1) (mVar 3)) (maCons (mVar 6) maNil))) maNil)))))))))
noncomputable def f_law_die : Fx := run' 2 8 m_law_die
noncomputable def m_law_followed : Ms :=
  (mSeq (mPar 4 5 (maCons (mCall f_law_first_note (maCons (mVar 1) (maCons (mCall f_law_picked (maCons (mVar 2) (maCons (mIx (mVar 3) (mKon (.int 0))) maNil))) maNil))) (maCons (mA fLst maNil) maNil)))
    (mSeq (mFor (mArgI range3 (maCons (mKon (.int 1)) (maCons (m2 (fI gMns) (mA fLen (maCons (mVar 3) maNil)) (mKon (.int 1))) (maCons (mKon (.int 2)) maNil)))) (gN 6)
    (mSeq (mSet 7 (mCall f_law_picked (maCons (mCall f_law_note_odds (maCons (mVar 1) (maCons (mVar 4) maNil))) (maCons (mIx (mVar 3) (mVar 6)) maNil))))
    (mSeq (mSet 8 (mIx (mIx (mIx (mIx (mVar 0) (mKon (.int 2))) (mIx (mVar 4) (mKon (.int 0)))) (mVar 7)) (mKon (.int 0))))
    (mSeq (mSet 9 (mIx (mIx (mVar 8) (mCall f_law_picked (maCons (mLc (mSeqI (mVar 8)) [10] (gN 10) mYes (mIx (mVar 10) (mKon (.int 1)))) (maCons (mIx (mVar 3) (m2 fAdd (mVar 6) (mKon (.int 1)))) maNil)))) (mKon (.int 0))))
    (mSeq (mApp 5 (mA fTup (maCons (mIx (mVar 4) (mKon (.int 0))) (maCons (mVar 7) (maCons (mVar 9) maNil)))))
    (mSet 4 (mCall f_law_next_note (maCons (mVar 1) (maCons (mVar 4) (maCons (mVar 7) (maCons (mVar 9) maNil)))))))))))
    (mRet (mA fTupOf (maCons (mVar 5) maNil)))))
noncomputable def f_law_followed : Fx := run' 4 11 m_law_followed
noncomputable def m_law_thrown : Ms :=
  (mSeq (mSet 5 (mA fLst (maCons (mCall f_law_die (maCons (mVar 0) (maCons (mVar 3) maNil))) maNil)))
    (mSeq (mSet 6 (mCall f_law_first_note (maCons (mVar 2) (maCons (mCall f_law_picked (maCons (mVar 3) (maCons (mIx (mVar 5) (mKon (.int 0))) maNil))) maNil))))
    (mSeq (mFor (mArgI range1 (maCons (mVar 4) maNil)) (gN 7)
    (mSeq (mSet 8 (mCall f_law_note_odds (maCons (mVar 2) (maCons (mVar 6) maNil))))
    (mSeq (mSet 9 (mCall f_law_die (maCons (mVar 0) (maCons (mVar 8) maNil))))
    (mSeq (mSet 10 (mCall f_law_picked (maCons (mVar 8) (maCons (mVar 9) maNil))))
    (mSeq (mSet 11 (mIx (mIx (mIx (mIx (mVar 1) (mKon (.int 2))) (mIx (mVar 6) (mKon (.int 0)))) (mVar 10)) (mKon (.int 0))))
    (mSeq (mSet 12 (mLc (mSeqI (mVar 11)) [14] (gN 14) mYes (mIx (mVar 14) (mKon (.int 1)))))
    (mSeq (mFrz [12] (mSet 13 (mCall f_law_die (maCons (mVar 0) (maCons (mVar 12) maNil)))))
    (mSeq (mSet 5 (m2 fAdd (mVar 5) (mA fLst (maCons (mVar 9) (maCons (mVar 13) maNil)))))
    (mFrz [12] (mSet 6 (mCall f_law_next_note (maCons (mVar 2) (maCons (mVar 6) (maCons (mVar 10) (maCons (mIx (mIx (mVar 11) (mCall f_law_picked (maCons (mVar 12) (maCons (mVar 13) maNil)))) (mKon (.int 0))) maNil)))))))))))))))
    (mRet (mA fTupOf (maCons (mVar 5) maNil))))))
noncomputable def f_law_thrown : Fx := run' 5 15 m_law_thrown
noncomputable def m_law_road_box : Ms :=
  (mSeq (mIfS (bT (m2 (fEqE false) (mVar 3) (mA fTup maNil)))
    (mRet (mA fLst (maCons (mA fTup (maCons (mA fTup (maCons (mKon (.int 0)) (maCons (mKon (.int 1)) maNil))) (maCons (mA fTup (maCons (mKon (.int 1)) (maCons (mKon (.int 1)) maNil))) maNil))) maNil)))
    mNil)
    (mSeq (mPar 4 5 (maCons (mCall f_law_first_note (maCons (mVar 1) (maCons (mIx (mIx (mVar 3) (mKon (.int 0))) (mKon (.int 0))) maNil))) (maCons (mA fLst (maCons (mCall f_law_stretch (maCons (mVar 2) (maCons (mIx (mIx (mVar 3) (mKon (.int 0))) (mKon (.int 0))) maNil))) maNil)) maNil)))
    (mSeq (mFor (mSeqI (mVar 3)) (gT 3 (gsCons (gN 6) (gsCons (gN 7) (gsCons (gN 8) gsNil))))
    (mSeq (mApp 5 (mCall f_law_stretch (maCons (mCall f_law_note_odds (maCons (mVar 1) (maCons (mVar 4) maNil))) (maCons (mVar 7) maNil))))
    (mSeq (mSet 9 (mIx (mIx (mIx (mIx (mVar 0) (mKon (.int 2))) (mVar 6)) (mVar 7)) (mKon (.int 0))))
    (mSeq (mApp 5 (mCall f_law_stretch (maCons (mLc (mSeqI (mVar 9)) [10] (gN 10) mYes (mIx (mVar 10) (mKon (.int 1)))) (maCons (m2 fIdxL (mLc (mSeqI (mVar 9)) [10] (gN 10) mYes (mIx (mVar 10) (mKon (.int 0)))) (mVar 8)) maNil))))
    (mSet 4 (mCall f_law_next_note (maCons (mVar 1) (maCons (mVar 4) (maCons (mVar 7) (maCons (mVar 8) maNil))))))))))
    (mRetV 5))))
noncomputable def f_law_road_box : Fx := run' 4 11 m_law_road_box
noncomputable def m_law_volume : Ms :=
  (mSeq (mSet 1 (mA fTup (maCons (mKon (.int 1)) (maCons (mKon (.int 1)) maNil))))
    (mSeq (mFor (mSeqI (mVar 0)) (gT 2 (gsCons (gN 2) (gsCons (gN 3) gsNil)))
    (mSet 1 (mCall f_law_times (maCons (mVar 1) (maCons (mCall f_law_less (maCons (mVar 3) (maCons (mVar 2) maNil))) maNil)))))
    (mRetV 1)))
noncomputable def f_law_volume : Fx := run' 1 4 m_law_volume
noncomputable def m_law_free_road : Ms :=
  (mSeq (mPar 3 4 (maCons (mCall f_law_draw (maCons (mVar 0) (maCons (mA fLen (maCons (mIx (mVar 1) (mKon (.int 2))) maNil)) maNil))) (maCons (mA fLst maNil) maNil)))
    (mSeq (mFor (mArgI range1 (maCons (mVar 2) maNil)) (gN 5)
    (mSeq (mSet 6 (mCall f_law_draw (maCons (mVar 0) (maCons (mA fLen (maCons (mIx (mIx (mVar 1) (mKon (.int 2))) (mVar 3)) maNil)) maNil))))
    (mSeq (mSet 7 (mIx (mCall f_law_pick (maCons (mVar 0) (maCons (mIx (mIx (mIx (mIx (mVar 1) (mKon (.int 2))) (mVar 3)) (mVar 6)) (mKon (.int 0))) maNil))) (mKon (.int 0))))
    (mSeq (mApp 4 (mA fTup (maCons (mVar 3) (maCons (mVar 6) (maCons (mVar 7) maNil)))))
    (mSet 3 (mVar 7))))))
    (mRet (mA fTupOf (maCons (mVar 4) maNil)))))
noncomputable def f_law_free_road : Fx := run' 3 8 m_law_free_road
noncomputable def m_law_within : Ms :=
  (mSeq (mSet 2 (mA fLst maNil))
    (mSeq (mFor (mSeqI (mVar 1)) (gT 2 (gsCons (gN 3) (gsCons (gN 4) gsNil)))
    (mSeq (mSet 5 (mCall f_law_pick (maCons (mVar 0) (maCons (mA fLst (maCons (mA fTup (maCons (mKon (.int 0)) (maCons (mKon (.int 1)) maNil))) (maCons (mA fTup (maCons (mKon (.int 1)) (maCons (mKon (.int 2)) maNil))) (maCons (mA fTup (maCons (mKon (.int 1)) (maCons (mKon (.int 3)) maNil))) (maCons (mA fTup (maCons (m2 (fI gMns) (m2 (fI gPow) (mKon (.int 10)) (mKon (.int 9))) (mKon (.int 1))) (maCons (m2 (fI gPow) (mKon (.int 10)) (mKon (.int 9))) maNil))) (maCons (mA fTup (maCons (mKon (.int 0)) (maCons (mKon (.int 1)) maNil))) maNil)))))) maNil))))
    (mApp 2 (mCall f_law_plus (maCons (mVar 3) (maCons (mCall f_law_times (maCons (mVar 5) (maCons (mCall f_law_less (maCons (mVar 4) (maCons (mVar 3) maNil))) maNil))) maNil))))))
    (mRetV 2)))
noncomputable def f_law_within : Fx := run' 2 6 m_law_within
noncomputable def m_law_outside : Ms :=
  (mSeq (mSet 3 (mLc (mArgI range1 (maCons (mA fLen (maCons (mVar 1) maNil)) maNil)) [4] (gN 4) (bT (m2 (fEq true) (mIx (mVar 1) (mVar 4)) (mA fTup (maCons (mA fTup (maCons (mKon (.int 0)) (maCons (mKon (.int 1)) maNil))) (maCons (mA fTup (maCons (mKon (.int 1)) (maCons (mKon (.int 1)) maNil))) maNil))))) (mVar 4)))
    (mSeq (mIfS (bT (m2 (fEqN false) (mVar 3) (mA fLst maNil)))
    (mRetV 2)
    mNil)
    (mSeq (mFrz [3] (mSet 4 (mCall f_law_pick (maCons (mVar 0) (maCons (mVar 3) maNil)))))
    (mSeq (mAsg (gT 2 (gsCons (gN 5) (gsCons (gN 6) gsNil))) (mIx (mVar 1) (mVar 4)))
    (mSeq (mSet 7 (mCall f_law_pick (maCons (mVar 0) (maCons (mA fLst (maCons (mA fTup (maCons (mKon (.int 0)) (maCons (mKon (.int 1)) maNil))) (maCons (mA fTup (maCons (mKon (.int 1)) (maCons (mKon (.int 2)) maNil))) (maCons (mA fTup (maCons (mKon (.int 999)) (maCons (mKon (.int 1000)) maNil))) maNil)))) maNil))))
    (mSeq (mIfS (tAnd2 (bT (m2 (fI gGt) (mIx (mVar 5) (mKon (.int 0))) (mKon (.int 0)))) (tOr2 (bT (m2 (fEq false) (mVar 6) (mA fTup (maCons (mKon (.int 1)) (maCons (mKon (.int 1)) maNil))))) (bT (m2 (fEq false) (mCall f_law_draw (maCons (mVar 0) (maCons (mKon (.int 2)) maNil))) (mKon (.int 0))))))
    (mSet 8 (mCall f_law_times (maCons (mVar 5) (maCons (mCall f_law_pick (maCons (mVar 0) (maCons (mA fLst (maCons (mA fTup (maCons (mKon (.int 0)) (maCons (mKon (.int 1)) maNil))) (maCons (mA fTup (maCons (mKon (.int 1)) (maCons (mKon (.int 2)) maNil))) (maCons (mA fTup (maCons (m2 (fI gMns) (m2 (fI gPow) (mKon (.int 10)) (mKon (.int 9))) (mKon (.int 1))) (maCons (m2 (fI gPow) (mKon (.int 10)) (mKon (.int 9))) maNil))) maNil)))) maNil))) maNil))))
    (mSet 8 (mCall f_law_plus (maCons (mVar 6) (maCons (mCall f_law_times (maCons (mVar 7) (maCons (mCall f_law_less (maCons (mA fTup (maCons (mKon (.int 1)) (maCons (mKon (.int 1)) maNil))) (maCons (mVar 6) maNil))) maNil))) maNil)))))
    (mRet (m2 fAdd (m2 fAdd (mSl (mVar 2) moNone (moSome (mVar 4))) (mA fLst (maCons (mVar 8) maNil))) (mSl (mVar 2) (moSome (m2 fAdd (mVar 4) (mKon (.int 1)))) moNone)))))))))
noncomputable def f_law_outside : Fx := run' 3 9 m_law_outside
noncomputable def m_law_is_right : Ms :=
  (mSeq (mSet 1 (mCall f_law_hall (maCons (mVar 0) (maCons (mKon (.int 3)) (maCons (mKon (.int 1)) maNil)))))
    (mSeq (mPar 2 3 (maCons (mCall f_law_hero (maCons (mVar 0) (maCons (mVar 1) maNil))) (maCons (mCall f_law_odds (maCons (mVar 0) (maCons (mA fLen (maCons (mIx (mVar 1) (mKon (.int 2))) maNil)) maNil))) maNil)))
    (mSeq (mSet 4 (mCall f_law_pick (maCons (mVar 0) (maCons (mA fLst (maCons (mKon (.int 0)) (maCons (mKon (.int 1)) (maCons (mKon (.int 1)) (maCons (mKon (.int 2)) (maCons (mKon (.int 3)) (maCons (mKon (.int 4)) (maCons (mKon (.int 5)) maNil)))))))) maNil))))
    (mSeq (mSet 5 (mCall f_law_free_road (maCons (mVar 0) (maCons (mVar 1) (maCons (mVar 4) maNil)))))
    (mSeq (mIfS (bT (m2 (fI gGt) (mCall f_law_draw (maCons (mVar 0) (maCons (mKon (.int 4)) maNil))) (mKon (.int 0))))
    (mSet 5 (mCall f_law_followed (maCons (mVar 1) (maCons (mVar 2) (maCons (mVar 3) (maCons (mCall f_law_thrown (maCons (mVar 0) (maCons (mVar 1) (maCons (mVar 2) (maCons (mVar 3) (maCons (mVar 4) maNil)))))) maNil))))))
    mNil)
    (mSeq (mSet 6 (mCall f_law_road_box (maCons (mVar 1) (maCons (mVar 2) (maCons (mVar 3) (maCons (mVar 5) maNil))))))
    (mSeq (mFrz [6] (mSet 7 (mCall f_law_volume (maCons (mVar 6) maNil))))
    (mSeq (mSet 8 (mIf (bT (m2 (fI gGt) (mIx (mVar 7) (mKon (.int 0))) (mKon (.int 0)))) (mA fTupOf (maCons (mVar 6) maNil)) (mKon .none)))
    (mSeq (mIfS (bT (m2 (fEq true) (mA fReprN (maCons (mCall f_way_chance (maCons (mVar 1) (maCons (mVar 3) (maCons (mVar 2) (maCons (mVar 5) maNil))))) maNil)) (mA fReprN (maCons (mVar 7) maNil))))
    (mRet (mKon (.bool false)))
    mNil)
    (mSeq (mIfS (bT (m2 (fEq true) (mA fReprN (maCons (mCall f_box_of (maCons (mVar 1) (maCons (mVar 3) (maCons (mVar 2) (maCons (mVar 5) maNil))))) maNil)) (mA fReprN (maCons (mVar 8) maNil))))
    (mRet (mKon (.bool false)))
    mNil)
    (mSeq (mIfS (bT (m2 (fIs false) (mVar 8) (mKon .none)))
    (mRet (m2 (fEq false) (mA fReprN (maCons (mCallK f_box_of [0, 1, 2, 3] 4 (maCons (mVar 1) (maCons (mVar 3) (maCons (mVar 2) (maCons (mVar 5) maNil))))) maNil)) (mKon (.str (Str.ofString "None")))))
    mNil)
    (mSeq (mFrz [6] (mSet 9 (mCall f_law_within (maCons (mVar 0) (maCons (mVar 6) maNil)))))
    (mSeq (mIfS (bT (m2 (fEq true) (mA fReprN (maCons (mCall f_run (maCons (mVar 1) (maCons (mVar 3) (maCons (mVar 2) (maCons (mA fTupOf (maCons (mVar 9) maNil)) maNil))))) maNil)) (mA fReprN (maCons (mVar 5) maNil))))
    (mRet (mKon (.bool false)))
    mNil)
    (mSeq (mIfS (bT (m2 (fEqE false) (mVar 5) (mA fTup maNil)))
    (mRet (mKon (.bool true)))
    mNil)
    (mSeq (mFrz [6, 9] (mSet 10 (mA fTupOf (maCons (mCall f_law_outside (maCons (mVar 0) (maCons (mVar 6) (maCons (mVar 9) maNil)))) maNil))))
    (mSeq (mSet 11 (mCall f_run (maCons (mVar 1) (maCons (mVar 3) (maCons (mVar 2) (maCons (mVar 10) maNil))))))
    (mRet (mAnd (m2 (fEq false) (mA fReprN (maCons (mVar 11) maNil)) (mA fReprN (maCons (mCall f_law_followed (maCons (mVar 1) (maCons (mVar 2) (maCons (mVar 3) (maCons (mVar 10) maNil))))) maNil))) (mOr (m2 (fEq true) (mVar 11) (mVar 5)) (m2 (fEq false) (mVar 10) (mA fTupOf (maCons (mVar 9) maNil))))))))))))))))))))))
noncomputable def f_law_is_right : Fx := run' 1 12 m_law_is_right
noncomputable def m_law : Ms :=
  (mSeq (mFor (mArgI range1 (maCons (mKon (.int 3)) maNil)) (gN 1)
    (mIfS (tNot2 (bT (mCallN f_law_is_right (maCons (mCall f_law_urn (maCons (mVar 0) (maCons (mVar 1) maNil))) maNil))))
    (mRet (mKon (.bool false)))
    mNil))
    (mRet (mKon (.bool true))))
noncomputable def f_law : Fx := run' 1 2 m_law
end WW
namespace WW
open PySem PySem.Spec L2 Dh PyProof.Rows
def nml_0 : List Str := ["is_whole", "is_between", "is_tuple_of", "is_ratio", "is_row", "ratio", "plus", "times", "is_less", "total", "is_chance_row", "is_still_by", "are_odds", "are_nexts", "is_minded_by", "are_chances", "is_deed", "is_stand", "is_share", "is_house_by"]
def nml_1 : List Str := ["check_house", "check_start", "is_memory", "is_told_by", "is_player_by", "kept_of", "first_kept", "next_kept", "odds_at", "check_player", "is_die", "is_step", "wrong_steps", "picked", "run_by", "stretch_of", "box_by", "chance_by", "check_dice", "check_way"]
def nml_2 : List Str := ["run", "way_chance", "box_of", "_law_urn", "_law_draw", "_law_pick", "_law_cut", "_law_plus", "_law_times", "_law_less", "_law_is_under", "_law_odds", "_law_hall", "_law_habit", "_law_memory", "_law_recalled", "_law_mindful", "_law_hero", "_law_first_note", "_law_next_note"]
def nml_3 : List Str := ["_law_note_odds", "_law_picked", "_law_stretch", "_law_die", "_law_followed", "_law_thrown", "_law_road_box", "_law_volume", "_law_free_road", "_law_within", "_law_outside", "_law_is_right", "law"]
def nml : List Str := nml_0 ++ nml_1 ++ nml_2 ++ nml_3
def fnl_0 : List He.FnD := [fnD "is_whole" s_is_whole, fnD "is_between" s_is_between, fnD "is_tuple_of" s_is_tuple_of, fnD "is_ratio" s_is_ratio, fnD "is_row" s_is_row, fnD "ratio" s_ratio, fnD "plus" s_plus, fnD "times" s_times, fnD "is_less" s_is_less, fnD "total" s_total, fnD "is_chance_row" s_is_chance_row, fnD "is_still_by" s_is_still_by, fnD "are_odds" s_are_odds, fnD "are_nexts" s_are_nexts, fnD "is_minded_by" s_is_minded_by, fnD "are_chances" s_are_chances, fnD "is_deed" s_is_deed, fnD "is_stand" s_is_stand, fnD "is_share" s_is_share, fnD "is_house_by" s_is_house_by]
def fnl_1 : List He.FnD := [fnD "check_house" s_check_house, fnD "check_start" s_check_start, fnD "is_memory" s_is_memory, fnD "is_told_by" s_is_told_by, fnD "is_player_by" s_is_player_by, fnD "kept_of" s_kept_of, fnD "first_kept" s_first_kept, fnD "next_kept" s_next_kept, fnD "odds_at" s_odds_at, fnD "check_player" s_check_player, fnD "is_die" s_is_die, fnD "is_step" s_is_step, fnD "wrong_steps" s_wrong_steps, fnD "picked" s_picked, fnD "run_by" s_run_by, fnD "stretch_of" s_stretch_of, fnD "box_by" s_box_by, fnD "chance_by" s_chance_by, fnD "check_dice" s_check_dice, fnD "check_way" s_check_way]
def fnl_2 : List He.FnD := [fnD "run" s_run, fnD "way_chance" s_way_chance, fnD "box_of" s_box_of, fnD "_law_urn" s_law_urn, fnD "_law_draw" s_law_draw, fnD "_law_pick" s_law_pick, fnD "_law_cut" s_law_cut, fnD "_law_plus" s_law_plus, fnD "_law_times" s_law_times, fnD "_law_less" s_law_less, fnD "_law_is_under" s_law_is_under, fnD "_law_odds" s_law_odds, fnD "_law_hall" s_law_hall, fnD "_law_habit" s_law_habit, fnD "_law_memory" s_law_memory, fnD "_law_recalled" s_law_recalled, fnD "_law_mindful" s_law_mindful, fnD "_law_hero" s_law_hero, fnD "_law_first_note" s_law_first_note, fnD "_law_next_note" s_law_next_note]
def fnl_3 : List He.FnD := [fnD "_law_note_odds" s_law_note_odds, fnD "_law_picked" s_law_picked, fnD "_law_stretch" s_law_stretch, fnD "_law_die" s_law_die, fnD "_law_followed" s_law_followed, fnD "_law_thrown" s_law_thrown, fnD "_law_road_box" s_law_road_box, fnD "_law_volume" s_law_volume, fnD "_law_free_road" s_law_free_road, fnD "_law_within" s_law_within, fnD "_law_outside" s_law_outside, fnD "_law_is_right" s_law_is_right, fnD "law" s_law]
def fnl : List He.FnD := fnl_0 ++ fnl_1 ++ fnl_2 ++ fnl_3
def fal_0 : List He.Fa := [.glo "is_whole", .glo "is_between", .glo "is_tuple_of", .glo "is_ratio", .glo "is_row", .glo "ratio", .glo "plus", .glo "times", .glo "is_less", .glo "total", .glo "is_chance_row", .glo "is_still_by", .glo "are_odds", .glo "are_nexts", .glo "is_minded_by", .glo "are_chances", .glo "is_deed", .glo "is_stand", .glo "is_share", .glo "is_house_by"]
def fal_1 : List He.Fa := [.glo "check_house", .glo "check_start", .glo "is_memory", .glo "is_told_by", .glo "is_player_by", .glo "kept_of", .glo "first_kept", .glo "next_kept", .glo "odds_at", .glo "check_player", .glo "is_die", .glo "is_step", .glo "wrong_steps", .glo "picked", .glo "run_by", .glo "stretch_of", .glo "box_by", .glo "chance_by", .glo "check_dice", .glo "check_way"]
def fal_2 : List He.Fa := [.glo "run", .glo "way_chance", .glo "box_of", .glo "_law_urn", .glo "_law_draw", .glo "_law_pick", .glo "_law_cut", .glo "_law_plus", .glo "_law_times", .glo "_law_less", .glo "_law_is_under", .glo "_law_odds", .glo "_law_hall", .glo "_law_habit", .glo "_law_memory", .glo "_law_recalled", .glo "_law_mindful", .glo "_law_hero", .glo "_law_first_note", .glo "_law_next_note"]
def fal_3 : List He.Fa := [.glo "_law_note_odds", .glo "_law_picked", .glo "_law_stretch", .glo "_law_die", .glo "_law_followed", .glo "_law_thrown", .glo "_law_road_box", .glo "_law_volume", .glo "_law_free_road", .glo "_law_within", .glo "_law_outside", .glo "_law_is_right", .glo "law", .keep "is_whole", .keep "is_between", .keep "is_tuple_of", .keep "is_ratio", .keep "is_row", .keep "ratio", .keep "plus"]
def fal_4 : List He.Fa := [.keep "times", .keep "is_less", .keep "total", .keep "is_chance_row", .keep "is_still_by", .keep "are_odds", .keep "are_nexts", .keep "is_minded_by", .keep "are_chances", .keep "is_deed", .keep "is_stand", .keep "is_share", .keep "is_house_by", .keep "check_house", .keep "check_start", .keep "is_memory", .keep "is_told_by", .keep "is_player_by", .keep "kept_of", .keep "first_kept"]
def fal_5 : List He.Fa := [.keep "next_kept", .keep "odds_at", .keep "check_player", .keep "is_die", .keep "is_step", .keep "wrong_steps", .keep "picked", .keep "run_by", .keep "stretch_of", .keep "box_by", .keep "chance_by", .keep "check_dice", .keep "check_way", .keep "run", .keep "way_chance", .keep "box_of", .keep "_law_urn", .keep "_law_draw", .keep "_law_pick", .keep "_law_cut"]
def fal_6 : List He.Fa := [.keep "_law_plus", .keep "_law_times", .keep "_law_less", .keep "_law_is_under", .keep "_law_odds", .keep "_law_hall", .keep "_law_habit", .keep "_law_memory", .keep "_law_recalled", .keep "_law_mindful", .keep "_law_hero", .keep "_law_first_note", .keep "_law_next_note", .keep "_law_note_odds", .keep "_law_picked", .keep "_law_stretch", .keep "_law_die", .keep "_law_followed", .keep "_law_thrown", .keep "_law_road_box"]
def fal_7 : List He.Fa := [.keep "_law_volume", .keep "_law_free_road", .keep "_law_within", .keep "_law_outside", .keep "_law_is_right", .keep "law", .free "abs", .free "all", .free "any", .free "bool", .free "dict", .free "divmod", .free "enumerate", .free "int", .free "isinstance", .free "len", .free "range", .free "repr", .free "sorted", .free "str"]
def fal_8 : List He.Fa := [.free "sum", .free "tuple", .free "zip"]
def fal : List He.Fa := fal_0 ++ fal_1 ++ fal_2 ++ fal_3 ++ fal_4 ++ fal_5 ++ fal_6 ++ fal_7 ++ fal_8
def csl_0 : List (Str × PyData) := [("MOST_DEEDS", k_MOST_DEEDS), ("MOST_DICE", k_MOST_DICE), ("MOST_LISTS", k_MOST_LISTS), ("MOST_MEMORY", k_MOST_MEMORY), ("MOST_MINDS", k_MOST_MINDS), ("MOST_PAYS", k_MOST_PAYS), ("MOST_STANDS", k_MOST_STANDS), ("MOST_WAY", k_MOST_WAY), ("ONE", k_ONE), ("ZERO", k_ZERO)]
def csl : List (Str × PyData) := csl_0
def bsl_0 : List (Str × String) := [("gcd", "math.gcd")]
def bsl : List (Str × String) := bsl_0
def loose_0 : List Str := ["is_whole", "is_between", "is_tuple_of", "ZERO", "ONE", "is_ratio", "is_row", "ratio", "plus", "times", "is_less", "total", "is_chance_row", "MOST_MINDS", "is_still_by", "are_odds", "are_nexts", "is_minded_by", "MOST_PAYS", "MOST_STANDS"]
def loose_1 : List Str := ["MOST_DEEDS", "are_chances", "is_deed", "is_stand", "is_share", "is_house_by", "HouseError", "InvalidHouse", "InvalidStart", "InvalidPlayer", "InvalidDice", "InvalidWay", "check_house", "check_start", "MOST_MEMORY", "MOST_LISTS", "is_memory", "is_told_by", "is_player_by", "kept_of"]
def loose_2 : List Str := ["first_kept", "next_kept", "odds_at", "check_player", "MOST_WAY", "is_die", "is_step", "wrong_steps", "picked", "run_by", "stretch_of", "box_by", "chance_by", "MOST_DICE", "check_dice", "check_way", "run", "way_chance", "box_of", "_law_urn"]
def loose_3 : List Str := ["_law_draw", "_law_pick", "_law_cut", "_law_plus", "_law_times", "_law_less", "_law_is_under", "_law_odds", "_law_hall", "_law_habit", "_law_memory", "_law_recalled", "_law_mindful", "_law_hero", "_law_first_note", "_law_next_note", "_law_note_odds", "_law_picked", "_law_stretch", "_law_die"]
def loose_4 : List Str := ["_law_followed", "_law_thrown", "_law_road_box", "_law_volume", "_law_free_road", "_law_within", "_law_outside", "_law_is_right"]
def loose : List Str := loose_0 ++ loose_1 ++ loose_2 ++ loose_3 ++ loose_4
abbrev RR : PySem.W.OpenRow := PySem.W.OpenLaw.row PySem.Challenge.rw_deedhouses_k83_whole_dice_that_make_a_wa
abbrev hkM : PySem.W.Hook := hookM 2 csl bsl fal fnl
def obM (s : PySem.W.SharedT) : AlM := obsMG 2 csl bsl fal fnl (HandSHeadRun.getT s)
theorem obM_eq (s : PySem.W.SharedT) : obM s = hkM.obs s.abs := obsMG_eq (HandSHeadRun.getT_eq s)
set_option maxHeartbeats 0 in
theorem runL (w : World) : (HandSHeadRun.wholeF (fun p => HandSHeadRun.stepQ (HandSHeadRun.denQ HandSHeadRun.tabQ) p w) HandSHeadRun.fenceQ 6000 RR.prog).map (fun x => HandSHeadRun.looksF RR.prog x.1.heap x.2.abs) = some true := by
  kernel_rfl
set_option maxHeartbeats 0 in
theorem runS (w : World) : (HandSHeadRun.wholeF (fun p => HandSHeadRun.stepQ (HandSHeadRun.denQ HandSHeadRun.tabQ) p w) HandSHeadRun.fenceQ 6000 RR.prog).map (fun x => HandSHeadRun.seenQ (PySem.W.view RR.prog [0, 100]) loose (importedModules RR.prog.main.body) (fun s => PySem.W.xlAt (PySem.W.view RR.prog [0, 100]) [] s && PySem.W.recOk RR.toRowW.records s) x.2.abs) = some (PySem.W.openGood (PySem.W.view RR.prog [0, 100]) loose) := by
  kernel_rfl
set_option maxHeartbeats 0 in
theorem runO (w : World) : (HandSHeadRun.wholeF (fun p => HandSHeadRun.stepQ (HandSHeadRun.denQ HandSHeadRun.tabQ) p w) HandSHeadRun.fenceQ 6000 RR.prog).map (fun x => obM x.2) = some (hkM.val w) := by
  kernel_rfl
theorem map3 {α β γ δ : Type _} {o : Option α} {f : α → β} {g : α → γ} {h : α → δ} {a : β} {b : γ} {c : δ} (e1 : o.map f = some a) (e2 : o.map g = some b) (e3 : o.map h = some c) : o.map (fun x => (f x, g x, h x)) = some (a, b, c) := by
  cases o with
  | none => cases e1
  | some x => cases e1; cases e2; cases e3; rfl
theorem runM (w : World) : HandSHeadRun.RunEqI RR (PySem.W.view RR.prog [0, 100]) hkM obM 6000 loose w := by
  unfold HandSHeadRun.RunEqI
  exact map3 (runL w) (runS w) (runO w)
end WW
namespace WW
open PySem PySem.Spec L2 PySem.W Dh
theorem e_ratio {t l : Int} {s : Sto} (h : 0 < l) (hl : l.natAbs < 2 ^ 9000) : f_ratio [.d (.int t), .d (.int l)] s = some (.d (pQ (Rat.divInt t l)), s) := by
  refine WF.eq (WF.body rfl ?_)
  have g : 0 < gg t l := gg_pos (by omega)
  have g1 : (gg t l).natAbs < 2 ^ 9000 := Nat.lt_of_le_of_lt (gg_le (by omega)) hl
  have e1 : gFdiv t ((t.natAbs.gcd l.natAbs : Nat) : Int) = _ := gFdiv_pos g g1
  have e2 : gFdiv l ((t.natAbs.gcd l.natAbs : Nat) : Int) = _ := gFdiv_pos g g1
  simp [m_ratio, h, List.replicate_succ, e1, e2, sz2, pQ, divInt_num h, divInt_den h]
  exact ⟨rfl, rfl⟩
theorem e_plus {p q : Rat} {s : Sto} (hp : Bd p) (hq : Bd q) : f_plus [.d (pQ p), .d (pQ q)] s = some (.d (pQ (p + q)), s) := by
  refine WF.eq (WF.body rfl ?_)
  simp [m_plus, pQ, fMul_ok, mulOk_nd hp hq, mulOk_nd hq hp, mulOk_dd hp hq]
  refine WF.of (e_ratio (den_mul_pos p q) (den_lt hp hq)) ?_
  rw [← add_divInt]
  simp [pQ]
theorem e_times {p q : Rat} {s : Sto} (hp : Bd p) (hq : Bd q) : f_times [.d (pQ p), .d (pQ q)] s = some (.d (pQ (p * q)), s) := by
  refine WF.eq (WF.body rfl ?_)
  simp [m_times, pQ, fMul_ok, mulOk_nn hp hq, mulOk_dd hp hq]
  refine WF.of (e_ratio (den_mul_pos p q) (den_lt hp hq)) ?_
  rw [← mul_divInt]
  simp [pQ]
theorem e_is_less {p q : Rat} {s : Sto} (hp : Bd p) (hq : Bd q) : f_is_less [.d (pQ p), .d (pQ q)] s = some (.d (.bool (decide (p < q))), s) := by
  refine WF.eq (WF.body rfl ?_)
  simp [m_is_less, pQ, fMul_ok, mulOk_nd hp hq, mulOk_nd hq hp, Rat.lt_iff]
theorem w_euclid {x y : Option Cl} {s : Sto} {Q : Out → Ev → Sto → Prop} : ∀ (b a : Nat), Q .nx [x, y, some (.d (.int ((Nat.gcd a b : Nat) : Int))), some (.d (.int 0))] s →
    WWh (bT (m2 (fI gGt) (mVar 3) (mKon (.int 0)))) (mPar 2 3 (maCons (mVar 3) (maCons (m2 (fI gMod) (mA fInt (maCons (mVar 2) maNil)) (mVar 3)) maNil))) [x, y, some (.d (.int (a : Int))), some (.d (.int (b : Int)))] s Q := by
  intro b
  induction b using Nat.strongRecOn with
  | ind b ih =>
    intro a h
    refine WWh_next ?_
    by_cases hb : b = 0
    · subst hb
      simp at h ⊢
      exact h
    · have hp : (0 : Int) < (b : Int) := by omega
      have hq : 0 < b := by omega
      have e : gMod (a : Int) (b : Int) = _ := gMod_pos hp
      simp [hq, hp, e]
      have := ih (a % b) (Nat.mod_lt _ hq) b (by rw [Nat.gcd_comm, ← Nat.gcd_rec, Nat.gcd_comm]; exact h)
      rw [Int.natCast_emod] at this
      exact this
end WW
namespace Dh
open PySem PySem.Spec L2 PySem.W
@[elab_as_elim] theorem snoc_ind {α : Type} {P : List α → Prop} (nil : P []) (snoc : ∀ l x, P l → P (l ++ [x])) (l : List α) : P l := by
  rw [← List.reverse_reverse l]
  induction l.reverse with
  | nil => exact nil
  | cons x m ih => rw [List.reverse_cons]; exact snoc _ _ ih
def qsum (l : List Rat) : Rat := l.foldl (· + ·) 0
theorem qsum_snoc {l : List Rat} {x : Rat} : qsum (l ++ [x]) = qsum l + x := by simp [qsum]
theorem take_snoc {α : Type} {l : List α} {i : Nat} {x : α} (h : l[i]? = some x) : l.take (i + 1) = l.take i ++ [x] := by
  rw [List.take_add_one, h]; rfl
theorem QLt_0 {k : Nat} (h : 0 < k := by omega) : QLt k 0 := ⟨by rw [Rat.zero_num]; exact Nat.pow_pos (by decide), by rw [Rat.zero_den]; exact Nat.one_lt_two_pow (by omega)⟩
theorem qsum_lt {k : Nat} {l : List Rat} (h : ∀ q ∈ l, QLt k q) : QLt (1 + (k + 1) * l.length) (qsum l) := by
  revert h
  refine snoc_ind ?_ ?_ l
  · intro _; exact QLt_0
  · intro l x ih h
    rw [qsum_snoc, List.length_append, List.length_singleton, Nat.mul_add]
    exact (QLt_add (ih fun q hq => h q (by simp [hq])) (h x (by simp))).mono (by omega)
theorem mem_take {α : Type} {l : List α} {i : Nat} {x : α} (h : x ∈ l.take i) : x ∈ l := List.mem_of_mem_take h
theorem qsum_take_lt {k i : Nat} {l : List Rat} (h : ∀ q ∈ l, QLt k q) : QLt (1 + (k + 1) * l.length) (qsum (l.take i)) :=
  (qsum_lt fun q hq => h q (mem_take hq)).mono (by
    have : (l.take i).length ≤ l.length := by rw [List.length_take]; omega
    have := Nat.mul_le_mul_left (k + 1) this
    omega)
/-- a pair of data, by what each is -/
def p2 {α β : Type} (f : α → PyData) (g : β → PyData) (p : α × β) : PyData := .tuple [f p.1, g p.2]
theorem pairs_map {α β : Type} (f : α → PyData) (g : β → PyData) : ∀ (l : List α) (m : List β), pairs (l.map f) (m.map g) = (l.zip m).map (p2 f g)
  | [], m => by simp [pairs]
  | x :: l, [] => by simp [pairs]
  | x :: l, y :: m => by
    have := pairs_map f g l m
    unfold pairs at this ⊢
    simp only [List.map_cons, List.zip_cons_cons, this]
    rfl
@[simp] theorem seqOf_t {xs : List PyData} : seqOf (.tuple xs) = some xs := rfl
@[simp] theorem seqOf_l {xs : List PyData} : seqOf (.list xs) = some xs := rfl
@[simp] theorem ev_zipQ2 {x y : R} : zipQ2 [x, y] = (match toD x, toD y with | some a, some b => (match seqOf a, seqOf b with | some xs, some ys => some (pairs xs ys) | _, _ => none) | _, _ => none) := by
  unfold zipQ2
  rw [ev_toDs1, ev_toDs1, ev_toDs0]
  cases toD x <;> cases toD y <;> rfl
@[simp] theorem ev_zipQ3 {x y z : R} : zipQ3 [x, y, z] = (match toD x, toD y, toD z with | some a, some b, some c => (match seqOf a, seqOf b, seqOf c with | some xs, some ys, some zs => some (trip xs ys zs) | _, _, _ => none) | _, _, _ => none) := by
  unfold zipQ3
  rw [ev_toDs1, ev_toDs1, ev_toDs1, ev_toDs0]
  cases toD x <;> cases toD y <;> cases toD z <;> rfl
@[simp] theorem items_b {xs : List PyData} : itemsOf (.b xs) = none := rfl
end Dh
namespace WW
open PySem PySem.Spec L2 PySem.W Dh
theorem e_total {x : PyData} {l : List Rat} {k : Nat} {s : Sto} (hx : itemsOf (.d x) = some (l.map pQ)) (hl : ∀ q ∈ l, QLt k q) (h : 1 + (k + 1) * l.length + k ≤ 4500) : f_total [.d x] s = some (.d (pQ (qsum l)), s) := by
  refine WF.eq (WF.body rfl ?_)
  simp [m_total, List.replicate_succ, hx]
  refine WFor_inv pQ l (fun i ρ s' => s' = s ∧ ∃ c, ρ = [some (.d x), some (.d (pQ (qsum (l.take i)))), c]) ⟨rfl, none, rfl⟩ ?_ ?_
  · rintro i q ρ s' hq ⟨rfl, c, rfl⟩
    simp
    refine WF.of (e_plus (qsum_take_lt hl).bd ((hl q (List.mem_of_getElem? hq)).bd)) ?_
    rw [take_snoc hq, qsum_snoc]
    simp
  · rintro ρ s' ⟨rfl, c, rfl⟩
    simp
end WW
namespace Dh
/-- D times q is whole, at most M without its sign -/
def CD (D M : Nat) (q : Rat) : Prop := ∃ z : Int, (D : Rat) * q = z ∧ z.natAbs ≤ M
theorem CD.mono {D M N : Nat} {q : Rat} (h : CD D M q) (k : M ≤ N) : CD D N q := let ⟨z, a, b⟩ := h; ⟨z, a, Nat.le_trans b k⟩
end Dh
namespace El
open Dh
/-- every row over one number of at most b bits -/
def Rows (A : Nat → Nat → Rat) (n j b : Nat) : Prop := ∀ i, i < n → ∃ D : Nat, 0 < D ∧ D ≤ 2 ^ b ∧ ∀ l, (l < n ∨ l = j) → CD D (2 ^ b) (A i l)
end El
namespace Dh
open PySem PySem.Spec L2 PySem.W
/-- a spring that can be asked m times more -/
def Vs (m : Nat) (s : Sto) : Prop := ∃ a b c : Int, s = [a, b, c] ∧ 0 ≤ b ∧ b < 2147483543 ∧ 0 ≤ c ∧ c + (m : Int) ≤ 1099511627776
theorem Vs.mono {m n : Nat} {s : Sto} (h : Vs n s) (k : m ≤ n := by omega) : Vs m s := by
  obtain ⟨a, b, c, e, h1, h2, h3, h4⟩ := h
  exact ⟨a, b, c, e, h1, h2, h3, by omega⟩
theorem lit40 : (2 : Nat) ^ 40 = 1099511627776 := by decide
theorem lt40 {i : Int} (h0 : 0 ≤ i) (h : i < 1099511627776) : i.natAbs < 2 ^ 40 := by rw [lit40]; omega
theorem atI_ofNat {α : Type} {xs : List α} {i : Nat} (h : i < xs.length) : atI xs (i : Int) = xs[i]? := by
  unfold atI ixN
  have h1 : ¬ ((i : Int) < 0) := by omega
  have h2 : (i : Int) < (xs.length : Int) := by omega
  simp [h2]
theorem ixN_ofNat {n i : Nat} (h : i < n) : ixN n (i : Int) = some i := by
  unfold ixN
  have h2 : (i : Int) < (n : Int) := by omega
  simp [h2]
theorem atI_pick {α : Type} {xs : List α} {d : Int} (h0 : 0 ≤ d) (h : d < xs.length) : ∃ x ∈ xs, atI xs d = some x := by
  obtain ⟨n, rfl⟩ := Int.eq_ofNat_of_zero_le h0
  have hn : n < xs.length := by omega
  exact ⟨xs[n], List.getElem_mem hn, by rw [show ((n : Nat) : Int) = (n : Int) from rfl, atI_ofNat hn, List.getElem?_eq_getElem hn]⟩
theorem gFdiv_small {i j : Int} (h : 0 < j) (hl : j.natAbs < 2 ^ 40) : gFdiv i j = some (.int (i / j)) := gFdiv_pos h (lt_monoB hl (by decide))
theorem range1_nat {n : Nat} (h : n ≤ 1000) : range1 [.d (.int (n : Int))] = some ((List.range n).map fun i => PyData.int (i : Nat)) := by
  unfold range1
  simp [rangeL, show (-4611686018427387904 : Int) ≤ (n : Int) by omega, show (n : Int) < 4611686018427387904 by omega]
theorem range_at {n i x : Nat} (h : (List.range n)[i]? = some x) : x = i ∧ i < n := by
  obtain ⟨h1, h2⟩ := List.getElem?_eq_some_iff.mp h
  rw [List.getElem_range] at h2
  rw [List.length_range] at h1
  exact ⟨h2.symm, h1⟩
end Dh
namespace Dh
open PySem PySem.Spec L2 PySem.W
/-- a datum of numbers of at most B bits, so deep at most, of such a weight at most -/
structure Pn (B k w : Nat) (x : PyData) : Prop where
  nd : noDict x = true
  lay : PyData.canLay0 x = true
  dep : PyData.depth x ≤ k
  sh : PyData.showable x = true
  short : PyData.leavesShort (B + 1) x = true
  wt : PyData.bulk x ≤ w
theorem Pn.mono {B k k' w w' : Nat} {x : PyData} (h : Pn B k w x) (hk : k ≤ k' := by omega) (hw : w ≤ w' := by omega) : Pn B k' w' x := ⟨h.nd, h.lay, Nat.le_trans h.dep hk, h.sh, h.short, Nat.le_trans h.wt hw⟩
theorem int_text {i : Int} {B : Nat} (hB : 0 < B) (h : i.natAbs < 2 ^ B) : (PyData.shown (.int i)).length ≤ B + 1 := by
  have hl : i.natAbs.log2 < B := by
    by_cases z : i.natAbs = 0
    · rw [z]; simpa using hB
    · exact (Nat.log2_lt z).mpr h
  have e := int_text_length_le (a := i) hB hl
  show (Str.ofString (toString i)).length ≤ B + 1
  rw [ofString_length]
  exact e
theorem Pn.int0 {B : Nat} {i : Int} (hB : 0 < B) (hB2 : B ≤ 1900) (h : i.natAbs < 2 ^ B) : Pn B 0 0 (.int i) := by
  have hl : i.natAbs.log2 < B := by
    by_cases z : i.natAbs = 0
    · rw [z]; simpa using hB
    · exact (Nat.log2_lt z).mpr h
  refine ⟨rfl, rfl, Nat.le_refl _, ?_, ?_, ?_⟩
  · simp only [PyData.showable, decide_eq_true_eq]; omega
  · simp only [PyData.leavesShort, decide_eq_true_eq]
    exact int_text hB h
  · simp only [PyData.bulk]
    exact Nat.le_refl _
theorem Pn.int {B : Nat} {i : Int} (hB : 0 < B) (hB2 : B ≤ 1900) (h : i.natAbs < 2 ^ B) : Pn B 0 B (.int i) := (Pn.int0 hB hB2 h).mono
theorem all_nd : ∀ {xs : List PyData}, (∀ x ∈ xs, noDict x = true) → noDicts xs = true
  | [], _ => rfl
  | x :: xs, h => by
    simp only [noDicts, h x List.mem_cons_self, Bool.true_and]
    exact all_nd fun y hy => h y (List.mem_cons_of_mem _ hy)
theorem all_lay : ∀ {xs : List PyData}, (∀ x ∈ xs, PyData.canLay0 x = true) → PyData.canLayAll0 xs = true
  | [], _ => rfl
  | x :: xs, h => by
    simp only [PyData.canLayAll0, h x List.mem_cons_self, Bool.true_and]
    exact all_lay fun y hy => h y (List.mem_cons_of_mem _ hy)
theorem all_dep {k : Nat} : ∀ {xs : List PyData}, (∀ x ∈ xs, PyData.depth x ≤ k) → PyData.depthAll xs ≤ k
  | [], _ => Nat.zero_le _
  | x :: xs, h => by
    have a := h x List.mem_cons_self
    have b := all_dep fun y hy => h y (List.mem_cons_of_mem x hy)
    simp only [PyData.depthAll]; omega
theorem all_sh : ∀ {xs : List PyData}, (∀ x ∈ xs, PyData.showable x = true) → PyData.showableAll xs = true
  | [], _ => rfl
  | x :: xs, h => by
    simp only [PyData.showableAll, h x List.mem_cons_self, Bool.true_and]
    exact all_sh fun y hy => h y (List.mem_cons_of_mem _ hy)
theorem all_short {B : Nat} : ∀ {xs : List PyData}, (∀ x ∈ xs, PyData.leavesShort B x = true) → PyData.leavesShortAll B xs = true
  | [], _ => by simp [PyData.leavesShortAll]
  | x :: xs, h => by
    simp only [PyData.leavesShortAll, h x List.mem_cons_self, Bool.true_and]
    exact all_short fun y hy => h y (List.mem_cons_of_mem _ hy)
theorem all_wt {w : Nat} : ∀ {xs : List PyData}, (∀ x ∈ xs, PyData.bulk x ≤ w) → PyData.bulkAll xs ≤ xs.length * (w + 1)
  | [], _ => by simp [PyData.bulkAll]
  | x :: xs, h => by
    have a := h x List.mem_cons_self
    have b := all_wt fun y hy => h y (List.mem_cons_of_mem x hy)
    simp only [PyData.bulkAll, List.length_cons, Nat.add_mul]; omega
theorem Pn.tup {B k w n : Nat} {xs : List PyData} (h : ∀ x ∈ xs, Pn B k w x) (hn : xs.length ≤ n) : Pn B (k + 1) (n * (w + 1)) (.tuple xs) where
  nd := by simp only [noDict]; exact all_nd fun x hx => (h x hx).nd
  lay := by simp only [PyData.canLay0]; exact all_lay fun x hx => (h x hx).lay
  dep := by
    have := all_dep fun x hx => (h x hx).dep
    simp only [PyData.depth]; omega
  sh := by simp only [PyData.showable]; exact all_sh fun x hx => (h x hx).sh
  short := by simp only [PyData.leavesShort]; exact all_short fun x hx => (h x hx).short
  wt := by
    simp only [PyData.bulk]
    exact Nat.le_trans (all_wt fun x hx => (h x hx).wt) (Nat.mul_le_mul_right _ hn)
theorem Pn.lst {B k w n : Nat} {xs : List PyData} (h : ∀ x ∈ xs, Pn B k w x) (hn : xs.length ≤ n) : Pn B (k + 1) (n * (w + 1)) (.list xs) where
  nd := by simp only [noDict]; exact all_nd fun x hx => (h x hx).nd
  lay := by simp only [PyData.canLay0]; exact all_lay fun x hx => (h x hx).lay
  dep := by
    have := all_dep fun x hx => (h x hx).dep
    simp only [PyData.depth]; omega
  sh := by simp only [PyData.showable]; exact all_sh fun x hx => (h x hx).sh
  short := by simp only [PyData.leavesShort]; exact all_short fun x hx => (h x hx).short
  wt := by
    simp only [PyData.bulk]
    exact Nat.le_trans (all_wt fun x hx => (h x hx).wt) (Nat.mul_le_mul_right _ hn)
theorem Pn.q {B : Nat} {q : Rat} (hB : 0 < B) (hB2 : B ≤ 1900) (h : QLt B q) : Pn B 1 (2 * (B + 1)) (pQ q) :=
  Pn.tup (fun x hx => by
    simp at hx
    rcases hx with rfl | rfl
    · exact .int hB hB2 h.1
    · exact .int hB hB2 h.den') (Nat.le_refl _)
theorem Pn.eqOk {B k w : Nat} {x : PyData} (h : Pn B k w x) (hk : k ≤ 64) : Dh.eqOk x = true := by
  unfold Dh.eqOk SeqAt.shaped
  rw [h.nd, h.lay, decide_eq_true (Nat.le_trans h.dep hk)]
  rfl
theorem Pn.repr {B k w : Nat} {x : PyData} {r : R} (hx : rdD r = some x) (hs : isSeq x = true) (h : Pn B k w x) (hk : k ≤ 60) (hB : 8 ≤ B) (hw : (B + 3) * w + (B + 1) ≤ 16777216) : fRepr [r] = some (.d (.str (PyData.shown x))) := by
  have h1 : reprOk x = true := by
    unfold reprOk
    have l := PyData.shown_le_bulk (B + 1) (by omega) x h.short
    have l2 := Nat.mul_le_mul_left (B + 1 + 2) h.wt
    rw [show B + 1 + 2 = B + 3 by omega] at l l2
    rw [hs, h.nd, h.sh, decide_eq_true (Nat.le_trans h.dep hk), decide_eq_true (Nat.le_trans l (Nat.le_trans (by omega) (show 16777216 ≤ sizeLine by decide)))]
    rfl
  unfold fRepr
  dsimp only
  rw [hx]
  exact if_pos h1
theorem Pn.q0 {B : Nat} {q : Rat} (hB : 0 < B) (hB2 : B ≤ 1900) (h : QLt B q) : Pn B 1 2 (pQ q) :=
  Pn.tup (B := B) (k := 0) (w := 0) (n := 2) (xs := [.int q.num, .int (q.den : Int)]) (fun x hx => by
    simp at hx
    rcases hx with rfl | rfl
    · exact .int0 hB hB2 h.1
    · exact .int0 hB hB2 h.den') (Nat.le_refl _)
theorem Pn.qs0 {B n : Nat} {l : List Rat} (hB : 0 < B) (hB2 : B ≤ 1900) (h : ∀ q ∈ l, QLt B q) (hn : l.length ≤ n) : Pn B 2 (n * 3) (pQs l) :=
  Pn.tup (k := 1) (w := 2) (fun x hx => by obtain ⟨q, hq, rfl⟩ := List.mem_map.mp hx; exact .q0 hB hB2 (h q hq)) (by rw [List.length_map]; exact hn)
structure RDeed where
  ch : List (Nat × Rat)
  gs : List Rat
structure RHouse where
  share : Rat
  pays : Nat
  stands : List (List RDeed)
def pCh (c : Nat × Rat) : PyData := .tuple [.int (c.1 : Nat), pQ c.2]
def pDeed (d : RDeed) : PyData := .tuple [.tuple (d.ch.map pCh), pQs d.gs]
def pStand (st : List RDeed) : PyData := .tuple (st.map pDeed)
def pHouse (h : RHouse) : PyData := .tuple [pQ h.share, .int (h.pays : Nat), .tuple (h.stands.map pStand)]
structure ChOk (n : Nat) (cs : List (Nat × Rat)) : Prop where
  asc : cs.Pairwise fun a b => a.1 < b.1
  each : ∀ c ∈ cs, c.1 < n ∧ 0 < c.2 ∧ QLt 10 c.2
  one : qsum (cs.map (·.2)) = 1
  cd : ∃ S : Nat, 0 < S ∧ S < 2 ^ 9 ∧ ∀ c ∈ cs, CD S S c.2
structure DeedOk (n p : Nat) (d : RDeed) (g : Nat := 25) : Prop where
  ch : ChOk n d.ch
  len : d.gs.length = p
  gain : ∀ q ∈ d.gs, QLt g q
structure HouseOk (N D P : Nat) (h : RHouse) (g : Nat := 25) : Prop where
  s0 : 0 ≤ h.share
  s1 : h.share < 1
  sb : QLt 7 h.share
  p1 : 1 ≤ h.pays
  pP : h.pays ≤ P
  n1 : 1 ≤ h.stands.length
  nN : h.stands.length ≤ N
  each : ∀ st ∈ h.stands, 1 ≤ st.length ∧ st.length ≤ D ∧ ∀ d ∈ st, DeedOk h.stands.length h.pays d g
theorem asc_len : ∀ {n : Nat} {cs : List (Nat × Rat)} (m : Nat), cs.Pairwise (fun a b => a.1 < b.1) → (∀ c ∈ cs, m ≤ c.1 ∧ c.1 < n) → cs.length ≤ n - m
  | n, [], m, _, _ => Nat.zero_le _
  | n, c :: cs, m, h, hb => by
    rw [List.pairwise_cons] at h
    have a := hb c List.mem_cons_self
    have b := asc_len (c.1 + 1) h.2 fun x hx => ⟨h.1 x hx, (hb x (List.mem_cons_of_mem _ hx)).2⟩
    rw [List.length_cons]; omega
theorem ChOk.len {n : Nat} {cs : List (Nat × Rat)} (h : ChOk n cs) : cs.length ≤ n := by
  have := asc_len 0 h.asc fun c hc => ⟨Nat.zero_le _, (h.each c hc).1⟩
  omega
end Dh
namespace Dh
open PySem PySem.Spec L2 PySem.W
def iN (k : Nat) : PyData := .int (k : Int)
theorem ints_iN : ∀ ns : List Nat, intsOf (ns.map iN) = some (ns.map fun n : Nat => (n : Int))
  | [] => rfl
  | n :: ns => by
    rw [List.map_cons]
    show (intsOf (ns.map iN)).map _ = _
    rw [ints_iN ns]
    rfl
theorem sum_cast : ∀ ns : List Nat, (ns.map fun n : Nat => (n : Int)).sum = ((ns.sum : Nat) : Int)
  | [] => rfl
  | n :: ns => by rw [List.map_cons, List.sum_cons, List.sum_cons, sum_cast ns]; omega
theorem fSum_b {ns : List Nat} : fSum [.b (ns.map iN)] = some (.d (.int ((ns.sum : Nat) : Int))) := by
  show (match rdL (.b (ns.map iN)) with | some xs => (intsOf xs).map fun is : List Int => R.d (.int is.sum) | none => none) = _
  rw [ev_rdL3]
  dsimp only
  rw [ints_iN, Option.map_some, sum_cast]
theorem sum_le {b : Nat} : ∀ ns : List Nat, (∀ n ∈ ns, n ≤ b) → ns.sum ≤ ns.length * b
  | [], _ => by simp
  | n :: ns, h => by
    have a := h n List.mem_cons_self
    have c := sum_le ns fun x hx => h x (List.mem_cons_of_mem _ hx)
    rw [List.sum_cons, List.length_cons, Nat.add_mul]; omega
theorem le_sum : ∀ {ns : List Nat} {n : Nat}, n ∈ ns → n ≤ ns.sum
  | m :: ns, n, h => by
    rw [List.sum_cons]
    rcases List.mem_cons.mp h with rfl | h
    · omega
    · have := le_sum h; omega
theorem qsum_append {a b : List Rat} : qsum (a ++ b) = qsum a + qsum b := by
  induction b using snoc_ind with
  | nil => rw [List.append_nil]; simp [qsum]; grind
  | snoc b x ih => rw [← List.append_assoc, qsum_snoc, qsum_snoc, ih]; grind
theorem divInt_add {a b S : Int} : Rat.divInt a S + Rat.divInt b S = Rat.divInt (a + b) S := by
  rw [Rat.divInt_eq_div, Rat.divInt_eq_div, Rat.divInt_eq_div, Rat.intCast_add, Rat.div_def, Rat.div_def, Rat.div_def]
  grind
theorem CD_divInt {a S : Nat} (hS : 0 < S) (h : a ≤ S) : CD S S (Rat.divInt (a : Nat) (S : Nat)) := by
  refine ⟨a, ?_, by simpa using h⟩
  have e : (S : Rat) ≠ 0 := by rw [Ne, Rat.natCast_eq_zero_iff]; omega
  rw [Rat.divInt_eq_div, Rat.div_def, Rat.intCast_natCast, Rat.intCast_natCast, Rat.mul_comm, Rat.mul_assoc, Rat.inv_mul_cancel _ e, Rat.mul_one]
theorem qsum_cons {x : Rat} {l : List Rat} : qsum (x :: l) = x + qsum l := by
  rw [show x :: l = [x] ++ l from rfl, qsum_append]
  simp [qsum]
  grind
/-- odds of a stand, a start -/
structure OddsOk (n : Nat) (l : List Rat) : Prop where
  len : l.length = n
  each : ∀ q ∈ l, 0 ≤ q ∧ QLt 10 q
  one : qsum l = 1
  cd : ∃ S : Nat, 0 < S ∧ S < 2 ^ 9 ∧ ∀ q ∈ l, CD S S q
theorem odds_sum (S : Int) : ∀ ns : List Nat, qsum (ns.map fun k => Rat.divInt (k : Nat) S) = Rat.divInt ((ns.sum : Nat) : Int) S
  | [] => by simp [qsum]
  | k :: ns => by
    rw [List.map_cons, qsum_cons, odds_sum S ns, divInt_add, List.sum_cons]
    congr 1
theorem parts_ok {ns : List Nat} (hs : 0 < ns.sum) (hb : ∀ n ∈ ns, n ≤ 43) (hl : ns.length ≤ 9) : OddsOk ns.length (ns.map fun k => Rat.divInt (k : Nat) (ns.sum : Nat)) := by
  have h2 := sum_le ns hb
  have h3 : ns.length * 43 ≤ 9 * 43 := Nat.mul_le_mul_right _ hl
  refine ⟨by simp, fun q hq => ?_, ?_, ns.sum, hs, by omega, fun q hq => ?_⟩
  · obtain ⟨k, hk, rfl⟩ := List.mem_map.mp hq
    have := le_sum hk
    exact ⟨Rat.divInt_nonneg (by omega) (by omega), QLt_divInt (by omega) (by omega) (by omega)⟩
  · rw [odds_sum]
    exact Rat.divInt_self' (by omega)
  · obtain ⟨k, hk, rfl⟩ := List.mem_map.mp hq
    exact CD_divInt hs (le_sum hk)
end Dh
namespace Dh
open PySem PySem.Spec L2 PySem.W
theorem bools_true {α : Type} : ∀ l : List α, boolsOf (l.map fun _ => PyData.bool true) = some (l.map fun _ => true)
  | [] => rfl
  | x :: l => by
    rw [List.map_cons]
    show (boolsOf (l.map fun _ => PyData.bool true)).map _ = _
    rw [bools_true l]
    rfl
theorem fAll_true {α : Type} {l : List α} : fAll [.f (l.map fun _ => PyData.bool true)] = some (.d (.bool true)) := by
  show (match rdL (.f (l.map fun _ => PyData.bool true)) with | some xs => (boolsOf xs).map fun bs : List Bool => R.d (.bool (bs.all id)) | none => none) = _
  rw [ev_rdL2]
  dsimp only
  rw [bools_true, Option.map_some]
  congr 3
  rw [List.all_eq_true]
  intro x hx
  obtain ⟨_, _, rfl⟩ := List.mem_map.mp hx
  rfl
theorem cutD_tail {xs : List PyData} : cutD xs (some 1) none = xs.drop 1 := by
  unfold cutD
  have h : HT.sIx xs.length 0 (some 1) = min 1 xs.length := by
    unfold HT.sIx
    cases xs with
    | nil => simp
    | cons x xs => simp; try omega
  have h2 : HT.sIx xs.length xs.length none = xs.length := by
    unfold HT.sIx
    rfl
  rw [h, h2]
  cases xs with
  | nil => rfl
  | cons x xs =>
    have : min 1 (x :: xs).length = 1 := by rw [List.length_cons]; omega
    rw [this]
    simp
theorem pw_tail {α : Type} {r : α → α → Prop} : ∀ {l : List α}, l.Pairwise r → ∀ p ∈ l.zip l.tail, r p.1 p.2
  | [], _, p, hp => by simp at hp
  | [x], _, p, hp => by simp at hp
  | x :: y :: l, h, p, hp => by
    rw [List.tail_cons, List.zip_cons_cons] at hp
    rcases List.mem_cons.mp hp with rfl | hp
    · exact (List.pairwise_cons.mp h).1 y List.mem_cons_self
    · exact pw_tail (List.pairwise_cons.mp h).2 p hp
theorem numbered_map {α : Type} (f : α → PyData) (l : List α) : numbered (l.map f) = l.zipIdx.map (fun p => PyData.tuple [.int (p.2 : Nat), f p.1]) := by
  unfold numbered
  rw [List.zipIdx_map, List.map_map]
  rfl
@[simp] theorem ev_enum1 {x : R} : enum1 [x] = (itemsOf x).map numbered := rfl
end Dh
namespace WW
open PySem PySem.Spec L2 PySem.W Dh
theorem e_is_whole {i : Int} {s : Sto} : f_is_whole [.d (.int i)] s = some (.d (.bool true), s) := by
  refine WF.eq (WF.body rfl ?_)
  simp [m_is_whole]
theorem e_is_between {i lo hi : Int} {s : Sto} (h1 : lo ≤ i) (h2 : i ≤ hi) : f_is_between [.d (.int i), .d (.int lo), .d (.int hi)] s = some (.d (.bool true), s) := by
  refine WF.eq (WF.body rfl ?_)
  simp [m_is_between]
  refine WF.of e_is_whole ?_
  simp [h1, h2]
theorem e_is_tuple_of {xs : List PyData} {n : Int} {s : Sto} (h : (xs.length : Int) = n) : f_is_tuple_of [.d (.tuple xs), .d (.int n)] s = some (.d (.bool true), s) := by
  refine WF.eq (WF.body rfl ?_)
  simp [m_is_tuple_of, fEq_int, h]
theorem e_is_ratio {q : Rat} {s : Sto} : f_is_ratio [.d (pQ q)] s = some (.d (.bool true), s) := by
  refine WF.eq (WF.body rfl ?_)
  simp [m_is_ratio]
  refine WF.of (e_is_tuple_of rfl) ?_
  simp [pQ]
  refine WF.of e_is_whole ?_
  simp
  refine WF.of e_is_whole ?_
  have h := q.den_pos
  have r := q.reduced
  unfold Nat.Coprime at r
  simp [h, fEq_int, r]
theorem e_is_row {l : List Rat} {n : Int} {s : Sto} (h : (l.length : Int) = n) (hl : l.length ≤ 1000) : f_is_row [.d (pQs l), .d (.int n)] s = some (.d (.bool true), s) := by
  refine WF.eq (WF.body rfl ?_)
  simp [m_is_row, List.replicate_succ, pQs]
  refine WF.of (e_is_tuple_of (by rw [List.length_map]; exact h)) ?_
  simp
  refine WLc_map pQ (fun _ => PyData.bool true) l (fun x hx => ?_) ?_
  · simp
    exact WF.of e_is_ratio (by simp)
  · refine ⟨szle (by rw [List.length_map]; exact hl), ?_⟩
    simp [fAll_true]
theorem e_are_chances {n : Nat} {cs : List (Nat × Rat)} {s : Sto} (h : ChOk n cs) (hn : n ≤ 9) : f_are_chances [.d (.tuple (cs.map pCh)), .d (.int (n : Int))] s = some (.d (.bool true), s) := by
  have hl := h.len
  refine WF.eq (WF.body rfl ?_)
  simp [m_are_chances, List.replicate_succ]
  refine WLc_map pCh (fun _ => PyData.bool true) cs (fun x hx => ?_) ?_
  · simp [pCh]
    exact WF.of (e_is_tuple_of rfl) (by simp)
  refine ⟨szle (by rw [List.length_map]; omega), ?_⟩
  simp [fAll_true]
  refine WLc_map pCh (fun _ => PyData.bool true) cs (fun x hx => ?_) ?_
  · obtain ⟨h1, h2, h3⟩ := h.each x hx
    simp [pCh]
    refine WF.of (e_is_between (by omega) (by omega)) ?_
    simp
    refine WF.of e_is_ratio ?_
    simp [pQ]
    have a := Rat.num_nonneg.mpr (Rat.le_of_lt h2)
    have b : x.2.num ≠ 0 := fun z => Rat.ne_of_gt h2 (Rat.num_eq_zero.mp z)
    omega
  refine ⟨szle (by rw [List.length_map]; omega), ?_⟩
  simp [fAll_true]
  refine WLc_map pCh (fun c => PyData.int (c.1 : Nat)) cs (fun x hx => ?_) ?_
  · simp [pCh]
  refine ⟨szle (by rw [List.length_map]; omega), ?_⟩
  simp [frzs, frz1, fSl, cutD_tail]
  rw [← List.map_tail, pairs_map]
  refine WLc_map (p2 (fun c : Nat × Rat => PyData.int (c.1 : Nat)) (fun c : Nat × Rat => PyData.int (c.1 : Nat))) (fun _ => PyData.bool true) (cs.zip cs.tail) (fun x hx => ?_) ?_
  · have := pw_tail h.asc x hx
    simp [p2, this]
  refine ⟨szle (by rw [List.length_map, List.length_zip]; omega), ?_⟩
  simp [fAll_true]
  refine WLc_map pCh (fun c => pQ c.2) cs (fun x hx => ?_) ?_
  · simp [pCh]
  refine ⟨szle (by rw [List.length_map]; omega), ?_⟩
  simp
  refine WF.of (e_total (l := cs.map (·.2)) (k := 10) (by rw [List.map_map]; rfl) (fun q hq => by
    obtain ⟨c, hc, rfl⟩ := List.mem_map.mp hq
    exact (h.each c hc).2.2) (by rw [List.length_map]; omega)) ?_
  rw [h.one]
  simp [show k_ONE = pQ 1 from rfl, fEq_pQ]
theorem e_is_deed {n p g : Nat} {d : RDeed} {s : Sto} (h : DeedOk n p d g) (hn : n ≤ 9) (hp : p ≤ 9) : f_is_deed [.d (pDeed d), .d (.int (p : Int)), .d (.int (n : Int))] s = some (.d (.bool true), s) := by
  refine WF.eq (WF.body rfl ?_)
  simp [m_is_deed, pDeed]
  refine WF.of (e_is_tuple_of rfl) ?_
  simp
  refine WF.of (e_are_chances h.ch hn) ?_
  simp
  refine WF.of (e_is_row (by rw [h.len]) (by rw [h.len]; omega)) ?_
  simp
theorem e_is_stand {n p g : Nat} {st : List RDeed} {s : Sto} (h : ∀ d ∈ st, DeedOk n p d g) (h1 : 1 ≤ st.length) (h4 : st.length ≤ 4) (hn : n ≤ 9) (hp : p ≤ 9) : f_is_stand [.d (pStand st), .d (.int (p : Int)), .d (.int (n : Int))] s = some (.d (.bool true), s) := by
  refine WF.eq (WF.body rfl ?_)
  simp [m_is_stand, List.replicate_succ, pStand, k_MOST_DEEDS]
  refine WF.of (e_is_between (by omega) (by omega)) ?_
  simp
  refine WLc_map pDeed (fun _ => PyData.bool true) st (fun x hx => ?_) ?_
  · simp
    exact WF.of (e_is_deed (h x hx) hn hp) (by simp)
  refine ⟨szle (by rw [List.length_map]; omega), ?_⟩
  simp [fAll_true]
theorem e_is_house {N D P g : Nat} {h : RHouse} {s : Sto} (ok : HouseOk N D P h g) (hN : N ≤ 8) (hD : D ≤ 4) (hP : h.pays ≤ 4) : f_is_house_by [.d (pHouse h)] s = some (.d (.bool true), s) := by
  have hn1 := ok.n1
  have hn := ok.nN
  have hp1 := ok.p1
  refine WF.eq (WF.body rfl ?_)
  simp [m_is_house_by, List.replicate_succ, pHouse, k_MOST_PAYS, k_MOST_STANDS]
  refine WF.of (e_is_tuple_of rfl) ?_
  simp
  refine WF.of (show f_is_share [.d (pQ h.share)] s = some (.d (.bool true), s) from WF.eq (WF.body rfl ?_)) ?_
  · simp [m_is_share]
    refine WF.of e_is_ratio ?_
    have a := Rat.num_nonneg.mpr ok.s0
    have b := (Rat.lt_iff _ _).mp ok.s1
    simp at b
    simp [pQ, ok.s0, b]
  simp
  refine WF.of (e_is_between (by omega) (by omega)) ?_
  simp
  refine WF.of (e_is_between (by omega) (by omega)) ?_
  simp
  refine WLc_map pStand (fun _ => PyData.bool true) h.stands (fun x hx => ?_) ?_
  · obtain ⟨h1, h2, h3⟩ := ok.each x hx
    simp
    exact WF.of (e_is_stand h3 h1 (by omega) (by omega) (by omega)) (by simp)
  refine ⟨szle (by rw [List.length_map]; omega), ?_⟩
  simp [fAll_true]
theorem e_check_house {N D P g : Nat} {h : RHouse} {s : Sto} (ok : HouseOk N D P h g) (hN : N ≤ 8) (hD : D ≤ 4) (hP : h.pays ≤ 4) : f_check_house [.d (pHouse h)] s = some (.d .none, s) := by
  refine WF.eq (WF.body rfl ?_)
  simp [m_check_house]
  exact WF.of (e_is_house ok hN hD hP) (by simp)
end WW
namespace Dh
open PySem PySem.Spec L2 PySem.W
section
variable {ρ : Ev} {s : Sto} {i j : Nat} {QS : Out → Ev → Sto → Prop} {Q : R → Sto → Prop} {a : Mx} {as : Ma}
def par2fK (ρ : Ev) (i j : Nat) (rs : List R) : Option Ev := match rs with
  | [.f c, .f d] => some ((ρ.set i (some (.o c))).set j (some (.o d)))
  | _ => none
theorem mPar2f_eq {x : List R} {s1 : Sto} (e : as ρ s = some (x, s1)) : mPar2f i j as ρ s = (par2fK ρ i j x).map fun ρ1 => (.nx, ρ1, s1) := by
  unfold mPar2f par2fK
  rw [e]
  split
  · rename_i c d s2 e2
    cases e2
    rfl
  · rename_i h
    split
    · rename_i c d
      exact absurd rfl (h c d s1)
    · rfl
@[simp ↓] theorem ws_par2f : WS (mPar2f i j as) ρ s QS = WA as ρ s fun rs s1 => WO (par2fK ρ i j rs) fun ρ1 => QS .nx ρ1 s1 := by
  apply propext
  unfold WS WA WO
  constructor
  · rintro ⟨o, ρ', s', e, q⟩
    rcases h : as ρ s with _ | ⟨x, s1⟩
    · unfold mPar2f at e; rw [h] at e; cases e
    · rw [mPar2f_eq h] at e
      obtain ⟨ρ1, e1, e2⟩ := Option.map_eq_some_iff.mp e
      cases e2
      exact ⟨x, _, rfl, _, e1, q⟩
  · rintro ⟨x, s1, h, ρ1, e1, q⟩
    exact ⟨_, _, _, by rw [mPar2f_eq h, e1]; rfl, q⟩
@[simp] theorem par2fK_ff {x y : List PyData} : par2fK ρ i j [.f x, .f y] = some ((ρ.set i (some (.o x))).set j (some (.o y))) := rfl
def par3gK (ρ : Ev) (i j l : Nat) (rs : List R) : Option Ev := match rs with
  | [r, q, u] => match toCl r, toCl q, toCl u with
    | some c, some d, some f => some (((ρ.set i (some c)).set j (some d)).set l (some f))
    | _, _, _ => none
  | _ => none
theorem mPar3g_eq {l : Nat} {x : List R} {s1 : Sto} (e : as ρ s = some (x, s1)) : mPar3g i j l as ρ s = (par3gK ρ i j l x).map fun ρ1 => (.nx, ρ1, s1) := by
  unfold mPar3g par3gK
  rw [e]
  split
  · rename_i r q u s2 e2
    cases e2
    dsimp only
    rcases toCl r with _ | c
    · rfl
    · rcases toCl q with _ | d
      · rfl
      · rcases toCl u with _ | f
        · rfl
        · rfl
  · rename_i h
    split
    · rename_i r q u
      exact absurd rfl (h r q u s1)
    · rfl
@[simp ↓] theorem ws_par3g {l : Nat} : WS (mPar3g i j l as) ρ s QS = WA as ρ s fun rs s1 => WO (par3gK ρ i j l rs) fun ρ1 => QS .nx ρ1 s1 := by
  apply propext
  unfold WS WA WO
  constructor
  · rintro ⟨o, ρ', s', e, q⟩
    rcases h : as ρ s with _ | ⟨x, s1⟩
    · unfold mPar3g at e; rw [h] at e; cases e
    · rw [mPar3g_eq h] at e
      obtain ⟨ρ1, e1, e2⟩ := Option.map_eq_some_iff.mp e
      cases e2
      exact ⟨x, _, rfl, _, e1, q⟩
  · rintro ⟨x, s1, h, ρ1, e1, q⟩
    exact ⟨_, _, _, by rw [mPar3g_eq h, e1]; rfl, q⟩
@[simp] theorem ev_par3gK {l : Nat} {r q u : R} : par3gK ρ i j l [r, q, u] = (match toCl r, toCl q, toCl u with | some c, some d, some f => some (((ρ.set i (some c)).set j (some d)).set l (some f)) | _, _, _ => none) := rfl
end
end Dh
namespace Dh
open PySem PySem.Spec L2 PySem.W
theorem cut_to {xs : List PyData} {k : Nat} : cutD xs none (some (k : Int)) = xs.take k := by
  unfold cutD
  rw [HT.sIx_none, HT.sIx_nat, List.drop_zero, Nat.sub_zero]
  by_cases h : k ≤ xs.length
  · rw [Nat.min_eq_left h]
  · rw [Nat.min_eq_right (by omega), List.take_of_length_le (by omega), List.take_of_length_le (by omega)]
/-- a gain: small, over 84 -/
def Gn (q : Rat) : Prop := QLt 70 q ∧ CD 84 (2 ^ 77) q
theorem Gn.of {q : Rat} (h : QLt 70 q) (d : (q.den : Int) ∣ 84) : Gn q := by
  refine ⟨h, ?_⟩
  obtain ⟨e, he⟩ := d
  have e0 : 0 < e := by
    have := q.den_pos
    rcases Int.lt_trichotomy e 0 with a | a | a
    · have : (q.den : Int) * e < 0 := Int.mul_neg_of_pos_of_neg (by omega) a
      omega
    · subst a; omega
    · exact a
  have eb : e ≤ 84 := by
    have := Int.mul_le_mul_of_nonneg_right (show (1 : Int) ≤ q.den by have := q.den_pos; omega) (Int.le_of_lt e0)
    omega
  refine ⟨q.num * e, ?_, ?_⟩
  · have a := El.den_mul_self q
    have b : ((84 : Nat) : Rat) = (q.den : Rat) * (e : Rat) := by
      rw [show ((84 : Nat) : Rat) = ((84 : Int) : Rat) from rfl, he, Rat.intCast_mul, Rat.intCast_natCast]
    rw [b, Rat.intCast_mul, ← a]
    grind
  · rw [Int.natAbs_mul]
    have h1 := h.1
    have h2 : e.natAbs ≤ 84 := by omega
    have := Nat.mul_le_mul (Nat.le_of_lt h1) h2
    exact Nat.le_trans this (by decide)
end Dh
namespace Dh
open PySem PySem.Spec L2 PySem.W
section
variable {ρ : Ev} {s : Sto} {i j : Nat} {QS : Out → Ev → Sto → Prop} {Q : R → Sto → Prop} {a : Mx} {as : Ma}
def par2gK (ρ : Ev) (i j : Nat) (rs : List R) : Option Ev := match rs with
  | [r, q] => match toCl r, toCl q with
    | some c, some d => some ((ρ.set i (some c)).set j (some d))
    | _, _ => none
  | _ => none
theorem mPar2g_eq {x : List R} {s1 : Sto} (e : as ρ s = some (x, s1)) : mPar2g i j as ρ s = (par2gK ρ i j x).map fun ρ1 => (.nx, ρ1, s1) := by
  unfold mPar2g par2gK
  rw [e]
  split
  · rename_i r q s2 e2
    cases e2
    dsimp only
    rcases toCl r with _ | c
    · rfl
    · rcases toCl q with _ | d
      · rfl
      · rfl
  · rename_i h
    split
    · rename_i r q
      exact absurd rfl (h r q s1)
    · rfl
@[simp ↓] theorem ws_par2g : WS (mPar2g i j as) ρ s QS = WA as ρ s fun rs s1 => WO (par2gK ρ i j rs) fun ρ1 => QS .nx ρ1 s1 := by
  apply propext
  unfold WS WA WO
  constructor
  · rintro ⟨o, ρ', s', e, q⟩
    rcases h : as ρ s with _ | ⟨x, s1⟩
    · unfold mPar2g at e; rw [h] at e; cases e
    · rw [mPar2g_eq h] at e
      obtain ⟨ρ1, e1, e2⟩ := Option.map_eq_some_iff.mp e
      cases e2
      exact ⟨x, _, rfl, _, e1, q⟩
  · rintro ⟨x, s1, h, ρ1, e1, q⟩
    exact ⟨_, _, _, by rw [mPar2g_eq h, e1]; rfl, q⟩
@[simp] theorem par2gK_ff {x y : List PyData} : par2gK ρ i j [.f x, .f y] = some ((ρ.set i (some (.o x))).set j (some (.o y))) := rfl
@[simp] theorem par2gK_df {x : PyData} {y : List PyData} : par2gK ρ i j [.d x, .f y] = some ((ρ.set i (some (.d x))).set j (some (.o y))) := rfl
@[simp] theorem par2gK_fd {x : List PyData} {y : PyData} : par2gK ρ i j [.f x, .d y] = some ((ρ.set i (some (.o x))).set j (some (.d y))) := rfl
@[simp] theorem par2gK_dd {x y : PyData} : par2gK ρ i j [.d x, .d y] = some ((ρ.set i (some (.d x))).set j (some (.d y))) := rfl
end
end Dh
namespace Dh
open PySem PySem.Spec L2 PySem.W
def Vu (m : Nat) (s : Sto) : Prop := ∃ a b c : Int, s = [a, b, c] ∧ 0 ≤ b ∧ b < 2147483587 ∧ 0 ≤ c ∧ c + (m : Int) ≤ 1099511627776
theorem Vu.mono {m n : Nat} {s : Sto} (h : Vu n s) (k : m ≤ n := by omega) : Vu m s := by
  obtain ⟨a, b, c, e, h1, h2, h3, h4⟩ := h
  exact ⟨a, b, c, e, h1, h2, h3, by omega⟩
end Dh
namespace WW
open PySem PySem.Spec L2 PySem.W Dh
theorem w_draw {l : Int} {s : Sto} {m : Nat} (v : Vu (m + 1) s) (h : 0 < l) (hl : l < 1099511627776) : WF f_law_draw [.s, .d (.int l)] s fun r s' => ∃ d : Int, r = .d (.int d) ∧ 0 ≤ d ∧ d < l ∧ Vu m s' := by
  obtain ⟨a, b, c, rfl, h1, h2, h3, h4⟩ := v
  refine WF.body rfl ?_
  have l0 : l ≠ 0 := by omega
  by_cases ha : 0 < a
  · have p : Builtin.divisionGoesByPylong a l = false := pylong_of (lt_monoB (a := 40) (lt40 (by omega) hl) (by decide))
    simp [m_law_draw, ha, List.replicate_succ, fDivmod, h, p, ixN]
    exact ⟨Int.emod_nonneg _ l0, Int.emod_lt_of_pos _ h, a / l, b, c, rfl, h1, h2, h3, by omega⟩
  · have m1 : mulOk b 48271 = true := mulOk_of (a := 31) (b := 16) (by omega) (by decide) (by decide)
    have m2 : mulOk (c + 1) 69621 = true := mulOk_of (a := 41) (b := 17) (by omega) (by decide) (by decide)
    simp [m_law_draw, ha, List.replicate_succ, putS, ixN, m1, m2, fMul_ok, gMod_pos]
    have x1 : 0 ≤ (b * 48271 + (c + 1) * 69621 + 11) % 2147483587 := Int.emod_nonneg _ (by decide)
    have x2 : (b * 48271 + (c + 1) * 69621 + 11) % 2147483587 < 2147483587 := Int.emod_lt_of_pos _ (by decide)
    generalize (b * 48271 + (c + 1) * 69621 + 11) % 2147483587 = x at *
    have y1 : 0 ≤ x % 8191 := Int.emod_nonneg _ (by decide)
    have y2 : x % 8191 < 8191 := Int.emod_lt_of_pos _ (by decide)
    refine ⟨mulOk_of (a := 31) (b := 16) (by omega) (by omega) (by decide), ?_⟩
    generalize x * (x % 8191 + 30029) = z at *
    simp [gFdiv_small (i := z) (j := 4099) (by decide) (by decide), gMod_pos h]
    exact ⟨Int.emod_nonneg _ l0, Int.emod_lt_of_pos _ h, a, x, c + 1, rfl, x1, x2, by omega, by omega⟩
theorem w_pickL {xs : List PyData} {s : Sto} {m : Nat} (v : Vu (m + 1) s) (h : 0 < xs.length) (hl : xs.length ≤ 1000) : WF f_law_pick [.s, .d (.list xs)] s fun r s' => ∃ x ∈ xs, r = .d x ∧ Vu m s' := by
  refine WF.body rfl ?_
  simp [m_law_pick]
  refine WF.use (w_draw (l := (xs.length : Int)) v (by omega) (by omega)) ?_
  rintro _ s' ⟨d, rfl, d0, d1, v'⟩
  obtain ⟨x, hx, e⟩ := atI_pick (xs := xs) d0 d1
  simp [e]
  exact ⟨x, hx, rfl, v'⟩
theorem w_pickT {xs : List PyData} {s : Sto} {m : Nat} (v : Vu (m + 1) s) (h : 0 < xs.length) (hl : xs.length ≤ 1000) : WF f_law_pick [.s, .d (.tuple xs)] s fun r s' => ∃ x ∈ xs, r = .d x ∧ Vu m s' := by
  refine WF.body rfl ?_
  simp [m_law_pick]
  refine WF.use (w_draw (l := (xs.length : Int)) v (by omega) (by omega)) ?_
  rintro _ s' ⟨d, rfl, d0, d1, v'⟩
  obtain ⟨x, hx, e⟩ := atI_pick (xs := xs) d0 d1
  simp [e]
  exact ⟨x, hx, rfl, v'⟩
theorem e_cut {t l : Int} {s : Sto} (h : 0 < l) (hl : l.natAbs < 2 ^ 9000) : f_law_cut [.d (.int t), .d (.int l)] s = some (.d (pQ (Rat.divInt t l)), s) := by
  refine WF.eq (WF.body rfl ?_)
  have g : 0 < gg t l := gg_pos (by omega)
  have g1 : (gg t l).natAbs < 2 ^ 9000 := Nat.lt_of_le_of_lt (gg_le (by omega)) hl
  have a1 : (if t < 0 then -t else t) = ((t.natAbs : Nat) : Int) := by split <;> omega
  have e : ∀ i : Int, gFdiv i ((t.natAbs.gcd l.natAbs : Nat) : Int) = some (.int (i / gg t l)) := fun i => gFdiv_pos g g1
  have eu := fun Q => w_euclid (x := some (.d (.int t))) (y := some (.d (.int l))) (s := s) (Q := Q) l.natAbs t.natAbs
  rw [show ((l.natAbs : Nat) : Int) = l by omega] at eu
  simp only [m_law_cut]
  simp [List.replicate_succ, a1]
  refine eu _ ?_
  simp [e, sz2, pQ, divInt_num h, divInt_den h]
theorem e_lplus {p q : Rat} {s : Sto} (hp : Bd p) (hq : Bd q) : f_law_plus [.d (pQ p), .d (pQ q)] s = some (.d (pQ (p + q)), s) := by
  refine WF.eq (WF.body rfl ?_)
  simp [m_law_plus, pQ, fMul_ok, mulOk_nd hp hq, mulOk_nd hq hp, mulOk_dd hp hq]
  refine WF.of (e_cut (den_mul_pos p q) (den_lt hp hq)) ?_
  rw [← add_divInt]
  simp [pQ]
theorem e_ltimes {p q : Rat} {s : Sto} (hp : Bd p) (hq : Bd q) : f_law_times [.d (pQ p), .d (pQ q)] s = some (.d (pQ (p * q)), s) := by
  refine WF.eq (WF.body rfl ?_)
  simp [m_law_times, pQ, fMul_ok, mulOk_nn hp hq, mulOk_dd hp hq]
  refine WF.of (e_cut (den_mul_pos p q) (den_lt hp hq)) ?_
  rw [← mul_divInt]
  simp [pQ]
theorem e_lunder {p q : Rat} {s : Sto} (hp : Bd p) (hq : Bd q) : f_law_is_under [.d (pQ p), .d (pQ q)] s = some (.d (.bool (decide (p < q))), s) := by
  refine WF.eq (WF.body rfl ?_)
  simp [m_law_is_under, pQ, fMul_ok, mulOk_nd hp hq, mulOk_nd hq hp, Rat.lt_iff]
theorem ix_num {q : Rat} {s : Sto} : fIx s (.d (pQ q)) (.d (.int 0)) = some (.d (.int q.num)) := by simp [pQ]
theorem nonneg_num {q : Rat} (h : 0 ≤ q) : 0 ≤ q.num := Rat.num_nonneg.mpr h
theorem e_is_chance_row {n : Nat} {l : List Rat} {s : Sto} (ok : OddsOk n l) (hn : n ≤ 9) : f_is_chance_row [.d (pQs l), .d (.int (n : Int))] s = some (.d (.bool true), s) := by
  have hl := ok.len
  refine WF.eq (WF.body rfl ?_)
  simp [m_is_chance_row, List.replicate_succ]
  refine WF.of (e_is_row (by omega) (by omega)) ?_
  simp [pQs]
  refine WLc_map pQ (fun _ => PyData.bool true) l (fun x hx => ?_) ?_
  · have := nonneg_num (ok.each x hx).1
    simp [pQ, this]
  refine ⟨szle (by rw [List.length_map]; omega), ?_⟩
  simp [fAll_true]
  refine WF.of (e_total (l := l) (k := 10) rfl (fun q hq => (ok.each q hq).2) (by omega)) ?_
  rw [ok.one]
  simp [show k_ONE = pQ 1 from rfl, fEq_pQ]
theorem e_check_start {h : RHouse} {l : List Rat} {s : Sto} (ok : OddsOk h.stands.length l) (hn : h.stands.length ≤ 9) : f_check_start [.d (pHouse h), .d (pQs l)] s = some (.d .none, s) := by
  have hl := ok.len
  refine WF.eq (WF.body rfl ?_)
  simp [m_check_start, List.replicate_succ, pHouse, pQs]
  refine WF.of (e_is_tuple_of (by simp [hl])) ?_
  simp [numbered_map]
  refine WFor_inv (fun p : Rat × Nat => PyData.tuple [.int (p.2 : Nat), pQ p.1]) l.zipIdx (fun i ρ s' => s' = s ∧ ∃ c d, ρ = [some (.d (pHouse h)), some (.d (pQs l)), c, d]) ⟨rfl, _, _, rfl⟩ ?_ ?_
  · rintro i x ρ s' hx ⟨rfl, c, d, rfl⟩
    have hm : x.1 ∈ l := by
      have := List.mem_of_getElem? hx
      exact List.fst_mem_of_mem_zipIdx this
    have := nonneg_num (ok.each _ hm).1
    simp
    refine WF.of e_is_ratio ?_
    simp [ix_num, show ¬ x.1.num < 0 by omega]
  · rintro ρ s' ⟨rfl, c, d, rfl⟩
    simp
    refine WF.of (e_total (l := l) (k := 10) rfl (fun q hq => (ok.each q hq).2) (by omega)) ?_
    rw [ok.one]
    simp [show k_ONE = pQ 1 from rfl, fEq_pQ]
/-- odds over a small number -/
def OddsC (n : Nat) (l : List Rat) : Prop := OddsOk n l ∧ ∃ S : Nat, 0 < S ∧ S < 2 ^ 5 ∧ ∀ q ∈ l, CD S S q
theorem w_odds {n : Nat} {s : Sto} {m : Nat} (h1 : 1 ≤ n) (h9 : n ≤ 9) (v : Vu (m + n + 1) s) : WF f_law_odds [.s, .d (.int (n : Int))] s fun r s' => ∃ l : List Rat, r = .d (pQs l) ∧ OddsC n l ∧ Vu m s' := by
  refine WF.body rfl ?_
  simp [m_law_odds, List.replicate_succ, range1_nat (n := n) (by omega)]
  refine WFor_inv (fun i : Nat => PyData.int i) (List.range n) (fun i ρ s' => ∃ (ns : List Nat) (c3 : Option Cl), ρ = [some .s, some (.d (.int (n : Int))), some (.o (ns.map iN)), c3, none, none] ∧ ns.length = i ∧ (∀ k ∈ ns, k ≤ 3) ∧ Vu (m + 1 + (n - i)) s') ⟨[], none, rfl, rfl, by simp, v.mono⟩ ?_ ?_
  · rintro i x ρ s' hx ⟨ns, c3, rfl, nl, nq, v⟩
    obtain ⟨rfl, hi⟩ := range_at hx
    simp [szle (show 7 ≤ 1000 by decide)]
    refine WF.use (w_pickL (m := m + 1 + (n - (x + 1))) v.mono (by decide) (by decide)) ?_
    rintro _ s1 ⟨y, hy, rfl, v1⟩
    obtain ⟨k, rfl, hk⟩ : ∃ k : Nat, y = iN k ∧ k ≤ 3 := by
      simp only [List.mem_cons, List.not_mem_nil, or_false] at hy
      rcases hy with rfl | rfl | rfl | rfl | rfl | rfl | rfl <;> first | exact ⟨0, rfl, by decide⟩ | exact ⟨1, rfl, by decide⟩ | exact ⟨2, rfl, by decide⟩ | exact ⟨3, rfl, by decide⟩
    simp [nl, szlt (show x ≤ 1000 by omega)]
    exact ⟨ns ++ [k], by simp, by simp [nl], fun z hz => by
      rcases List.mem_append.mp hz with hz | hz
      · exact nq z hz
      · rw [List.mem_singleton.mp hz]; exact hk, v1⟩
  · rintro ρ s' ⟨ns, c3, rfl, nl, nq, v⟩
    rw [List.length_range] at nl
    have fin : ∀ (ns : List Nat) (c3 : Option Cl) (s' : Sto), ns.length = n → (∀ k ∈ ns, k ≤ 3) → 0 < ns.sum → Vu m s' →
        WS (mSeq (mSet 4 (mA fSum (maCons (mVar 2) maNil))) (mFrz [2] (mRet (mA fTupOf (maCons (mLc (mSeqI (mVar 2)) [5] (gN 5) mYes (mCall f_law_cut (maCons (mVar 5) (maCons (mVar 4) maNil)))) maNil)))))
          [some .s, some (.d (.int (n : Int))), some (.o (ns.map iN)), c3, none, none] s' (endK fun r s' => ∃ l : List Rat, r = .d (pQs l) ∧ OddsC n l ∧ Vu m s') := by
      intro ns c3 s' nl nq hs v
      have ok := parts_ok hs (fun k hk => Nat.le_trans (nq k hk) (by decide)) (by omega)
      have sb : ns.sum ≤ 27 := by
        have := sum_le ns nq
        omega
      simp [fSum_b, frzs, frz1]
      refine WLc_map iN (fun k => pQ (Rat.divInt (k : Nat) (ns.sum : Nat))) ns (fun k hk => ?_) ?_
      · simp [iN]
        exact WF.of (e_cut (by omega) (by rw [Int.natAbs_natCast]; exact Nat.lt_of_le_of_lt sb (Nat.lt_of_lt_of_le (show 27 < 2 ^ 5 by decide) (Nat.pow_le_pow_right (by decide) (by decide))))) (by simp)
      refine ⟨szle (by rw [List.length_map]; omega), ?_⟩
      simp
      refine ⟨ns.map fun k => Rat.divInt (k : Nat) (ns.sum : Nat), by simp [pQs], ⟨by rw [← nl]; exact ok, ns.sum, hs, by omega, fun q hq => ?_⟩, v⟩
      obtain ⟨k, hk, rfl⟩ := List.mem_map.mp hq
      exact CD_divInt hs (le_sum hk)
    simp [fSum_b]
    by_cases h0 : ns.sum = 0
    · simp [fEq_int, h0]
      refine WF.use (w_draw (l := (n : Int)) (m := m) v.mono (by omega) (by omega)) ?_
      rintro _ s1 ⟨d, rfl, d0, d1, v1⟩
      obtain ⟨e, rfl⟩ := Int.eq_ofNat_of_zero_le d0
      have he : e < ns.length := by omega
      have es : (ns.map iN).set e (.int 1) = (ns.set e 1).map iN := by rw [List.map_set]; rfl
      simp [Dh.putL, ixN_ofNat (n := ns.length) he]
      rw [es]
      have := fin (ns.set e 1) c3 s1 (by rw [List.length_set]; exact nl) (fun k hk => by
        rcases List.mem_or_eq_of_mem_set hk with hk | rfl
        · exact nq k hk
        · decide) (by
          have : 1 ∈ ns.set e 1 := List.mem_set he 1
          exact Nat.lt_of_lt_of_le (by decide) (le_sum this)) v1
      simpa using this
    · simp [fEq_int, h0]
      have := fin ns c3 s' nl nq (by omega) v.mono
      simpa using this
end WW
namespace Dh
open PySem PySem.Spec L2 PySem.W
/-- the chances above 0 of a row, from a stand on -/
def chK : Nat → List Rat → List (Nat × Rat)
  | _, [] => []
  | k, q :: l => if 0 < q then (k, q) :: chK (k + 1) l else chK (k + 1) l
theorem chK_range : ∀ (l pre : List Rat), (List.range' pre.length l.length).filterMap (fun k => if 0 < (pre ++ l).getD k 0 then some (pCh (k, (pre ++ l).getD k 0)) else none) = (chK pre.length l).map pCh
  | [], pre => by simp [chK]
  | q :: l, pre => by
    have e : (pre ++ q :: l).getD pre.length 0 = q := by simp
    have e2 : pre ++ q :: l = (pre ++ [q]) ++ l := by simp
    rw [List.length_cons, List.range'_succ, List.filterMap_cons, e, chK]
    have ih := chK_range l (pre ++ [q])
    rw [List.length_append, List.length_singleton, ← e2] at ih
    by_cases h : 0 < q
    · rw [if_pos h, if_pos h, List.map_cons, ih]
    · rw [if_neg h, if_neg h, ih]
theorem chK_mem : ∀ {l : List Rat} {k : Nat} {c : Nat × Rat}, c ∈ chK k l → k ≤ c.1 ∧ c.1 < k + l.length ∧ c.2 ∈ l ∧ 0 < c.2
  | [], _, _, h => by simp [chK] at h
  | q :: l, k, c, h => by
    rw [chK] at h
    have step : c ∈ chK (k + 1) l → k ≤ c.1 ∧ c.1 < k + (q :: l).length ∧ c.2 ∈ q :: l ∧ 0 < c.2 := fun h => by
      obtain ⟨a, b, d, e⟩ := chK_mem h
      exact ⟨by omega, by rw [List.length_cons]; omega, List.mem_cons_of_mem _ d, e⟩
    split at h
    · rename_i hq
      rcases List.mem_cons.mp h with rfl | h
      · exact ⟨Nat.le_refl _, by rw [List.length_cons]; show k < _; omega, by simp, hq⟩
      · exact step h
    · exact step h
theorem chK_asc : ∀ {l : List Rat} {k : Nat}, (chK k l).Pairwise fun a b => a.1 < b.1
  | [], _ => by simp [chK]
  | q :: l, k => by
    rw [chK]
    split
    · refine List.pairwise_cons.mpr ⟨fun b hb => ?_, chK_asc⟩
      have := (chK_mem hb).1
      show k < b.1
      omega
    · exact chK_asc
theorem chK_sum : ∀ {l : List Rat} {k : Nat}, (∀ q ∈ l, 0 ≤ q) → qsum ((chK k l).map (·.2)) = qsum l
  | [], _, _ => rfl
  | q :: l, k, h => by
    have h0 := h q (by simp)
    rw [chK, qsum_cons]
    split
    · rw [List.map_cons, qsum_cons, chK_sum fun z hz => h z (List.mem_cons_of_mem _ hz)]
    · rw [chK_sum fun z hz => h z (List.mem_cons_of_mem _ hz)]
      have : q = 0 := by grind
      rw [this, Rat.zero_add]
theorem chK_ok {n : Nat} {l : List Rat} (o : WW.OddsC n l) : ChOk n (chK 0 l) where
  asc := chK_asc
  each := fun c hc => by
    obtain ⟨_, b, d, e⟩ := chK_mem hc
    have hl := o.1.len
    exact ⟨by omega, e, (o.1.each _ d).2⟩
  one := by rw [chK_sum fun q hq => (o.1.each q hq).1]; exact o.1.one
  cd := by
    obtain ⟨S, h0, h5, hS⟩ := o.2
    exact ⟨S, h0, Nat.lt_of_lt_of_le h5 (by decide), fun c hc => hS _ (chK_mem hc).2.2.1⟩
theorem num_pos_iff {q : Rat} : 0 < q.num ↔ 0 < q := by
  rw [Rat.lt_iff]; simp
/-- chances over a small number -/
def DSm (d : RDeed) : Prop := ∃ S : Nat, 0 < S ∧ S < 2 ^ 5 ∧ ∀ c ∈ d.ch, CD S S c.2
theorem QLt_div {t : Int} {l : Int} (h : 0 < l) (h2 : l ≤ 9) (h1 : t.natAbs ≤ 200) : QLt 8 (Rat.divInt t l) := QLt_divInt h (by omega) (by omega)
end Dh
namespace WW
open PySem PySem.Spec L2 PySem.W Dh
theorem w_hall {p : Nat} {s : Sto} {m : Nat} (p1 : 1 ≤ p) (p3 : p ≤ 3) (v : Vu (m + 300) s) : WF f_law_hall [.s, .d (.int 3), .d (.int (p : Int))] s fun r s' => ∃ h : RHouse, r = .d (pHouse h) ∧ h.pays = p ∧ HouseOk 3 3 3 h 8 ∧ (∀ st ∈ h.stands, ∀ d ∈ st, DSm d) ∧ Vu m s' := by
  refine WF.body rfl ?_
  simp [m_law_hall, List.replicate_succ]
  refine WF.use (w_draw (l := 3) (m := m + 299) v.mono (by decide) (by decide)) ?_
  rintro _ s1 ⟨d, rfl, d0, d1, v1⟩
  obtain ⟨n, hn⟩ : ∃ n : Nat, (1 : Int) + d = (n : Int) := ⟨(1 + d).toNat, by omega⟩
  have n1 : 1 ≤ n := by omega
  have n3 : n ≤ 3 := by omega
  simp [hn, range1_nat (n := n) (by omega)]
  refine WFor_inv (fun i : Nat => PyData.int i) (List.range n) (fun i ρ s' => ∃ (hs : List (List RDeed)) (c5 c6 c7 c8 c9 c10 c11 : Option Cl), ρ = [some .s, some (.d (.int 3)), some (.d (.int (p : Int))), some (.d (.int (n : Int))), some (.o (hs.map pStand)), c5, c6, c7, c8, c9, c10, c11] ∧ hs.length = i ∧ (∀ st ∈ hs, 1 ≤ st.length ∧ st.length ≤ 3 ∧ ∀ d ∈ st, DeedOk n p d 8 ∧ DSm d) ∧ Vu (m + 10 + 90 * (n - i)) s') ⟨[], none, none, none, none, none, none, none, rfl, rfl, by simp, v1.mono⟩ ?_ ?_
  · rintro i x ρ s' hx ⟨hs, c5, c6, c7, c8, c9, c10, c11, rfl, hl, hq, v⟩
    obtain ⟨rfl, hi⟩ := range_at hx
    simp [szle (show 4 ≤ 1000 by decide)]
    refine WF.use (w_pickL (m := m + 10 + 90 * (n - (x + 1)) + 85) v.mono (by decide) (by decide)) ?_
    rintro _ s2 ⟨y, hy, rfl, v2⟩
    obtain ⟨k, rfl, k1, k3⟩ : ∃ k : Nat, y = .int (k : Int) ∧ 1 ≤ k ∧ k ≤ 3 := by
      simp only [List.mem_cons, List.not_mem_nil, or_false] at hy
      rcases hy with rfl | rfl | rfl | rfl <;> first | exact ⟨1, rfl, by decide, by decide⟩ | exact ⟨2, rfl, by decide, by decide⟩ | exact ⟨3, rfl, by decide, by decide⟩
    simp [range1_nat (n := k) (by omega)]
    refine WFor_inv (fun i : Nat => PyData.int i) (List.range k) (fun j ρ s3 => ∃ (ds : List RDeed) (c7 c8 c9 c10 c11 : Option Cl), ρ = [some .s, some (.d (.int 3)), some (.d (.int (p : Int))), some (.d (.int (n : Int))), some (.o (hs.map pStand)), some (.d (.int (x : Int))), some (.o (ds.map pDeed)), c7, c8, c9, c10, c11] ∧ ds.length = j ∧ (∀ d ∈ ds, DeedOk n p d 8 ∧ DSm d) ∧ Vu (m + 10 + 90 * (n - (x + 1)) + 25 * (k - j)) s3) ⟨[], c7, c8, c9, c10, c11, rfl, rfl, by simp, v2.mono⟩ ?_ ?_
    · rintro j z ρ s3 hz ⟨ds, c7, c8, c9, c10, c11, rfl, dl, dq, v⟩
      obtain ⟨rfl, hj⟩ := range_at hz
      simp
      refine WF.use (w_odds (n := n) (m := m + 10 + 90 * (n - (x + 1)) + 25 * (k - (z + 1)) + 15) n1 (by omega) v.mono) ?_
      rintro _ s4 ⟨l, rfl, o, v4⟩
      simp [range1_nat (n := p) (by omega)]
      refine WFor_inv (fun i : Nat => PyData.int i) (List.range p) (fun q ρ s5 => ∃ (gs : List Rat) (c10 c11 : Option Cl), ρ = [some .s, some (.d (.int 3)), some (.d (.int (p : Int))), some (.d (.int (n : Int))), some (.o (hs.map pStand)), some (.d (.int (x : Int))), some (.o (ds.map pDeed)), some (.d (.int (z : Int))), some (.d (pQs l)), some (.o (gs.map pQ)), c10, c11] ∧ gs.length = q ∧ (∀ g ∈ gs, QLt 8 g) ∧ Vu (m + 10 + 90 * (n - (x + 1)) + 25 * (k - (z + 1)) + 2 * (p - q)) s5) ⟨[], c10, c11, rfl, rfl, by simp, v4.mono⟩ ?_ ?_
      · rintro q w ρ s5 hw ⟨gs, c10, c11, rfl, gl, gq, v⟩
        obtain ⟨rfl, hq⟩ := range_at hw
        simp
        refine WF.use (w_draw (l := 11) (m := m + 10 + 90 * (n - (x + 1)) + 25 * (k - (z + 1)) + 2 * (p - (w + 1)) + 1) v.mono (by decide) (by decide)) ?_
        rintro _ s6 ⟨t, rfl, t0, t1, v6⟩
        simp [szle (show 3 ≤ 1000 by decide)]
        refine WF.use (w_pickL (m := m + 10 + 90 * (n - (x + 1)) + 25 * (k - (z + 1)) + 2 * (p - (w + 1))) v6.mono (by decide) (by decide)) ?_
        rintro _ s7 ⟨y, hy, rfl, v7⟩
        obtain ⟨e, rfl, e1, e2⟩ : ∃ e : Int, y = .int e ∧ 1 ≤ e ∧ e ≤ 2 := by
          simp only [List.mem_cons, List.not_mem_nil, or_false] at hy
          rcases hy with rfl | rfl | rfl <;> first | exact ⟨1, rfl, by decide, by decide⟩ | exact ⟨2, rfl, by decide, by decide⟩
        simp
        refine WF.of (e_cut (by omega) (Nat.lt_of_le_of_lt (show e.natAbs ≤ 2 by omega) (Nat.lt_of_lt_of_le (show 2 < 2 ^ 2 by decide) (Nat.pow_le_pow_right (by decide) (by decide))))) ?_
        simp [gl, szlt (show w ≤ 1000 by omega)]
        refine ⟨gs ++ [Rat.divInt (t - 4) e], by simp, by simp [gl], fun g hg => ?_, v7⟩
        rcases List.mem_append.mp hg with hg | hg
        · exact gq g hg
        · rw [List.mem_singleton.mp hg]
          exact QLt_div (by omega) (by omega) (by omega)
      · rintro ρ s5 ⟨gs, c10, c11, rfl, gl, gq, v⟩
        rw [List.length_range] at gl
        have hl5 := o.1.len
        simp [range1_nat (n := n) (by omega)]
        refine WLc_opt (fun i : Nat => PyData.int i) (fun i => if 0 < l.getD i 0 then some (pCh (i, l.getD i 0)) else none) (List.range n) (fun i hi => ?_) ?_
        · rw [List.mem_range] at hi
          have ei : atI (l.map pQ) (i : Int) = some (pQ (l.getD i 0)) := by
            rw [atI_ofNat (by rw [List.length_map]; omega), List.getElem?_map, List.getD_eq_getElem?_getD, List.getElem?_eq_getElem (by omega)]; rfl
          simp [pQs, ei, ix_num, -List.getD_eq_getElem?_getD]
          by_cases h : 0 < l.getD i 0
          · simp [h, num_pos_iff.mpr h, ei, sz2, pCh, -List.getD_eq_getElem?_getD]
          · have : ¬ 0 < (l.getD i 0).num := fun z => h (num_pos_iff.mp z)
            simp [h, this, -List.getD_eq_getElem?_getD]
        have er := chK_range l []
        rw [List.length_nil, List.nil_append, hl5, ← List.range_eq_range'] at er
        rw [er]
        have ck := chK_ok o
        have cl : (chK 0 l).length ≤ n := by
          have := asc_len 0 ck.asc fun c hc => ⟨Nat.zero_le _, (ck.each c hc).1⟩
          omega
        refine ⟨szle (by rw [List.length_map]; omega), ?_⟩
        simp [sz2, dl, szlt (show z ≤ 1000 by omega)]
        refine ⟨ds ++ [⟨chK 0 l, gs⟩], by simp [pDeed, pQs], by simp [dl], fun d hd => ?_, v.mono⟩
        rcases List.mem_append.mp hd with hd | hd
        · exact dq d hd
        · rw [List.mem_singleton.mp hd]
          obtain ⟨S, h0, h5, hS⟩ := o.2
          exact ⟨⟨ck, gl, gq⟩, S, h0, h5, fun c hc => hS _ (chK_mem hc).2.2.1⟩
    · rintro ρ s3 ⟨ds, c7, c8, c9, c10, c11, rfl, dl, dq, v⟩
      rw [List.length_range] at dl
      simp [hl, szlt (show x ≤ 1000 by omega)]
      refine ⟨hs ++ [ds], by simp [pStand], by simp [hl], fun st hst => ?_, v.mono⟩
      rcases List.mem_append.mp hst with hst | hst
      · exact hq st hst
      · rw [List.mem_singleton.mp hst]
        exact ⟨by omega, by omega, dq⟩
  · rintro ρ s' ⟨hs, c5, c6, c7, c8, c9, c10, c11, rfl, hl, hq, v⟩
    rw [List.length_range] at hl
    simp [sz2, szle (show 6 ≤ 1000 by decide)]
    refine WF.use (w_pickL (m := m) v.mono (by decide) (by decide)) ?_
    rintro _ s2 ⟨y, hy, rfl, v2⟩
    obtain ⟨q, rfl, q0, q1, qb⟩ : ∃ q : Rat, y = pQ q ∧ 0 ≤ q ∧ q < 1 ∧ QLt 7 q := by
      simp only [List.mem_cons, List.not_mem_nil, or_false] at hy
      rcases hy with rfl | rfl | rfl | rfl | rfl | rfl
      · exact ⟨⟨0, 1, by decide, by decide⟩, rfl, by decide, by decide, by decide, by decide⟩
      · exact ⟨⟨1, 2, by decide, by decide⟩, rfl, by decide, by decide, by decide, by decide⟩
      · exact ⟨⟨1, 2, by decide, by decide⟩, rfl, by decide, by decide, by decide, by decide⟩
      · exact ⟨⟨1, 3, by decide, by decide⟩, rfl, by decide, by decide, by decide, by decide⟩
      · exact ⟨⟨2, 3, by decide, by decide⟩, rfl, by decide, by decide, by decide, by decide⟩
      · exact ⟨⟨3, 4, by decide, by decide⟩, rfl, by decide, by decide, by decide, by decide⟩
    simp [szle (show 3 ≤ 1000 by decide)]
    refine ⟨⟨q, p, hs⟩, rfl, rfl, ⟨q0, q1, qb, p1, p3, by show 1 ≤ hs.length; omega, by show hs.length ≤ 3; omega, fun st hst => ?_⟩, fun st hst d hd => ((hq st hst).2.2 d hd).2, v2⟩
    obtain ⟨a, b, c⟩ := hq st hst
    refine ⟨a, b, fun d hd => ?_⟩
    show DeedOk hs.length p d 8
    rw [hl]
    exact (c d hd).1
end WW
namespace Dh
open PySem PySem.Spec L2 PySem.W
theorem atI_getD {α : Type} {f : α → PyData} {l : List α} {d : α} {i : Nat} (hi : i < l.length) : atI (l.map f) (i : Int) = some (f (l.getD i d)) := by
  rw [atI_ofNat (by rw [List.length_map]; exact hi), List.getElem?_map, List.getD_eq_getElem?_getD, List.getElem?_eq_getElem hi]; rfl
theorem atI_lst {xs : List PyData} {x : PyData} {ys : List PyData} (e : xs = ys ++ [x]) : atI xs (-1) = some x := by
  subst e
  unfold atI
  rw [show ixN (ys ++ [x]).length (-1) = some ys.length by
    unfold ixN
    simp
    omega]
  simp
def cN (p : List Nat) : List Int := p.map fun n : Nat => (n : Int)
theorem cN_inj {p q : List Nat} : cN p = cN q ↔ p = q := by
  constructor
  · intro h
    unfold cN at h
    exact (List.map_inj_right fun a b e => by omega).mp h
  · rintro rfl; rfl
theorem tupI_cN {p : List Nat} : tupI (cN p) = .tuple (p.map iN) := by
  unfold tupI cN
  rw [List.map_map]; rfl
theorem keyI_iN {p : List Nat} : keyI (.d (.tuple (p.map iN))) = some (cN p) := by
  show stoOf (p.map iN) = _
  induction p with
  | nil => rfl
  | cons x p ih =>
    show (stoOf (p.map iN)).map (fun r => (x : Int) :: r) = _
    rw [ih]; rfl
theorem leT_eq : leT = fun p q => decide (p ≤ q) := dataLe_rows fun b => b
theorem lexLt_eq : ∀ {a b : List Int}, HT.lexLt a b = decide (a < b)
  | [], [] => by simp [HT.lexLt]
  | [], _ :: _ => by simp [HT.lexLt]
  | _ :: _, [] => by simp [HT.lexLt]
  | x :: a, y :: b => by
    rw [HT.lexLt_cons, lexLt_eq]
    by_cases e : x = y
    · subst e
      simp [List.cons_lt_cons_iff]
    · simp [e, List.cons_lt_cons_iff]
theorem srtT_asc {acc : List (List Int × PyData)} (nd : (acc.map (·.1)).Nodup) : (srtT acc).Perm (acc.map (·.1)) ∧ (srtT acc).Pairwise fun a b => HT.lexLt a b = true := by
  have T := sortLe_total (PyProof.Rows.listOrd PyProof.Rows.itemOrd) false fun b : List Int => keyToks (tupI b)
  have p : (srtT acc).Perm (acc.map (·.1)) := List.mergeSort_perm _ _
  refine ⟨p, ?_⟩
  have s : (srtT acc).Pairwise fun a b => leT a b = true := List.pairwise_mergeSort T.trans (fun a b => by
    have := T.total a b
    simpa using this) _
  have n : (srtT acc).Nodup := p.nodup_iff.mpr nd
  refine (s.and n).imp fun {a b} h => ?_
  obtain ⟨h1, h2⟩ := h
  rw [leT_eq] at h1
  have h1 := of_decide_eq_true h1
  rw [lexLt_eq, decide_eq_true_eq]
  rcases List.le_iff_lt_or_eq.mp h1 with h | h
  · exact h
  · exact absurd h h2
def d0 : RDeed := ⟨[], []⟩
def stD (h : RHouse) (s : Nat) : List RDeed := h.stands.getD s []
def goalsD (h : RHouse) (s a : Nat) : List Nat := ((stD h s).getD a d0).ch.map (·.1)
def lastN (p : List Nat) : Nat := p.getD (p.length - 1) 0
structure PlanC (h : RHouse) (plan : List (List Rat)) : Prop where
  len : plan.length = h.stands.length
  each : ∀ i, i < h.stands.length → WW.OddsC (stD h i).length (plan.getD i [])
def pPl (plan : List (List Rat)) : PyData := .tuple (plan.map pQs)
structure MemOk (h : RHouse) (p : List Nat) : Prop where
  len : ∃ k, p.length = 2 * k + 1 ∧ k ≤ 4
  fst : p.getD 0 0 < h.stands.length
  stp : ∀ k, 2 * k + 2 < p.length → p.getD (2 * k + 1) 0 < (stD h (p.getD (2 * k) 0)).length ∧ p.getD (2 * k + 2) 0 < h.stands.length ∧ p.getD (2 * k + 2) 0 ∈ goalsD h (p.getD (2 * k) 0) (p.getD (2 * k + 1) 0)
theorem MemOk.last {h : RHouse} {p : List Nat} (m : MemOk h p) : lastN p < h.stands.length := by
  obtain ⟨k, hk, _⟩ := m.len
  unfold lastN
  rw [hk]
  cases k with
  | zero => exact m.fst
  | succ k => exact (m.stp k (by omega)).2.1
theorem MemOk.one {h : RHouse} {s : Nat} (hs : s < h.stands.length) : MemOk h [s] := ⟨⟨0, rfl, by omega⟩, hs, fun k hk => by simp at hk⟩
theorem MemOk.more {h : RHouse} {p : List Nat} (m : MemOk h p) (l7 : p.length ≤ 7) {a g : Nat} (ha : a < (stD h (lastN p)).length) (hg : g < h.stands.length) (hm : g ∈ goalsD h (lastN p) a) : MemOk h (p ++ [a, g]) := by
  obtain ⟨k, hk, _⟩ := m.len
  have g1 : ∀ i, i < p.length → (p ++ [a, g]).getD i 0 = p.getD i 0 := fun i hi => by
    rw [List.getD_eq_getElem?_getD, List.getElem?_append_left hi, ← List.getD_eq_getElem?_getD]
  have e1 : (p ++ [a, g]).getD (2 * k + 1) 0 = a := by
    rw [List.getD_eq_getElem?_getD, List.getElem?_append_right (by omega), hk, Nat.sub_self]; rfl
  have e2 : (p ++ [a, g]).getD (2 * k + 2) 0 = g := by
    rw [List.getD_eq_getElem?_getD, List.getElem?_append_right (by omega), hk, show 2 * k + 2 - (2 * k + 1) = 1 by omega]; rfl
  have e3 : lastN p = p.getD (2 * k) 0 := by unfold lastN; rw [hk]; rfl
  refine ⟨⟨k + 1, by simp [hk]; omega, by omega⟩, by rw [g1 0 (by omega)]; exact m.fst, fun j hj => ?_⟩
  rw [List.length_append, hk] at hj
  simp at hj
  by_cases e : j = k
  · subst e
    rw [e1, e2, g1 _ (by omega), ← e3]
    exact ⟨ha, hg, hm⟩
  · rw [g1 _ (by omega), g1 _ (by omega), g1 _ (by omega)]
    exact m.stp j (by omega)
def accE (es : List (List Nat × List Rat)) : List (List Int × PyData) := es.map fun e => (cN e.1, pQs e.2)
def putE (es : List (List Nat × List Rat)) (p : List Nat) (l : List Rat) : List (List Nat × List Rat) := if p ∈ es.map (·.1) then es.map fun e => if e.1 = p then (e.1, l) else e else es ++ [(p, l)]
theorem accE_put {es : List (List Nat × List Rat)} {p : List Nat} {l : List Rat} : putT (accE es) (cN p) (pQs l) = accE (putE es p l) := by
  unfold putT putE accE
  have a : ((es.map fun e => (cN e.1, pQs e.2)).any fun q => decide (q.1 = cN p)) = decide (p ∈ es.map (·.1)) := by
    rw [Bool.eq_iff_iff, List.any_eq_true, decide_eq_true_iff]
    constructor
    · rintro ⟨q, hq, e⟩
      obtain ⟨x, hx, rfl⟩ := List.mem_map.mp hq
      have e := of_decide_eq_true e
      exact List.mem_map.mpr ⟨x, hx, cN_inj.mp e⟩
    · intro h
      obtain ⟨x, hx, rfl⟩ := List.mem_map.mp h
      exact ⟨_, List.mem_map.mpr ⟨x, hx, rfl⟩, by simp⟩
  rw [a]
  by_cases h : p ∈ es.map (·.1)
  · rw [if_pos (by simpa using h), if_pos h, List.map_map, List.map_map]
    refine List.map_congr_left fun e _ => ?_
    show (if cN e.1 = cN p then (cN e.1, pQs l) else (cN e.1, pQs e.2)) = (cN (if e.1 = p then (e.1, l) else e).1, pQs (if e.1 = p then (e.1, l) else e).2)
    by_cases q : e.1 = p
    · rw [if_pos q, if_pos (cN_inj.mpr q)]
    · rw [if_neg q, if_neg fun z => q (cN_inj.mp z)]
  · rw [if_neg (by simpa using h), if_neg h, List.map_append, List.map_singleton]
theorem putE_keys {es : List (List Nat × List Rat)} {p : List Nat} {l : List Rat} : (putE es p l).map (·.1) = if p ∈ es.map (·.1) then es.map (·.1) else es.map (·.1) ++ [p] := by
  unfold putE
  split
  · rw [List.map_map]
    refine List.map_congr_left fun e _ => ?_
    show (if e.1 = p then (e.1, l) else e).1 = e.1
    split <;> rfl
  · rw [List.map_append]; rfl
theorem putE_mem {es : List (List Nat × List Rat)} {p : List Nat} {l : List Rat} {e : List Nat × List Rat} (h : e ∈ putE es p l) : e ∈ es ∨ e = (p, l) := by
  unfold putE at h
  split at h
  · obtain ⟨x, hx, rfl⟩ := List.mem_map.mp h
    split
    · rename_i q
      right
      rw [← q]
    · exact .inl hx
  · rcases List.mem_append.mp h with h | h
    · exact .inl h
    · exact .inr (List.mem_singleton.mp h)
structure TdOk (h : RHouse) (es : List (List Nat × List Rat)) : Prop where
  mem : ∀ e ∈ es, MemOk h e.1 ∧ WW.OddsC (stD h (lastN e.1)).length e.2
  asc : es.Pairwise fun a b => HT.lexLt (cN a.1) (cN b.1) = true
  len : es.length ≤ 4
def pEn (e : List Nat × List Rat) : PyData := .tuple [.tuple (e.1.map iN), pQs e.2]
def pTd (es : List (List Nat × List Rat)) (plan : List (List Rat)) : PyData := .tuple [.tuple (es.map pEn), pPl plan]
theorem valT_mem {es : List (List Nat × List Rat)} (nd : (es.map (·.1)).Nodup) {e : List Nat × List Rat} (h : e ∈ es) : valT (accE es) (cN e.1) = some (pQs e.2) := by
  unfold valT accE
  induction es with
  | nil => simp at h
  | cons x es ih =>
    rw [List.map_cons, List.nodup_cons] at nd
    rw [List.map_cons, List.find?_cons]
    rcases List.mem_cons.mp h with rfl | h
    · simp
    · have : ¬ cN x.1 = cN e.1 := fun z => nd.1 (by rw [cN_inj.mp z]; exact List.mem_map_of_mem h)
      rw [decide_eq_false this]
      exact ih nd.2 h
end Dh
namespace Dh
open PySem PySem.Spec L2 PySem.W
section
variable {ρ : Ev} {s : Sto} {i : Nat} {QS : Out → Ev → Sto → Prop} {Q : R → Sto → Prop} {a ix : Mx} {acc : List (List Int × PyData)}
@[simp] theorem ev_toCl_t : toCl (.t acc) = some (.t acc) := rfl
@[simp] theorem ev_rdCl_t : rdCl (.t acc) = .u acc := rfl
@[simp ↓] theorem wx_newT : WX mNewT ρ s Q = Q (.t []) s := by
  unfold WX mNewT
  apply propext
  constructor
  · rintro ⟨r, s', e, q⟩
    cases e; exact q
  · intro q
    exact ⟨_, _, rfl, q⟩
@[simp] theorem ev_frgT0 : frgT [] = [] := rfl
@[simp] theorem ev_frgTD {x : PyData} : frgT (some (.d x) :: ρ) = some (.d x) :: frgT ρ := rfl
@[simp] theorem ev_frgTO {x : List PyData} : frgT (some (.o x) :: ρ) = some (.o x) :: frgT ρ := rfl
@[simp] theorem ev_frgTS : frgT (some .s :: ρ) = some .s :: frgT ρ := rfl
@[simp] theorem ev_frgTT : frgT (some (.t acc) :: ρ) = none :: frgT ρ := rfl
@[simp] theorem ev_frgTN : frgT (none :: ρ) = none :: frgT ρ := rfl
def ownT : Cl → Option (List (List Int × PyData))
  | .t acc => some acc
  | _ => none
@[simp] theorem ownT_t : ownT (.t acc) = some acc := rfl
@[simp ↓] theorem ws_putT : WS (mPutT i ix a) ρ s QS = WX a ρ s fun r s1 => WX ix ρ s1 fun rk s2 => WO (getC ρ i) fun c => WO (ownT c) fun acc => WO (keyI rk) fun k => WO (toD r) fun x => acc.length ≤ 1000 ∧ WO (some ((frgT ρ).set i (some (.t (putT acc k x))))) fun ρ1 => QS .nx ρ1 s2 := by
  apply propext
  unfold WS WX WO mPutT
  rcases a ρ s with _ | ⟨r, s1⟩
  · simp
  · dsimp only
    rcases hi : ix ρ s1 with _ | ⟨z, s2⟩
    · simp [hi]
    · constructor
      · rintro ⟨o, ρ', s', e, q⟩
        dsimp only at e
        split at e
        · rename_i acc k x e1 e2 e3
          split at e
          · rename_i hz
            cases e
            exact ⟨r, s1, rfl, z, s2, hi, _, getC_of e1, acc, rfl, k, e2, x, e3, hz, _, rfl, q⟩
          · cases e
        · cases e
      · rintro ⟨r', s1', h1, z', s2', h2, c, hc, acc, ha, k, hk, x, hx, hz, ρ1, hρ, q⟩
        cases h1
        rw [hi] at h2; cases h2
        cases hρ
        have g := of_getC hc
        cases c with
        | t acc' =>
          cases ha
          exact ⟨_, _, _, by simp only [g, hk, hx, if_pos hz], q⟩
        | _ => cases ha
end
end Dh
namespace Dh
open PySem PySem.Spec L2 PySem.W
structure RMd where
  m : Nat
  odds : List (List (List Rat))
  lead : List (List (List Nat))
def pRow (r : List Nat) : PyData := .tuple (r.map iN)
def pOd (rs : List (List Rat)) : PyData := .tuple (rs.map pQs)
def pLd (ds : List (List Nat)) : PyData := .tuple (ds.map pRow)
def pMd (μ : RMd) : PyData := .tuple [.int (μ.m : Nat), .tuple (μ.odds.map pOd), .tuple (μ.lead.map pLd)]
structure MdC (h : RHouse) (μ : RMd) : Prop where
  m1 : 1 ≤ μ.m
  m3 : μ.m ≤ 3
  ol : μ.odds.length = h.stands.length
  oe : ∀ i, i < h.stands.length → (μ.odds.getD i []).length = μ.m ∧ ∀ r ∈ μ.odds.getD i [], WW.OddsC (stD h i).length r
  ll : μ.lead.length = h.stands.length
  le : ∀ i, i < h.stands.length → (μ.lead.getD i []).length = (stD h i).length ∧ ∀ r ∈ μ.lead.getD i [], r.length = μ.m ∧ ∀ x ∈ r, x < μ.m
theorem getD_snoc {α : Type} {ps : List α} {x d : α} {j : Nat} (hj : j < ps.length + 1) : (ps ++ [x]).getD j d = if j < ps.length then ps.getD j d else x := by
  by_cases h : j < ps.length
  · rw [if_pos h, List.getD_eq_getElem?_getD, List.getElem?_append_left h, ← List.getD_eq_getElem?_getD]
  · rw [if_neg h, List.getD_eq_getElem?_getD, List.getElem?_append_right (by omega), show j - ps.length = 0 by omega]; rfl
inductive Hero where
  | still (p : List (List Rat)) | minded (μ : RMd) | told (es : List (List Nat × List Rat)) (p : List (List Rat))
def pHero : Hero → PyData
  | .still p => .tuple [.str (Str.ofString "still"), pPl p]
  | .minded μ => .tuple [.str (Str.ofString "minded"), pMd μ]
  | .told es p => .tuple [.str (Str.ofString "told"), pTd es p]
def HeroOk (h : RHouse) : Hero → Prop
  | .still p => PlanC h p
  | .minded μ => MdC h μ
  | .told es p => TdOk h es ∧ PlanC h p
theorem last_app {p : List Nat} (h : p ≠ []) : p.map iN = p.dropLast.map iN ++ [iN (lastN p)] := by
  have e : lastN p = p.getLast h := by
    unfold lastN
    rw [List.getLast_eq_getElem, List.getD_eq_getElem?_getD, List.getElem?_eq_getElem (by have := List.length_pos_iff.mpr h; omega)]; rfl
  rw [e, ← List.map_singleton, ← List.map_append, List.dropLast_concat_getLast h]
theorem atI_last {p : List Nat} (h : p ≠ []) : atI (p.map iN) (-1) = some (iN (lastN p)) := atI_lst (last_app h)
end Dh
namespace WW
open PySem PySem.Spec L2 PySem.W Dh
section
variable {h : RHouse}
theorem stand_in (ok : HouseOk 3 3 3 h 8) {i : Nat} (hi : i < h.stands.length) : 1 ≤ (stD h i).length ∧ (stD h i).length ≤ 3 ∧ ∀ d ∈ stD h i, DeedOk h.stands.length h.pays d 8 := by
  refine ok.each _ ?_
  unfold stD
  rw [List.getD_eq_getElem?_getD, List.getElem?_eq_getElem hi]
  exact List.getElem_mem hi
theorem w_habit {s : Sto} {m : Nat} (ok : HouseOk 3 3 3 h 8) (v : Vu (m + 12) s) : WF f_law_habit [.s, .d (pHouse h)] s fun r s' => ∃ p, r = .d (pPl p) ∧ PlanC h p ∧ Vu m s' := by
  have nN := ok.nN
  refine WF.body rfl ?_
  simp [m_law_habit, List.replicate_succ, pHouse]
  refine WFor_inv pStand h.stands (fun i ρ s' => ∃ (ps : List (List Rat)) (c3 : Option Cl), ρ = [some .s, some (.d (pHouse h)), some (.o (ps.map pQs)), c3] ∧ ps.length = i ∧ (∀ j, j < i → OddsC (stD h j).length (ps.getD j [])) ∧ Vu (m + 4 * (3 - i)) s') ⟨[], none, rfl, rfl, fun j hj => by omega, v.mono⟩ ?_ ?_
  · rintro i st ρ s' hi ⟨ps, c3, rfl, pl, pq, v⟩
    have hil := (List.getElem?_eq_some_iff.mp hi).1
    have es : stD h i = st := by unfold stD; rw [List.getD_eq_getElem?_getD, hi]; rfl
    obtain ⟨s1, s3, _⟩ := stand_in ok hil
    rw [es] at s1 s3
    simp [pStand]
    refine WF.use (w_odds (n := st.length) (m := m + 4 * (3 - (i + 1))) s1 (by omega) v.mono) ?_
    rintro _ s2 ⟨l, rfl, o, v2⟩
    simp [pl, szlt (show i ≤ 1000 by omega), -List.getD_eq_getElem?_getD]
    refine ⟨ps ++ [l], by simp, by simp [pl], fun j hj => ?_, v2.mono⟩
    rw [getD_snoc (by omega)]
    split
    · exact pq j (by omega)
    · rw [show j = i by omega, es]; exact o
  · rintro ρ s' ⟨ps, c3, rfl, pl, pq, v⟩
    simp
    exact ⟨ps, rfl, ⟨pl, pq⟩, v.mono⟩
theorem w_memory {s : Sto} {m : Nat} (ok : HouseOk 3 3 3 h 8) (v : Vu (m + 12) s) : WF f_law_memory [.s, .d (pHouse h)] s fun r s' => ∃ p, r = .d (.tuple (p.map iN)) ∧ MemOk h p ∧ Vu m s' := by
  have nN := ok.nN
  have n1 := ok.n1
  refine WF.body rfl ?_
  simp [m_law_memory, List.replicate_succ, pHouse]
  refine WF.use (w_draw (l := (h.stands.length : Int)) (m := m + 11) v.mono (by omega) (by omega)) ?_
  rintro _ s1 ⟨d, rfl, dn0, d1, v1⟩
  obtain ⟨st, rfl⟩ := Int.eq_ofNat_of_zero_le dn0
  simp [sz1, szle (show 7 ≤ 1000 by decide)]
  refine WF.use (w_pickL (m := m + 10) v1.mono (by decide) (by decide)) ?_
  rintro _ s2 ⟨y, hy, rfl, v2⟩
  obtain ⟨k, rfl, k4⟩ : ∃ k : Nat, y = .int (k : Int) ∧ k ≤ 4 := by
    simp only [List.mem_cons, List.not_mem_nil, or_false] at hy
    rcases hy with rfl | rfl | rfl | rfl | rfl | rfl | rfl <;> first | exact ⟨0, rfl, by decide⟩ | exact ⟨1, rfl, by decide⟩ | exact ⟨2, rfl, by decide⟩ | exact ⟨3, rfl, by decide⟩ | exact ⟨4, rfl, by decide⟩
  simp [range1_nat (n := k) (by omega)]
  refine WFor_inv (fun i : Nat => PyData.int i) (List.range k) (fun i ρ s' => ∃ (p : List Nat) (c3 c4 : Option Cl), ρ = [some .s, some (.d (pHouse h)), some (.d (.tuple (p.map iN))), c3, c4] ∧ p.length = 2 * i + 1 ∧ MemOk h p ∧ Vu (m + 2 * (k - i)) s') ⟨[st], none, none, rfl, rfl, .one (by omega), v2.mono⟩ ?_ ?_
  · rintro i x ρ s' hx ⟨p, c3, c4, rfl, pl, mo, v⟩
    obtain ⟨rfl, hi⟩ := range_at hx
    have pne : p ≠ [] := by intro e; rw [e] at pl; simp at pl
    have el := atI_last pne
    have hl := mo.last
    obtain ⟨t1, t3, tq⟩ := stand_in ok hl
    have es : atI (h.stands.map pStand) ((lastN p : Nat) : Int) = some (pStand (stD h (lastN p))) := atI_getD hl
    simp [pHouse, fNeg, el, iN, es, pStand]
    refine WF.use (w_draw (l := ((stD h (lastN p)).length : Int)) (m := m + 2 * (k - (x + 1)) + 1) v.mono (by omega) (by omega)) ?_
    rintro _ s3 ⟨a, rfl, a0, a1, v3⟩
    obtain ⟨a, rfl⟩ := Int.eq_ofNat_of_zero_le a0
    have ha : a < (stD h (lastN p)).length := by omega
    have ed : atI ((stD h (lastN p)).map pDeed) (a : Int) = some (pDeed ((stD h (lastN p)).getD a d0)) := atI_getD ha
    have dm : (stD h (lastN p)).getD a d0 ∈ stD h (lastN p) := by
      rw [List.getD_eq_getElem?_getD, List.getElem?_eq_getElem ha]; exact List.getElem_mem ha
    have dk := tq _ dm
    have gd : goalsD h (lastN p) a = ((stD h (lastN p)).getD a d0).ch.map (·.1) := rfl
    generalize (stD h (lastN p)).getD a d0 = D at *
    have cne : 0 < D.ch.length := by
      cases hc : D.ch with
      | nil =>
        have := dk.ch.one
        rw [hc] at this
        exact absurd this (by decide)
      | cons _ _ => simp
    have cl : D.ch.length ≤ 3 := by
      have := asc_len 0 dk.ch.asc fun c hc => ⟨Nat.zero_le _, (dk.ch.each c hc).1⟩
      omega
    simp [fNeg, el, iN, es, pStand, ed, pDeed]
    refine WF.use (w_pickT (xs := D.ch.map pCh) (m := m + 2 * (k - (x + 1))) v3.mono (by rw [List.length_map]; exact cne) (by rw [List.length_map]; omega)) ?_
    rintro _ s4 ⟨y, hy, rfl, v4⟩
    obtain ⟨c, hc, rfl⟩ := List.mem_map.mp hy
    simp [pCh, sz2, pl, szle (show 2 * x + 1 + 2 ≤ 1000 by omega)]
    refine ⟨p ++ [a, c.1], by simp [iN], by simp [pl]; omega, mo.more (by omega) ha (dk.ch.each c hc).1 (by rw [gd]; exact List.mem_map_of_mem hc), v4⟩
  · rintro ρ s' ⟨p, c3, c4, rfl, pl, mo, v⟩
    simp
    exact ⟨p, rfl, mo, v.mono⟩
theorem w_recalled {s : Sto} {m : Nat} (ok : HouseOk 3 3 3 h 8) (v : Vu (m + 100) s) : WF f_law_recalled [.s, .d (pHouse h)] s fun r s' => ∃ es p, r = .d (pTd es p) ∧ TdOk h es ∧ PlanC h p ∧ Vu m s' := by
  have nN := ok.nN
  refine WF.body rfl ?_
  simp [m_law_recalled, List.replicate_succ, szle (show 5 ≤ 1000 by decide)]
  refine WF.use (w_pickL (m := m + 99) v.mono (by decide) (by decide)) ?_
  rintro _ s2 ⟨y, hy, rfl, v2⟩
  obtain ⟨k, rfl, k4⟩ : ∃ k : Nat, y = .int (k : Int) ∧ k ≤ 4 := by
    simp only [List.mem_cons, List.not_mem_nil, or_false] at hy
    rcases hy with rfl | rfl | rfl | rfl | rfl <;> first | exact ⟨0, rfl, by decide⟩ | exact ⟨1, rfl, by decide⟩ | exact ⟨2, rfl, by decide⟩ | exact ⟨3, rfl, by decide⟩ | exact ⟨4, rfl, by decide⟩
  simp [range1_nat (n := k) (by omega)]
  refine WFor_inv (fun i : Nat => PyData.int i) (List.range k) (fun i ρ s' => ∃ (es : List (List Nat × List Rat)) (c3 c4 : Option Cl), ρ = [some .s, some (.d (pHouse h)), some (.t (accE es)), c3, c4] ∧ es.length ≤ i ∧ (es.map (·.1)).Nodup ∧ (∀ e ∈ es, MemOk h e.1 ∧ OddsC (stD h (lastN e.1)).length e.2) ∧ Vu (m + 12 + 18 * (k - i)) s') ⟨[], none, none, rfl, by simp, by simp, by simp, v2.mono⟩ ?_ ?_
  · rintro i x ρ s' hx ⟨es, c3, c4, rfl, el, nd, mo, v⟩
    obtain ⟨rfl, hi⟩ := range_at hx
    simp
    refine WF.use (w_memory (m := m + 12 + 18 * (k - (x + 1)) + 6) ok v.mono) ?_
    rintro _ s3 ⟨p, rfl, mp, v3⟩
    obtain ⟨kk, hk, _⟩ := mp.len
    have pne : p ≠ [] := by intro e; rw [e] at hk; simp at hk
    have ela := atI_last pne
    have hl := mp.last
    obtain ⟨t1, t3, _⟩ := stand_in ok hl
    have est : atI (h.stands.map pStand) ((lastN p : Nat) : Int) = some (pStand (stD h (lastN p))) := atI_getD hl
    simp [pHouse, fNeg, ela, iN, est, pStand]
    refine WF.use (w_odds (n := (stD h (lastN p)).length) (m := m + 12 + 18 * (k - (x + 1))) t1 (by omega) v3.mono) ?_
    rintro _ s4 ⟨l, rfl, o, v4⟩
    simp [keyI_iN, accE_put, show (accE es).length ≤ 1000 by unfold accE; rw [List.length_map]; omega]
    refine ⟨putE es p l, rfl, ?_, ?_, fun a b he => ?_, v4⟩
    · rw [← List.length_map (f := (·.1)), putE_keys]
      split
      · rw [List.length_map]; omega
      · rw [List.length_append, List.length_map]; simp; omega
    · rw [putE_keys]
      split
      · exact nd
      · rename_i hn
        exact List.nodup_append.mpr ⟨nd, by simp, fun a ha b hb e => by
          rw [List.mem_singleton.mp hb] at e
          subst e
          exact hn ha⟩
    · rcases putE_mem he with he | he
      · exact mo _ he
      · cases he
        exact ⟨mp, o⟩
  · rintro ρ s' ⟨es, c3, c4, rfl, el, nd, mo, v⟩
    rw [List.length_range] at el
    have nd2 : ((accE es).map (·.1)).Nodup := by
      unfold accE
      rw [List.map_map]
      have : es.map ((fun x : List Int × PyData => x.1) ∘ fun e : List Nat × List Rat => (cN e.1, pQs e.2)) = (es.map (·.1)).map cN := by rw [List.map_map]; rfl
      rw [this]
      exact List.pairwise_map.mpr (nd.imp fun {a b} hne e => hne (cN_inj.mp e))
    obtain ⟨sp, sa⟩ := srtT_asc nd2
    -- the keys in order, with what they hold
    obtain ⟨fs, hf, hfm⟩ : ∃ fs : List (List Nat × List Rat), srtT (accE es) = fs.map (fun e => cN e.1) ∧ (∀ e ∈ fs, e ∈ es) := by
      have mem : ∀ q ∈ srtT (accE es), ∃ e ∈ es, q = cN e.1 := fun q hq => by
        obtain ⟨x, hx, rfl⟩ := List.mem_map.mp (sp.mem_iff.mp hq)
        unfold accE at hx
        obtain ⟨e, he, rfl⟩ := List.mem_map.mp hx
        exact ⟨e, he, rfl⟩
      generalize srtT (accE es) = L at mem
      clear sp sa
      induction L with
      | nil => exact ⟨[], rfl, by simp⟩
      | cons q L ih =>
        obtain ⟨fs, e1, e2⟩ := ih fun z hz => mem z (List.mem_cons_of_mem _ hz)
        obtain ⟨e, he, rfl⟩ := mem q (by simp)
        exact ⟨e :: fs, by rw [e1]; rfl, fun z hz => by
          rcases List.mem_cons.mp hz with rfl | hz
          · exact he
          · exact e2 z hz⟩
    have fl : fs.length ≤ 4 := by
      have := sp.length_eq
      rw [hf, List.length_map] at this
      unfold accE at this
      rw [List.length_map, List.length_map] at this
      omega
    have ne : ((accE es).all fun p => decide (p.1 ≠ [])) = true := by
      rw [List.all_eq_true]
      intro p hp
      unfold accE at hp
      obtain ⟨e, he, rfl⟩ := List.mem_map.mp hp
      obtain ⟨kk, hk, _⟩ := (mo e he).1.len
      rw [decide_eq_true_eq]
      intro z
      have : (cN e.1).length = 0 := by rw [show cN e.1 = [] from z]; rfl
      unfold cN at this
      rw [List.length_map] at this
      omega
    have fS : fSortT [.u (accE es)] = some (.f (fs.map fun e => .tuple (e.1.map iN))) := by
      unfold fSortT
      dsimp only
      rw [if_pos ⟨by unfold accE; rw [List.length_map]; omega, ne⟩, hf, List.map_map]
      refine congrArg (fun x => some (R.f x)) (List.map_congr_left fun e _ => ?_)
      exact tupI_cN
    simp [fS]
    refine WLc_map (fun e : List Nat × List Rat => PyData.tuple (e.1.map iN)) pEn fs (fun e he => ?_) ?_
    · have ev := valT_mem nd (hfm e he)
      simp [fIxT, keyI_iN, ev, sz2, pEn]
    refine ⟨szle (by rw [List.length_map]; omega), ?_⟩
    simp
    refine WF.use (w_habit (m := m) ok v.mono) ?_
    rintro _ s5 ⟨p, rfl, pc, v5⟩
    simp [sz2]
    refine ⟨fs, p, rfl, ⟨fun e he => mo e (hfm e he), ?_, fl⟩, pc, v5⟩
    rw [hf] at sa
    exact List.pairwise_map.mp sa
end
end WW
namespace Dh
open PySem PySem.Spec L2 PySem.W
theorem fEq_str {a b : Str} {neg : Bool} : fEq neg (.d (.str a)) (.d (.str b)) = some (.d (.bool (if neg then !(a == b) else a == b))) := rfl
theorem q_st : (Str.ofString "still" == Str.ofString "told") = false := by decide +kernel
theorem q_ss : (Str.ofString "still" == Str.ofString "still") = true := beq_self_eq_true _
theorem q_sm : (Str.ofString "still" == Str.ofString "minded") = false := by decide +kernel
theorem q_mt : (Str.ofString "minded" == Str.ofString "told") = false := by decide +kernel
theorem q_mm : (Str.ofString "minded" == Str.ofString "minded") = true := beq_self_eq_true _
theorem q_ms : (Str.ofString "minded" == Str.ofString "still") = false := by decide +kernel
theorem q_tt : (Str.ofString "told" == Str.ofString "told") = true := beq_self_eq_true _
theorem q_ts : (Str.ofString "told" == Str.ofString "still") = false := by decide +kernel
theorem q_tm : (Str.ofString "told" == Str.ofString "minded") = false := by decide +kernel
end Dh
namespace WW
open PySem PySem.Spec L2 PySem.W Dh
section
variable {h : RHouse}
theorem w_mindful {s : Sto} {m : Nat} (ok : HouseOk 3 3 3 h 8) (v : Vu (m + 100) s) : WF f_law_mindful [.s, .d (pHouse h)] s fun r s' => ∃ μ, r = .d (pMd μ) ∧ MdC h μ ∧ Vu m s' := by
  have nN := ok.nN
  refine WF.body rfl ?_
  simp [m_law_mindful, List.replicate_succ, pHouse]
  refine WF.use (w_draw (l := 3) (m := m + 99) v.mono (by decide) (by decide)) ?_
  rintro _ s1 ⟨d, rfl, dn0, d1, v1⟩
  obtain ⟨M, hM⟩ : ∃ M : Nat, (1 : Int) + d = (M : Int) := ⟨(1 + d).toNat, by omega⟩
  have M1 : 1 ≤ M := by omega
  have M3 : M ≤ 3 := by omega
  have r1 : range1 [.d (.int (M : Int))] = some ((List.range M).map fun i => PyData.int (i : Nat)) := range1_nat (by omega)
  simp [hM]
  refine WFor_inv pStand h.stands (fun i ρ s' => ∃ (os : List (List (List Rat))) (ls : List (List (List Nat))) (c5 c6 c7 c8 c9 c10 : Option Cl), ρ = [some .s, some (.d (pHouse h)), some (.d (.int (M : Int))), some (.o (os.map pOd)), some (.o (ls.map pLd)), c5, c6, c7, c8, c9, c10] ∧ os.length = i ∧ ls.length = i ∧
      (∀ j, j < i → (os.getD j []).length = M ∧ ∀ r ∈ os.getD j [], OddsC (stD h j).length r) ∧ (∀ j, j < i → (ls.getD j []).length = (stD h j).length ∧ ∀ r ∈ ls.getD j [], r.length = M ∧ ∀ x ∈ r, x < M) ∧ Vu (m + 30 * (3 - i)) s') ⟨[], [], none, none, none, none, none, none, rfl, rfl, rfl, fun j hj => by omega, fun j hj => by omega, v1.mono⟩ ?_ ?_
  · rintro i st ρ s' hi ⟨os, ls, c5, c6, c7, c8, c9, c10, rfl, ol, ll, oq, lq, v⟩
    have hil := (List.getElem?_eq_some_iff.mp hi).1
    have es : stD h i = st := by unfold stD; rw [List.getD_eq_getElem?_getD, hi]; rfl
    obtain ⟨t1, t3, _⟩ := stand_in ok hil
    rw [es] at t1 t3
    simp [pStand, r1]
    refine WFor_inv (fun i : Nat => PyData.int i) (List.range M) (fun j ρ s2 => ∃ (rs : List (List Rat)) (c8 : Option Cl), ρ = [some .s, some (.d (pHouse h)), some (.d (.int (M : Int))), some (.o (os.map pOd)), some (.o (ls.map pLd)), some (.d (pStand st)), some (.o (rs.map pQs)), some (.o []), c8, c9, c10] ∧ rs.length = j ∧ (∀ r ∈ rs, OddsC st.length r) ∧ Vu (m + 30 * (3 - (i + 1)) + 10 + 5 * (M - j)) s2) ⟨[], c8, rfl, rfl, by simp, v.mono⟩ ?_ ?_
    · rintro j z ρ s2 hz ⟨rs, c8, rfl, rl, rq, v⟩
      obtain ⟨rfl, hj⟩ := range_at hz
      simp [pStand]
      refine WF.use (w_odds (n := st.length) (m := m + 30 * (3 - (i + 1)) + 10 + 5 * (M - (z + 1))) t1 (by omega) v.mono) ?_
      rintro _ s3 ⟨l, rfl, o, v3⟩
      simp [rl, szlt (show z ≤ 1000 by omega)]
      refine ⟨rs ++ [l], by simp, by simp [rl], fun r hr => ?_, v3.mono⟩
      rcases List.mem_append.mp hr with hr | hr
      · exact rq r hr
      · rw [List.mem_singleton.mp hr]; exact o
    · rintro ρ s2 ⟨rs, c8, rfl, rl, rq, v⟩
      rw [List.length_range] at rl
      simp [pStand]
      refine WFor_inv pDeed st (fun j ρ s3 => ∃ (ds : List (List Nat)) (c8 c9 c10 : Option Cl), ρ = [some .s, some (.d (pHouse h)), some (.d (.int (M : Int))), some (.o (os.map pOd)), some (.o (ls.map pLd)), some (.d (pStand st)), some (.o (rs.map pQs)), some (.o (ds.map pRow)), c8, c9, c10] ∧ ds.length = j ∧ (∀ r ∈ ds, r.length = M ∧ ∀ x ∈ r, x < M) ∧ Vu (m + 30 * (3 - (i + 1)) + 3 * (3 - j)) s3) ⟨[], c8, c9, c10, rfl, rfl, by simp, v.mono⟩ ?_ ?_
      · rintro j D ρ s3 hD ⟨ds, c8, c9, c10, rfl, dl, dq, v⟩
        have hjl := (List.getElem?_eq_some_iff.mp hD).1
        simp [r1]
        refine WFor_inv (fun i : Nat => PyData.int i) (List.range M) (fun k ρ s4 => ∃ (gs : List Nat) (c8 : Option Cl), ρ = [some .s, some (.d (pHouse h)), some (.d (.int (M : Int))), some (.o (os.map pOd)), some (.o (ls.map pLd)), some (.d (pStand st)), some (.o (rs.map pQs)), some (.o (ds.map pRow)), c8, some (.d (pDeed D)), some (.o (gs.map iN))] ∧ gs.length = k ∧ (∀ x ∈ gs, x < M) ∧ Vu (m + 30 * (3 - (i + 1)) + 3 * (3 - (j + 1)) + (M - k)) s4) ⟨[], c8, rfl, rfl, by simp, v.mono⟩ ?_ ?_
        · rintro k z ρ s4 hz ⟨gs, c8, rfl, gl, gq, v⟩
          obtain ⟨rfl, hk⟩ := range_at hz
          simp
          refine WF.use (w_draw (l := (M : Int)) (m := m + 30 * (3 - (i + 1)) + 3 * (3 - (j + 1)) + (M - (z + 1))) v.mono (by omega) (by omega)) ?_
          rintro _ s5 ⟨e, rfl, e0, e1, v5⟩
          obtain ⟨e, rfl⟩ := Int.eq_ofNat_of_zero_le e0
          simp [gl, szlt (show z ≤ 1000 by omega)]
          refine ⟨gs ++ [e], by simp [iN], by simp [gl], fun x hx => ?_, v5.mono⟩
          rcases List.mem_append.mp hx with hx | hx
          · exact gq x hx
          · rw [List.mem_singleton.mp hx]; omega
        · rintro ρ s4 ⟨gs, c8, rfl, gl, gq, v⟩
          rw [List.length_range] at gl
          simp [dl, szlt (show j ≤ 1000 by omega)]
          refine ⟨ds ++ [gs], by simp [pRow], by simp [dl], fun r hr => ?_, v.mono⟩
          rcases List.mem_append.mp hr with hr | hr
          · exact dq r hr
          · rw [List.mem_singleton.mp hr]; exact ⟨gl, gq⟩
      · rintro ρ s3 ⟨ds, c8, c9, c10, rfl, dl, dq, v⟩
        simp [ol, ll, szlt (show i ≤ 1000 by omega)]
        refine ⟨os ++ [rs], ls ++ [ds], ⟨by simp [pOd], by simp [pLd]⟩, by simp [ol], by simp [ll], fun j hj => ?_, fun j hj => ?_, v.mono⟩
        · rw [← List.getD_eq_getElem?_getD, getD_snoc (by omega)]
          split
          · exact oq j (by omega)
          · rw [show j = i by omega, es]; exact ⟨rl, rq⟩
        · rw [← List.getD_eq_getElem?_getD, getD_snoc (by omega)]
          split
          · exact lq j (by omega)
          · rw [show j = i by omega, es]; exact ⟨dl, dq⟩
  · rintro ρ s' ⟨os, ls, c5, c6, c7, c8, c9, c10, rfl, ol, ll, oq, lq, v⟩
    simp [szle (show 3 ≤ 1000 by decide)]
    exact ⟨⟨M, os, ls⟩, rfl, ⟨M1, M3, ol, oq, ll, lq⟩, v.mono⟩
theorem w_hero {s : Sto} {m : Nat} (ok : HouseOk 3 3 3 h 8) (v : Vu (m + 101) s) : WF f_law_hero [.s, .d (pHouse h)] s fun r s' => ∃ H, r = .d (pHero H) ∧ HeroOk h H ∧ Vu m s' := by
  refine WF.body rfl ?_
  simp [m_law_hero, List.replicate_succ, szle (show 6 ≤ 1000 by decide)]
  refine WF.use (w_pickL (m := m + 100) v.mono (by decide) (by decide)) ?_
  rintro _ s1 ⟨y, hy, rfl, v1⟩
  simp only [List.mem_cons, List.not_mem_nil, or_false] at hy
  obtain rfl | rfl | rfl : y = .str (Str.ofString "still") ∨ y = .str (Str.ofString "minded") ∨ y = .str (Str.ofString "told") := by
    rcases hy with rfl | rfl | rfl | rfl | rfl | rfl <;> simp
  · simp [fEq_str, q_st, q_ss]
    refine WF.use (w_habit (m := m) ok v1.mono) ?_
    rintro _ s2 ⟨p, rfl, pc, v2⟩
    simp [sz2]
    exact ⟨.still p, rfl, pc, v2⟩
  · simp [fEq_str, q_mt, q_ms]
    refine WF.use (w_mindful (m := m) ok v1.mono) ?_
    rintro _ s2 ⟨μ, rfl, pc, v2⟩
    simp [sz2]
    exact ⟨.minded μ, rfl, pc, v2⟩
  · simp [fEq_str, q_tt]
    refine WF.use (w_recalled (m := m) ok v1.mono) ?_
    rintro _ s2 ⟨es, p, rfl, td, pc, v2⟩
    simp [sz2]
    exact ⟨.told es p, rfl, ⟨td, pc⟩, v2⟩
end
end WW
namespace Dh
open PySem PySem.Spec L2 PySem.W
theorem zip_get {α β : Type} {l : List α} {m : List β} {p : α × β} (h : p ∈ l.zip m) : ∃ i : Nat, l[i]? = some p.1 ∧ m[i]? = some p.2 := by
  obtain ⟨i, hi⟩ := List.getElem?_of_mem h
  rw [List.getElem?_zip_eq_some] at hi
  exact ⟨i, hi⟩
theorem getD_of {α : Type} {l : List α} {i : Nat} {x d : α} (h : l[i]? = some x) : l.getD i d = x := by rw [List.getD_eq_getElem?_getD, h]; rfl
theorem getD_mem {α : Type} {l : List α} {i : Nat} {d : α} (h : i < l.length) : l.getD i d ∈ l := by
  rw [List.getD_eq_getElem?_getD, List.getElem?_eq_getElem h]; exact List.getElem_mem h
theorem lt_of {α : Type} {l : List α} {i : Nat} {x : α} (h : l[i]? = some x) : i < l.length := (List.getElem?_eq_some_iff.mp h).1
theorem any_iN {g : Nat} {l : List Nat} : ((l.map iN).any fun z => PyData.eqv z (.int (g : Nat))) = decide (g ∈ l) := by
  rw [Bool.eq_iff_iff, List.any_eq_true, decide_eq_true_iff]
  constructor
  · rintro ⟨z, hz, e⟩
    obtain ⟨r, hr, rfl⟩ := List.mem_map.mp hz
    unfold iN at e
    rw [eqv_int, decide_eq_true_iff] at e
    have : r = g := by omega
    exact this ▸ hr
  · intro h
    exact ⟨_, List.mem_map_of_mem h, by unfold iN; rw [eqv_int]; simp⟩
theorem eqOk_iNs {l : List Nat} : eqOk (.list (l.map iN)) = true := by
  have nd : noDicts (l.map iN) = true := all_nd fun x hx => by obtain ⟨q, _, rfl⟩ := List.mem_map.mp hx; rfl
  have lay : PyData.canLayAll0 (l.map iN) = true := all_lay fun x hx => by obtain ⟨q, _, rfl⟩ := List.mem_map.mp hx; rfl
  have dep : PyData.depthAll (l.map iN) ≤ 1 := all_dep fun x hx => by obtain ⟨q, _, rfl⟩ := List.mem_map.mp hx; simp [iN, PyData.depth]
  unfold eqOk SeqAt.shaped
  simp [Dh.noDict, PyData.canLay0, PyData.depth, nd, lay]
  omega
theorem eqOk_iNt {l : List Nat} : eqOk (.tuple (l.map iN)) = true := by
  have nd : noDicts (l.map iN) = true := all_nd fun x hx => by obtain ⟨q, _, rfl⟩ := List.mem_map.mp hx; rfl
  have lay : PyData.canLayAll0 (l.map iN) = true := all_lay fun x hx => by obtain ⟨q, _, rfl⟩ := List.mem_map.mp hx; rfl
  have dep : PyData.depthAll (l.map iN) ≤ 1 := all_dep fun x hx => by obtain ⟨q, _, rfl⟩ := List.mem_map.mp hx; simp [iN, PyData.depth]
  unfold eqOk SeqAt.shaped
  simp [Dh.noDict, PyData.canLay0, PyData.depth, nd, lay]
  omega
theorem fIn_iN {g : Nat} {l : List Nat} : fIn true (.d (.int (g : Nat))) (.f (l.map iN)) = some (.d (.bool (!decide (g ∈ l)))) := by
  show (if eqOk (.int (g : Nat)) = true ∧ eqOk (.list (l.map iN)) = true then some (R.d (.bool (if true then !((l.map iN).any fun z => PyData.eqv z (.int (g : Nat))) else (l.map iN).any fun z => PyData.eqv z (.int (g : Nat))))) else none) = _
  rw [if_pos ⟨eqOk_int, eqOk_iNs⟩, any_iN]
  rfl
theorem range3_odd {n : Nat} {k : Nat} (hn : n = 2 * k + 1) (hk : n ≤ 1000) : range3 [.d (.int 1), .d (.int (n : Int)), .d (.int 2)] = some ((List.range k).map fun i => PyData.int (1 + (i : Nat) * 2)) := by
  have e : Builtin.Range.rangeSize 1 (n : Int) 2 = (k : Int) := by
    unfold Builtin.Range.rangeSize
    simp
    omega
  have sm : Builtin.Range.small 1 (n : Int) 2 = true := by
    unfold Builtin.Range.small
    simp [e, Builtin.Range.rangeFitsLong]
    omega
  unfold range3
  dsimp only
  rw [e, if_pos ⟨by decide, by decide, sm, by simp⟩]
  simp
end Dh
namespace WW
open PySem PySem.Spec L2 PySem.W Dh
section
variable {h : RHouse} {s : Sto}
theorem e_is_still_by {p : List (List Rat)} (ok : HouseOk 3 3 3 h 8) (pc : PlanC h p) : f_is_still_by [.d (pHouse h), .d (pPl p)] s = some (.d (.bool true), s) := by
  have nN := ok.nN
  refine WF.eq (WF.body rfl ?_)
  simp [m_is_still_by, List.replicate_succ, pHouse, pPl]
  refine WF.of (e_is_tuple_of (by simp [pc.len])) ?_
  simp [pairs_map]
  refine WLc_map (p2 pQs pStand) (fun _ => PyData.bool true) (p.zip h.stands) (fun q hq => ?_) ?_
  · obtain ⟨i, h1, h2⟩ := zip_get hq
    have hi := lt_of h2
    have o := pc.each i hi
    unfold stD at o
    rw [getD_of h1, getD_of h2] at o
    have t3 := (stand_in ok hi).2.1
    unfold stD at t3
    rw [getD_of h2] at t3
    simp [p2, pStand]
    exact WF.of (e_is_chance_row o.1 (by omega)) (by simp)
  refine ⟨szle (by rw [List.length_map, List.length_zip]; omega), ?_⟩
  simp [fAll_true]
theorem e_are_odds {k : Nat} {rs : List (List Rat)} {st : List RDeed} (hl : rs.length = k) (ho : ∀ r ∈ rs, OddsC st.length r) (h9 : st.length ≤ 9) (hk : k ≤ 9) : f_are_odds [.d (pOd rs), .d (.int (k : Int)), .d (pStand st)] s = some (.d (.bool true), s) := by
  refine WF.eq (WF.body rfl ?_)
  simp [m_are_odds, List.replicate_succ, pOd]
  refine WF.of (e_is_tuple_of (by simp [hl])) ?_
  simp
  refine WLc_map pQs (fun _ => PyData.bool true) rs (fun r hr => ?_) ?_
  · simp [pStand]
    exact WF.of (e_is_chance_row (ho r hr).1 h9) (by simp)
  refine ⟨szle (by rw [List.length_map]; omega), ?_⟩
  simp [fAll_true]
theorem e_are_nexts {k : Nat} {ds : List (List Nat)} {st : List RDeed} (hl : ds.length = st.length) (ho : ∀ r ∈ ds, r.length = k ∧ ∀ x ∈ r, x < k) (h9 : st.length ≤ 9) (hk : k ≤ 9) : f_are_nexts [.d (pLd ds), .d (.int (k : Int)), .d (pStand st)] s = some (.d (.bool true), s) := by
  refine WF.eq (WF.body rfl ?_)
  simp [m_are_nexts, List.replicate_succ, pLd, pStand]
  refine WF.of (e_is_tuple_of (by simp [hl])) ?_
  simp
  refine WLc_map pRow (fun _ => PyData.bool true) ds (fun r hr => ?_) ?_
  · obtain ⟨hrl, hrx⟩ := ho r hr
    simp [pRow]
    refine WF.of (e_is_tuple_of (by simp [hrl])) ?_
    simp
    refine WLc_map iN (fun _ => PyData.bool true) r (fun x hx => ?_) ?_
    · have := hrx x hx
      simp [iN]
      exact WF.of (e_is_between (by omega) (by omega)) (by simp)
    refine ⟨szle (by rw [List.length_map]; omega), ?_⟩
    simp [fAll_true]
  refine ⟨szle (by rw [List.length_map]; omega), ?_⟩
  simp [fAll_true]
theorem e_is_minded_by {μ : RMd} (ok : HouseOk 3 3 3 h 8) (mo : MdC h μ) : f_is_minded_by [.d (pHouse h), .d (pMd μ)] s = some (.d (.bool true), s) := by
  have nN := ok.nN
  have m1 := mo.m1
  have m3 := mo.m3
  refine WF.eq (WF.body rfl ?_)
  simp [m_is_minded_by, List.replicate_succ, pHouse, pMd, k_MOST_MINDS]
  refine WF.of (e_is_tuple_of rfl) ?_
  simp
  refine WF.of (e_is_between (by omega) (by omega)) ?_
  simp
  refine WF.of (e_is_tuple_of (by simp [mo.ol])) ?_
  simp
  refine WF.of (e_is_tuple_of (by simp [mo.ll])) ?_
  simp [pairs_map]
  refine WLc_map (p2 pOd pStand) (fun _ => PyData.bool true) (μ.odds.zip h.stands) (fun q hq => ?_) ?_
  · obtain ⟨i, h1, h2⟩ := zip_get hq
    have hi := lt_of h2
    obtain ⟨o1, o2⟩ := mo.oe i hi
    unfold stD at o2
    rw [getD_of h1] at o1 o2
    rw [getD_of h2] at o2
    have t3 := (stand_in ok hi).2.1
    unfold stD at t3
    rw [getD_of h2] at t3
    simp [p2]
    exact WF.of (e_are_odds o1 o2 (by omega) (by omega)) (by simp)
  refine ⟨szle (by rw [List.length_map, List.length_zip]; omega), ?_⟩
  simp [fAll_true, pairs_map]
  refine WLc_map (p2 pLd pStand) (fun _ => PyData.bool true) (μ.lead.zip h.stands) (fun q hq => ?_) ?_
  · obtain ⟨i, h1, h2⟩ := zip_get hq
    have hi := lt_of h2
    obtain ⟨o1, o2⟩ := mo.le i hi
    unfold stD at o1
    rw [getD_of h1] at o1 o2
    rw [getD_of h2] at o1
    have t3 := (stand_in ok hi).2.1
    unfold stD at t3
    rw [getD_of h2] at t3
    simp [p2]
    exact WF.of (e_are_nexts o1 o2 (by omega) (by omega)) (by simp)
  refine ⟨szle (by rw [List.length_map, List.length_zip]; omega), ?_⟩
  simp [fAll_true]
theorem e_is_memory {p : List Nat} (ok : HouseOk 3 3 3 h 8) (mo : MemOk h p) : f_is_memory [.d (pHouse h), .d (.tuple (p.map iN))] s = some (.d (.bool true), s) := by
  have nN := ok.nN
  have n1 := ok.n1
  obtain ⟨k, hk, k4⟩ := mo.len
  have em : gMod ((p.length : Nat) : Int) 2 = some (.int 1) := by
    rw [gMod_pos (by decide), hk]
    congr 2
    omega
  have ea : ∀ i, i < p.length → atI (p.map iN) ((i : Nat) : Int) = some (iN (p.getD i 0)) := fun i hi => atI_getD hi
  refine WF.eq (WF.body rfl ?_)
  simp [m_is_memory, List.replicate_succ, fIsi, isA, isN, tyName, pHouse, k_MOST_MEMORY, em, fEq_int, show (1 : Int) ≤ (p.length : Int) by omega, show (p.length : Int) ≤ 9 by omega]
  have e0 := ea 0 (by omega)
  rw [Int.natCast_zero] at e0
  have f0 := mo.fst
  simp [e0, iN, -List.getD_eq_getElem?_getD]
  refine WF.of (e_is_between (by omega) (by omega)) ?_
  simp [range3_odd hk (by omega)]
  refine WFor_inv (fun i : Nat => PyData.int (1 + (i : Int) * 2)) (List.range k) (fun i ρ s' => s' = s ∧ ∃ c2 c3 c4 c5 : Option Cl, ρ = [some (.d (pHouse h)), some (.d (.tuple (p.map iN))), c2, c3, c4, c5]) ⟨rfl, none, none, none, none, rfl⟩ ?_ ?_
  · rintro i x ρ s' hx ⟨rfl, c2, c3, c4, c5, rfl⟩
    obtain ⟨rfl, hi⟩ := range_at hx
    obtain ⟨a1, a2, a3⟩ := mo.stp x (by omega)
    have b0 := ea (2 * x) (by omega)
    have b1 := ea (2 * x + 1) (by omega)
    have b2 := ea (2 * x + 2) (by omega)
    have hst : p.getD (2 * x) 0 < h.stands.length := by
      cases x with
      | zero => exact mo.fst
      | succ y => exact (mo.stp y (by omega)).2.1
    rw [show ((2 * x : Nat) : Int) = 1 + (x : Int) * 2 - 1 by omega] at b0
    rw [show ((2 * x + 1 : Nat) : Int) = 1 + (x : Int) * 2 by omega] at b1
    rw [show ((2 * x + 2 : Nat) : Int) = 1 + (x : Int) * 2 + 1 by omega] at b2
    have es : atI (h.stands.map pStand) ((p.getD (2 * x) 0 : Nat) : Int) = some (pStand (stD h (p.getD (2 * x) 0))) := atI_getD hst
    have ed : atI ((stD h (p.getD (2 * x) 0)).map pDeed) ((p.getD (2 * x + 1) 0 : Nat) : Int) = some (pDeed ((stD h (p.getD (2 * x) 0)).getD (p.getD (2 * x + 1) 0) d0)) := atI_getD a1
    have t3 := (stand_in ok hst).2.1
    unfold goalsD at a3
    have dm : (stD h (p.getD (2 * x) 0)).getD (p.getD (2 * x + 1) 0) d0 ∈ stD h (p.getD (2 * x) 0) := getD_mem a1
    have dk := (stand_in ok hst).2.2 _ dm
    generalize (stD h (p.getD (2 * x) 0)).getD (p.getD (2 * x + 1) 0) d0 = D at *
    generalize stD h (p.getD (2 * x) 0) = st at *
    generalize p.getD (2 * x) 0 = A at *
    generalize p.getD (2 * x + 1) 0 = B at *
    generalize p.getD (2 * x + 2) 0 = G at *
    have cl : D.ch.length ≤ 3 := by
      have := asc_len 0 dk.ch.asc fun c hc => ⟨Nat.zero_le _, (dk.ch.each c hc).1⟩
      omega
    simp [pHouse, b0, b1, b2, iN, es, pStand]
    refine WF.of (e_is_between (by omega) (by omega)) ?_
    simp [b1, b2, iN]
    refine WF.of (e_is_between (by omega) (by omega)) ?_
    simp [b1, b2, iN, ed, pDeed]
    refine WLc_map pCh (fun c => iN c.1) D.ch (fun c hc => ?_) ?_
    · simp [pCh, iN]
    refine ⟨szle (by rw [List.length_map]; omega), ?_⟩
    have fi := fIn_iN (g := G) (l := D.ch.map (·.1))
    rw [List.map_map] at fi
    have fi' : fIn true (.d (.int (G : Nat))) (.f (D.ch.map fun c => iN c.1)) = some (.d (.bool (!decide (G ∈ D.ch.map (·.1))))) := fi
    rw [fi']
    simp [a3]
  · rintro ρ s' ⟨rfl, c2, c3, c4, c5, rfl⟩
    simp
end
end WW
namespace Dh
open PySem PySem.Spec L2 PySem.W
theorem fLtT_iN {p q : List Nat} : fLtT (.d (.tuple (p.map iN))) (.d (.tuple (q.map iN))) = some (.d (.bool (HT.lexLt (cN p) (cN q)))) := by
  have a : stoOf (p.map iN) = some (cN p) := keyI_iN
  have b : stoOf (q.map iN) = some (cN q) := keyI_iN
  unfold fLtT
  dsimp only
  rw [a, b]
end Dh
namespace WW
open PySem PySem.Spec L2 PySem.W Dh
section
variable {h : RHouse} {s : Sto}
theorem e_is_told_by {es : List (List Nat × List Rat)} {p : List (List Rat)} (ok : HouseOk 3 3 3 h 8) (td : TdOk h es) (pc : PlanC h p) : f_is_told_by [.d (pHouse h), .d (pTd es p)] s = some (.d (.bool true), s) := by
  have nN := ok.nN
  have l4 := td.len
  refine WF.eq (WF.body rfl ?_)
  simp [m_is_told_by, List.replicate_succ, pTd, k_MOST_LISTS]
  refine WF.of (e_is_tuple_of rfl) ?_
  simp [fIsi, isA, isN, tyName, show ¬ (32 : Int) < (es.length : Int) by omega]
  refine WLc_map pEn (fun _ => PyData.bool true) es (fun e he => ?_) ?_
  · simp [pEn]
    refine WF.of (e_is_tuple_of rfl) ?_
    simp
    exact WF.of (e_is_memory ok (td.mem e he).1) (by simp)
  refine ⟨szle (by rw [List.length_map]; omega), ?_⟩
  simp [fAll_true, fSl, cutD_tail]
  have ez : pairs (es.map pEn) ((es.map pEn).drop 1) = (es.zip es.tail).map (p2 pEn pEn) := by
    rw [← List.map_drop, pairs_map, List.drop_one]
  have ez' : pairs (es.map pEn) ((es.map pEn).tail) = (es.zip es.tail).map (p2 pEn pEn) := by
    rw [← List.map_tail, pairs_map]
  first | rw [ez] | rw [ez'] | skip
  refine WLc_map (p2 pEn pEn) (fun _ => PyData.bool true) (es.zip es.tail) (fun q hq => ?_) ?_
  · have hl := pw_tail td.asc q hq
    simp [p2, pEn, fLtT_iN, hl]
  refine ⟨szle (by rw [List.length_map, List.length_zip]; omega), ?_⟩
  simp [fAll_true]
  refine WLc_map pEn (fun _ => PyData.bool true) es (fun e he => ?_) ?_
  · obtain ⟨mo, o⟩ := td.mem e he
    obtain ⟨k, hk, _⟩ := mo.len
    have pne : e.1 ≠ [] := by intro z; rw [z] at hk; simp at hk
    have el := atI_last pne
    have est : atI (h.stands.map pStand) ((lastN e.1 : Nat) : Int) = some (pStand (stD h (lastN e.1))) := atI_getD mo.last
    have t3 := (stand_in ok mo.last).2.1
    simp [pEn, fNeg, el, iN, est, pHouse, pStand]
    exact WF.of (e_is_chance_row o.1 (by omega)) (by simp)
  refine ⟨szle (by rw [List.length_map]; omega), ?_⟩
  simp [fAll_true]
  exact WF.of (e_is_still_by ok pc) (by simp)
theorem e_check_player {st : List Rat} {H : Hero} (ok : HouseOk 3 3 3 h 8) (o : OddsC h.stands.length st) (ho : HeroOk h H) : f_check_player [.d (pHouse h), .d (pQs st), .d (pHero H)] s = some (.d .none, s) := by
  have nN := ok.nN
  have pP := ok.pP
  refine WF.eq (WF.body rfl ?_)
  simp [m_check_player]
  refine WF.of (e_check_house ok (by decide) (by decide) (by omega)) ?_
  simp
  refine WF.of (e_check_start o.1 (by omega)) ?_
  simp
  refine WF.of (show f_is_player_by [.d (pHouse h), .d (pHero H)] s = some (.d (.bool true), s) from WF.eq (WF.body rfl ?_)) (by simp)
  cases H with
  | still p =>
    simp [m_is_player_by, pHero]
    refine WF.of (e_is_tuple_of rfl) ?_
    simp [fIsi, isA, isN, tyName, fEq_str, q_ss]
    exact WF.of (e_is_still_by ok ho) (by simp)
  | minded μ =>
    simp [m_is_player_by, pHero]
    refine WF.of (e_is_tuple_of rfl) ?_
    simp [fIsi, isA, isN, tyName, fEq_str, q_ms, q_mm]
    exact WF.of (e_is_minded_by ok ho) (by simp)
  | told es p =>
    simp [m_is_player_by, pHero]
    refine WF.of (e_is_tuple_of rfl) ?_
    simp [fIsi, isA, isN, tyName, fEq_str, q_ts, q_tm, q_tt]
    exact WF.of (e_is_told_by ok ho.1 ho.2) (by simp)
end
end WW
namespace Dh
open PySem PySem.Spec L2 PySem.W
inductive NT where
  | z | k (n : Nat) | l (p : List Nat)
def pNT : NT → PyData
  | .z => .int 0
  | .k n => .int (n : Nat)
  | .l p => .tuple (p.map iN)
inductive KP where
  | no | k (n : Nat) | l (p : List Nat)
def pKP : KP → PyData
  | .no => .none
  | .k n => .int (n : Nat)
  | .l p => .tuple (p.map iN)
def begs (es : List (List Nat × List Rat)) (p : List Nat) : Bool := es.any fun e => decide (e.1.take p.length = p)
def lfirst : Hero → Nat → NT
  | .still _, _ => .z
  | .minded _, _ => .k 0
  | .told _ _, st => .l [st]
def lnext : Hero → Nat → NT → Nat → Nat → NT
  | .minded μ, st, .k n, a, _ => .k (((μ.lead.getD st []).getD a []).getD n 0)
  | .told es _, _, .l p, a, g => if p ≠ [] ∧ begs es (p ++ [a, g]) = true then .l (p ++ [a, g]) else .l []
  | _, _, _, _, _ => .z
def tdOdds (es : List (List Nat × List Rat)) (p : List Nat) (x : List Rat) : List Rat := match es.find? fun e => decide (e.1 = p) with
  | some e => e.2
  | none => x
def lodds : Hero → Nat → NT → List Rat
  | .still p, st, _ => p.getD st []
  | .minded μ, st, .k n => (μ.odds.getD st []).getD n []
  | .told es x, st, .l p => tdOdds es p (x.getD st [])
  | _, _, _ => []
def kept (es : List (List Nat × List Rat)) (p : List Nat) : KP := if begs es p = true then .l p else .no
def pfirst : Hero → Nat → KP
  | .still _, _ => .no
  | .minded _, _ => .k 0
  | .told es _, st => kept es [st]
def pnext : Hero → Nat → KP → Nat → Nat → KP
  | .minded μ, st, .k n, a, _ => .k (((μ.lead.getD st []).getD a []).getD n 0)
  | .told es _, _, .l p, a, g => kept es (p ++ [a, g])
  | _, _, _, _, _ => .no
def podds : Hero → Nat → KP → List Rat
  | .still p, st, _ => p.getD st []
  | .minded μ, st, .k n => (μ.odds.getD st []).getD n []
  | .told es x, st, .l p => tdOdds es p (x.getD st [])
  | .told _ x, st, .no => x.getD st []
  | _, _, _ => []
/-- the two go together -/
def Rl : Hero → NT → KP → Prop
  | .still _, .z, .no => True
  | .minded μ, .k n, .k m => n = m ∧ n < μ.m
  | .told es _, .l p, .l q => p = q ∧ p ≠ []
  | .told es _, .l p, .no => p = [] ∨ begs es p = false
  | _, _, _ => False
theorem begs_more {es : List (List Nat × List Rat)} {p q : List Nat} (h : begs es p = false) : begs es (p ++ q) = false := by
  unfold begs at h ⊢
  rw [List.any_eq_false] at h ⊢
  intro e he z
  refine h e he ?_
  have z := of_decide_eq_true z
  rw [decide_eq_true_eq]
  have := congrArg (List.take p.length) z
  rw [List.take_take, List.take_left, Nat.min_eq_left (by rw [List.length_append]; omega)] at this
  exact this
theorem Rl.first {H : Hero} {st : Nat} {h : RHouse} (ho : HeroOk h H) : Rl H (lfirst H st) (pfirst H st) := by
  cases H with
  | still p => trivial
  | minded μ => exact ⟨rfl, ho.m1⟩
  | told es x =>
    show Rl (.told es x) (.l [st]) (kept es [st])
    unfold kept
    by_cases b : begs es [st] = true
    · rw [if_pos b]; exact ⟨rfl, by simp⟩
    · rw [if_neg b]; exact .inr (Bool.eq_false_iff.mpr b)
theorem Rl.next {H : Hero} {μ : NT} {κ : KP} {st a g : Nat} {h : RHouse} (ho : HeroOk h H) (r : Rl H μ κ) (hs : st < h.stands.length) (ha : a < (stD h st).length) : Rl H (lnext H st μ a g) (pnext H st κ a g) := by
  cases H with
  | still p => trivial
  | minded ν =>
    cases μ with
    | k n =>
      cases κ with
      | k m =>
        obtain ⟨rfl, hn⟩ := r
        refine ⟨rfl, ?_⟩
        have ho : MdC h ν := ho
        obtain ⟨l1, l2⟩ := ho.le st hs
        obtain ⟨m1, m2⟩ := l2 _ (getD_mem (d := []) (by rw [l1]; exact ha))
        exact m2 _ (getD_mem (by rw [m1]; exact hn))
      | _ => exact False.elim r
    | _ => exact False.elim r
  | told es x =>
    cases μ with
    | l p =>
      cases κ with
      | l q =>
        obtain ⟨rfl, hp⟩ := r
        show Rl (.told es x) (if p ≠ [] ∧ begs es (p ++ [a, g]) = true then .l (p ++ [a, g]) else .l []) (kept es (p ++ [a, g]))
        unfold kept
        by_cases b : begs es (p ++ [a, g]) = true
        · rw [if_pos ⟨hp, b⟩, if_pos b]; exact ⟨rfl, by simp⟩
        · rw [if_neg fun z => b z.2, if_neg b]; exact .inl rfl
      | no =>
        show Rl (.told es x) (if p ≠ [] ∧ begs es (p ++ [a, g]) = true then .l (p ++ [a, g]) else .l []) .no
        have : ¬ (p ≠ [] ∧ begs es (p ++ [a, g]) = true) := fun z => by
          rcases r with r | r
          · exact z.1 r
          · rw [begs_more r] at z; exact absurd z.2 (by simp)
        rw [if_neg this]
        exact .inl rfl
      | k _ => exact False.elim r
    | _ => exact False.elim r
theorem Rl.odds {H : Hero} {μ : NT} {κ : KP} {st : Nat} {h : RHouse} (ho : HeroOk h H) (r : Rl H μ κ) : podds H st κ = lodds H st μ := by
  cases H with
  | still p => rfl
  | minded ν =>
    cases μ with
    | k n =>
      cases κ with
      | k m => obtain ⟨rfl, _⟩ := r; rfl
      | _ => exact False.elim r
    | _ => exact False.elim r
  | told es x =>
    cases μ with
    | l p =>
      cases κ with
      | l q => obtain ⟨rfl, _⟩ := r; rfl
      | no =>
        show x.getD st [] = tdOdds es p (x.getD st [])
        unfold tdOdds
        have : es.find? (fun e => decide (e.1 = p)) = none := by
          rw [List.find?_eq_none]
          intro e he z
          have z := of_decide_eq_true z
          rcases r with r | r
          · obtain ⟨k, hk, _⟩ := (ho.1.mem e he).1.len
            rw [z, r] at hk
            simp at hk
          · unfold begs at r
            rw [List.any_eq_false] at r
            exact r e he (by rw [decide_eq_true_eq, ← z, List.take_length])
        rw [this]
      | k _ => exact False.elim r
    | _ => exact False.elim r
/-- what decides tells odds -/
def NtOk (H : Hero) (μ : NT) : Prop := ∃ κ, Rl H μ κ
theorem lodds_ok {H : Hero} {μ : NT} {st : Nat} {h : RHouse} (ho : HeroOk h H) (r : NtOk H μ) (hs : st < h.stands.length) (me : ∀ es x p, H = .told es x → μ = .l p → ∀ e ∈ es, e.1 = p → lastN p = st) : WW.OddsC (stD h st).length (lodds H st μ) := by
  obtain ⟨κ, r⟩ := r
  cases H with
  | still p => exact ho.each st hs
  | minded ν =>
    cases μ with
    | k n =>
      cases κ with
      | k m =>
        obtain ⟨rfl, hn⟩ := r
        have ho : MdC h ν := ho
        obtain ⟨o1, o2⟩ := ho.oe st hs
        exact o2 _ (getD_mem (by rw [o1]; exact hn))
      | _ => exact False.elim r
    | _ => exact False.elim r
  | told es x =>
    cases μ with
    | l p =>
      show WW.OddsC _ (tdOdds es p (x.getD st []))
      unfold tdOdds
      cases q : es.find? fun e => decide (e.1 = p) with
      | none => exact ho.2.each st hs
      | some e =>
        have he := List.mem_of_find?_eq_some q
        have ep : e.1 = p := by
          have := List.find?_some q
          simpa using this
        have := (ho.1.mem e he).2
        rw [ep, me es x p rfl rfl e he ep] at this
        exact this
    | z => cases κ <;> exact False.elim r
    | k _ => cases κ <;> exact False.elim r
/-- a told memory ends where one stands -/
def AtN (μ : NT) (st : Nat) : Prop := ∀ p, μ = .l p → p ≠ [] → lastN p = st
theorem AtN.first {H : Hero} {st : Nat} : AtN (lfirst H st) st := fun p e hp => by
  cases H with
  | told es x => cases e; rfl
  | _ => cases e
theorem AtN.next {H : Hero} {μ : NT} {st a g : Nat} : AtN (lnext H st μ a g) g := fun p e hp => by
  unfold lnext at e
  split at e
  · cases e
  · split at e
    · cases e
      unfold lastN
      rw [List.getD_eq_getElem?_getD, List.getElem?_append_right (by simp)]
      simp
    · cases e; exact absurd rfl hp
  · cases e
theorem AtN.me {H : Hero} {μ : NT} {st : Nat} {h : RHouse} (ho : HeroOk h H) (a : AtN μ st) : ∀ es x p, H = .told es x → μ = .l p → ∀ e ∈ es, e.1 = p → lastN p = st := fun es x p eH em e he ep => by
  subst eH
  refine a p em fun z => ?_
  obtain ⟨k, hk, _⟩ := (ho.1.mem e he).1.len
  rw [ep, z] at hk
  simp at hk
end Dh
namespace Dh
open PySem PySem.Spec L2 PySem.W
theorem eqv_iNt : ∀ {p q : List Nat}, PyData.eqvAll (p.map iN) (q.map iN) = decide (p = q)
  | [], [] => by simp [PyData.eqvAll]
  | [], _ :: _ => by simp [PyData.eqvAll]
  | _ :: _, [] => by simp [PyData.eqvAll]
  | x :: p, y :: q => by
    rw [List.map_cons, List.map_cons]
    simp only [PyData.eqvAll, iN, eqv_int]
    rw [eqv_iNt (p := p) (q := q)]
    by_cases e : x = y
    · by_cases e2 : p = q
      · simp [e, e2]
      · simp [e, e2]
    · simp [e, show ¬ (x : Int) = (y : Int) by omega]
theorem fEq_iNt {p q : List Nat} {neg : Bool} : fEq neg (.d (.tuple (p.map iN))) (.d (.tuple (q.map iN))) = some (.d (.bool (if neg then !decide (p = q) else decide (p = q)))) := by
  show (if eqOk (.tuple (p.map iN)) = true ∧ eqOk (.tuple (q.map iN)) = true then some (R.d (.bool (if neg then !PyData.eqv (.tuple (p.map iN)) (.tuple (q.map iN)) else PyData.eqv (.tuple (p.map iN)) (.tuple (q.map iN))))) else none) = _
  rw [if_pos ⟨eqOk_iNt, eqOk_iNt⟩, show PyData.eqv (.tuple (p.map iN)) (.tuple (q.map iN)) = PyData.eqvAll (p.map iN) (q.map iN) by simp only [PyData.eqv], eqv_iNt]
theorem fEq_iNn {p : List Nat} : fEq false (.d (.tuple (p.map iN))) (.d .none) = some (.d (.bool false)) := by
  show (if eqOk (.tuple (p.map iN)) = true ∧ eqOk .none = true then some (R.d (.bool (if false then !PyData.eqv (.tuple (p.map iN)) .none else PyData.eqv (.tuple (p.map iN)) .none))) else none) = _
  rw [if_pos ⟨eqOk_iNt, by decide⟩]
  simp [PyData.eqv]
theorem fIs_nn : fIs false (.d .none) (.d .none) = some (.d (.bool true)) := rfl
theorem fIs_tn {xs : List PyData} : fIs false (.d (.tuple xs)) (.d .none) = some (.d (.bool false)) := rfl
theorem bools_map {α : Type} (c : α → Bool) : ∀ l : List α, boolsOf (l.map fun x => PyData.bool (c x)) = some (l.map c)
  | [] => rfl
  | x :: l => by
    show (boolsOf (l.map fun x => PyData.bool (c x))).map (c x :: ·) = _
    rw [bools_map c l]; rfl
theorem fAny_map {α : Type} (c : α → Bool) (l : List α) : fAny [.f (l.map fun x => PyData.bool (c x))] = some (.d (.bool (l.any c))) := by
  show (match rdL (.f (l.map fun x => PyData.bool (c x))) with | some xs => (boolsOf xs).map fun bs : List Bool => R.d (.bool (bs.any id)) | none => none) = _
  rw [ev_rdL2]
  dsimp only
  rw [bools_map, Option.map_some, List.any_map]
  rfl
end Dh
namespace WW
open PySem PySem.Spec L2 PySem.W Dh
section
variable {h : RHouse} {s : Sto}
theorem e_kept_of {es : List (List Nat × List Rat)} {x : List (List Rat)} {p : List Nat} (td : TdOk h es) : f_kept_of [.d (pTd es x), .d (.tuple (p.map iN))] s = some (.d (pKP (kept es p)), s) := by
  have l4 := td.len
  refine WF.eq (WF.body rfl ?_)
  simp [m_kept_of, List.replicate_succ, pTd]
  refine WLc_map pEn (fun e => PyData.bool (decide (e.1.take p.length = p))) es (fun e he => ?_) ?_
  · have ef := fEq_iNt (p := e.1.take p.length) (q := p) (neg := false)
    rw [List.map_take] at ef
    simp [pEn, fSl, cut_to, ef]
    try rw [← List.map_take]
    try simp [fEq_iNt]
  refine ⟨szle (by rw [List.length_map]; omega), ?_⟩
  have fa := fAny_map (fun e : List Nat × List Rat => decide (e.1.take p.length = p)) es
  unfold kept begs
  by_cases b : (es.any fun e => decide (e.1.take p.length = p)) = true
  · rw [b] at fa
    rw [if_pos b]
    simp [fa, pKP]
  · have b' := Bool.eq_false_iff.mpr b
    rw [b'] at fa
    rw [if_neg b]
    simp [fa, pKP]
theorem e_first_kept {H : Hero} {st : Nat} (ho : HeroOk h H) : f_first_kept [.d (pHero H), .d (.int (st : Nat))] s = some (.d (pKP (pfirst H st)), s) := by
  cases H with
  | still p =>
    refine WF.eq (WF.body rfl ?_)
    simp [m_first_kept, pHero, fEq_str, q_ss, pfirst, pKP]
  | minded μ =>
    refine WF.eq (WF.body rfl ?_)
    simp [m_first_kept, pHero, fEq_str, q_ms, q_mm, pfirst, pKP]
  | told es p =>
    refine WF.eq (WF.body rfl ?_)
    simp [m_first_kept, pHero, fEq_str, q_ts, q_tm, sz1]
    exact WF.of (e_kept_of (p := [st]) ho.1) (by simp [pfirst])
theorem e_next_kept {H : Hero} {μ : NT} {κ : KP} {st a g : Nat} (ho : HeroOk h H) (r : Rl H μ κ) (hs : st < h.stands.length) (ha : a < (stD h st).length) (l9 : ∀ p, κ = .l p → p.length ≤ 900) : f_next_kept [.d (pHero H), .d (.int (st : Nat)), .d (.int (a : Nat)), .d (.int (g : Nat)), .d (pKP κ)] s = some (.d (pKP (pnext H st κ a g)), s) := by
  cases H with
  | still p =>
    cases κ with
    | no =>
      refine WF.eq (WF.body rfl ?_)
      simp [m_next_kept, pHero, fEq_str, q_sm, pKP, fIs_nn, fIs_tn, pnext]
    | _ => cases μ <;> exact False.elim r
  | minded ν =>
    cases μ with
    | k n =>
      cases κ with
      | k m =>
        obtain ⟨rfl, hn⟩ := r
        have ho : MdC h ν := ho
        obtain ⟨l1, l2⟩ := ho.le st hs
        have e1 : atI (ν.lead.map pLd) (st : Int) = some (pLd (ν.lead.getD st [])) := atI_getD (by rw [ho.ll]; exact hs)
        have e2 : atI ((ν.lead.getD st []).map pRow) (a : Int) = some (pRow ((ν.lead.getD st []).getD a [])) := atI_getD (by rw [l1]; exact ha)
        have e3 : atI (((ν.lead.getD st []).getD a []).map iN) (n : Int) = some (iN (((ν.lead.getD st []).getD a []).getD n 0)) := atI_getD (by rw [(l2 _ (getD_mem (d := []) (by rw [l1]; exact ha))).1]; exact hn)
        refine WF.eq (WF.body rfl ?_)
        simp [m_next_kept, pHero, fEq_str, q_mm, pKP, pMd, e1, pLd, e2, pRow, e3, pnext, iN, -List.getD_eq_getElem?_getD]
      | _ => exact False.elim r
    | _ => exact False.elim r
  | told es x =>
    cases κ with
    | no =>
      refine WF.eq (WF.body rfl ?_)
      simp [m_next_kept, pHero, fEq_str, q_tm, pKP, fIs_nn, fIs_tn, pnext]
    | l p =>
      have := l9 p rfl
      have ek := e_kept_of (s := s) (x := x) (p := p ++ [a, g]) ho.1
      rw [List.map_append] at ek
      refine WF.eq (WF.body rfl ?_)
      have epk : pKP (.l p) = .tuple (p.map iN) := rfl
      rw [epk]
      simp [m_next_kept, pHero, fEq_str, q_tm, fIs_nn, fIs_tn, sz2, szle (show p.length + 2 ≤ 1000 by omega)]
      exact WF.of ek (by simp [pnext])
    | k _ => cases μ <;> exact False.elim r
theorem e_odds_at {H : Hero} {μ : NT} {κ : KP} {st : Nat} (ho : HeroOk h H) (r : Rl H μ κ) (hs : st < h.stands.length) : f_odds_at [.d (pHero H), .d (.int (st : Nat)), .d (pKP κ)] s = some (.d (pQs (podds H st κ)), s) := by
  cases H with
  | still p =>
    have e1 : atI (p.map pQs) (st : Int) = some (pQs (p.getD st [])) := atI_getD (by rw [ho.len]; exact hs)
    refine WF.eq (WF.body rfl ?_)
    simp [m_odds_at, List.replicate_succ, pHero, fEq_str, q_ss, pPl, e1, podds, -List.getD_eq_getElem?_getD]
  | minded ν =>
    cases μ with
    | k n =>
      cases κ with
      | k m =>
        obtain ⟨rfl, hn⟩ := r
        have ho : MdC h ν := ho
        obtain ⟨l1, l2⟩ := ho.oe st hs
        have e1 : atI (ν.odds.map pOd) (st : Int) = some (pOd (ν.odds.getD st [])) := atI_getD (by rw [ho.ol]; exact hs)
        have e2 : atI ((ν.odds.getD st []).map pQs) (n : Int) = some (pQs ((ν.odds.getD st []).getD n [])) := atI_getD (by rw [l1]; exact hn)
        refine WF.eq (WF.body rfl ?_)
        simp [m_odds_at, List.replicate_succ, pHero, fEq_str, q_ms, q_mm, pMd, e1, pOd, e2, pKP, podds, -List.getD_eq_getElem?_getD]
      | _ => exact False.elim r
    | _ => exact False.elim r
  | told es x =>
    have e1 : atI (x.map pQs) (st : Int) = some (pQs (x.getD st [])) := atI_getD (by rw [ho.2.len]; exact hs)
    have key : ∀ (c : (List Nat × List Rat) → Bool) (K : PyData) (o : List Rat), (∀ e ∈ es, fEq false (.d (.tuple (e.1.map iN))) (.d K) = some (.d (.bool (c e)))) → o = (match es.find? c with | some e => e.2 | none => x.getD st []) →
        f_odds_at [.d (pHero (.told es x)), .d (.int (st : Nat)), .d K] s = some (.d (pQs o), s) := by
      intro c K o hc eo
      refine WF.eq (WF.body rfl ?_)
      simp [m_odds_at, List.replicate_succ, pHero, fEq_str, q_ts, q_tm, pTd]
      refine WFor_inv pEn es (fun i ρ s' => s' = s ∧ (es.take i).find? c = none ∧ ∃ c3 c4 : Option Cl, ρ = [some (.d (pHero (.told es x))), some (.d (.int (st : Nat))), some (.d K), c3, c4]) ⟨rfl, rfl, none, none, rfl⟩ ?_ ?_
      · rintro i e ρ s' hi ⟨rfl, hn, c3, c4, rfl⟩
        have he := List.mem_of_getElem? hi
        have ht := take_snoc hi
        have hce := hc e he
        simp [pEn, hce]
        by_cases b : c e = true
        · simp [b]
          rw [eo]
          have : es.find? c = some e := by
            obtain ⟨hil, hie⟩ := List.getElem?_eq_some_iff.mp hi
            have e2 : es = es.take (i + 1) ++ es.drop (i + 1) := (List.take_append_drop _ _).symm
            rw [e2, ht, List.find?_append, List.find?_append, hn]
            simp [b]
          rw [this]
        · have b' := Bool.eq_false_iff.mpr b
          have hn2 : (es.take (i + 1)).find? c = none := by
            rw [ht, List.find?_append, hn]
            simp [b']
          simp only [b']
          simp [-List.find?_eq_none]
          exact hn2
      · rintro ρ s' ⟨rfl, hn, c3, c4, rfl⟩
        rw [List.take_length] at hn
        rw [hn] at eo
        simp [pHero, pTd, pPl, e1, eo, -List.getD_eq_getElem?_getD]
    cases κ with
    | no =>
      refine key (fun _ => false) .none _ (fun e he => fEq_iNn) ?_
      have : es.find? (fun _ => false) = none := by rw [List.find?_eq_none]; intro e he z; cases z
      rw [this]; rfl
    | l p => exact key (fun e => decide (e.1 = p)) (.tuple (p.map iN)) _ (fun e he => by rw [fEq_iNt]; rfl) rfl
    | k _ => cases μ <;> exact False.elim r
end
end WW
namespace Dh
open PySem PySem.Spec L2 PySem.W
theorem fm_find {es : List (List Nat × List Rat)} {p : List Nat} : ((es.filterMap fun e => if e.1 = p then some (pQs e.2) else none) = [] ∧ es.find? (fun e => decide (e.1 = p)) = none) ∨
    ∃ e r, es.find? (fun e => decide (e.1 = p)) = some e ∧ (es.filterMap fun e => if e.1 = p then some (pQs e.2) else none) = pQs e.2 :: r := by
  induction es with
  | nil => exact .inl ⟨rfl, rfl⟩
  | cons e es ih =>
    by_cases h : e.1 = p
    · refine .inr ⟨e, es.filterMap fun e => if e.1 = p then some (pQs e.2) else none, ?_, ?_⟩
      · rw [List.find?_cons, decide_eq_true h]
      · rw [List.filterMap_cons, if_pos h]
    · rw [List.filterMap_cons, if_neg h, List.find?_cons, decide_eq_false h]
      exact ih
theorem fm_empty {es : List (List Nat × List Rat)} {c : (List Nat × List Rat) → Bool} : (es.filterMap fun e => if c e = true then some (pEn e) else none).isEmpty = !es.any c := by
  induction es with
  | nil => rfl
  | cons e es ih =>
    rw [List.filterMap_cons, List.any_cons]
    cases h : c e <;> simp [ih]
theorem any_and {α : Type} {b : Bool} {c : α → Bool} : ∀ {l : List α}, (l.any fun x => b && c x) = (b && l.any c)
  | [] => by simp
  | x :: l => by
    rw [List.any_cons, List.any_cons, any_and]
    cases b <;> simp
theorem fEqE_tn {p : List Nat} : fEqE true (.d (.tuple (p.map iN))) (.d (.tuple [])) = some (.d (.bool (!decide (p = [])))) := by
  unfold fEqE
  cases p <;> rfl
theorem fEqN_b {xs : List PyData} : fEqN true (.b xs) (.f []) = some (.d (.bool (!xs.isEmpty))) := rfl
end Dh
namespace WW
open PySem PySem.Spec L2 PySem.W Dh
section
variable {h : RHouse} {s : Sto}
def pNote (st : Nat) (μ : NT) : PyData := .tuple [.int (st : Nat), pNT μ]
theorem e_lfirst_note {H : Hero} {st : Nat} : f_law_first_note [.d (pHero H), .d (.int (st : Nat))] s = some (.d (pNote st (lfirst H st)), s) := by
  cases H with
  | still p =>
    refine WF.eq (WF.body rfl ?_)
    simp [m_law_first_note, pHero, fEq_str, q_st, lfirst, pNT, sz2, pNote]
  | minded μ =>
    refine WF.eq (WF.body rfl ?_)
    simp [m_law_first_note, pHero, fEq_str, q_mt, lfirst, pNT, sz2, pNote]
  | told es p =>
    refine WF.eq (WF.body rfl ?_)
    simp [m_law_first_note, pHero, fEq_str, q_tt, lfirst, pNT, sz1, sz2, pNote, iN]
theorem e_lnext_note {H : Hero} {μ : NT} {st a g : Nat} (ho : HeroOk h H) (r : NtOk H μ) (hs : st < h.stands.length) (ha : a < (stD h st).length) (l9 : ∀ p, μ = .l p → p.length ≤ 900) : f_law_next_note [.d (pHero H), .d (pNote st μ), .d (.int (a : Nat)), .d (.int (g : Nat))] s = some (.d (pNote g (lnext H st μ a g)), s) := by
  obtain ⟨κ, r⟩ := r
  cases H with
  | still p =>
    refine WF.eq (WF.body rfl ?_)
    simp [m_law_next_note, List.replicate_succ, pHero, fEq_str, q_ss, lnext, pNT, sz2, pNote]
  | minded ν =>
    cases μ with
    | k n =>
      cases κ with
      | k m =>
        obtain ⟨rfl, hn⟩ := r
        have ho : MdC h ν := ho
        obtain ⟨l1, l2⟩ := ho.le st hs
        have e1 : atI (ν.lead.map pLd) (st : Int) = some (pLd (ν.lead.getD st [])) := atI_getD (by rw [ho.ll]; exact hs)
        have e2 : atI ((ν.lead.getD st []).map pRow) (a : Int) = some (pRow ((ν.lead.getD st []).getD a [])) := atI_getD (by rw [l1]; exact ha)
        have e3 : atI (((ν.lead.getD st []).getD a []).map iN) (n : Int) = some (iN (((ν.lead.getD st []).getD a []).getD n 0)) := atI_getD (by rw [(l2 _ (getD_mem (d := []) (by rw [l1]; exact ha))).1]; exact hn)
        refine WF.eq (WF.body rfl ?_)
        simp [m_law_next_note, List.replicate_succ, pHero, fEq_str, q_ms, q_mm, pNote, pNT, pMd, e1, pLd, e2, pRow, e3, lnext, iN, sz2, -List.getD_eq_getElem?_getD]
      | _ => exact False.elim r
    | _ => exact False.elim r
  | told es x =>
    have hl4 := ho.1.len
    cases μ with
    | l p =>
      have := l9 p rfl
      have epa : p.map iN ++ [PyData.int (a : Nat), PyData.int (g : Nat)] = (p ++ [a, g]).map iN := by simp [iN]
      have hlen : (p ++ [a, g]).length = p.length + 2 := by simp
      have el : lnext (.told es x) st (.l p) a g = if ((!decide (p = [])) && begs es (p ++ [a, g])) = true then .l (p ++ [a, g]) else .l [] := by
        show (if p ≠ [] ∧ begs es (p ++ [a, g]) = true then NT.l (p ++ [a, g]) else .l []) = _
        by_cases hp : p = []
        · simp [hp]
        · simp [hp]
      have epa' : p.map iN ++ [iN a, iN g] = (p ++ [a, g]).map iN := by simp
      have en : pNote st (.l p) = .tuple [.int (st : Nat), .tuple (p.map iN)] := rfl
      refine WF.eq (WF.body rfl ?_)
      rw [en]
      simp [m_law_next_note, List.replicate_succ, pHero, fEq_str, q_ts, q_tm, pTd, sz2, szle (show p.length + 2 ≤ 1000 by omega)]
      first | rw [epa'] | rw [epa]
      generalize hP : p ++ [a, g] = P at *
      refine WLc_opt pEn (fun e => if ((!decide (p = [])) && decide (e.1.take P.length = P)) = true then some (pEn e) else none) es (fun e he => ?_) ?_
      · have ef := fEq_iNt (p := e.1.take P.length) (q := P) (neg := false)
        rw [List.map_take] at ef
        have e1 := fEqE_tn (p := p)
        by_cases hp : p = []
        · subst hp
          have e1' : fEqE true (.d (.tuple [])) (.d (.tuple [])) = some (.d (.bool false)) := rfl
          simp [e1', pEn]
        · simp [e1, hp, pEn, fSl]
          rw [← List.length_map (f := iN) (as := P), cut_to, List.length_map, ef]
          by_cases q : e.1.take P.length = P
          · simp [q, hp]
          · simp [q, hp]
      have hem := fm_empty (es := es) (c := fun e => (!decide (p = [])) && decide (e.1.take P.length = P))
      rw [any_and] at hem
      have hfl : (es.filterMap fun e => if ((!decide (p = [])) && decide (e.1.take P.length = P)) = true then some (pEn e) else none).length ≤ 4 := Nat.le_trans (List.length_filterMap_le _ _) hl4
      generalize (es.filterMap fun e => if ((!decide (p = [])) && decide (e.1.take P.length = P)) = true then some (pEn e) else none) = ys at *
      refine ⟨szle (by omega), ?_⟩
      rw [el]
      unfold begs
      by_cases b : ((!decide (p = [])) && es.any fun e => decide (e.1.take P.length = P)) = true
      · rw [b] at hem
        rw [if_pos b]
        have hem : ys.isEmpty = false := hem
        have fe : fEqN true (.b ys) (.f []) = some (.d (.bool true)) := by rw [fEqN_b, hem]; rfl
        simp [fe, sz2, pNote, pNT]
      · have b' := Bool.eq_false_iff.mpr b
        rw [b'] at hem
        rw [if_neg b]
        have hem : ys.isEmpty = true := hem
        have fe : fEqN true (.b ys) (.f []) = some (.d (.bool false)) := by rw [fEqN_b, hem]; rfl
        simp [fe, sz2, pNote, pNT]
    | z => cases κ <;> exact False.elim r
    | k _ => cases κ <;> exact False.elim r
theorem e_lnote_odds {H : Hero} {μ : NT} {st : Nat} (ho : HeroOk h H) (r : NtOk H μ) (hs : st < h.stands.length) : f_law_note_odds [.d (pHero H), .d (pNote st μ)] s = some (.d (pQs (lodds H st μ)), s) := by
  obtain ⟨κ, r⟩ := r
  cases H with
  | still p =>
    have e1 : atI (p.map pQs) (st : Int) = some (pQs (p.getD st [])) := atI_getD (by rw [ho.len]; exact hs)
    refine WF.eq (WF.body rfl ?_)
    simp [m_law_note_odds, List.replicate_succ, pHero, fEq_str, q_ss, pPl, pNote, e1, lodds, -List.getD_eq_getElem?_getD]
  | minded ν =>
    cases μ with
    | k n =>
      cases κ with
      | k m =>
        obtain ⟨rfl, hn⟩ := r
        have ho : MdC h ν := ho
        obtain ⟨l1, l2⟩ := ho.oe st hs
        have e1 : atI (ν.odds.map pOd) (st : Int) = some (pOd (ν.odds.getD st [])) := atI_getD (by rw [ho.ol]; exact hs)
        have e2 : atI ((ν.odds.getD st []).map pQs) (n : Int) = some (pQs ((ν.odds.getD st []).getD n [])) := atI_getD (by rw [l1]; exact hn)
        refine WF.eq (WF.body rfl ?_)
        simp [m_law_note_odds, List.replicate_succ, pHero, fEq_str, q_ms, q_mm, pMd, e1, pOd, e2, pNT, lodds, pNote, -List.getD_eq_getElem?_getD]
      | _ => exact False.elim r
    | _ => exact False.elim r
  | told es x =>
    have hl4 := ho.1.len
    have e1 : atI (x.map pQs) (st : Int) = some (pQs (x.getD st [])) := atI_getD (by rw [ho.2.len]; exact hs)
    cases μ with
    | l p =>
      refine WF.eq (WF.body rfl ?_)
      simp [m_law_note_odds, List.replicate_succ, pHero, fEq_str, q_ts, q_tm, pNote, pNT, pTd]
      refine WLc_opt pEn (fun e => if e.1 = p then some (pQs e.2) else none) es (fun e he => ?_) ?_
      · simp [pEn, fEq_iNt]
        by_cases q : e.1 = p
        · simp [q]
        · simp [q]
      refine ⟨szle (Nat.le_trans (List.length_filterMap_le _ _) (by omega)), ?_⟩
      show _
      have eo : lodds (.told es x) st (.l p) = tdOdds es p (x.getD st []) := rfl
      rw [eo]
      unfold tdOdds
      rcases fm_find (es := es) (p := p) with ⟨f1, f2⟩ | ⟨e, rr, f1, f2⟩
      · rw [f1, f2]
        simp [fEqN_b, pPl, e1, -List.getD_eq_getElem?_getD]
      · rw [f1, f2]
        simp [fEqN_b]
    | z => cases κ <;> exact False.elim r
    | k _ => cases κ <;> exact False.elim r
end
end WW
namespace Dh
open PySem PySem.Spec L2 PySem.W
def pickI (l : List Rat) (d : Rat) : Nat := match (List.range l.length).find? fun k => decide (d < qsum (l.take (k + 1))) with
  | some k => k
  | none => l.length - 1
theorem pickI_lt {l : List Rat} {d : Rat} (h : 0 < l.length) : pickI l d < l.length := by
  unfold pickI
  cases q : (List.range l.length).find? fun k => decide (d < qsum (l.take (k + 1))) with
  | none => show l.length - 1 < _; omega
  | some k => exact List.mem_range.mp (List.mem_of_find?_eq_some q)
theorem pickI_some {l : List Rat} {d : Rat} {i : Nat} (hi : i < l.length) (h1 : ∀ j, j < i → ¬ d < qsum (l.take (j + 1))) (h2 : d < qsum (l.take (i + 1))) : pickI l d = i := by
  unfold pickI
  have : (List.range l.length).find? (fun k => decide (d < qsum (l.take (k + 1)))) = some i := by
    rw [List.find?_range_eq_some]
    exact ⟨by simpa using h2, List.mem_range.mpr hi, fun j hj => by simpa using h1 j hj⟩
  rw [this]
theorem pickI_none {l : List Rat} {d : Rat} (h1 : ∀ j, j < l.length → ¬ d < qsum (l.take (j + 1))) : pickI l d = l.length - 1 := by
  unfold pickI
  have : (List.range l.length).find? (fun k => decide (d < qsum (l.take (k + 1)))) = none := by
    rw [List.find?_eq_none]
    intro k hk
    have := h1 k (List.mem_range.mp hk)
    simpa using this
  rw [this]
/-- a row, as a tuple or as a list -/
def IsRow (x : PyData) (l : List Rat) : Prop := x = .tuple (l.map pQ) ∨ x = .list (l.map pQ)
end Dh
namespace WW
open PySem PySem.Spec L2 PySem.W Dh
section
variable {s : Sto}
theorem e_picked {x : PyData} {l : List Rat} {d : Rat} (hx : IsRow x l) (hl : ∀ q ∈ l, QLt 10 q) (h9 : l.length ≤ 9) (h1 : 1 ≤ l.length) (hd : QLt 400 d) : f_picked [.d x, .d (pQ d)] s = some (.d (.int (pickI l d : Nat)), s) := by
  have k0 : k_ZERO = pQ 0 := rfl
  rcases hx with rfl | rfl
  all_goals
    refine WF.eq (WF.body rfl ?_)
    simp [m_picked, List.replicate_succ, numbered_map, k0]
    refine WFor_inv (fun p : Rat × Nat => PyData.tuple [.int (p.2 : Nat), pQ p.1]) l.zipIdx (fun i ρ s' => s' = s ∧ (∀ j, j < i → ¬ d < qsum (l.take (j + 1))) ∧ ∃ (y : Option Cl) (c3 c4 : Option Cl), ρ = [y, some (.d (pQ d)), some (.d (pQ (qsum (l.take i)))), c3, c4] ∧ (y = some (.d (.tuple (l.map pQ))) ∨ y = some (.d (.list (l.map pQ))))) ⟨rfl, fun j hj => by omega, _, none, none, rfl, by first | exact .inl rfl | exact .inr rfl⟩ ?_ ?_
    · rintro i ⟨q, i'⟩ ρ s' hp ⟨rfl, hn, y, c3, c4, rfl, hy⟩
      rw [List.getElem?_zipIdx] at hp
      obtain ⟨q', hq, e⟩ := Option.map_eq_some_iff.mp hp
      rw [Nat.zero_add] at e
      cases e
      have hi := lt_of hq
      have hs := qsum_take_lt (i := i) hl
      have hs2 := qsum_take_lt (i := i + 1) hl
      have ht := take_snoc hq
      have e1 : qsum (l.take (i + 1)) = qsum (l.take i) + q := by rw [ht, qsum_snoc]
      simp
      refine WF.of (e_plus (hs.bd (by omega)) ((hl q (List.mem_of_getElem? hq)).bd)) ?_
      rw [← e1]
      simp
      refine WF.of (e_is_less hd.bd (hs2.bd (by omega))) ?_
      by_cases h : d < qsum (l.take (i + 1))
      · simp [h]
        rw [pickI_some hi hn h]
      · simp [h]
        refine ⟨fun j hj => ?_, hy⟩
        by_cases e : j = i
        · subst e
          have := h
          grind
        · have := hn j (by omega)
          grind
    · rintro ρ s' ⟨rfl, hn, y, c3, c4, rfl, hy⟩
      rw [List.length_zipIdx] at hn
      rw [pickI_none hn]
      rcases hy with rfl | rfl
      · simp
        omega
      · simp
        omega
theorem e_lpicked {x : PyData} {l : List Rat} {d : Rat} (hx : IsRow x l) (hl : ∀ q ∈ l, QLt 10 q) (h9 : l.length ≤ 9) (h1 : 1 ≤ l.length) (hd : QLt 400 d) : f_law_picked [.d x, .d (pQ d)] s = some (.d (.int (pickI l d : Nat)), s) := by
  have r1 : range1 [.d (.int (l.length : Int))] = some ((List.range l.length).map fun i => PyData.int (i : Nat)) := range1_nat (by omega)
  rcases hx with rfl | rfl
  all_goals
    refine WF.eq (WF.body rfl ?_)
    simp [m_law_picked, List.replicate_succ, sz2, r1]
    refine WFor_inv (fun i : Nat => PyData.int i) (List.range l.length) (fun i ρ s' => s' = s ∧ (∀ j, j < i → ¬ d < qsum (l.take (j + 1))) ∧ ∃ (y : Option Cl) (c3 : Option Cl), ρ = [y, some (.d (pQ d)), some (.d (pQ (qsum (l.take i)))), c3] ∧ (y = some (.d (.tuple (l.map pQ))) ∨ y = some (.d (.list (l.map pQ))))) ⟨rfl, fun j hj => by omega, _, none, rfl, by first | exact .inl rfl | exact .inr rfl⟩ ?_ ?_
    · rintro i z ρ s' hz ⟨rfl, hn, y, c3, rfl, hy⟩
      obtain ⟨rfl, hi⟩ := range_at hz
      have hs := qsum_take_lt (i := z) hl
      have hs2 := qsum_take_lt (i := z + 1) hl
      have eq : l[z]? = some (l.getD z 0) := by rw [List.getD_eq_getElem?_getD, List.getElem?_eq_getElem hi]; rfl
      have ht := take_snoc eq
      have e1 : qsum (l.take (z + 1)) = qsum (l.take z) + l.getD z 0 := by rw [ht, qsum_snoc]
      have ea : atI (l.map pQ) (z : Int) = some (pQ (l.getD z 0)) := atI_getD hi
      rcases hy with rfl | rfl
      all_goals
        simp [ea, -List.getD_eq_getElem?_getD]
        refine WF.of (e_lplus (hs.bd (by omega)) ((hl _ (getD_mem hi)).bd)) ?_
        rw [← e1]
        simp
        refine WF.of (e_lunder hd.bd (hs2.bd (by omega))) ?_
        by_cases h : d < qsum (l.take (z + 1))
        · simp [h]
          rw [pickI_some hi hn h]
        · simp [h]
          intro j hj
          by_cases e : j = z
          · subst e
            have := h
            grind
          · have := hn j (by omega)
            grind
    · rintro ρ s' ⟨rfl, hn, y, c3, rfl, hy⟩
      rw [List.length_range] at hn
      rw [pickI_none hn]
      rcases hy with rfl | rfl
      · simp
        omega
      · simp
        omega
theorem e_lstretch {x : PyData} {l : List Rat} {k : Nat} (hx : IsRow x l) (hl : ∀ q ∈ l, QLt 10 q) (h9 : l.length ≤ 9) (hk : k < l.length) : f_law_stretch [.d x, .d (.int (k : Nat))] s = some (.d (.tuple [pQ (qsum (l.take k)), pQ (qsum (l.take k) + l.getD k 0)]), s) := by
  have ea : atI (l.map pQ) (k : Int) = some (pQ (l.getD k 0)) := atI_getD hk
  have hs := qsum_take_lt (i := k) hl
  rcases hx with rfl | rfl
  all_goals
    refine WF.eq (WF.body rfl ?_)
    simp [m_law_stretch, List.replicate_succ, sz2, fSl, cut_to]
    try rw [← List.map_take]
    refine WFor_inv pQ (l.take k) (fun i ρ s' => s' = s ∧ ∃ (y : Option Cl) (c3 : Option Cl), ρ = [y, some (.d (.int (k : Nat))), some (.d (pQ (qsum ((l.take k).take i)))), c3] ∧ (y = some (.d (.tuple (l.map pQ))) ∨ y = some (.d (.list (l.map pQ))))) ⟨rfl, _, none, rfl, by first | exact .inl rfl | exact .inr rfl⟩ ?_ ?_
    · rintro i q ρ s' hq ⟨rfl, y, c3, rfl, hy⟩
      have hlk : ∀ q ∈ l.take k, QLt 10 q := fun q hq => hl q (List.mem_of_mem_take hq)
      have hs1 := qsum_take_lt (i := i) hlk
      have lk : (l.take k).length ≤ 9 := by rw [List.length_take]; omega
      have ht := take_snoc hq
      simp
      refine WF.of (e_lplus (hs1.bd (by omega)) ((hlk q (List.mem_of_getElem? hq)).bd)) ?_
      rw [ht, qsum_snoc]
      simp
      exact hy
    · rintro ρ s' ⟨rfl, y, c3, rfl, hy⟩
      rw [List.take_length]
      rcases hy with rfl | rfl
      all_goals
        simp [ea, -List.getD_eq_getElem?_getD]
        refine WF.of (e_lplus (hs.bd (by omega)) ((hl _ (getD_mem hk)).bd)) ?_
        simp [sz2, -List.getD_eq_getElem?_getD]
end
end WW
namespace Dh
open PySem PySem.Spec L2 PySem.W
theorem fm_iN {c : Nat → Bool} : ∀ {L : List Nat}, (L.filterMap fun k => if c k = true then some (iN k) else none) = (L.filter c).map iN
  | [] => rfl
  | k :: L => by
    rw [List.filterMap_cons, List.filter_cons]
    cases h : c k <;> simp [fm_iN]
theorem sum_nn : ∀ {l : List Rat}, (∀ q ∈ l, 0 ≤ q) → 0 ≤ qsum l
  | [], _ => by simp [qsum]
  | q :: l, h => by
    rw [qsum_cons]
    have := h q (by simp)
    have := sum_nn fun z hz => h z (List.mem_cons_of_mem _ hz)
    grind
theorem take_le {l : List Rat} (h : ∀ q ∈ l, 0 ≤ q) (k : Nat) : qsum (l.take k) ≤ qsum l := by
  have e : qsum l = qsum (l.take k) + qsum (l.drop k) := by rw [← qsum_append, List.take_append_drop]
  have := sum_nn (l := l.drop k) fun q hq => h q (List.mem_of_mem_drop hq)
  grind
theorem some_pos : ∀ {l : List Rat}, (∀ q ∈ l, 0 ≤ q) → 0 < qsum l → ∃ k, k < l.length ∧ 0 < l.getD k 0
  | [], _, h => by simp [qsum] at h
  | q :: l, hn, h => by
    by_cases hq : 0 < q
    · exact ⟨0, by simp, hq⟩
    · rw [qsum_cons] at h
      have := hn q (by simp)
      obtain ⟨k, hk, p⟩ := some_pos (l := l) (fun z hz => hn z (List.mem_cons_of_mem _ hz)) (by grind)
      exact ⟨k + 1, by simpa using hk, by simpa using p⟩
end Dh
namespace WW
open PySem PySem.Spec L2 PySem.W Dh
section
theorem w_die {x : PyData} {l : List Rat} {n m : Nat} {s : Sto} (hx : IsRow x l) (o : OddsC n l) (hn : n ≤ 9) (v : Vu (m + 5) s) : WF f_law_die [.s, .d x] s fun r s' => ∃ q : Rat, r = .d (pQ q) ∧ 0 ≤ q ∧ q < 1 ∧ QLt 300 q ∧ Vu m s' := by
  have gp9 : gPow 10 9 = some (.int 1000000000) := by
    show (if _ then _ else _) = _
    rw [if_pos (by decide)]
    rfl
  have gp6 : gPow 10 6 = some (.int 1000000) := by
    show (if _ then _ else _) = _
    rw [if_pos (by decide)]
    rfl
  have gp30 : gPow 10 30 = some (.int 1000000000000000000000000000000) := by
    show (if _ then _ else _) = _
    rw [if_pos (by decide)]
    rfl
  have hl := o.1.len
  have l0 : ∀ q ∈ l, 0 ≤ q := fun q hq => (o.1.each q hq).1
  have lq : ∀ q ∈ l, QLt 10 q := fun q hq => (o.1.each q hq).2
  have one := o.1.one
  obtain ⟨k0, hk0, kp⟩ := some_pos l0 (by rw [one]; decide)
  have r1 : range1 [.d (.int (l.length : Int))] = some ((List.range l.length).map fun i => PyData.int (i : Nat)) := range1_nat (by omega)
  have hx' := hx
  have st := fun k (hk : k < l.length) s => e_lstretch (s := s) hx lq (by omega) hk
  rcases hx with rfl | rfl
  all_goals
    refine WF.body rfl ?_
    simp [m_law_die, List.replicate_succ, r1]
    refine WLc_opt (fun i : Nat => PyData.int i) (fun k => if (decide (0 < l.getD k 0)) = true then some (iN k) else none) (List.range l.length) (fun k hk => ?_) ?_
    · have ek : atI (l.map pQ) (k : Int) = some (pQ (l.getD k 0)) := atI_getD (List.mem_range.mp hk)
      simp [ek, ix_num, -List.getD_eq_getElem?_getD]
      by_cases h : 0 < l.getD k 0
      · simp [h, num_pos_iff.mpr h, iN, -List.getD_eq_getElem?_getD]
      · have : ¬ 0 < (l.getD k 0).num := fun z => h (num_pos_iff.mp z)
        simp [h, this, -List.getD_eq_getElem?_getD]
    rw [fm_iN]
    have pl : ((List.range l.length).filter fun k => decide (0 < l.getD k 0)).length ≤ 9 := Nat.le_trans (List.length_filter_le _ _) (by rw [List.length_range]; omega)
    have pne : 0 < ((List.range l.length).filter fun k => decide (0 < l.getD k 0)).length := List.length_pos_iff_exists_mem.mpr ⟨k0, List.mem_filter.mpr ⟨List.mem_range.mpr hk0, by simpa using kp⟩⟩
    have pm : ∀ k ∈ (List.range l.length).filter fun k => decide (0 < l.getD k 0), k < l.length ∧ 0 < l.getD k 0 := fun k hk => by
      obtain ⟨a, b⟩ := List.mem_filter.mp hk
      exact ⟨List.mem_range.mp a, by simpa using b⟩
    generalize ((List.range l.length).filter fun k => decide (0 < l.getD k 0)) = ps at *
    refine ⟨szle (by rw [List.length_map]; omega), ?_⟩
    simp [frzs, frz1]
    refine WF.use (w_pickL (m := m + 4) v.mono (by rw [List.length_map]; exact pne) (by rw [List.length_map]; omega)) ?_
    rintro _ s1 ⟨y, hy, rfl, v1⟩
    obtain ⟨k, hk, rfl⟩ := List.mem_map.mp hy
    obtain ⟨hkl, kpos⟩ := pm k hk
    simp
    refine WF.use (w_draw (l := 6) (m := m + 3) v1.mono (by decide) (by decide)) ?_
    rintro _ s2 ⟨t, rfl, t0, t1, v2⟩
    simp [iN]
    refine WF.of (st k hkl _) ?_
    simp [fEq_int]
    by_cases ht : t = 0
    · simp [ht, sz2, gp9]
      refine WF.use (w_draw (l := 1000000000) (m := m + 2) v2.mono (by decide) (by decide)) ?_
      rintro _ s3 ⟨d, rfl, dn0, d1, v3⟩
      simp [gp9]
      refine WF.of (e_cut (by decide) (by decide +kernel)) ?_
      simp [szle (show 5 ≤ 1000 by decide)]
      refine WF.use (w_pickL (m := m + 1) v3.mono (by simp) (by simp)) ?_
      rintro _ s4 ⟨y, hy, rfl, v4⟩
      simp only [List.mem_cons, List.not_mem_nil, or_false] at hy
      have : ∃ q : Rat, y = pQ q ∧ 0 ≤ q ∧ q < 1 ∧ QLt 300 q := by
        rcases hy with rfl | rfl | rfl | rfl | rfl
        · exact ⟨⟨0, 1, by decide, by decide⟩, rfl, by decide, by decide, by decide +kernel, by decide +kernel⟩
        · exact ⟨⟨1, 2, by decide, by decide⟩, rfl, by decide, by decide, by decide +kernel, by decide +kernel⟩
        · exact ⟨⟨2, 3, by decide, by decide⟩, rfl, by decide, by decide, by decide +kernel, by decide +kernel⟩
        · exact ⟨⟨999999, 1000000, by decide, by decide +kernel⟩, rfl, by decide +kernel, by decide +kernel, by decide +kernel, by decide +kernel⟩
        · obtain ⟨e, rfl⟩ := Int.eq_ofNat_of_zero_le dn0
          refine ⟨Rat.divInt (e : Nat) 1000000000, rfl, ?_, ?_, ?_⟩
          · rw [Rat.divInt_eq_div, ← Rat.not_lt, Rat.div_lt_iff (by decide +kernel), Rat.zero_mul, Rat.not_lt]
            exact Rat.intCast_nonneg.mpr (by omega)
          · rw [Rat.divInt_eq_div, Rat.div_lt_iff (by decide +kernel), Rat.one_mul]
            exact Rat.intCast_lt_intCast.mpr (by omega)
          · have h40 : (2 : Nat) ^ 40 = 1099511627776 := by decide
            exact (QLt_divInt (k := 40) (by decide) (by rw [h40]; omega) (by rw [h40]; decide)).mono (by omega)
      obtain ⟨q, rfl, q0, q1, qb⟩ := this
      simp
      exact ⟨q, rfl, q0, q1, qb, v4.mono⟩
    · simp [ht, sz2, gp6, gp30, szle (show 6 ≤ 1000 by decide)]
      refine WF.use (w_pickL (m := m) v2.mono (by decide) (by decide)) ?_
      rintro _ s4 ⟨y, hy, rfl, v4⟩
      simp only [List.mem_cons, List.not_mem_nil, or_false] at hy
      have : ∃ q : Rat, y = pQ q ∧ 0 ≤ q ∧ q < 1 ∧ QLt 101 q := by
        rcases hy with rfl | rfl | rfl | rfl | rfl | rfl
        · exact ⟨⟨0, 1, by decide, by decide⟩, rfl, by decide, by decide, by decide +kernel, by decide +kernel⟩
        · exact ⟨⟨0, 1, by decide, by decide⟩, rfl, by decide, by decide, by decide +kernel, by decide +kernel⟩
        · exact ⟨⟨1, 2, by decide, by decide⟩, rfl, by decide, by decide, by decide +kernel, by decide +kernel⟩
        · exact ⟨⟨1, 3, by decide, by decide⟩, rfl, by decide, by decide, by decide +kernel, by decide +kernel⟩
        · exact ⟨⟨1000000, 1000001, by decide, by decide +kernel⟩, rfl, by decide +kernel, by decide +kernel, by decide +kernel, by decide +kernel⟩
        · exact ⟨⟨999999999999999999999999999999, 1000000000000000000000000000000, by decide, by decide +kernel⟩, rfl, by decide +kernel, by decide +kernel, by decide +kernel, by decide +kernel⟩
      obtain ⟨q, rfl, q0, q1, qb⟩ := this
      have ek : atI (l.map pQ) (k : Int) = some (pQ (l.getD k 0)) := atI_getD hkl
      have lk := lq _ (getD_mem (d := 0) hkl)
      have eq : l[k]? = some (l.getD k 0) := by rw [List.getD_eq_getElem?_getD, List.getElem?_eq_getElem hkl]; rfl
      have e1 : qsum (l.take (k + 1)) = qsum (l.take k) + l.getD k 0 := by rw [take_snoc eq, qsum_snoc]
      have t1 := take_le l0 (k + 1)
      have t2 := sum_nn (l := l.take k) fun q hq => l0 q (List.mem_of_mem_take hq)
      have hs := qsum_take_lt (i := k) lq
      rw [one] at t1
      have p0 : 0 ≤ l.getD k 0 * q := Rat.mul_nonneg (Rat.le_of_lt kpos) q0
      have p1 : l.getD k 0 * q < l.getD k 0 := by
        have := Rat.mul_lt_mul_of_pos_left q1 kpos
        rwa [Rat.mul_one] at this
      generalize l.getD k 0 = z at *
      generalize qsum (l.take k) = T at *
      simp [ek]
      refine WF.of (e_ltimes lk.bd qb.bd) ?_
      simp
      refine WF.of (e_lplus (hs.bd (by omega)) (QLt_mul lk qb).bd) ?_
      simp
      refine ⟨T + z * q, rfl, by grind, by grind, ?_, v4.mono⟩
      exact (QLt_add hs (QLt_mul lk qb)).mono (by omega)
end
end WW
namespace Dh
open PySem PySem.Spec L2 PySem.W
def deedAt (h : RHouse) (st a : Nat) : RDeed := (stD h st).getD a d0
def stepA (H : Hero) (st : Nat) (μ : NT) (d : Rat) : Nat := pickI (lodds H st μ) d
def stepG (h : RHouse) (st a : Nat) (d : Rat) : Nat := ((deedAt h st a).ch.map (·.1)).getD (pickI ((deedAt h st a).ch.map (·.2)) d) 0
def roadF (h : RHouse) (H : Hero) : List (Rat × Rat) → Nat → NT → List (Nat × Nat × Nat)
  | [], _, _ => []
  | d :: ds, st, μ => (st, stepA H st μ d.1, stepG h st (stepA H st μ d.1) d.2) :: roadF h H ds (stepG h st (stepA H st μ d.1) d.2) (lnext H st μ (stepA H st μ d.1) (stepG h st (stepA H st μ d.1) d.2))
def pTri (t : Nat × Nat × Nat) : PyData := .tuple [.int (t.1 : Nat), .int (t.2.1 : Nat), .int (t.2.2 : Nat)]
def flat : List (Rat × Rat) → List Rat
  | [] => []
  | d :: ds => d.1 :: d.2 :: flat ds
theorem flat_len : ∀ ds : List (Rat × Rat), (flat ds).length = 2 * ds.length
  | [] => rfl
  | d :: ds => by
    rw [flat, List.length_cons, List.length_cons, flat_len ds, List.length_cons]
    omega
theorem flat_at : ∀ {ds : List (Rat × Rat)} {i : Nat} {d : Rat × Rat}, ds[i]? = some d → (flat ds)[2 * i]? = some d.1 ∧ (flat ds)[2 * i + 1]? = some d.2
  | [], i, d, h => by simp at h
  | c :: ds, 0, d, h => by
    simp at h
    subst h
    exact ⟨rfl, rfl⟩
  | c :: ds, i + 1, d, h => by
    have ih := flat_at (ds := ds) (i := i) (d := d) (by simpa using h)
    rw [flat, show 2 * (i + 1) = 2 * i + 1 + 1 by omega]
    simpa using ih
theorem flat_snoc : ∀ {ds : List (Rat × Rat)} {d : Rat × Rat}, flat (ds ++ [d]) = flat ds ++ [d.1, d.2]
  | [], _ => rfl
  | c :: ds, d => by rw [List.cons_append, flat, flat, flat_snoc]; rfl
theorem flat_mem : ∀ {ds : List (Rat × Rat)} {q : Rat}, q ∈ flat ds → ∃ d ∈ ds, q = d.1 ∨ q = d.2
  | [], _, h => by simp [flat] at h
  | c :: ds, q, h => by
    rw [flat, List.mem_cons, List.mem_cons] at h
    rcases h with rfl | rfl | h
    · exact ⟨c, by simp, .inl rfl⟩
    · exact ⟨c, by simp, .inr rfl⟩
    · obtain ⟨d, hd, e⟩ := flat_mem h
      exact ⟨d, List.mem_cons_of_mem _ hd, e⟩
/-- a die -/
def Die (q : Rat) : Prop := 0 ≤ q ∧ q < 1 ∧ QLt 300 q
/-- where one stands, with what decides -/
structure GS (h : RHouse) (H : Hero) (st : Nat) (μ : NT) : Prop where
  hs : st < h.stands.length
  nt : NtOk H μ
  at' : AtN μ st
  len : ∀ p, μ = .l p → p.length ≤ 10
end Dh
namespace WW
open PySem PySem.Spec L2 PySem.W Dh
section
variable {h : RHouse} {H : Hero} {st : Nat} {μ : NT}
theorem odds_ne {n : Nat} {l : List Rat} (o : OddsC n l) : 1 ≤ l.length := by
  cases l with
  | nil =>
    have := o.1.one
    exact absurd this (by decide)
  | cons q l => simp
theorem GS.first (ho : HeroOk h H) (hs : st < h.stands.length) : GS h H st (lfirst H st) := ⟨hs, ⟨_, Rl.first ho⟩, AtN.first, fun p e => by
  cases H with
  | told es x => cases e; simp
  | _ => cases e⟩
theorem GS.odds (ho : HeroOk h H) (g : GS h H st μ) : OddsC (stD h st).length (lodds H st μ) := lodds_ok ho g.nt g.hs (AtN.me ho g.at')
theorem GS.act (ok : HouseOk 3 3 3 h 8) (ho : HeroOk h H) (g : GS h H st μ) (d : Rat) : stepA H st μ d < (stD h st).length := by
  have o := GS.odds ho g
  have := pickI_lt (d := d) (odds_ne o)
  unfold stepA
  have hl := o.1.len
  omega
theorem GS.next (ho : HeroOk h H) (g : GS h H st μ) {a k : Nat} (ha : a < (stD h st).length) (hk : k < h.stands.length) : GS h H k (lnext H st μ a k) := by
  obtain ⟨κ, r⟩ := g.nt
  refine ⟨hk, ⟨_, r.next ho g.hs ha⟩, AtN.next, fun p e => ?_⟩
  unfold lnext at e
  split at e
  · cases e
  · rename_i es x p' _
    split at e
    · rename_i hc
      cases e
      have hb := hc.2
      unfold begs at hb
      obtain ⟨en, hen, he⟩ := List.any_eq_true.mp hb
      have he := of_decide_eq_true he
      obtain ⟨kk, hkk, h4⟩ := (ho.1.mem en hen).1.len
      have hl := congrArg List.length he
      rw [List.length_take] at hl
      omega
    · cases e; simp
  · cases e
theorem deed_in (ok : HouseOk 3 3 3 h 8) {a : Nat} (hs : st < h.stands.length) (ha : a < (stD h st).length) : DeedOk h.stands.length h.pays (deedAt h st a) 8 := (stand_in ok hs).2.2 _ (getD_mem ha)
theorem deed_odds (ok : HouseOk 3 3 3 h 8) (sm : ∀ st ∈ h.stands, ∀ d ∈ st, DSm d) {a : Nat} (hs : st < h.stands.length) (ha : a < (stD h st).length) : OddsC (deedAt h st a).ch.length ((deedAt h st a).ch.map (·.2)) ∧ (deedAt h st a).ch.length ≤ 3 := by
  have nN := ok.nN
  have dk := deed_in ok hs ha
  obtain ⟨S, h0, h5, hS⟩ := sm _ (getD_mem hs) _ (getD_mem (d := d0) ha)
  have cdS : ∀ q ∈ (deedAt h st a).ch.map (·.2), CD S S q := fun q hq => by
    obtain ⟨c, hc, rfl⟩ := List.mem_map.mp hq
    exact hS c hc
  refine ⟨⟨⟨by rw [List.length_map], fun q hq => ?_, dk.ch.one, S, h0, Nat.lt_of_lt_of_le h5 (by decide), cdS⟩, S, h0, h5, cdS⟩, ?_⟩
  · obtain ⟨c, hc, rfl⟩ := List.mem_map.mp hq
    have := dk.ch.each c hc
    exact ⟨Rat.le_of_lt this.2.1, this.2.2⟩
  · have := asc_len 0 dk.ch.asc fun c hc => ⟨Nat.zero_le _, (dk.ch.each c hc).1⟩
    omega
theorem goal_in (ok : HouseOk 3 3 3 h 8) (sm : ∀ st ∈ h.stands, ∀ d ∈ st, DSm d) {a : Nat} (hs : st < h.stands.length) (ha : a < (stD h st).length) (d : Rat) : pickI ((deedAt h st a).ch.map (·.2)) d < (deedAt h st a).ch.length ∧ stepG h st a d < h.stands.length ∧ stepG h st a d ∈ goalsD h st a := by
  obtain ⟨o, _⟩ := deed_odds ok sm hs ha
  have p := pickI_lt (d := d) (odds_ne o)
  rw [List.length_map] at p
  have dk := deed_in ok hs ha
  have m : stepG h st a d ∈ (deedAt h st a).ch.map (·.1) := getD_mem (by rw [List.length_map]; exact p)
  refine ⟨p, ?_, m⟩
  obtain ⟨c, hc, e⟩ := List.mem_map.mp m
  rw [← e]
  exact (dk.ch.each c hc).1
end
end WW
namespace Dh
open PySem PySem.Spec L2 PySem.W
theorem range3_even {n : Int} {k : Nat} (hn : n = 2 * (k : Int)) (hk : k ≤ 400) : range3 [.d (.int 1), .d (.int n), .d (.int 2)] = some ((List.range k).map fun i => PyData.int (1 + (i : Nat) * 2)) := by
  subst hn
  have e : Builtin.Range.rangeSize 1 (2 * (k : Int)) 2 = (k : Int) := by
    unfold Builtin.Range.rangeSize
    simp
    by_cases h : (1 : Int) < 2 * (k : Int)
    · rw [if_pos h]; omega
    · rw [if_neg h]; omega
  have sm : Builtin.Range.small 1 (2 * (k : Int)) 2 = true := by
    unfold Builtin.Range.small
    simp [e, Builtin.Range.rangeFitsLong]
    omega
  unfold range3
  dsimp only
  rw [e, if_pos ⟨by decide, by decide, sm, by simp⟩]
  simp
theorem fAdd_bf {xs ys : List PyData} : fAdd (.b xs) (.f ys) = if xs.length + ys.length ≤ sizeLine then some (.f (xs ++ ys)) else none := rfl
def toss (q : Rat) (ds : List (Rat × Rat)) : List Rat := q :: flat ds
theorem toss_len {q : Rat} {ds : List (Rat × Rat)} : (toss q ds).length = 2 * ds.length + 1 := by
  unfold toss
  rw [List.length_cons, flat_len]
theorem toss_at {q : Rat} {ds : List (Rat × Rat)} {i : Nat} {d : Rat × Rat} (h : ds[i]? = some d) : atI ((toss q ds).map pQ) (1 + (i : Int) * 2) = some (pQ d.1) ∧ atI ((toss q ds).map pQ) (1 + (i : Int) * 2 + 1) = some (pQ d.2) := by
  have hi := lt_of h
  obtain ⟨f1, f2⟩ := flat_at h
  have tl := toss_len (q := q) (ds := ds)
  constructor
  · rw [show 1 + (i : Int) * 2 = ((2 * i + 1 : Nat) : Int) by omega, atI_ofNat (by rw [List.length_map]; omega), List.getElem?_map]
    unfold toss
    rw [List.getElem?_cons_succ, f1]; rfl
  · rw [show 1 + (i : Int) * 2 + 1 = ((2 * i + 1 + 1 : Nat) : Int) by omega, atI_ofNat (by rw [List.length_map]; omega), List.getElem?_map]
    unfold toss
    rw [List.getElem?_cons_succ, f2]; rfl
end Dh
namespace WW
open PySem PySem.Spec L2 PySem.W Dh
section
variable {h : RHouse} {H : Hero} {s : Sto}
theorem rowT {l : List Rat} : IsRow (pQs l) l := .inl rfl
theorem rowL {l : List Rat} : IsRow (.list (l.map pQ)) l := .inr rfl
theorem oq {n : Nat} {l : List Rat} (o : OddsC n l) : ∀ q ∈ l, QLt 10 q := fun q hq => (o.1.each q hq).2
theorem w_thrown {st : List Rat} {k m : Nat} (ok : HouseOk 3 3 3 h 8) (sm : ∀ st ∈ h.stands, ∀ d ∈ st, DSm d) (ho : HeroOk h H) (o : OddsC h.stands.length st) (hk : k ≤ 60) (v : Vu (m + 700) s) :
    WF f_law_thrown [.s, .d (pHouse h), .d (pHero H), .d (pQs st), .d (.int (k : Nat))] s fun r s' => ∃ q ds, r = .d (pQs (toss q ds)) ∧ ds.length = k ∧ Die q ∧ (∀ d ∈ ds, Die d.1 ∧ Die d.2) ∧ Vu m s' := by
  have nN := ok.nN
  have r1 : range1 [.d (.int (k : Int))] = some ((List.range k).map fun i => PyData.int (i : Nat)) := range1_nat (by omega)
  have sl := o.1.len
  refine WF.body rfl ?_
  simp [m_law_thrown, List.replicate_succ]
  refine WF.use (w_die (m := m + 695) rowT o (by omega) v.mono) ?_
  rintro _ s1 ⟨q, rfl, q0, q1, qb, v1⟩
  simp [sz1]
  refine WF.of (e_lpicked rowT (oq o) (by omega) (odds_ne o) (qb.mono (by omega))) ?_
  simp
  refine WF.of e_lfirst_note ?_
  have p0 := pickI_lt (d := q) (odds_ne o)
  rw [sl] at p0
  have g0 := GS.first (H := H) ho p0
  generalize pickI st q = S0 at *
  simp [r1]
  refine WFor_inv (fun i : Nat => PyData.int i) (List.range k) (fun i ρ s' => ∃ (ds : List (Rat × Rat)) (S : Nat) (μ : NT) (c7 c8 c9 c10 c11 c12 c13 c14 : Option Cl), ρ = [some .s, some (.d (pHouse h)), some (.d (pHero H)), some (.d (pQs st)), some (.d (.int (k : Nat))), some (.o ((toss q ds).map pQ)), some (.d (pNote S μ)), c7, c8, c9, c10, c11, c12, c13, c14] ∧ ds.length = i ∧ (∀ d ∈ ds, Die d.1 ∧ Die d.2) ∧ GS h H S μ ∧ Vu (m + 11 * (k - i)) s') ⟨[], S0, _, none, none, none, none, none, none, none, none, rfl, rfl, by simp, g0, v1.mono⟩ ?_ ?_
  · rintro i x ρ s' hx ⟨ds, S, μ, c7, c8, c9, c10, c11, c12, c13, c14, rfl, dl, dq, g, v⟩
    obtain ⟨rfl, hi⟩ := range_at hx
    have oo := GS.odds ho g
    have ol := oo.1.len
    have t3 := (stand_in ok g.hs).2.1
    simp
    refine WF.of (e_lnote_odds ho g.nt g.hs) ?_
    simp
    refine WF.use (w_die (m := m + 11 * (k - (x + 1)) + 5) rowT oo (by omega) v.mono) ?_
    rintro _ s2 ⟨d1, rfl, a0, a1, ab, v2⟩
    simp
    refine WF.of (e_lpicked rowT (oq oo) (by omega) (odds_ne oo) (ab.mono (by omega))) ?_
    have ha := GS.act ok ho g d1
    unfold stepA at ha
    generalize pickI (lodds H S μ) d1 = A at *
    have es : atI (h.stands.map pStand) (S : Int) = some (pStand (stD h S)) := atI_getD g.hs
    have ed : atI ((stD h S).map pDeed) (A : Int) = some (pDeed (deedAt h S A)) := atI_getD ha
    obtain ⟨co, cl⟩ := deed_odds ok sm g.hs ha
    have gi := goal_in ok sm g.hs ha
    have epn : pNote S μ = .tuple [.int (S : Nat), pNT μ] := rfl
    simp [pHouse, epn, es, pStand, ed, pDeed]
    refine WLc_map pCh (fun c => pQ c.2) (deedAt h S A).ch (fun c hc => ?_) ?_
    · simp [pCh]
    refine ⟨szle (by rw [List.length_map]; omega), ?_⟩
    have em : (deedAt h S A).ch.map (fun c => pQ c.2) = ((deedAt h S A).ch.map (·.2)).map pQ := by rw [List.map_map]; rfl
    have hcl : ((deedAt h S A).ch.map (·.2)).length ≤ 3 := by rw [List.length_map]; exact cl
    rw [em]
    generalize hcs : (deedAt h S A).ch.map (·.2) = cs at *
    simp [frzs, frz1]
    refine WF.use (w_die (m := m + 11 * (k - (x + 1))) rowL co (by omega) v2.mono) ?_
    rintro _ s3 ⟨d2, rfl, b0, b1, bb, v3⟩
    obtain ⟨p1, p2, p3⟩ := gi d2
    have eg : atI ((deedAt h S A).ch.map pCh) ((pickI cs d2 : Nat) : Int) = some (pCh ((deedAt h S A).ch.getD (pickI cs d2) (0, 0))) := atI_getD (by rw [← hcs] ; exact (by rw [hcs]; exact p1))
    have egs : stepG h S A d2 = ((deedAt h S A).ch.getD (pickI cs d2) (0, 0)).1 := by
      unfold stepG
      rw [hcs, List.getD_eq_getElem?_getD, List.getElem?_map, List.getD_eq_getElem?_getD, List.getElem?_eq_getElem p1]; rfl
    have tl : ((toss q ds).map pQ).length = 2 * ds.length + 1 := by rw [List.length_map, toss_len]
    have tadd : (toss q ds).map pQ ++ [pQ d1, pQ d2] = (toss q (ds ++ [(d1, d2)])).map pQ := by
      unfold toss
      rw [flat_snoc, List.map_cons, List.map_cons, List.map_append]
      rfl
    have gn := GS.next ho g ha p2
    generalize (toss q ds).map pQ = T at *
    simp [sz2, tl, fAdd_bf, szle (show 2 * ds.length + 1 + 2 ≤ 1000 by omega), frzs, frz1]
    refine WF.of (e_lpicked rowL (oq co) (by omega) (odds_ne co) (bb.mono (by omega))) ?_
    simp [eg, pCh, -List.getD_eq_getElem?_getD]
    rw [← egs]
    have nx := e_lnext_note (s := s3) (g := stepG h S A d2) ho g.nt g.hs ha (fun p e => Nat.le_trans (g.len p e) (by decide))
    rw [epn] at nx
    refine WF.of nx ?_
    simp
    refine ⟨ds ++ [(d1, d2)], stepG h S A d2, lnext H S μ A (stepG h S A d2), ⟨tadd, rfl⟩, by simp [dl], fun a b hd => ?_, gn, v3⟩
    rcases List.mem_append.mp hd with hd | hd
    · exact dq _ hd
    · cases List.mem_singleton.mp hd
      exact ⟨⟨a0, a1, ab⟩, b0, b1, bb⟩
  · rintro ρ s' ⟨ds, S, μ, c7, c8, c9, c10, c11, c12, c13, c14, rfl, dl, dq, g, v⟩
    rw [List.length_range] at dl
    simp
    exact ⟨q, ds, rfl, dl, ⟨q0, q1, qb⟩, fun a b hd => dq _ hd, v.mono⟩
theorem e_followed {st : List Rat} {q : Rat} {ds : List (Rat × Rat)} (ok : HouseOk 3 3 3 h 8) (sm : ∀ st ∈ h.stands, ∀ d ∈ st, DSm d) (ho : HeroOk h H) (o : OddsC h.stands.length st) (hk : ds.length ≤ 60) (hq : Die q) (hd : ∀ d ∈ ds, Die d.1 ∧ Die d.2) :
    f_law_followed [.d (pHouse h), .d (pHero H), .d (pQs st), .d (pQs (toss q ds))] s = some (.d (.tuple ((roadF h H ds (pickI st q) (lfirst H (pickI st q))).map pTri)), s) := by
  have nN := ok.nN
  have sl := o.1.len
  have tl : ((toss q ds).map pQ).length = 2 * ds.length + 1 := by rw [List.length_map, toss_len]
  have r3 : range3 [.d (.int 1), .d (.int (((2 * ds.length + 1 : Nat) : Int) - 1)), .d (.int 2)] = some ((List.range ds.length).map fun i => PyData.int (1 + (i : Nat) * 2)) := range3_even (by omega) (by omega)
  have a0 : atI ((toss q ds).map pQ) 0 = some (pQ q) := by
    have := atI_getD (f := pQ) (l := toss q ds) (d := 0) (i := 0) (by rw [toss_len]; omega)
    exact this
  have p0 := pickI_lt (d := q) (odds_ne o)
  rw [sl] at p0
  refine WF.eq (WF.body rfl ?_)
  simp [m_law_followed, List.replicate_succ, pQs, a0]
  refine WF.of (e_lpicked rowT (oq o) (by omega) (odds_ne o) (hq.2.2.mono (by omega))) ?_
  simp
  refine WF.of e_lfirst_note ?_
  have g0 := GS.first (H := H) ho p0
  generalize pickI st q = S0 at *
  have tat := fun i d (e : ds[i]? = some d) => toss_at (q := q) e
  have tlen : (toss q ds).length = 2 * ds.length + 1 := toss_len
  generalize hT : toss q ds = T at *
  rw [← tlen] at r3
  simp [r3]
  refine WFor_inv (fun i : Nat => PyData.int (1 + (i : Int) * 2)) (List.range ds.length) (fun i ρ s' => s' = s ∧ ∃ (acc : List (Nat × Nat × Nat)) (S : Nat) (μ : NT) (c6 c7 c8 c9 c10 : Option Cl), ρ = [some (.d (pHouse h)), some (.d (pHero H)), some (.d (pQs st)), some (.d (.tuple (T.map pQ))), some (.d (pNote S μ)), some (.o (acc.map pTri)), c6, c7, c8, c9, c10] ∧ acc.length = i ∧ GS h H S μ ∧ acc ++ roadF h H (ds.drop i) S μ = roadF h H ds S0 (lfirst H S0)) ⟨rfl, [], S0, _, none, none, none, none, none, rfl, rfl, g0, rfl⟩ ?_ ?_
  · rintro i x ρ s' hx ⟨rfl, acc, S, μ, c6, c7, c8, c9, c10, rfl, al, g, eq⟩
    obtain ⟨rfl, hi⟩ := range_at hx
    have ed := List.getElem?_eq_getElem hi
    obtain ⟨t1, t2⟩ := tat x _ ed
    have dm := hd _ (List.getElem_mem hi)
    rw [List.drop_eq_getElem_cons hi] at eq
    generalize ds[x] = D at *
    have oo := GS.odds ho g
    have ol := oo.1.len
    have t3 := (stand_in ok g.hs).2.1
    have epn : pNote S μ = .tuple [.int (S : Nat), pNT μ] := rfl
    simp
    refine WF.of (e_lnote_odds ho g.nt g.hs) ?_
    simp [t1]
    refine WF.of (e_lpicked rowT (oq oo) (by omega) (odds_ne oo) (dm.1.2.2.mono (by omega))) ?_
    have ha := GS.act ok ho g D.1
    rw [roadF] at eq
    have eA : stepA H S μ D.1 = pickI (lodds H S μ) D.1 := rfl
    rw [← eA]
    generalize stepA H S μ D.1 = A at *
    have es : atI (h.stands.map pStand) (S : Int) = some (pStand (stD h S)) := atI_getD g.hs
    have edd : atI ((stD h S).map pDeed) (A : Int) = some (pDeed (deedAt h S A)) := atI_getD ha
    obtain ⟨co, cl⟩ := deed_odds ok sm g.hs ha
    obtain ⟨p1, p2, p3⟩ := goal_in ok sm g.hs ha D.2
    simp [pHouse, epn, es, pStand, edd, pDeed]
    refine WLc_map pCh (fun c => pQ c.2) (deedAt h S A).ch (fun c hc => ?_) ?_
    · simp [pCh]
    refine ⟨szle (by rw [List.length_map]; omega), ?_⟩
    have em : (deedAt h S A).ch.map (fun c => pQ c.2) = ((deedAt h S A).ch.map (·.2)).map pQ := by rw [List.map_map]; rfl
    have hcl : ((deedAt h S A).ch.map (·.2)).length ≤ 3 := by rw [List.length_map]; exact cl
    rw [em]
    have egs : stepG h S A D.2 = ((deedAt h S A).ch.getD (pickI ((deedAt h S A).ch.map (·.2)) D.2) (0, 0)).1 := by
      unfold stepG
      rw [List.getD_eq_getElem?_getD, List.getElem?_map, List.getD_eq_getElem?_getD, List.getElem?_eq_getElem p1]; rfl
    have eg : atI ((deedAt h S A).ch.map pCh) ((pickI ((deedAt h S A).ch.map (·.2)) D.2 : Nat) : Int) = some (pCh ((deedAt h S A).ch.getD (pickI ((deedAt h S A).ch.map (·.2)) D.2) (0, 0))) := atI_getD p1
    generalize (deedAt h S A).ch.map (·.2) = cs at *
    simp [t2]
    refine WF.of (e_lpicked rowL (oq co) (by omega) (odds_ne co) (dm.2.2.2.mono (by omega))) ?_
    have gn := GS.next ho g ha p2
    simp [eg, pCh, -List.getD_eq_getElem?_getD]
    rw [← egs]
    simp [szle (show 3 ≤ 1000 by decide), al, szlt (show x ≤ 1000 by omega)]
    have nx := e_lnext_note (s := s') (g := stepG h S A D.2) ho g.nt g.hs ha (fun p e => Nat.le_trans (g.len p e) (by decide))
    rw [epn] at nx
    refine WF.of nx ?_
    simp
    exact ⟨acc ++ [(S, A, stepG h S A D.2)], stepG h S A D.2, lnext H S μ A (stepG h S A D.2), ⟨rfl, by simp [pTri]⟩, by simp [al], gn, by rw [← eq]; simp⟩
  · rintro ρ s' ⟨rfl, acc, S, μ, c6, c7, c8, c9, c10, rfl, al, g, eq⟩
    rw [List.length_range, List.drop_length] at eq
    simp [roadF] at eq
    simp [eq]
end
end WW
namespace WW
open PySem PySem.Spec L2 PySem.W Dh
section
variable {h : RHouse} {H : Hero} {s : Sto}
theorem e_is_die {q : Rat} (d : Die q) : f_is_die [.d (pQ q)] s = some (.d (.bool true), s) := by
  have n0 := Rat.num_nonneg.mpr d.1
  have lt : q.num < (q.den : Int) := by
    have := d.2.1
    rw [Rat.lt_iff] at this
    simpa using this
  refine WF.eq (WF.body rfl ?_)
  simp [m_is_die]
  refine WF.of e_is_ratio ?_
  simp [pQ, n0, lt]
theorem e_check_dice {q : Rat} {ds : List (Rat × Rat)} (hk : ds.length ≤ 60) (hq : Die q) (hd : ∀ d ∈ ds, Die d.1 ∧ Die d.2) : f_check_dice [.d (pQs (toss q ds))] s = some (.d .none, s) := by
  have tl : (toss q ds).length = 2 * ds.length + 1 := toss_len
  have em : gMod (((toss q ds).length : Nat) : Int) 2 = some (.int 1) := by
    rw [gMod_pos (by decide), tl]
    congr 2
    omega
  have all : ∀ z ∈ toss q ds, Die z := fun z hz => by
    unfold toss at hz
    rcases List.mem_cons.mp hz with rfl | hz
    · exact hq
    · obtain ⟨d, hdm, e⟩ := flat_mem hz
      rcases e with rfl | rfl
      · exact (hd d hdm).1
      · exact (hd d hdm).2
  generalize toss q ds = T at *
  refine WF.eq (WF.body rfl ?_)
  simp [m_check_dice, List.replicate_succ, fIsi, isA, isN, tyName, pQs, k_MOST_DICE, em, fEq_int, show ¬ (121 : Int) < (T.length : Int) by omega, numbered_map]
  refine WFor_inv (fun p : Rat × Nat => PyData.tuple [.int (p.2 : Nat), pQ p.1]) T.zipIdx (fun i ρ s' => s' = s ∧ ∃ c d, ρ = [some (.d (.tuple (T.map pQ))), c, d]) ⟨rfl, _, _, rfl⟩ ?_ ?_
  · rintro i p ρ s' hp ⟨rfl, c, d, rfl⟩
    have hm := List.fst_mem_of_mem_zipIdx (List.mem_of_getElem? hp)
    simp
    exact WF.of (e_is_die (all _ hm)) (by simp)
  · rintro ρ s' ⟨rfl, c, d, rfl⟩
    simp
theorem e_run_by {st : List Rat} {q : Rat} {ds : List (Rat × Rat)} (ok : HouseOk 3 3 3 h 8) (sm : ∀ st ∈ h.stands, ∀ d ∈ st, DSm d) (ho : HeroOk h H) (o : OddsC h.stands.length st) (hk : ds.length ≤ 60) (hq : Die q) (hd : ∀ d ∈ ds, Die d.1 ∧ Die d.2) :
    f_run_by [.d (pHouse h), .d (pQs st), .d (pHero H), .d (pQs (toss q ds))] s = some (.d (.tuple ((roadF h H ds (pickI st q) (lfirst H (pickI st q))).map pTri)), s) := by
  have nN := ok.nN
  have sl := o.1.len
  have tl : ((toss q ds).map pQ).length = 2 * ds.length + 1 := by rw [List.length_map, toss_len]
  have r3 : range3 [.d (.int 1), .d (.int ((2 * ds.length + 1 : Nat) : Int)), .d (.int 2)] = some ((List.range ds.length).map fun i => PyData.int (1 + (i : Nat) * 2)) := range3_odd rfl (by omega)
  have a0 : atI ((toss q ds).map pQ) 0 = some (pQ q) := by
    have := atI_getD (f := pQ) (l := toss q ds) (d := 0) (i := 0) (by rw [toss_len]; omega)
    exact this
  have p0 := pickI_lt (d := q) (odds_ne o)
  rw [sl] at p0
  refine WF.eq (WF.body rfl ?_)
  simp [m_run_by, List.replicate_succ, pQs, a0]
  refine WF.of (e_picked rowT (oq o) (by omega) (odds_ne o) (hq.2.2.mono (by omega))) ?_
  simp
  refine WF.of (e_first_kept ho) ?_
  have g0 := GS.first (H := H) ho p0
  have rl0 := Rl.first (st := pickI st q) ho
  generalize pickI st q = S0 at *
  have tat := fun i d (e : ds[i]? = some d) => toss_at (q := q) e
  have tlen : (toss q ds).length = 2 * ds.length + 1 := toss_len
  generalize hT : toss q ds = T at *
  rw [← tlen] at r3
  simp [r3]
  refine WFor_inv (fun i : Nat => PyData.int (1 + (i : Int) * 2)) (List.range ds.length) (fun i ρ s' => s' = s ∧ ∃ (acc : List (Nat × Nat × Nat)) (S : Nat) (μ : NT) (κ : KP) (c7 c8 c9 c10 c11 c12 : Option Cl), ρ = [some (.d (pHouse h)), some (.d (pQs st)), some (.d (pHero H)), some (.d (.tuple (T.map pQ))), some (.d (.int (S : Nat))), some (.d (pKP κ)), some (.o (acc.map pTri)), c7, c8, c9, c10, c11, c12] ∧ acc.length = i ∧ Rl H μ κ ∧ GS h H S μ ∧ acc ++ roadF h H (ds.drop i) S μ = roadF h H ds S0 (lfirst H S0)) ⟨rfl, [], S0, _, _, none, none, none, none, none, none, rfl, rfl, rl0, g0, rfl⟩ ?_ ?_
  · rintro i x ρ s' hx ⟨rfl, acc, S, μ, κ, c7, c8, c9, c10, c11, c12, rfl, al, rl, g, eq⟩
    obtain ⟨rfl, hi⟩ := range_at hx
    have ed := List.getElem?_eq_getElem hi
    obtain ⟨t1, t2⟩ := tat x _ ed
    have dm := hd _ (List.getElem_mem hi)
    rw [List.drop_eq_getElem_cons hi] at eq
    generalize ds[x] = D at *
    have oo := GS.odds ho g
    have ol := oo.1.len
    have t3 := (stand_in ok g.hs).2.1
    have eo := rl.odds (st := S) ho
    simp
    refine WF.of (e_odds_at ho rl g.hs) ?_
    rw [eo]
    simp [t1]
    refine WF.of (e_picked rowT (oq oo) (by omega) (odds_ne oo) (dm.1.2.2.mono (by omega))) ?_
    have ha := GS.act ok ho g D.1
    rw [roadF] at eq
    have eA : stepA H S μ D.1 = pickI (lodds H S μ) D.1 := rfl
    rw [← eA]
    generalize stepA H S μ D.1 = A at *
    have es : atI (h.stands.map pStand) (S : Int) = some (pStand (stD h S)) := atI_getD g.hs
    have edd : atI ((stD h S).map pDeed) (A : Int) = some (pDeed (deedAt h S A)) := atI_getD ha
    obtain ⟨co, cl⟩ := deed_odds ok sm g.hs ha
    obtain ⟨p1, p2, p3⟩ := goal_in ok sm g.hs ha D.2
    simp [pHouse, es, pStand, edd, pDeed]
    refine WLc_map pCh (fun c => pQ c.2) (deedAt h S A).ch (fun c hc => ?_) ?_
    · simp [pCh]
    refine ⟨szle (by rw [List.length_map]; omega), ?_⟩
    have em : (deedAt h S A).ch.map (fun c => pQ c.2) = ((deedAt h S A).ch.map (·.2)).map pQ := by rw [List.map_map]; rfl
    have hcl : ((deedAt h S A).ch.map (·.2)).length ≤ 3 := by rw [List.length_map]; exact cl
    rw [em]
    have egs : stepG h S A D.2 = ((deedAt h S A).ch.getD (pickI ((deedAt h S A).ch.map (·.2)) D.2) (0, 0)).1 := by
      unfold stepG
      rw [List.getD_eq_getElem?_getD, List.getElem?_map, List.getD_eq_getElem?_getD, List.getElem?_eq_getElem p1]; rfl
    have eg : atI ((deedAt h S A).ch.map pCh) ((pickI ((deedAt h S A).ch.map (·.2)) D.2 : Nat) : Int) = some (pCh ((deedAt h S A).ch.getD (pickI ((deedAt h S A).ch.map (·.2)) D.2) (0, 0))) := atI_getD p1
    generalize (deedAt h S A).ch.map (·.2) = cs at *
    simp [t2]
    refine WF.of (e_picked rowL (oq co) (by omega) (odds_ne co) (dm.2.2.2.mono (by omega))) ?_
    have gn := GS.next ho g ha p2
    have rn := rl.next (g := stepG h S A D.2) ho g.hs ha
    simp [eg, pCh, -List.getD_eq_getElem?_getD]
    rw [← egs]
    simp [szle (show 3 ≤ 1000 by decide), al, szlt (show x ≤ 1000 by omega)]
    have nx := e_next_kept (s := s') (g := stepG h S A D.2) ho rl g.hs ha (fun p e => by
      subst e
      cases H with
      | told es x =>
        cases μ with
        | l p' =>
          obtain ⟨rfl, _⟩ := rl
          exact Nat.le_trans (g.len _ rfl) (by decide)
        | _ => exact False.elim rl
      | still _ => cases μ <;> exact False.elim rl
      | minded _ => cases μ <;> exact False.elim rl)
    refine WF.of nx ?_
    simp
    exact ⟨acc ++ [(S, A, stepG h S A D.2)], stepG h S A D.2, lnext H S μ A (stepG h S A D.2), pnext H S κ A (stepG h S A D.2), ⟨rfl, rfl, by simp [pTri]⟩, by simp [al], rn, gn, by rw [← eq]; simp⟩
  · rintro ρ s' ⟨rfl, acc, S, μ, κ, c7, c8, c9, c10, c11, c12, rfl, al, rl, g, eq⟩
    rw [List.length_range, List.drop_length] at eq
    simp [roadF] at eq
    simp [eq]
theorem e_run {st : List Rat} {q : Rat} {ds : List (Rat × Rat)} (ok : HouseOk 3 3 3 h 8) (sm : ∀ st ∈ h.stands, ∀ d ∈ st, DSm d) (ho : HeroOk h H) (o : OddsC h.stands.length st) (hk : ds.length ≤ 60) (hq : Die q) (hd : ∀ d ∈ ds, Die d.1 ∧ Die d.2) :
    f_run [.d (pHouse h), .d (pQs st), .d (pHero H), .d (pQs (toss q ds))] s = some (.d (.tuple ((roadF h H ds (pickI st q) (lfirst H (pickI st q))).map pTri)), s) := by
  refine WF.eq (WF.body rfl ?_)
  simp [m_run]
  refine WF.of (e_check_player ok o ho) ?_
  simp
  refine WF.of (e_check_dice hk hq hd) ?_
  simp
  exact WF.of (e_run_by ok sm ho o hk hq hd) (by simp)
end
end WW
namespace Dh
open PySem PySem.Spec L2 PySem.W
structure TriOk (h : RHouse) (t : Nat × Nat × Nat) : Prop where
  a : t.1 < h.stands.length
  b : t.2.1 < (stD h t.1).length
  c : t.2.2 < h.stands.length
  d : t.2.2 ∈ goalsD h t.1 t.2.1
def RoadOk (h : RHouse) (W : List (Nat × Nat × Nat)) : Prop := (∀ t ∈ W, TriOk h t) ∧ ∀ (i : Nat) t u, W[i]? = some t → W[i + 1]? = some u → u.1 = t.2.2
theorem RoadOk.take {h : RHouse} {W : List (Nat × Nat × Nat)} (r : RoadOk h W) (k : Nat) : RoadOk h (W.take k) := by
  refine ⟨fun t ht => r.1 t (List.mem_of_mem_take ht), fun i t u h1 h2 => ?_⟩
  rw [List.getElem?_take] at h1 h2
  split at h1
  · split at h2
    · exact r.2 i t u h1 h2
    · cases h2
  · cases h1
theorem fIn_iNf {g : Nat} {l : List Nat} : fIn false (.d (.int (g : Nat))) (.f (l.map iN)) = some (.d (.bool (decide (g ∈ l)))) := by
  show (if eqOk (.int (g : Nat)) = true ∧ eqOk (.list (l.map iN)) = true then some (R.d (.bool (if false then !((l.map iN).any fun z => PyData.eqv z (.int (g : Nat))) else (l.map iN).any fun z => PyData.eqv z (.int (g : Nat))))) else none) = _
  rw [if_pos ⟨eqOk_int, eqOk_iNs⟩, any_iN]
  rfl
end Dh
namespace WW
open PySem PySem.Spec L2 PySem.W Dh
section
variable {h : RHouse} {H : Hero} {s : Sto}
theorem road_ok (ok : HouseOk 3 3 3 h 8) (sm : ∀ st ∈ h.stands, ∀ d ∈ st, DSm d) (ho : HeroOk h H) : ∀ (ds : List (Rat × Rat)) (st : Nat) (μ : NT), GS h H st μ → RoadOk h (roadF h H ds st μ) ∧ ∀ t, (roadF h H ds st μ)[0]? = some t → t.1 = st
  | [], st, μ, _ => ⟨⟨fun t ht => by simp [roadF] at ht, fun i t u h1 => by simp [roadF] at h1⟩, fun t h1 => by simp [roadF] at h1⟩
  | d :: ds, st, μ, g => by
    have ha := GS.act ok ho g d.1
    obtain ⟨p1, p2, p3⟩ := goal_in ok sm g.hs ha d.2
    obtain ⟨⟨ih1, ih2⟩, ih3⟩ := road_ok ok sm ho ds _ _ (GS.next ho g ha p2)
    rw [roadF]
    refine ⟨⟨fun t ht => ?_, fun i t u h1 h2 => ?_⟩, fun t h1 => ?_⟩
    · rcases List.mem_cons.mp ht with rfl | ht
      · exact ⟨g.hs, ha, p2, p3⟩
      · exact ih1 t ht
    · cases i with
      | zero =>
        simp at h1
        rw [List.getElem?_cons_succ] at h2
        have := ih3 u h2
        rw [← h1]
        exact this
      | succ i =>
        rw [List.getElem?_cons_succ] at h1 h2
        exact ih2 i t u h1 h2
    · simp at h1
      rw [← h1]
theorem e_is_step {t : Nat × Nat × Nat} (ok : HouseOk 3 3 3 h 8) (k : TriOk h t) : f_is_step [.d (pHouse h), .d (pTri t)] s = some (.d (.bool true), s) := by
  have nN := ok.nN
  obtain ⟨A, B, G⟩ := t
  obtain ⟨k1, k2, k3, k4⟩ := k
  dsimp only at k1 k2 k3 k4
  have es : atI (h.stands.map pStand) (A : Int) = some (pStand (stD h A)) := atI_getD k1
  have edd : atI ((stD h A).map pDeed) (B : Int) = some (pDeed (deedAt h A B)) := atI_getD k2
  have dk := deed_in ok k1 k2
  have cl : (deedAt h A B).ch.length ≤ 3 := by
    have := asc_len 0 dk.ch.asc fun c hc => ⟨Nat.zero_le _, (dk.ch.each c hc).1⟩
    omega
  unfold goalsD at k4
  have k4 : G ∈ (deedAt h A B).ch.map (·.1) := k4
  have t3 := (stand_in ok k1).2.1
  refine WF.eq (WF.body rfl ?_)
  simp [m_is_step, List.replicate_succ, pHouse, pTri]
  refine WF.of (e_is_tuple_of rfl) ?_
  simp
  refine WF.of (e_is_between (by omega) (by omega)) ?_
  simp [es, pStand]
  refine WF.of (e_is_between (by omega) (by omega)) ?_
  simp
  refine WF.of (e_is_between (by omega) (by omega)) ?_
  simp [edd, pDeed]
  refine WLc_map pCh (fun c => iN c.1) (deedAt h A B).ch (fun c hc => ?_) ?_
  · simp [pCh, iN]
  refine ⟨szle (by rw [List.length_map]; omega), ?_⟩
  have fi := fIn_iNf (g := G) (l := (deedAt h A B).ch.map (·.1))
  rw [List.map_map] at fi
  have fi' : fIn false (.d (.int (G : Nat))) (.f ((deedAt h A B).ch.map fun c => iN c.1)) = some (.d (.bool (decide (G ∈ (deedAt h A B).ch.map (·.1))))) := fi
  rw [decide_eq_true k4] at fi'
  simp [fi']
theorem e_check_way {W : List (Nat × Nat × Nat)} (ok : HouseOk 3 3 3 h 8) (r : RoadOk h W) (hl : W.length ≤ 60) : f_check_way [.d (pHouse h), .d (.tuple (W.map pTri))] s = some (.d .none, s) := by
  refine WF.eq (WF.body rfl ?_)
  simp [m_check_way, List.replicate_succ, fIsi, isA, isN, tyName, k_MOST_WAY, show ¬ (60 : Int) < (W.length : Int) by omega]
  refine WF.of (show f_wrong_steps [.d (pHouse h), .d (.tuple (W.map pTri))] s = some (.f [], s) from WF.eq (WF.body rfl ?_)) ?_
  · simp [m_wrong_steps, List.replicate_succ, numbered_map]
    refine WFor_inv (fun p : (Nat × Nat × Nat) × Nat => PyData.tuple [.int (p.2 : Nat), pTri p.1]) W.zipIdx (fun i ρ s' => s' = s ∧ ∃ c3 c4 : Option Cl, ρ = [some (.d (pHouse h)), some (.d (.tuple (W.map pTri))), some (.o []), c3, c4]) ⟨rfl, none, none, rfl⟩ ?_ ?_
    · rintro i ⟨t, i'⟩ ρ s' hp ⟨rfl, c3, c4, rfl⟩
      rw [List.getElem?_zipIdx] at hp
      obtain ⟨t', ht, e⟩ := Option.map_eq_some_iff.mp hp
      rw [Nat.zero_add] at e
      cases e
      have hi := lt_of ht
      simp
      refine WF.of (e_is_step ok (r.1 _ (List.mem_of_getElem? ht))) ?_
      cases i with
      | zero => simp
      | succ j =>
        have hj := List.getElem?_eq_getElem (l := W) (i := j) (by omega)
        have e := r.2 j _ _ hj ht
        have ea : atI (W.map pTri) (j : Int) = some (pTri W[j]) := by
          rw [atI_ofNat (by rw [List.length_map]; omega), List.getElem?_map, hj]; rfl
        have fN : fEqN false (.b []) (.f []) = some (.d (.bool true)) := rfl
        simp [fN, show ((j : Int) + 1) - 1 = (j : Int) by omega, ea, pTri, fEq_int, e]
    · rintro ρ s' ⟨rfl, c3, c4, rfl⟩
      simp
  · simp
    exact WFor_nil (by simp)
end
end WW
namespace Dh
open PySem PySem.Spec L2 PySem.W
/-- low end and length -/
def strI (l : List Rat) (k : Nat) : Rat × Rat := (qsum (l.take k), l.getD k 0)
def pB (b : Rat × Rat) : PyData := .tuple [pQ b.1, pQ (b.1 + b.2)]
def chD (h : RHouse) (t : Nat × Nat × Nat) : List (Nat × Rat) := (deedAt h t.1 t.2.1).ch
def gi (h : RHouse) (t : Nat × Nat × Nat) : Nat := ((chD h t).findIdx? fun c => c.1 == t.2.2).getD 0
def boxR (h : RHouse) (H : Hero) : List (Nat × Nat × Nat) → NT → List (Rat × Rat)
  | [], _ => []
  | t :: W, μ => strI (lodds H t.1 μ) t.2.1 :: strI ((chD h t).map (·.2)) (gi h t) :: boxR h H W (lnext H t.1 μ t.2.1 t.2.2)
def boxF (h : RHouse) (H : Hero) (st : List Rat) : List (Nat × Nat × Nat) → List (Rat × Rat)
  | [] => [(0, 1)]
  | t :: W => strI st t.1 :: boxR h H (t :: W) (lfirst H t.1)
def vol : List (Rat × Rat) → Rat
  | [] => 1
  | b :: B => b.2 * vol B
def WayOk (h : RHouse) : Nat → List (Nat × Nat × Nat) → Prop
  | _, [] => True
  | st, t :: W => t.1 = st ∧ TriOk h t ∧ WayOk h t.2.2 W
theorem way_of {h : RHouse} : ∀ {W : List (Nat × Nat × Nat)} {st : Nat}, RoadOk h W → (∀ t, W[0]? = some t → t.1 = st) → WayOk h st W
  | [], _, _, _ => True.intro
  | t :: W, st, r, e => by
    refine ⟨e t rfl, r.1 t List.mem_cons_self, way_of ⟨fun u hu => r.1 u (List.mem_cons_of_mem _ hu), fun i a b h1 h2 => r.2 (i + 1) a b (by simpa using h1) (by simpa using h2)⟩ fun u hu => r.2 0 t u rfl (by simpa using hu)⟩
theorem gi_some {h : RHouse} {t : Nat × Nat × Nat} (k : TriOk h t) : ((chD h t).findIdx? fun c => c.1 == t.2.2) = some (gi h t) := by
  unfold gi
  cases q : (chD h t).findIdx? fun c => c.1 == t.2.2 with
  | some i => rfl
  | none =>
    rw [List.findIdx?_eq_none_iff] at q
    obtain ⟨c, hc, e⟩ := List.mem_map.mp (show t.2.2 ∈ (chD h t).map (·.1) from k.d)
    have := q c hc
    rw [e] at this
    simp at this
theorem gi_at {h : RHouse} {t : Nat × Nat × Nat} (k : TriOk h t) : gi h t < (chD h t).length ∧ ((chD h t).getD (gi h t) (0, 0)).1 = t.2.2 := by
  have e := gi_some k
  rw [List.findIdx?_eq_some_iff_getElem] at e
  obtain ⟨h1, h2, _⟩ := e
  refine ⟨h1, ?_⟩
  rw [List.getD_eq_getElem?_getD, List.getElem?_eq_getElem h1]
  exact eq_of_beq h2
theorem gi_int {h : RHouse} {t : Nat × Nat × Nat} (k : TriOk h t) : (((chD h t).map fun c => (c.1 : Int)).findIdx? fun n => n == (t.2.2 : Int)) = some (gi h t) := by
  rw [List.findIdx?_map]
  have : ((fun n : Int => n == (t.2.2 : Int)) ∘ fun c : Nat × Rat => (c.1 : Int)) = fun c : Nat × Rat => c.1 == t.2.2 := by
    funext c
    show ((c.1 : Int) == (t.2.2 : Int)) = (c.1 == t.2.2)
    rw [Bool.eq_iff_iff, beq_iff_eq, beq_iff_eq]
    omega
  rw [this]
  exact gi_some k
theorem gi_uniq {h : RHouse} {t : Nat × Nat × Nat} {i : Nat} (as : (chD h t).Pairwise fun a b => a.1 < b.1) (hi : i < (chD h t).length) (e : ((chD h t).getD i (0, 0)).1 = t.2.2) : gi h t = i := by
  unfold gi
  have : ((chD h t).findIdx? fun c => c.1 == t.2.2) = some i := by
    rw [List.findIdx?_eq_some_iff_getElem]
    rw [List.getD_eq_getElem?_getD, List.getElem?_eq_getElem hi] at e
    refine ⟨hi, by simpa using e, fun j hj => ?_⟩
    have := List.pairwise_iff_getElem.mp as j i (by omega) hi hj
    have e : ((chD h t)[i]).1 = t.2.2 := e
    simp
    omega
  rw [this]; rfl
theorem intsOf_ch : ∀ cs : List (Nat × Rat), intsOf (cs.map fun c => iN c.1) = some (cs.map fun c => (c.1 : Int))
  | [] => rfl
  | c :: cs => by
    show (intsOf (cs.map fun c => iN c.1)).map _ = _
    rw [intsOf_ch cs]; rfl
def chP (cs : List (Nat × Rat)) : List (Key × PyData) := cs.map fun c => (Sum.inl (c.1 : Int), pQ c.2)
theorem pairsP_ch : ∀ cs : List (Nat × Rat), pairsP (cs.map pCh) = some (chP cs)
  | [] => rfl
  | c :: cs => by
    show (match pairP (pCh c), pairsP (cs.map pCh) with | some p, some ps => some (p :: ps) | _, _ => none) = _
    rw [pairsP_ch cs]; rfl
theorem putP_fold : ∀ (cs ds : List (Nat × Rat)), (ds ++ cs).Pairwise (fun a b => a.1 < b.1) → (chP cs).foldl (fun acc p => putP acc p.1 p.2) (chP ds) = chP (ds ++ cs)
  | [], ds, _ => by rw [List.append_nil]; rfl
  | c :: cs, ds, h => by
    have hn : ((chP ds).any fun p => decide (p.1 = Sum.inl (c.1 : Int))) = false := by
      rw [List.any_eq_false]
      intro p hp
      obtain ⟨d, hd, rfl⟩ := List.mem_map.mp hp
      have := (List.pairwise_append.mp h).2.2 d hd c List.mem_cons_self
      simp
      omega
    show (chP cs).foldl (fun acc p => putP acc p.1 p.2) (putP (chP ds) (Sum.inl (c.1 : Int)) (pQ c.2)) = _
    have : putP (chP ds) (Sum.inl (c.1 : Int)) (pQ c.2) = chP (ds ++ [c]) := by
      unfold putP
      rw [hn]
      simp [chP]
    rw [this, putP_fold cs (ds ++ [c]) (by simpa using h), List.append_assoc]; rfl
theorem fDictP_ch {cs : List (Nat × Rat)} (h : cs.Pairwise fun a b => a.1 < b.1) : fDictP [.d (.tuple (cs.map pCh))] = some (.m (chP cs)) := by
  show (pairsP (cs.map pCh)).map _ = _
  rw [pairsP_ch]
  have := putP_fold cs [] h
  exact congrArg (fun x => some (R.m x)) this
theorem find_idx {α : Type} {p : α → Bool} : ∀ {l : List α} {i : Nat}, l.findIdx? p = some i → l.find? p = l[i]?
  | [], i, h => by simp at h
  | x :: l, i, h => by
    rw [List.findIdx?_cons] at h
    rw [List.find?_cons]
    cases q : p x with
    | true => rw [q] at h; simp at h; subst h; rfl
    | false =>
      rw [q] at h
      simp at h
      obtain ⟨j, hj, rfl⟩ := h
      rw [find_idx hj]; rfl
theorem ch_val {h : RHouse} {t : Nat × Nat × Nat} (k : TriOk h t) : fIxM (.n (chP (chD h t))) (.d (.int (t.2.2 : Nat))) = some (.d (pQ (((chD h t).map (·.2)).getD (gi h t) 0))) := by
  show (valP (chP (chD h t)) (Sum.inl (t.2.2 : Int))).map R.d = _
  have e := find_idx (gi_some k)
  have hl := (gi_at k).1
  have : (chP (chD h t)).find? (fun p => decide (p.1 = Sum.inl (t.2.2 : Int))) = ((chD h t).find? fun c => c.1 == t.2.2).map fun c => (Sum.inl (c.1 : Int), pQ c.2) := by
    unfold chP
    rw [List.find?_map]
    congr 2
    funext c
    show decide ((Sum.inl (c.1 : Int) : Key) = Sum.inl (t.2.2 : Int)) = (c.1 == t.2.2)
    rw [Bool.eq_iff_iff, decide_eq_true_iff, beq_iff_eq, Sum.inl.injEq]
    omega
  unfold valP
  rw [this, e, List.getElem?_eq_getElem hl, List.getD_eq_getElem?_getD, List.getElem?_map, List.getElem?_eq_getElem hl]
  rfl
structure Bk (b : Rat × Rat) : Prop where
  lo : 0 ≤ b.1
  len : 0 ≤ b.2
  hi : b.1 + b.2 ≤ 1
  q1 : QLt 100 b.1
  q2 : QLt 10 b.2
theorem vol_snoc {b : Rat × Rat} : ∀ {B : List (Rat × Rat)}, vol (B ++ [b]) = vol B * b.2
  | [] => by show b.2 * 1 = 1 * b.2; grind
  | c :: B => by
    show c.2 * vol (B ++ [b]) = c.2 * vol B * b.2
    rw [vol_snoc]; grind
theorem vol_lt : ∀ {B : List (Rat × Rat)}, (∀ b ∈ B, Bk b) → QLt (1 + 10 * B.length) (vol B)
  | [], _ => ⟨by decide, by decide⟩
  | b :: B, h => (QLt_mul (h b List.mem_cons_self).q2 (vol_lt fun c hc => h c (List.mem_cons_of_mem _ hc))).mono (by rw [List.length_cons]; omega)
theorem vol_nn : ∀ {B : List (Rat × Rat)}, (∀ b ∈ B, Bk b) → 0 ≤ vol B
  | [], _ => by decide
  | b :: B, h => Rat.mul_nonneg (h b List.mem_cons_self).len (vol_nn fun c hc => h c (List.mem_cons_of_mem _ hc))
theorem vol_pos : ∀ {B : List (Rat × Rat)}, (∀ b ∈ B, Bk b) → 0 < vol B → ∀ b ∈ B, 0 < b.2
  | [], _, _ => fun b hb => nomatch hb
  | b :: B, h, p => fun c hc => by
    have nb := (h b List.mem_cons_self).len
    have nB := vol_nn fun c hc => h c (List.mem_cons_of_mem b hc)
    have hb : b.2 ≠ 0 := fun z => by
      have : vol (b :: B) = 0 := by show b.2 * vol B = 0; rw [z, Rat.zero_mul]
      rw [this] at p
      exact absurd p (by decide)
    have hB : vol B ≠ 0 := fun z => by
      have : vol (b :: B) = 0 := by show b.2 * vol B = 0; rw [z, Rat.mul_zero]
      rw [this] at p
      exact absurd p (by decide)
    rcases List.mem_cons.mp hc with rfl | hc
    · grind
    · exact vol_pos (fun c hc => h c (List.mem_cons_of_mem b hc)) (by grind) c hc
end Dh
namespace WW
open PySem PySem.Spec L2 PySem.W Dh
section
variable {h : RHouse} {H : Hero} {s : Sto}
theorem str_ok {n k : Nat} {l : List Rat} (o : OddsC n l) (hn : n ≤ 3) (hk : k < n) : Bk (strI l k) := by
  have hl := o.1.len
  have nn : ∀ q ∈ l, 0 ≤ q := fun q hq => (o.1.each q hq).1
  have hk' : k < l.length := by omega
  have eq : l[k]? = some (l.getD k 0) := by rw [List.getD_eq_getElem?_getD, List.getElem?_eq_getElem hk']; rfl
  have e : qsum (l.take (k + 1)) = qsum (l.take k) + l.getD k 0 := by rw [take_snoc eq, qsum_snoc]
  have m := getD_mem (d := (0 : Rat)) hk'
  refine ⟨sum_nn fun q hq => nn q (List.mem_of_mem_take hq), nn _ m, ?_, (qsum_take_lt (oq o)).mono (by omega), oq o _ m⟩
  show qsum (l.take k) + l.getD k 0 ≤ 1
  rw [← e, ← o.1.one]
  exact take_le nn (k + 1)
theorem box_ok (ok : HouseOk 3 3 3 h 8) (sm : ∀ st ∈ h.stands, ∀ d ∈ st, DSm d) (ho : HeroOk h H) : ∀ {W : List (Nat × Nat × Nat)} {S : Nat} {μ : NT}, WayOk h S W → GS h H S μ → ∀ b ∈ boxR h H W μ, Bk b
  | [], _, _, _, _ => fun b hb => nomatch hb
  | t :: W, S, μ, ⟨e, k, w⟩, g => fun b hb => by
    subst e
    obtain ⟨co, cl⟩ := deed_odds ok sm k.a k.b
    rw [boxR] at hb
    rcases List.mem_cons.mp hb with rfl | hb
    · exact str_ok (GS.odds ho g) (stand_in ok g.hs).2.1 k.b
    rcases List.mem_cons.mp hb with rfl | hb
    · exact str_ok co cl (gi_at k).1
    · exact box_ok ok sm ho w (GS.next ho g k.b k.c) b hb
theorem box_ok1 {st : List Rat} {W : List (Nat × Nat × Nat)} (ok : HouseOk 3 3 3 h 8) (sm : ∀ st ∈ h.stands, ∀ d ∈ st, DSm d) (ho : HeroOk h H) (o : OddsC h.stands.length st) (r : RoadOk h W) : ∀ b ∈ boxF h H st W, Bk b := by
  cases W with
  | nil =>
    intro b hb
    rw [List.mem_singleton.mp (show b ∈ [((0 : Rat), (1 : Rat))] from hb)]
    exact ⟨by decide, by decide, by rw [show ((0 : Rat), (1 : Rat)).1 + ((0 : Rat), (1 : Rat)).2 = 1 from Rat.zero_add 1]; exact Rat.le_refl, ⟨by decide, by decide⟩, ⟨by decide, by decide⟩⟩
  | cons t W =>
    have k := r.1 t List.mem_cons_self
    have w := way_of (st := t.1) r fun u hu => by cases hu; rfl
    intro b hb
    rcases List.mem_cons.mp (show b ∈ strI st t.1 :: boxR h H (t :: W) (lfirst H t.1) from hb) with rfl | hb
    · exact str_ok o ok.nN k.a
    · exact box_ok ok sm ho w (GS.first ho k.a) b hb
theorem boxR_len : ∀ {W : List (Nat × Nat × Nat)} {μ : NT}, (boxR h H W μ).length = 2 * W.length
  | [], _ => rfl
  | t :: W, μ => by rw [boxR, List.length_cons, List.length_cons, boxR_len, List.length_cons]; omega
end
end WW
namespace Dh
open PySem PySem.Spec L2 PySem.W
theorem fEqE_f {xs : List PyData} : fEqE false (.d (.tuple xs)) (.d (.tuple [])) = some (.d (.bool xs.isEmpty)) := rfl
theorem toCl_m {acc : List (Key × PyData)} : toCl (.m acc) = some (.m acc) := rfl
theorem rdCl_m {acc : List (Key × PyData)} : rdCl (.m acc) = .n acc := rfl
theorem pB_one : PyData.tuple [.tuple [.int 0, .int 1], .tuple [.int 1, .int 1]] = pB (0, 1) := by
  show _ = PyData.tuple [pQ 0, pQ (0 + 1)]
  rw [Rat.zero_add]; rfl
theorem boxF_cons {h : RHouse} {H : Hero} {st : List Rat} {W : List (Nat × Nat × Nat)} {t : Nat × Nat × Nat} (e : W[0]? = some t) : boxF h H st W = strI st t.1 :: boxR h H W (lfirst H t.1) := by
  cases W with
  | nil => cases e
  | cons u W => cases e; rfl
end Dh
namespace WW
open PySem PySem.Spec L2 PySem.W Dh
section
variable {h : RHouse} {H : Hero} {s : Sto}
theorem e_stretch_of {x : PyData} {l : List Rat} {k : Nat} (hx : IsRow x l) (hl : ∀ q ∈ l, QLt 10 q) (h9 : l.length ≤ 9) (hk : k < l.length) : f_stretch_of [.d x, .d (.int (k : Nat))] s = some (.d (pB (strI l k)), s) := by
  have ea : atI (l.map pQ) (k : Int) = some (pQ (l.getD k 0)) := atI_getD hk
  have hs := qsum_take_lt (i := k) hl
  have hlk : ∀ q ∈ l.take k, QLt 10 q := fun q hq => hl q (List.mem_of_mem_take hq)
  have lk : (l.take k).length ≤ 9 := by rw [List.length_take]; omega
  rcases hx with rfl | rfl
  all_goals
    refine WF.eq (WF.body rfl ?_)
    simp [m_stretch_of, List.replicate_succ, fSl, cut_to]
    try rw [← List.map_take]
    refine WF.of (e_total (l := l.take k) (k := 10) rfl hlk (by omega)) ?_
    simp [ea, -List.getD_eq_getElem?_getD]
    refine WF.of (e_plus (hs.bd (by omega)) ((hl _ (getD_mem hk)).bd)) ?_
    simp [sz2, pB, strI, -List.getD_eq_getElem?_getD]
theorem e_lless {p q : Rat} {s : Sto} (hp : Bd p) (hq : Bd q) : f_law_less [.d (pQ p), .d (pQ q)] s = some (.d (pQ (p - q)), s) := by
  refine WF.eq (WF.body rfl ?_)
  simp [m_law_less, pQ, fMul_ok, mulOk_nd hp hq, mulOk_nd hq hp, mulOk_dd hp hq]
  refine WF.of (e_cut (den_mul_pos p q) (den_lt hp hq)) ?_
  rw [← sub_divInt]
  simp [pQ]
theorem e_volume {B : List (Rat × Rat)} (hB : ∀ b ∈ B, Bk b) (hl : B.length ≤ 130) : f_law_volume [.d (.list (B.map pB))] s = some (.d (pQ (vol B)), s) := by
  refine WF.eq (WF.body rfl ?_)
  simp [m_law_volume, List.replicate_succ, sz2]
  refine WFor_inv pB B (fun i ρ s' => s' = s ∧ ∃ c2 c3, ρ = [some (.d (.list (B.map pB))), some (.d (pQ (vol (B.take i)))), c2, c3]) ⟨rfl, none, none, rfl⟩ ?_ ?_
  · rintro i b ρ s' hb ⟨rfl, c2, c3, rfl⟩
    have hi := lt_of hb
    have kb := hB b (List.mem_of_getElem? hb)
    have vt := vol_lt (B := B.take i) fun c hc => hB c (List.mem_of_mem_take hc)
    have lt : (B.take i).length ≤ 130 := by rw [List.length_take]; omega
    have e : b.1 + b.2 - b.1 = b.2 := by grind
    simp [pB]
    refine WF.of (e_lless ((QLt_add kb.q1 kb.q2).bd) kb.q1.bd) ?_
    rw [e]
    simp
    refine WF.of (e_ltimes (vt.bd (by omega)) kb.q2.bd) ?_
    rw [take_snoc hb, vol_snoc]
    simp
  · rintro ρ s' ⟨rfl, c2, c3, rfl⟩
    rw [List.take_length]
    simp
theorem kp_len {μ : NT} {κ : KP} {S : Nat} (rl : Rl H μ κ) (g : GS h H S μ) : ∀ p, κ = .l p → p.length ≤ 900 := fun p e => by
  subst e
  cases H with
  | told es x =>
    cases μ with
    | l p' =>
      obtain ⟨rfl, _⟩ := rl
      exact Nat.le_trans (g.len _ rfl) (by decide)
    | _ => exact False.elim rl
  | still _ => cases μ <;> exact False.elim rl
  | minded _ => cases μ <;> exact False.elim rl
theorem e_chance_by {st : List Rat} {W : List (Nat × Nat × Nat)} (ok : HouseOk 3 3 3 h 8) (sm : ∀ st ∈ h.stands, ∀ d ∈ st, DSm d) (ho : HeroOk h H) (o : OddsC h.stands.length st) (r : RoadOk h W) (hl : W.length ≤ 60) :
    f_chance_by [.d (pHouse h), .d (pQs st), .d (pHero H), .d (.tuple (W.map pTri))] s = some (.d (pQ (vol (boxF h H st W))), s) := by
  have nN := ok.nN
  have sl := o.1.len
  refine WF.eq (WF.body rfl ?_)
  rcases W with _ | ⟨t, W'⟩
  · simp [m_chance_by, List.replicate_succ, fEqE_f, boxF, vol, k_ONE, pQ]
  have w0 := way_of (st := t.1) r fun u hu => by cases hu; rfl
  have k0 := r.1 t List.mem_cons_self
  have bF := boxF_cons (h := h) (H := H) (st := st) (W := t :: W') (t := t) rfl
  have a0 : atI ((t :: W').map pTri) 0 = some (pTri t) := atI_getD (f := pTri) (d := t) (l := t :: W') (i := 0) (by simp)
  have ne : ((t :: W').map pTri).isEmpty = false := rfl
  generalize t :: W' = W at *
  have ea : atI (st.map pQ) (t.1 : Int) = some (pQ (st.getD t.1 0)) := atI_getD (by rw [sl]; exact k0.a)
  have g0 := GS.first (H := H) ho k0.a
  have rl0 := Rl.first (st := t.1) ho
  have fk := e_first_kept (s := s) (st := t.1) ho
  have q0 : QLt 10 (st.getD t.1 0) := oq o _ (getD_mem (by rw [sl]; exact k0.a))
  simp [m_chance_by, List.replicate_succ, fEqE_f, a0, ne]
  have ept : pTri t = .tuple [.int (t.1 : Nat), .int (t.2.1 : Nat), .int (t.2.2 : Nat)] := rfl
  simp [a0, ept, pQs, ea, -List.getD_eq_getElem?_getD]
  refine WF.of fk ?_
  have eqv : vol (boxF h H st W) = st.getD t.1 0 * vol (boxR h H W (lfirst H t.1)) := by rw [bF]; rfl
  simp [-List.getD_eq_getElem?_getD]
  generalize st.getD t.1 0 = f0 at *
  refine WFor_inv pTri W (fun i ρ s' => s' = s ∧ ∃ (f : Rat) (S : Nat) (μ : NT) (κ : KP) (c6 c7 c8 c9 : Option Cl), ρ = [some (.d (pHouse h)), some (.d (pQs st)), some (.d (pHero H)), some (.d (.tuple (W.map pTri))), some (.d (pQ f)), some (.d (pKP κ)), c6, c7, c8, c9] ∧ Rl H μ κ ∧ GS h H S μ ∧ WayOk h S (W.drop i) ∧ f * vol (boxR h H (W.drop i) μ) = vol (boxF h H st W) ∧ QLt (10 + 20 * i) f) ⟨rfl, f0, t.1, _, _, none, none, none, none, rfl, rl0, g0, w0, eqv.symm, q0⟩ ?_ ?_
  · rintro i T ρ s' hT ⟨rfl, f, S, μ, κ, c6, c7, c8, c9, rfl, rl, g, w, ef, qf⟩
    have hi := lt_of hT
    have ed : W.drop i = T :: W.drop (i + 1) := by
      rw [List.drop_eq_getElem_cons hi]
      have := (List.getElem?_eq_some_iff.mp hT).2
      rw [this]
    rw [ed] at w ef
    obtain ⟨eS, k, w⟩ := w
    subst eS
    rw [boxR] at ef
    have eo := rl.odds (st := T.1) ho
    have es : atI (h.stands.map pStand) (T.1 : Int) = some (pStand (stD h T.1)) := atI_getD k.a
    have edd : atI ((stD h T.1).map pDeed) (T.2.1 : Int) = some (pDeed (deedAt h T.1 T.2.1)) := atI_getD k.b
    have dk := deed_in ok k.a k.b
    have fd := fDictP_ch dk.ch.asc
    have cv := ch_val k
    have oo := GS.odds ho g
    have eod : atI ((lodds H T.1 μ).map pQ) (T.2.1 : Int) = some (pQ ((lodds H T.1 μ).getD T.2.1 0)) := atI_getD (by rw [oo.1.len]; exact k.b)
    have qo : QLt 10 ((lodds H T.1 μ).getD T.2.1 0) := oq oo _ (getD_mem (by rw [oo.1.len]; exact k.b))
    obtain ⟨co, cl⟩ := deed_odds ok sm k.a k.b
    have qc : QLt 10 (((chD h T).map (·.2)).getD (gi h T) 0) := oq co _ (getD_mem (by rw [List.length_map]; exact (gi_at k).1))
    have nx := e_next_kept (s := s') (g := T.2.2) ho rl k.a k.b (kp_len rl g)
    have ech : (deedAt h T.1 T.2.1).ch = chD h T := rfl
    rw [ech] at fd
    have eT : pTri T = .tuple [.int (T.1 : Nat), .int (T.2.1 : Nat), .int (T.2.2 : Nat)] := rfl
    simp [eT, pHouse, es, pStand, edd, pDeed, ech, fd, toCl_m]
    refine WF.of (e_odds_at ho rl k.a) ?_
    rw [eo]
    simp [pQs, eod, cv, rdCl_m, -List.getD_eq_getElem?_getD]
    refine WF.of (e_times qo.bd qc.bd) ?_
    simp [-List.getD_eq_getElem?_getD]
    refine WF.of (e_times (qf.bd (by omega)) (QLt_mul qo qc).bd) ?_
    simp [-List.getD_eq_getElem?_getD]
    refine WF.of nx ?_
    simp [-List.getD_eq_getElem?_getD]
    refine ⟨_, _, _, _, ⟨rfl, rfl⟩, rl.next ho k.a k.b, GS.next ho g k.b k.c, w, ?_, (QLt_mul qf (QLt_mul qo qc)).mono (by omega)⟩
    rw [← ef]
    show _ = f * ((lodds H T.1 μ).getD T.2.1 0 * (((chD h T).map (·.2)).getD (gi h T) 0 * vol (boxR h H (W.drop (i + 1)) (lnext H T.1 μ T.2.1 T.2.2))))
    grind
  · rintro ρ s' ⟨rfl, f, S, μ, κ, c6, c7, c8, c9, rfl, rl, g, w, ef, qf⟩
    rw [List.drop_length] at ef
    have : f = vol (boxF h H st W) := by rw [← ef]; show f = f * 1; grind
    simp [this]
theorem e_box_by {st : List Rat} {W : List (Nat × Nat × Nat)} (ok : HouseOk 3 3 3 h 8) (sm : ∀ st ∈ h.stands, ∀ d ∈ st, DSm d) (ho : HeroOk h H) (o : OddsC h.stands.length st) (r : RoadOk h W) (hl : W.length ≤ 60) :
    f_box_by [.d (pHouse h), .d (pQs st), .d (pHero H), .d (.tuple (W.map pTri))] s = some (.d (.tuple ((boxF h H st W).map pB)), s) := by
  have nN := ok.nN
  have sl := o.1.len
  refine WF.eq (WF.body rfl ?_)
  rcases W with _ | ⟨t, W'⟩
  · have e1 : pB (0, 1) = PyData.tuple [k_ZERO, k_ONE] := pB_one.symm
    simp [m_box_by, List.replicate_succ, fEqE_f, boxF, e1, sz1, sz2]
  have w0 := way_of (st := t.1) r fun u hu => by cases hu; rfl
  have k0 := r.1 t List.mem_cons_self
  have bF := boxF_cons (h := h) (H := H) (st := st) (W := t :: W') (t := t) rfl
  have a0 : atI ((t :: W').map pTri) 0 = some (pTri t) := atI_getD (f := pTri) (d := t) (l := t :: W') (i := 0) (by simp)
  have ne : ((t :: W').map pTri).isEmpty = false := rfl
  generalize t :: W' = W at *
  have g0 := GS.first (H := H) ho k0.a
  have rl0 := Rl.first (st := t.1) ho
  have fk := e_first_kept (s := s) (st := t.1) ho
  have ept : pTri t = .tuple [.int (t.1 : Nat), .int (t.2.1 : Nat), .int (t.2.2 : Nat)] := rfl
  simp [m_box_by, List.replicate_succ, fEqE_f, a0, ne, ept]
  refine WF.of (e_stretch_of rowT (oq o) (by omega) (by rw [sl]; exact k0.a)) ?_
  simp [sz1, a0, ept]
  refine WF.of fk ?_
  simp
  refine WFor_inv pTri W (fun i ρ s' => s' = s ∧ ∃ (acc : List (Rat × Rat)) (S : Nat) (μ : NT) (κ : KP) (c6 c7 c8 c9 c10 c11 c12 : Option Cl), ρ = [some (.d (pHouse h)), some (.d (pQs st)), some (.d (pHero H)), some (.d (.tuple (W.map pTri))), some (.o (acc.map pB)), some (.d (pKP κ)), c6, c7, c8, c9, c10, c11, c12] ∧ Rl H μ κ ∧ GS h H S μ ∧ WayOk h S (W.drop i) ∧ acc ++ boxR h H (W.drop i) μ = boxF h H st W ∧ acc.length = 1 + 2 * i) ⟨rfl, [strI st t.1], t.1, _, _, none, none, none, none, none, none, none, rfl, rl0, g0, w0, bF.symm, rfl⟩ ?_ ?_
  · rintro i T ρ s' hT ⟨rfl, acc, S, μ, κ, c6, c7, c8, c9, c10, c11, c12, rfl, rl, g, w, ef, al⟩
    have hi := lt_of hT
    have ed : W.drop i = T :: W.drop (i + 1) := by
      rw [List.drop_eq_getElem_cons hi]
      have := (List.getElem?_eq_some_iff.mp hT).2
      rw [this]
    rw [ed] at w ef
    obtain ⟨eS, k, w⟩ := w
    subst eS
    rw [boxR] at ef
    have eo := rl.odds (st := T.1) ho
    have es : atI (h.stands.map pStand) (T.1 : Int) = some (pStand (stD h T.1)) := atI_getD k.a
    have edd : atI ((stD h T.1).map pDeed) (T.2.1 : Int) = some (pDeed (deedAt h T.1 T.2.1)) := atI_getD k.b
    have oo := GS.odds ho g
    obtain ⟨co, cl⟩ := deed_odds ok sm k.a k.b
    obtain ⟨g1, g2⟩ := gi_at k
    have t3 := (stand_in ok k.a).2.1
    have ol := oo.1.len
    have nx := e_next_kept (s := s') (g := T.2.2) ho rl k.a k.b (kp_len rl g)
    have ech : (deedAt h T.1 T.2.1).ch = chD h T := rfl
    have gii := gi_int k
    rw [ech] at cl co
    have eT : pTri T = .tuple [.int (T.1 : Nat), .int (T.2.1 : Nat), .int (T.2.2 : Nat)] := rfl
    simp [eT, pHouse, es, pStand, edd, pDeed, ech]
    refine WF.of (e_odds_at ho rl k.a) ?_
    rw [eo]
    simp
    refine WF.of (e_stretch_of rowT (oq oo) (by omega) (by rw [ol]; exact k.b)) ?_
    simp [al, szlt (show 1 + 2 * i ≤ 1000 by omega)]
    refine WLc_map pCh (fun c => pQ c.2) (chD h T) (fun c hc => ?_) ?_
    · simp [pCh]
    refine ⟨szle (by rw [List.length_map]; omega), ?_⟩
    have em : (chD h T).map (fun c => pQ c.2) = ((chD h T).map (·.2)).map pQ := by rw [List.map_map]; rfl
    have gl : gi h T < ((chD h T).map (·.2)).length := by rw [List.length_map]; exact g1
    have hcl : ((chD h T).map (·.2)).length ≤ 3 := by rw [List.length_map]; exact cl
    rw [em]
    have co' : OddsC (chD h T).length ((chD h T).map (·.2)) := co
    generalize (chD h T).map (·.2) = cs at *
    simp
    refine WLc_map pCh (fun c => iN c.1) (chD h T) (fun c hc => ?_) ?_
    · simp [pCh, iN]
    refine ⟨szle (by rw [List.length_map]; omega), ?_⟩
    simp [intsOf_ch, gii]
    refine WF.of (e_stretch_of rowL (oq co') (by omega) gl) ?_
    simp [al, szlt (show 1 + 2 * i + 1 ≤ 1000 by omega)]
    refine WF.of nx ?_
    simp
    exact ⟨acc ++ [strI (lodds H T.1 μ) T.2.1, strI cs (gi h T)], _, _, _, ⟨by simp, rfl⟩, rl.next ho k.a k.b, GS.next ho g k.b k.c, w, by rw [← ef]; simp, by simp [al]; omega⟩
  · rintro ρ s' ⟨rfl, acc, S, μ, κ, c6, c7, c8, c9, c10, c11, c12, rfl, rl, g, w, ef, al⟩
    rw [List.drop_length] at ef
    have : acc = boxF h H st W := by rw [← ef]; show acc = acc ++ []; rw [List.append_nil]
    simp [this]
end
end WW
namespace Dh
open PySem PySem.Spec L2 PySem.W
def Ins (b : Rat × Rat) (d : Rat) : Prop := b.1 ≤ d ∧ d < b.1 + b.2
def Fits : List (Rat × Rat) → List Rat → Prop
  | [], [] => True
  | b :: B, d :: D => Ins b d ∧ Fits B D
  | _, _ => False
theorem Fits.at : ∀ {B : List (Rat × Rat)} {D : List Rat} {k : Nat} {b : Rat × Rat} {d : Rat}, Fits B D → B[k]? = some b → D[k]? = some d → Ins b d
  | [], [], _, _, _, _, h, _ => by simp at h
  | c :: B, e :: D, 0, b, d, f, h, g => by
    simp at h g
    subst h g
    exact f.1
  | c :: B, e :: D, k + 1, b, d, f, h, g => Fits.at f.2 (by simpa using h) (by simpa using g)
  | [], _ :: _, _, _, _, f, _, _ => False.elim f
  | _ :: _, [], _, _, _, f, _, _ => False.elim f
theorem Fits.len : ∀ {B : List (Rat × Rat)} {D : List Rat}, Fits B D → B.length = D.length
  | [], [], _ => rfl
  | _ :: B, _ :: D, f => by rw [List.length_cons, List.length_cons, Fits.len f.2]
  | [], _ :: _, f => False.elim f
  | _ :: _, [], f => False.elim f
theorem Fits.snoc : ∀ {B : List (Rat × Rat)} {D : List Rat} {b : Rat × Rat} {d : Rat}, Fits B D → Ins b d → Fits (B ++ [b]) (D ++ [d])
  | [], [], _, _, _, i => ⟨i, True.intro⟩
  | _ :: B, _ :: D, _, _, f, i => ⟨f.1, Fits.snoc f.2 i⟩
  | [], _ :: _, _, _, f, _ => False.elim f
  | _ :: _, [], _, _, f, _ => False.elim f
theorem flat_ex : ∀ {n : Nat} {D : List Rat}, D.length = 2 * n → ∃ ds : List (Rat × Rat), flat ds = D ∧ ds.length = n
  | 0, D, h => ⟨[], (List.eq_nil_of_length_eq_zero (l := D) (by simpa using h)).symm, rfl⟩
  | n + 1, D, h => by
    match D, h with
    | a :: b :: D, h =>
      obtain ⟨ds, e, l⟩ := flat_ex (n := n) (D := D) (by simp at h; omega)
      exact ⟨(a, b) :: ds, by rw [flat, e], by rw [List.length_cons, l]⟩
    | [a], h => simp at h; omega
    | [], h => simp at h
theorem toss_ex {n : Nat} {D : List Rat} (h : D.length = 2 * n + 1) : ∃ q ds, toss q ds = D ∧ ds.length = n := by
  match D, h with
  | q :: D, h =>
    obtain ⟨ds, e, l⟩ := flat_ex (n := n) (D := D) (by simp at h; omega)
    exact ⟨q, ds, by unfold toss; rw [e], l⟩
  | [], h => simp at h
end Dh
namespace WW
open PySem PySem.Spec L2 PySem.W Dh
section
variable {h : RHouse} {H : Hero}
theorem pick_in {n k : Nat} {l : List Rat} {d : Rat} (o : OddsC n l) (hk : k < n) (i : Ins (strI l k) d) : pickI l d = k := by
  have hl := o.1.len
  have nn : ∀ q ∈ l, 0 ≤ q := fun q hq => (o.1.each q hq).1
  have hk' : k < l.length := by omega
  have eq : l[k]? = some (l.getD k 0) := by rw [List.getD_eq_getElem?_getD, List.getElem?_eq_getElem hk']; rfl
  have e : qsum (l.take (k + 1)) = qsum (l.take k) + l.getD k 0 := by rw [take_snoc eq, qsum_snoc]
  refine pickI_some hk' (fun j hj => ?_) (by rw [e]; exact i.2)
  have a := take_le (l := l.take k) (fun q hq => nn q (List.mem_of_mem_take hq)) (j + 1)
  rw [List.take_take, Nat.min_eq_left (by omega)] at a
  have b : qsum (l.take k) ≤ d := i.1
  grind
theorem pick_spec {n : Nat} {l : List Rat} {d : Rat} (o : OddsC n l) (d0 : 0 ≤ d) (d1 : d < 1) : pickI l d < n ∧ Ins (strI l (pickI l d)) d := by
  have hl := o.1.len
  have np := odds_ne o
  unfold pickI
  cases q : (List.range l.length).find? fun k => decide (d < qsum (l.take (k + 1))) with
  | some i =>
    rw [List.find?_range_eq_some] at q
    obtain ⟨q1, q2, q3⟩ := q
    have hi : i < l.length := List.mem_range.mp q2
    have q1 : d < qsum (l.take (i + 1)) := by simpa using q1
    have eq : l[i]? = some (l.getD i 0) := by rw [List.getD_eq_getElem?_getD, List.getElem?_eq_getElem hi]; rfl
    have e : qsum (l.take (i + 1)) = qsum (l.take i) + l.getD i 0 := by rw [take_snoc eq, qsum_snoc]
    refine ⟨by show i < n; omega, ?_, by rw [e] at q1; exact q1⟩
    show qsum (l.take i) ≤ d
    cases i with
    | zero => exact d0
    | succ i =>
      have := q3 i (by omega)
      have := of_decide_eq_false (by simpa using this : decide (d < qsum (l.take (i + 1))) = false)
      grind
  | none =>
    rw [List.find?_eq_none] at q
    have := q (l.length - 1) (List.mem_range.mpr (by omega))
    rw [show l.length - 1 + 1 = l.length by omega, List.take_length, o.1.one] at this
    exact absurd d1 (by simpa using this)
theorem road_in (ok : HouseOk 3 3 3 h 8) (sm : ∀ st ∈ h.stands, ∀ d ∈ st, DSm d) (ho : HeroOk h H) : ∀ {W : List (Nat × Nat × Nat)} {S : Nat} {μ : NT} {ds : List (Rat × Rat)}, WayOk h S W → GS h H S μ → Fits (boxR h H W μ) (flat ds) → roadF h H ds S μ = W
  | [], S, μ, [], _, _, _ => rfl
  | [], S, μ, d :: ds, _, _, f => False.elim f
  | t :: W, S, μ, [], _, _, f => False.elim f
  | t :: W, S, μ, d :: ds, ⟨e, k, w⟩, g, f => by
    subst e
    obtain ⟨co, cl⟩ := deed_odds ok sm k.a k.b
    obtain ⟨g1, g2⟩ := gi_at k
    obtain ⟨f1, f2, f3⟩ := f
    have a1 : stepA H t.1 μ d.1 = t.2.1 := pick_in (GS.odds ho g) k.b f1
    have a2 : stepG h t.1 t.2.1 d.2 = t.2.2 := by
      unfold stepG
      have : pickI ((deedAt h t.1 t.2.1).ch.map (·.2)) d.2 = gi h t := pick_in co g1 f2
      rw [this, List.getD_eq_getElem?_getD, List.getElem?_map]
      rw [List.getD_eq_getElem?_getD] at g2
      have : (deedAt h t.1 t.2.1).ch[gi h t]? = (chD h t)[gi h t]? := rfl
      rw [this]
      rw [List.getElem?_eq_getElem g1] at g2 ⊢
      exact g2
    rw [roadF, a1, a2, road_in ok sm ho w (GS.next ho g k.b k.c) f3]
theorem road_fits (ok : HouseOk 3 3 3 h 8) (sm : ∀ st ∈ h.stands, ∀ d ∈ st, DSm d) (ho : HeroOk h H) : ∀ {ds : List (Rat × Rat)} {S : Nat} {μ : NT}, GS h H S μ → (∀ d ∈ ds, Die d.1 ∧ Die d.2) → Fits (boxR h H (roadF h H ds S μ) μ) (flat ds)
  | [], S, μ, _, _ => True.intro
  | d :: ds, S, μ, g, hd => by
    obtain ⟨d1, d2⟩ := hd d List.mem_cons_self
    obtain ⟨p1, p2⟩ := pick_spec (GS.odds ho g) d1.1 d1.2.1
    have ha := GS.act ok ho g d.1
    obtain ⟨co, cl⟩ := deed_odds ok sm g.hs ha
    obtain ⟨p3, p4⟩ := pick_spec co d2.1 d2.2.1
    obtain ⟨_, q2, q3⟩ := goal_in ok sm g.hs ha d.2
    have dk := deed_in ok g.hs ha
    have eg : gi h (S, stepA H S μ d.1, stepG h S (stepA H S μ d.1) d.2) = pickI ((deedAt h S (stepA H S μ d.1)).ch.map (·.2)) d.2 := gi_uniq dk.ch.asc p3 (by
      show ((deedAt h S (stepA H S μ d.1)).ch.getD _ (0, 0)).1 = stepG h S (stepA H S μ d.1) d.2
      unfold stepG
      rw [List.getD_eq_getElem?_getD, List.getElem?_eq_getElem p3, List.getD_eq_getElem?_getD, List.getElem?_map, List.getElem?_eq_getElem p3]
      rfl)
    rw [roadF, boxR, flat]
    refine ⟨p2, ?_, road_fits ok sm ho (GS.next ho g ha q2) fun e he => hd e (List.mem_cons_of_mem _ he)⟩
    rw [eg]
    exact p4
theorem run_in {st : List Rat} {W : List (Nat × Nat × Nat)} {q : Rat} {ds : List (Rat × Rat)} (ok : HouseOk 3 3 3 h 8) (sm : ∀ st ∈ h.stands, ∀ d ∈ st, DSm d) (ho : HeroOk h H) (o : OddsC h.stands.length st) (r : RoadOk h W) (f : Fits (boxF h H st W) (toss q ds)) : roadF h H ds (pickI st q) (lfirst H (pickI st q)) = W := by
  cases W with
  | nil =>
    cases ds with
    | nil => rfl
    | cons d ds => exact False.elim f.2
  | cons t W =>
    have k := r.1 t List.mem_cons_self
    have w := way_of (st := t.1) r fun u hu => by cases hu; rfl
    have p : pickI st q = t.1 := pick_in o k.a f.1
    rw [p]
    exact road_in ok sm ho w (GS.first ho k.a) f.2
theorem run_fits {st : List Rat} {W : List (Nat × Nat × Nat)} {q : Rat} {ds : List (Rat × Rat)} (ok : HouseOk 3 3 3 h 8) (sm : ∀ st ∈ h.stands, ∀ d ∈ st, DSm d) (ho : HeroOk h H) (o : OddsC h.stands.length st) (hW : W ≠ []) (hq : Die q) (hd : ∀ d ∈ ds, Die d.1 ∧ Die d.2) (e : roadF h H ds (pickI st q) (lfirst H (pickI st q)) = W) : Fits (boxF h H st W) (toss q ds) := by
  obtain ⟨p1, p2⟩ := pick_spec o hq.1 hq.2.1
  have f := road_fits ok sm ho (GS.first (H := H) ho p1) hd
  cases W with
  | nil => exact absurd rfl hW
  | cons t W =>
    have et : t.1 = pickI st q := by
      cases ds with
      | nil => cases e
      | cons d ds =>
        rw [roadF] at e
        have := (List.cons.inj e).1
        rw [← this]
    rw [e] at f
    refine ⟨?_, ?_⟩
    · rw [et]; exact p2
    · rw [← et] at f; exact f
end
end WW
namespace WW
open PySem PySem.Spec L2 PySem.W Dh
section
variable {h : RHouse} {H : Hero} {s : Sto}
theorem e_lroad_box {st : List Rat} {W : List (Nat × Nat × Nat)} (ok : HouseOk 3 3 3 h 8) (sm : ∀ st ∈ h.stands, ∀ d ∈ st, DSm d) (ho : HeroOk h H) (o : OddsC h.stands.length st) (r : RoadOk h W) (hl : W.length ≤ 60) :
    f_law_road_box [.d (pHouse h), .d (pHero H), .d (pQs st), .d (.tuple (W.map pTri))] s = some (.f ((boxF h H st W).map pB), s) := by
  have nN := ok.nN
  have sl := o.1.len
  refine WF.eq (WF.body rfl ?_)
  rcases W with _ | ⟨t, W'⟩
  · simp [m_law_road_box, List.replicate_succ, fEqE_f, boxF, pB_one, sz1, sz2]
  have w0 := way_of (st := t.1) r fun u hu => by cases hu; rfl
  have k0 := r.1 t List.mem_cons_self
  have bF := boxF_cons (h := h) (H := H) (st := st) (W := t :: W') (t := t) rfl
  have a0 : atI ((t :: W').map pTri) 0 = some (pTri t) := atI_getD (f := pTri) (d := t) (l := t :: W') (i := 0) (by simp)
  have ne : ((t :: W').map pTri).isEmpty = false := rfl
  generalize t :: W' = W at *
  have g0 := GS.first (H := H) ho k0.a
  have ept : pTri t = .tuple [.int (t.1 : Nat), .int (t.2.1 : Nat), .int (t.2.2 : Nat)] := rfl
  simp [m_law_road_box, List.replicate_succ, fEqE_f, a0, ne, ept]
  refine WF.of e_lfirst_note ?_
  simp [a0, ept]
  refine WF.of (e_lstretch rowT (oq o) (by omega) (by rw [sl]; exact k0.a)) ?_
  have e0 : PyData.tuple [pQ (qsum (st.take t.1)), pQ (qsum (st.take t.1) + st.getD t.1 0)] = pB (strI st t.1) := rfl
  rw [e0]
  simp [sz1]
  refine WFor_inv pTri W (fun i ρ s' => s' = s ∧ ∃ (acc : List (Rat × Rat)) (S : Nat) (μ : NT) (c6 c7 c8 c9 c10 : Option Cl), ρ = [some (.d (pHouse h)), some (.d (pHero H)), some (.d (pQs st)), some (.d (.tuple (W.map pTri))), some (.d (pNote S μ)), some (.o (acc.map pB)), c6, c7, c8, c9, c10] ∧ GS h H S μ ∧ WayOk h S (W.drop i) ∧ acc ++ boxR h H (W.drop i) μ = boxF h H st W ∧ acc.length = 1 + 2 * i) ⟨rfl, [strI st t.1], t.1, _, none, none, none, none, none, rfl, g0, w0, bF.symm, rfl⟩ ?_ ?_
  · rintro i T ρ s' hT ⟨rfl, acc, S, μ, c6, c7, c8, c9, c10, rfl, g, w, ef, al⟩
    have hi := lt_of hT
    have ed : W.drop i = T :: W.drop (i + 1) := by
      rw [List.drop_eq_getElem_cons hi]
      have := (List.getElem?_eq_some_iff.mp hT).2
      rw [this]
    rw [ed] at w ef
    obtain ⟨eS, k, w⟩ := w
    subst eS
    rw [boxR] at ef
    have es : atI (h.stands.map pStand) (T.1 : Int) = some (pStand (stD h T.1)) := atI_getD k.a
    have edd : atI ((stD h T.1).map pDeed) (T.2.1 : Int) = some (pDeed (deedAt h T.1 T.2.1)) := atI_getD k.b
    have oo := GS.odds ho g
    obtain ⟨co, cl⟩ := deed_odds ok sm k.a k.b
    obtain ⟨g1, g2⟩ := gi_at k
    have t3 := (stand_in ok k.a).2.1
    have ol := oo.1.len
    have nx := e_lnext_note (s := s') (g := T.2.2) ho g.nt k.a k.b (fun p e => Nat.le_trans (g.len p e) (by decide))
    have ech : (deedAt h T.1 T.2.1).ch = chD h T := rfl
    have gii := gi_int k
    rw [ech] at cl co
    have eT : pTri T = .tuple [.int (T.1 : Nat), .int (T.2.1 : Nat), .int (T.2.2 : Nat)] := rfl
    have e1 : PyData.tuple [pQ (qsum ((lodds H T.1 μ).take T.2.1)), pQ (qsum ((lodds H T.1 μ).take T.2.1) + (lodds H T.1 μ).getD T.2.1 0)] = pB (strI (lodds H T.1 μ) T.2.1) := rfl
    simp [eT]
    refine WF.of (e_lnote_odds ho g.nt k.a) ?_
    simp
    refine WF.of (e_lstretch rowT (oq oo) (by omega) (by rw [ol]; exact k.b)) ?_
    rw [e1]
    simp [al, szlt (show 1 + 2 * i ≤ 1000 by omega), pHouse, es, pStand, edd, pDeed, ech]
    refine WLc_map pCh (fun c => pQ c.2) (chD h T) (fun c hc => ?_) ?_
    · simp [pCh]
    refine ⟨szle (by rw [List.length_map]; omega), ?_⟩
    have em : (chD h T).map (fun c => pQ c.2) = ((chD h T).map (·.2)).map pQ := by rw [List.map_map]; rfl
    have gl : gi h T < ((chD h T).map (·.2)).length := by rw [List.length_map]; exact g1
    have hcl : ((chD h T).map (·.2)).length ≤ 3 := by rw [List.length_map]; exact cl
    rw [em]
    have co' : OddsC (chD h T).length ((chD h T).map (·.2)) := co
    generalize (chD h T).map (·.2) = cs at *
    simp
    refine WLc_map pCh (fun c => iN c.1) (chD h T) (fun c hc => ?_) ?_
    · simp [pCh, iN]
    refine ⟨szle (by rw [List.length_map]; omega), ?_⟩
    have e2 : PyData.tuple [pQ (qsum (cs.take (gi h T))), pQ (qsum (cs.take (gi h T)) + cs.getD (gi h T) 0)] = pB (strI cs (gi h T)) := rfl
    simp [intsOf_ch, gii]
    refine WF.of (e_lstretch rowL (oq co') (by omega) gl) ?_
    rw [e2]
    simp [al, szlt (show 1 + 2 * i + 1 ≤ 1000 by omega)]
    refine WF.of nx ?_
    simp
    exact ⟨acc ++ [strI (lodds H T.1 μ) T.2.1, strI cs (gi h T)], _, _, ⟨rfl, by simp⟩, GS.next ho g k.b k.c, w, by rw [← ef]; simp, by simp [al]; omega⟩
  · rintro ρ s' ⟨rfl, acc, S, μ, c6, c7, c8, c9, c10, rfl, g, w, ef, al⟩
    rw [List.drop_length] at ef
    have : acc = boxF h H st W := by rw [← ef]; show acc = acc ++ []; rw [List.append_nil]
    simp [this]
theorem e_way_chance {st : List Rat} {W : List (Nat × Nat × Nat)} (ok : HouseOk 3 3 3 h 8) (sm : ∀ st ∈ h.stands, ∀ d ∈ st, DSm d) (ho : HeroOk h H) (o : OddsC h.stands.length st) (r : RoadOk h W) (hl : W.length ≤ 60) :
    f_way_chance [.d (pHouse h), .d (pQs st), .d (pHero H), .d (.tuple (W.map pTri))] s = some (.d (pQ (vol (boxF h H st W))), s) := by
  refine WF.eq (WF.body rfl ?_)
  simp [m_way_chance]
  refine WF.of (e_check_player ok o ho) ?_
  simp
  refine WF.of (e_check_way ok r hl) ?_
  simp
  exact WF.of (e_chance_by ok sm ho o r hl) (by simp)
theorem e_box_of {st : List Rat} {W : List (Nat × Nat × Nat)} (ok : HouseOk 3 3 3 h 8) (sm : ∀ st ∈ h.stands, ∀ d ∈ st, DSm d) (ho : HeroOk h H) (o : OddsC h.stands.length st) (r : RoadOk h W) (hl : W.length ≤ 60) :
    f_box_of [.d (pHouse h), .d (pQs st), .d (pHero H), .d (.tuple (W.map pTri))] s = some (.d (if vol (boxF h H st W) = 0 then .none else .tuple ((boxF h H st W).map pB)), s) := by
  refine WF.eq (WF.body rfl ?_)
  simp [m_box_of]
  refine WF.of (e_check_player ok o ho) ?_
  simp
  refine WF.of (e_check_way ok r hl) ?_
  simp
  refine WF.of (e_chance_by ok sm ho o r hl) ?_
  have k0 : k_ZERO = pQ 0 := rfl
  by_cases z : vol (boxF h H st W) = 0
  · simp [k0, fEq_pQ, z]
  · simp [k0, fEq_pQ, z]
    exact WF.of (e_box_by ok sm ho o r hl) (by simp)
end
end WW
namespace Dh
open PySem PySem.Spec L2 PySem.W
theorem cut_drop {xs : List PyData} {n : Nat} : cutD xs (some (n : Int)) none = xs.drop n := by
  unfold cutD
  rw [HT.sIx_none, HT.sIx_nat]
  by_cases h : n ≤ xs.length
  · rw [Nat.min_eq_left h, List.take_of_length_le (by rw [List.length_drop]; omega)]
  · rw [Nat.min_eq_right (by omega), List.drop_of_length_le (by omega), List.drop_of_length_le (by omega), List.take_nil]
theorem eqv_pB {a b : Rat × Rat} : PyData.eqv (pB a) (pB b) = (decide (a.1 = b.1) && decide (a.1 + a.2 = b.1 + b.2)) := by
  unfold pB
  simp only [PyData.eqv, PyData.eqvAll, Bool.and_true, eqv_pQ]
def nb (b : Rat × Rat) : Bool := !(decide (b.1 = 0) && decide (b.1 + b.2 = 0 + 1))
theorem fEqN_b0 {xs : List PyData} : fEqN false (.b xs) (.f []) = some (.d (.bool xs.isEmpty)) := rfl
theorem eqOk_pB {b : Rat × Rat} : eqOk (pB b) = true := by
  unfold pB pQ eqOk SeqAt.shaped
  simp [noDict, noDicts, PyData.canLay0, PyData.canLayAll0, PyData.depth, PyData.depthAll]
theorem fEq_pB {a b : Rat × Rat} {neg : Bool} : fEq neg (.d (pB a)) (.d (pB b)) = some (.d (.bool (if neg then !(decide (a.1 = b.1) && decide (a.1 + a.2 = b.1 + b.2)) else (decide (a.1 = b.1) && decide (a.1 + a.2 = b.1 + b.2))))) := by
  have : fEq neg (.d (pB a)) (.d (pB b)) = fEqD neg (.d (pB a)) (.d (pB b)) := rfl
  rw [this]
  unfold fEqD
  simp [eqOk_pB, eqv_pB]
theorem RoadOk.snoc {h : RHouse} {W : List (Nat × Nat × Nat)} {t : Nat × Nat × Nat} (r : RoadOk h W) (k : TriOk h t) (e : ∀ u, W[W.length - 1]? = some u → t.1 = u.2.2) : RoadOk h (W ++ [t]) := by
  refine ⟨fun u hu => ?_, fun i a b h1 h2 => ?_⟩
  · rcases List.mem_append.mp hu with hu | hu
    · exact r.1 u hu
    · rw [List.mem_singleton.mp hu]; exact k
  · have hi := (List.getElem?_eq_some_iff.mp h2).1
    rw [List.length_append, List.length_singleton] at hi
    rw [List.getElem?_append_left (by omega)] at h1
    by_cases q : i + 1 < W.length
    · rw [List.getElem?_append_left q] at h2
      exact r.2 i a b h1 h2
    · rw [List.getElem?_append_right (by omega), show i + 1 - W.length = 0 by omega] at h2
      cases h2
      exact e a (by rw [show W.length - 1 = i by omega]; exact h1)
theorem len_lt {len q : Rat} (hl : 0 < len) (h0 : 0 ≤ q) (h1 : q < 1) : 0 ≤ q * len ∧ q * len < len := by
  have a := Rat.mul_pos (show 0 < 1 - q by grind) hl
  have e : (1 - q) * len = len - q * len := by grind
  exact ⟨Rat.mul_nonneg h0 (Rat.le_of_lt hl), by grind⟩
theorem die_in {b : Rat × Rat} {q : Rat} (k : Bk b) (hl : 0 < b.2) (h0 : 0 ≤ q) (h1 : q < 1) (hq : QLt 31 q) : Ins b (b.1 + q * b.2) ∧ Die (b.1 + q * b.2) := by
  obtain ⟨a1, a2⟩ := len_lt hl h0 h1
  have := k.lo
  have := k.hi
  exact ⟨⟨by grind, by grind⟩, by grind, by grind, (QLt_add k.q1 (QLt_mul hq k.q2)).mono (by omega)⟩
theorem die_low {b : Rat × Rat} {q : Rat} (k : Bk b) (hl : 0 < b.1) (h0 : 0 ≤ q) (h1 : q < 1) (hq : QLt 31 q) : ¬ Ins b (b.1 * q) ∧ Die (b.1 * q) := by
  obtain ⟨a1, a2⟩ := len_lt hl h0 h1
  rw [Rat.mul_comm] at a1 a2
  have := k.hi
  have := k.len
  exact ⟨fun i => by have := i.1; grind, by grind, by grind, (QLt_mul k.q1 hq).mono (by omega)⟩
theorem die_high {b : Rat × Rat} {q : Rat} (k : Bk b) (hl : b.1 + b.2 ≠ 1) (h0 : 0 ≤ q) (h1 : q < 1) (hq : QLt 31 q) : ¬ Ins b (b.1 + b.2 + q * (1 - (b.1 + b.2))) ∧ Die (b.1 + b.2 + q * (1 - (b.1 + b.2))) := by
  have a := k.hi
  have a3 := k.lo
  have a4 := k.len
  obtain ⟨a1, a2⟩ := len_lt (len := 1 - (b.1 + b.2)) (by grind) h0 h1
  have q1 : QLt 1 1 := ⟨by decide, by decide⟩
  have s1 := QLt_add k.q1 k.q2
  have s2 := QLt_sub q1 s1
  refine ⟨fun i => ?_, ?_, ?_, (QLt_add s1 (QLt_mul hq s2)).mono (by omega)⟩
  · have := i.2; grind
  · grind
  · grind
end Dh
namespace WW
open PySem PySem.Spec L2 PySem.W Dh
section
variable {h : RHouse} {H : Hero} {s : Sto}
theorem gp9 : gPow 10 9 = some (.int 1000000000) := by
  show (if _ then _ else _) = _
  rw [if_pos (by decide)]
  rfl
theorem w_free_road {k m : Nat} (ok : HouseOk 3 3 3 h 8) (sm : ∀ st ∈ h.stands, ∀ d ∈ st, DSm d) (hk : k ≤ 5) (v : Vu (m + 11) s) : WF f_law_free_road [.s, .d (pHouse h), .d (.int (k : Nat))] s fun r s' => ∃ W, r = .d (.tuple (W.map pTri)) ∧ RoadOk h W ∧ W.length = k ∧ Vu m s' := by
  have nN := ok.nN
  have n1 := ok.n1
  have r1 : range1 [.d (.int (k : Int))] = some ((List.range k).map fun i => PyData.int (i : Nat)) := range1_nat (by omega)
  refine WF.body rfl ?_
  simp [m_law_free_road, List.replicate_succ, pHouse, r1]
  refine WF.use (w_draw (l := (h.stands.length : Int)) (m := m + 10) v.mono (by omega) (by omega)) ?_
  rintro _ s1 ⟨d, rfl, d0, d1, v1⟩
  obtain ⟨S0, rfl⟩ := Int.eq_ofNat_of_zero_le d0
  simp [r1]
  refine WFor_inv (fun i : Nat => PyData.int i) (List.range k) (fun i ρ s' => ∃ (acc : List (Nat × Nat × Nat)) (S : Nat) (c5 c6 c7 : Option Cl), ρ = [some .s, some (.d (pHouse h)), some (.d (.int (k : Nat))), some (.d (.int (S : Nat))), some (.o (acc.map pTri)), c5, c6, c7] ∧ acc.length = i ∧ S < h.stands.length ∧ RoadOk h acc ∧ (∀ u, acc[acc.length - 1]? = some u → S = u.2.2) ∧ Vu (m + 2 * (k - i)) s') ⟨[], S0, none, none, none, rfl, rfl, by omega, ⟨fun t ht => (nomatch ht), fun i a b h1 => by simp at h1⟩, fun u hu => by simp at hu, v1.mono⟩ ?_ ?_
  · rintro i x ρ s' hx ⟨acc, S, c5, c6, c7, rfl, al, hS, r, e, v⟩
    obtain ⟨rfl, hi⟩ := range_at hx
    have es : atI (h.stands.map pStand) (S : Int) = some (pStand (stD h S)) := atI_getD hS
    obtain ⟨t2, t3, _⟩ := stand_in ok hS
    simp [pHouse, es, pStand]
    refine WF.use (w_draw (l := ((stD h S).length : Int)) (m := m + 2 * (k - (x + 1)) + 1) v.mono (by omega) (by omega)) ?_
    rintro _ s2 ⟨d, rfl, d0, d1, v2⟩
    obtain ⟨A, rfl⟩ := Int.eq_ofNat_of_zero_le d0
    have hA : A < (stD h S).length := by omega
    have edd : atI ((stD h S).map pDeed) (A : Int) = some (pDeed (deedAt h S A)) := atI_getD hA
    obtain ⟨co, cl⟩ := deed_odds ok sm hS hA
    have cn := odds_ne co
    rw [List.length_map] at cn
    simp [es, pStand, edd, pDeed]
    refine WF.use (w_pickT (m := m + 2 * (k - (x + 1))) v2.mono (by rw [List.length_map]; omega) (by rw [List.length_map]; omega)) ?_
    rintro _ s3 ⟨y, hy, rfl, v3⟩
    obtain ⟨c, hc, rfl⟩ := List.mem_map.mp hy
    have dk := deed_in ok hS hA
    simp [pCh, sz3, al, szlt (show x ≤ 1000 by omega)]
    have tk : TriOk h (S, A, c.1) := ⟨hS, hA, (dk.ch.each c hc).1, List.mem_map.mpr ⟨c, hc, rfl⟩⟩
    refine ⟨acc ++ [(S, A, c.1)], c.1, ⟨rfl, by simp [pTri]⟩, by simp [al], (dk.ch.each c hc).1, r.snoc tk e, fun a b g hu => ?_, v3⟩
    rw [List.length_append, List.length_singleton, Nat.add_sub_cancel, List.getElem?_append_right (Nat.le_refl _), Nat.sub_self] at hu
    cases hu
    rfl
  · rintro ρ s' ⟨acc, S, c5, c6, c7, rfl, al, hS, r, e, v⟩
    rw [List.length_range] at al
    simp
    exact ⟨acc, rfl, r, al, v.mono⟩
theorem w_within {B : List (Rat × Rat)} {m : Nat} (hB : ∀ b ∈ B, Bk b) (hp : ∀ b ∈ B, 0 < b.2) (hl : B.length ≤ 11) (v : Vu (m + 11) s) : WF f_law_within [.s, .d (.list (B.map pB))] s fun r s' => ∃ T : List Rat, r = .f (T.map pQ) ∧ Fits B T ∧ (∀ d ∈ T, Die d) ∧ Vu m s' := by
  refine WF.body rfl ?_
  simp [m_law_within, List.replicate_succ]
  refine WFor_inv pB B (fun i ρ s' => ∃ (T : List Rat) (c3 c4 c5 : Option Cl), ρ = [some .s, some (.d (.list (B.map pB))), some (.o (T.map pQ)), c3, c4, c5] ∧ Fits (B.take i) T ∧ (∀ d ∈ T, Die d) ∧ Vu (m + (B.length - i)) s') ⟨[], none, none, none, rfl, True.intro, fun d hd => (nomatch hd), v.mono⟩ ?_ ?_
  · rintro i b ρ s' hb ⟨T, c3, c4, c5, rfl, f, dT, v⟩
    have hi := lt_of hb
    have mb := List.mem_of_getElem? hb
    have kb := hB b mb
    have tl := f.len
    rw [List.length_take, Nat.min_eq_left (by omega)] at tl
    have e : b.1 + b.2 - b.1 = b.2 := by grind
    simp [pB, gp9, sz2, szle (show 5 ≤ 1000 by decide)]
    refine WF.use (w_pickL (m := m + (B.length - (i + 1))) v.mono (by decide) (by decide)) ?_
    rintro _ s2 ⟨y, hy, rfl, v2⟩
    simp only [List.mem_cons, List.not_mem_nil, or_false] at hy
    obtain ⟨q, rfl, q0, q1, qb⟩ : ∃ q : Rat, y = pQ q ∧ 0 ≤ q ∧ q < 1 ∧ QLt 31 q := by
      rcases hy with rfl | rfl | rfl | rfl | rfl
      · exact ⟨⟨0, 1, by decide, by decide⟩, rfl, by decide, by decide, by decide +kernel, by decide +kernel⟩
      · exact ⟨⟨1, 2, by decide, by decide⟩, rfl, by decide, by decide, by decide +kernel, by decide +kernel⟩
      · exact ⟨⟨1, 3, by decide, by decide⟩, rfl, by decide, by decide, by decide +kernel, by decide +kernel⟩
      · exact ⟨⟨999999999, 1000000000, by decide, by decide +kernel⟩, rfl, by decide +kernel, by decide +kernel, by decide +kernel, by decide +kernel⟩
      · exact ⟨⟨0, 1, by decide, by decide⟩, rfl, by decide, by decide, by decide +kernel, by decide +kernel⟩
    simp
    refine WF.of (e_lless ((QLt_add kb.q1 kb.q2).bd) kb.q1.bd) ?_
    rw [e]
    simp
    refine WF.of (e_ltimes qb.bd kb.q2.bd) ?_
    simp
    refine WF.of (e_lplus kb.q1.bd (QLt_mul qb kb.q2).bd) ?_
    obtain ⟨i1, i2⟩ := die_in kb (hp b mb) q0 q1 qb
    simp [← tl, szlt (show i ≤ 1000 by omega)]
    refine ⟨T ++ [b.1 + q * b.2], by simp, ?_, fun d hd => ?_, v2⟩
    · rw [take_snoc hb]
      exact f.snoc i1
    · rcases List.mem_append.mp hd with hd | hd
      · exact dT d hd
      · rw [List.mem_singleton.mp hd]; exact i2
  · rintro ρ s' ⟨T, c3, c4, c5, rfl, f, dT, v⟩
    rw [List.take_length] at f
    simp
    exact ⟨T, rfl, f, dT, v.mono⟩
theorem one_b : (1 : Nat) < 2 ^ 4500 := Nat.one_lt_two_pow (by decide)
theorem w_outside {B : List (Rat × Rat)} {T : List Rat} {m : Nat} (hB : ∀ b ∈ B, Bk b) (f : Fits B T) (hT : ∀ d ∈ T, Die d) (hl : B.length ≤ 11) (v : Vu (m + 4) s) : WF f_law_outside [.s, .d (.list (B.map pB)), .d (.list (T.map pQ))] s fun r s' => ∃ T' : List Rat, (r = .d (.list (T'.map pQ)) ∨ r = .f (T'.map pQ)) ∧ T'.length = T.length ∧ (∀ d ∈ T', Die d) ∧ (T' = T ∨ ¬ Fits B T') ∧ Vu m s' := by
  have fl := f.len
  have r1 : range1 [.d (.int (B.length : Int))] = some ((List.range B.length).map fun i => PyData.int (i : Nat)) := range1_nat (by omega)
  have e01 : PyData.tuple [.tuple [.int 0, .int 1], .tuple [.int 1, .int 1]] = pB (0, 1) := pB_one
  have e11 : PyData.tuple [.int 1, .int 1] = pQ 1 := rfl
  have cut_drop' : ∀ (xs : List PyData) (n : Nat), cutD xs (some ((n : Int) + 1)) none = xs.drop (n + 1) := fun xs n => cut_drop (n := n + 1)
  refine WF.body rfl ?_
  simp [m_law_outside, List.replicate_succ, r1]
  have e01' : ∀ b : Rat × Rat, fEq true (.d (pB b)) (.d (pB (0, 1))) = some (.d (.bool (nb b))) := fun b => fEq_pB
  refine WLc_opt (fun i : Nat => PyData.int i) (fun k => if nb (B.getD k (0, 0)) = true then some (iN k) else none) (List.range B.length) (fun k hk => ?_) ?_
  · have ek : atI (B.map pB) (k : Int) = some (pB (B.getD k (0, 0))) := atI_getD (List.mem_range.mp hk)
    generalize B.getD k (0, 0) = b at *
    simp [ek, sz2, e01, e01']
    cases nb b
    · simp
    · simp [iN]
  rw [fm_iN]
  have pl : ((List.range B.length).filter fun k => nb (B.getD k (0, 0))).length ≤ 11 := Nat.le_trans (List.length_filter_le _ _) (by rw [List.length_range]; omega)
  have pm : ∀ k ∈ (List.range B.length).filter fun k => nb (B.getD k (0, 0)), k < B.length ∧ nb (B.getD k (0, 0)) = true := fun k hk => by
    obtain ⟨a, b⟩ := List.mem_filter.mp hk
    exact ⟨List.mem_range.mp a, by simpa using b⟩
  generalize ((List.range B.length).filter fun k => nb (B.getD k (0, 0))) = ps at *
  refine ⟨szle (by rw [List.length_map]; omega), ?_⟩
  simp [fEqN_b0]
  cases ps with
  | nil =>
    simp
    refine ⟨T, ?_, rfl, hT, .inl rfl, v.mono⟩
    first | exact .inl rfl | rfl | simp
  | cons p0 ps =>
    simp [frzs, frz1]
    refine WF.use (w_pickL (m := m + 3) v.mono (by simp) (by simp at pl ⊢; omega)) ?_
    rintro _ s1 ⟨y, hy, rfl, v1⟩
    obtain ⟨k, hk, rfl⟩ : ∃ k ∈ p0 :: ps, y = iN k := by
      rcases List.mem_cons.mp hy with rfl | hy
      · exact ⟨p0, List.mem_cons_self, rfl⟩
      · obtain ⟨k, hk, rfl⟩ := List.mem_map.mp hy
        exact ⟨k, List.mem_cons_of_mem _ hk, rfl⟩
    clear hy
    obtain ⟨hkl, hnb⟩ := pm k hk
    have ek : atI (B.map pB) (k : Int) = some (pB (B.getD k (0, 0))) := atI_getD hkl
    have eb : B[k]? = some (B.getD k (0, 0)) := by rw [List.getD_eq_getElem?_getD, List.getElem?_eq_getElem hkl]; rfl
    have kb := hB _ (List.mem_of_getElem? eb)
    have tk : k < T.length := by omega
    have out : ∀ d : Rat, ¬ Ins (B.getD k (0, 0)) d → ¬ Fits B (T.set k d) := fun d hn hf => hn (hf.at eb (List.getElem?_set_self tk))
    have each : ∀ d : Rat, Die d → ∀ x ∈ T.set k d, Die x := fun d hd x hx => by
      rcases List.mem_or_eq_of_mem_set hx with hx | rfl
      · exact hT x hx
      · exact hd
    have fin : ∀ d : Rat, List.take k (List.map pQ T) ++ pQ d :: List.drop (k + 1) (List.map pQ T) = (T.set k d).map pQ := fun d => by
      rw [List.set_eq_take_append_cons_drop, if_pos tk]
      simp
    have z1 : ∀ x : PyData, fAdd (.f (List.take k (List.map pQ T))) (.f [x]) = some (.f (List.take k (List.map pQ T) ++ [x])) := fun x => by
      show (if _ then _ else _) = _
      rw [if_pos (szle (by rw [List.length_take, List.length_map, List.length_singleton]; omega))]
    have z2 : ∀ x : PyData, fAdd (.f (List.take k (List.map pQ T) ++ [x])) (.f (List.drop (k + 1) (List.map pQ T))) = some (.f (List.take k (List.map pQ T) ++ x :: List.drop (k + 1) (List.map pQ T))) := fun x => by
      show (if _ then _ else _) = _
      rw [if_pos (szle (by rw [List.length_append, List.length_take, List.length_drop, List.length_map, List.length_singleton]; omega)), List.append_assoc]
      rfl
    generalize B.getD k (0, 0) = b at *
    have epb : pB b = .tuple [pQ b.1, pQ (b.1 + b.2)] := rfl
    simp [iN, ek, epb, sz2, szle (show 3 ≤ 1000 by decide)]
    refine WF.use (w_pickL (m := m + 2) v1.mono (by decide) (by decide)) ?_
    rintro _ s2 ⟨y, hy, rfl, v2⟩
    simp only [List.mem_cons, List.not_mem_nil, or_false] at hy
    obtain ⟨q, rfl, q0, q1, qb⟩ : ∃ q : Rat, y = pQ q ∧ 0 ≤ q ∧ q < 1 ∧ QLt 31 q := by
      rcases hy with rfl | rfl | rfl
      · exact ⟨⟨0, 1, by decide, by decide⟩, rfl, by decide, by decide, by decide +kernel, by decide +kernel⟩
      · exact ⟨⟨1, 2, by decide, by decide⟩, rfl, by decide, by decide, by decide +kernel, by decide +kernel⟩
      · exact ⟨⟨999, 1000, by decide, by decide⟩, rfl, by decide, by decide, by decide +kernel, by decide +kernel⟩
    clear hy
    simp [ix_num]
    by_cases hlo : 0 < b.1
    · have hlo' := num_pos_iff.mpr hlo
      simp [hlo', sz2, e11, fEq_pQ]
      by_cases HH : b.1 + b.2 = 1
      · simp [HH]
        simp [gp9, sz2, szle (show 3 ≤ 1000 by decide)]
        refine WF.use (w_pickL (m := m) v2.mono (by decide) (by decide)) ?_
        rintro _ s6 ⟨y, hy, rfl, v6⟩
        simp only [List.mem_cons, List.not_mem_nil, or_false] at hy
        obtain ⟨p, rfl, p0, p1, pb⟩ : ∃ q : Rat, y = pQ q ∧ 0 ≤ q ∧ q < 1 ∧ QLt 31 q := by
          rcases hy with rfl | rfl | rfl
          · exact ⟨⟨0, 1, by decide, by decide⟩, rfl, by decide, by decide, by decide +kernel, by decide +kernel⟩
          · exact ⟨⟨1, 2, by decide, by decide⟩, rfl, by decide, by decide, by decide +kernel, by decide +kernel⟩
          · exact ⟨⟨999999999, 1000000000, by decide, by decide +kernel⟩, rfl, by decide +kernel, by decide +kernel, by decide +kernel, by decide +kernel⟩
        simp
        refine WF.of (e_ltimes kb.q1.bd pb.bd) ?_
        obtain ⟨j1, j2⟩ := die_low kb hlo p0 p1 pb
        simp [fSl, cut_to, cut_drop', sz1, z1, z2]
        exact ⟨_, fin _, by simp, each _ j2, .inr (out _ j1), v6.mono⟩
      · simp [HH]
        refine WF.use (w_draw (l := 2) (m := m + 1) v2.mono (by decide) (by decide)) ?_
        rintro _ s3 ⟨t, rfl, _, _, v3⟩
        simp [fEq_int]
        by_cases ht : t = 0
        · simp [ht]
          simp [gp9, sz2, szle (show 3 ≤ 1000 by decide)]
          refine WF.use (w_pickL (m := m) v3.mono (by decide) (by decide)) ?_
          rintro _ s6 ⟨y, hy, rfl, v6⟩
          simp only [List.mem_cons, List.not_mem_nil, or_false] at hy
          obtain ⟨p, rfl, p0, p1, pb⟩ : ∃ q : Rat, y = pQ q ∧ 0 ≤ q ∧ q < 1 ∧ QLt 31 q := by
            rcases hy with rfl | rfl | rfl
            · exact ⟨⟨0, 1, by decide, by decide⟩, rfl, by decide, by decide, by decide +kernel, by decide +kernel⟩
            · exact ⟨⟨1, 2, by decide, by decide⟩, rfl, by decide, by decide, by decide +kernel, by decide +kernel⟩
            · exact ⟨⟨999999999, 1000000000, by decide, by decide +kernel⟩, rfl, by decide +kernel, by decide +kernel, by decide +kernel, by decide +kernel⟩
          simp
          refine WF.of (e_ltimes kb.q1.bd pb.bd) ?_
          obtain ⟨j1, j2⟩ := die_low kb hlo p0 p1 pb
          simp [fSl, cut_to, cut_drop', sz1, z1, z2]
          exact ⟨_, fin _, by simp, each _ j2, .inr (out _ j1), v6.mono⟩
        · simp [ht]
          simp [e11, sz2]
          refine WF.of (e_lless (p := 1) (show QLt 4500 1 from ⟨one_b, one_b⟩) ((QLt_add kb.q1 kb.q2).bd)) ?_
          simp
          refine WF.of (e_ltimes qb.bd ((QLt_sub (show QLt 1 1 from ⟨by decide, by decide⟩) (QLt_add kb.q1 kb.q2)).bd)) ?_
          simp
          refine WF.of (e_lplus ((QLt_add kb.q1 kb.q2).bd) ((QLt_mul qb (QLt_sub (show QLt 1 1 from ⟨by decide, by decide⟩) (QLt_add kb.q1 kb.q2))).bd)) ?_
          obtain ⟨j1, j2⟩ := die_high kb HH q0 q1 qb
          simp [fSl, cut_to, cut_drop', sz1, z1, z2]
          exact ⟨_, fin _, by simp, each _ j2, .inr (out _ j1), v3.mono⟩
    · have hlo' : ¬ 0 < b.1.num := fun z => hlo (num_pos_iff.mp z)
      have HH : b.1 + b.2 ≠ 1 := fun z => by
        have b0 : b.1 = 0 := by have := kb.lo; grind
        have : nb b = false := by
          unfold nb
          rw [decide_eq_true b0, decide_eq_true (show b.1 + b.2 = 0 + 1 by rw [z, Rat.zero_add])]; rfl
        rw [this] at hnb
        cases hnb
      simp [hlo']
      simp [e11, sz2]
      refine WF.of (e_lless (p := 1) (show QLt 4500 1 from ⟨one_b, one_b⟩) ((QLt_add kb.q1 kb.q2).bd)) ?_
      simp
      refine WF.of (e_ltimes qb.bd ((QLt_sub (show QLt 1 1 from ⟨by decide, by decide⟩) (QLt_add kb.q1 kb.q2)).bd)) ?_
      simp
      refine WF.of (e_lplus ((QLt_add kb.q1 kb.q2).bd) ((QLt_mul qb (QLt_sub (show QLt 1 1 from ⟨by decide, by decide⟩) (QLt_add kb.q1 kb.q2))).bd)) ?_
      obtain ⟨j1, j2⟩ := die_high kb HH q0 q1 qb
      simp [fSl, cut_to, cut_drop', sz1, z1, z2]
      exact ⟨_, fin _, by simp, each _ j2, .inr (out _ j1), v2.mono⟩
end
end WW
namespace Dh
open PySem PySem.Spec L2 PySem.W
theorem fEq_strs {a : Str} {neg : Bool} : fEq neg (.d (.str a)) (.d (.str a)) = some (.d (.bool (!neg))) := by
  show some (R.d (.bool (if neg then !(a == a) else a == a))) = _
  rw [beq_self_eq_true]
  cases neg <;> rfl
theorem Pn.str {B : Nat} {t : Str} {w : Nat} (h : PyData.canLay0 (.str t) = true) (h2 : PyData.leavesShort (B + 1) (.str t) = true) (h3 : t.cps.size ≤ w) : Pn B 0 w (.str t) where
  nd := rfl
  lay := h
  dep := Nat.le_refl _
  sh := rfl
  short := h2
  wt := h3
theorem pn_two {B k w : Nat} {x y : PyData} (hx : Pn B k w x) (hy : Pn B k w y) : Pn B (k + 1) (2 * (w + 1)) (.tuple [x, y]) := Pn.tup (fun z hz => by
  simp only [List.mem_cons, List.not_mem_nil, or_false] at hz
  rcases hz with rfl | rfl
  · exact hx
  · exact hy) (by simp)
theorem pn_three {B k w : Nat} {x y z : PyData} (hx : Pn B k w x) (hy : Pn B k w y) (hz : Pn B k w z) : Pn B (k + 1) (3 * (w + 1)) (.tuple [x, y, z]) := Pn.tup (fun t ht => by
  simp only [List.mem_cons, List.not_mem_nil, or_false] at ht
  rcases ht with rfl | rfl | rfl
  · exact hx
  · exact hy
  · exact hz) (by simp)
theorem pn_nat {n : Nat} (h : n ≤ 1000 := by omega) : Pn 300 0 0 (.int (n : Nat)) := Pn.int0 (by decide) (by decide) (by
  rw [Int.natAbs_natCast]
  exact Nat.lt_of_lt_of_le (show n < 2 ^ 10 by omega) (Nat.pow_le_pow_right (by decide) (by decide)))
theorem pn_map {α : Type} {B k w n : Nat} {f : α → PyData} {l : List α} (h : ∀ x ∈ l, Pn B k w (f x)) (hn : l.length ≤ n) : Pn B (k + 1) (n * (w + 1)) (.tuple (l.map f)) := Pn.tup (fun x hx => by
  obtain ⟨y, hy, rfl⟩ := List.mem_map.mp hx
  exact h y hy) (by rw [List.length_map]; exact hn)
theorem pn_q {k : Nat} {q : Rat} (h : QLt k q) (hk : k ≤ 300 := by omega) : Pn 300 1 2 (pQ q) := Pn.q0 (by decide) (by decide) (h.mono hk)
theorem pn_qs {k n : Nat} {l : List Rat} (h : ∀ q ∈ l, QLt k q) (hn : l.length ≤ n) (hk : k ≤ 300 := by omega) : Pn 300 2 (n * 3) (pQs l) := Pn.qs0 (by decide) (by decide) (fun q hq => (h q hq).mono hk) hn
theorem eqvAll_map {α : Type} [DecidableEq α] {f : α → PyData} (hf : ∀ a b, PyData.eqv (f a) (f b) = decide (a = b)) : ∀ {l m : List α}, PyData.eqvAll (l.map f) (m.map f) = decide (l = m)
  | [], [] => by simp [PyData.eqvAll]
  | [], _ :: _ => by simp [PyData.eqvAll]
  | _ :: _, [] => by simp [PyData.eqvAll]
  | x :: p, y :: q => by
    rw [List.map_cons, List.map_cons]
    simp only [PyData.eqvAll, hf]
    rw [eqvAll_map hf (l := p) (m := q)]
    by_cases e : x = y
    · by_cases e2 : p = q
      · simp [e, e2]
      · simp [e, e2]
    · simp [e]
theorem eqv_pTri (a b : Nat × Nat × Nat) : PyData.eqv (pTri a) (pTri b) = decide (a = b) := by
  obtain ⟨a1, a2, a3⟩ := a
  obtain ⟨b1, b2, b3⟩ := b
  unfold pTri
  simp only [PyData.eqv, PyData.eqvAll, eqv_int, Bool.and_true]
  rw [Bool.eq_iff_iff]
  simp
  omega
theorem fEq_map {α : Type} [DecidableEq α] {f : α → PyData} {l m : List α} {neg : Bool} (hf : ∀ a b, PyData.eqv (f a) (f b) = decide (a = b)) (h1 : eqOk (.tuple (l.map f)) = true) (h2 : eqOk (.tuple (m.map f)) = true) : fEq neg (.d (.tuple (l.map f))) (.d (.tuple (m.map f))) = some (.d (.bool (if neg then !decide (l = m) else decide (l = m)))) := by
  show (if eqOk (.tuple (l.map f)) = true ∧ eqOk (.tuple (m.map f)) = true then some (R.d (.bool (if neg then !PyData.eqv (.tuple (l.map f)) (.tuple (m.map f)) else PyData.eqv (.tuple (l.map f)) (.tuple (m.map f))))) else none) = _
  rw [if_pos ⟨h1, h2⟩, show PyData.eqv (.tuple (l.map f)) (.tuple (m.map f)) = PyData.eqvAll (l.map f) (m.map f) by simp only [PyData.eqv], eqvAll_map hf]
end Dh
namespace WW
open PySem PySem.Spec L2 PySem.W Dh
section
variable {h : RHouse} {H : Hero}
theorem rp_road {W : List (Nat × Nat × Nat)} (ok : HouseOk 3 3 3 h 8) (r : RoadOk h W) (hl : W.length ≤ 60) : fRepr [.d (.tuple (W.map pTri))] = some (.d (.str (PyData.shown (.tuple (W.map pTri))))) := by
  have nN := ok.nN
  have g : Pn 300 2 240 (.tuple (W.map pTri)) := pn_map (k := 1) (w := 3) (n := 60) (fun t ht => by
    obtain ⟨a, b, c, _⟩ := r.1 t ht
    have := (stand_in ok a).2.1
    exact pn_three (pn_nat (n := t.1)) (pn_nat (n := t.2.1)) (pn_nat (n := t.2.2))) hl
  exact g.repr rfl rfl (by decide) (by decide) (by decide)
theorem roadF_len : ∀ (ds : List (Rat × Rat)) (st : Nat) (μ : NT), (roadF h H ds st μ).length = ds.length
  | [], _, _ => rfl
  | d :: ds, st, μ => by rw [roadF, List.length_cons, roadF_len ds, List.length_cons]
theorem pn_road {W : List (Nat × Nat × Nat)} (ok : HouseOk 3 3 3 h 8) (r : RoadOk h W) (hl : W.length ≤ 60) : Pn 300 2 240 (.tuple (W.map pTri)) := by
  have nN := ok.nN
  exact pn_map (k := 1) (w := 3) (n := 60) (fun t ht => by
    obtain ⟨a, b, c, _⟩ := r.1 t ht
    have := (stand_in ok a).2.1
    exact pn_three (pn_nat (n := t.1)) (pn_nat (n := t.2.1)) (pn_nat (n := t.2.2))) hl
theorem rp_box {B : List (Rat × Rat)} (hB : ∀ b ∈ B, Bk b) (hl : B.length ≤ 11) : fRepr [.d (.tuple (B.map pB))] = some (.d (.str (PyData.shown (.tuple (B.map pB))))) := by
  have g : Pn 300 3 77 (.tuple (B.map pB)) := pn_map (k := 2) (w := 6) (n := 11) (fun b hb => pn_two (pn_q (hB b hb).q1) (pn_q (QLt_add (hB b hb).q1 (hB b hb).q2))) hl
  exact g.repr rfl rfl (by decide) (by decide) (by decide)
theorem rp_q {q : Rat} (hq : QLt 111 q) : fRepr [.d (pQ q)] = some (.d (.str (PyData.shown (pQ q)))) := (pn_q hq).repr rfl rfl (by decide) (by decide) (by decide)
theorem boxF_len {st : List Rat} {W : List (Nat × Nat × Nat)} : (boxF h H st W).length = 2 * W.length + 1 := by
  cases W with
  | nil => rfl
  | cons t W => show (strI st t.1 :: boxR h H (t :: W) (lfirst H t.1)).length = _; rw [List.length_cons, boxR_len]
theorem dice_of {T : List Rat} {q : Rat} {ds : List (Rat × Rat)} (e : toss q ds = T) (hT : ∀ d ∈ T, Die d) : Die q ∧ ∀ d ∈ ds, Die d.1 ∧ Die d.2 := by
  subst e
  refine ⟨hT q List.mem_cons_self, fun d hd => ?_⟩
  have key : ∀ ds : List (Rat × Rat), d ∈ ds → d.1 ∈ flat ds ∧ d.2 ∈ flat ds := by
    intro ds
    induction ds with
    | nil => intro h; cases h
    | cons c ds ih =>
      intro h
      rw [flat]
      rcases List.mem_cons.mp h with rfl | h
      · exact ⟨List.mem_cons_self, List.mem_cons_of_mem _ List.mem_cons_self⟩
      · obtain ⟨a, b⟩ := ih h
        exact ⟨List.mem_cons_of_mem _ (List.mem_cons_of_mem _ a), List.mem_cons_of_mem _ (List.mem_cons_of_mem _ b)⟩
  obtain ⟨a, b⟩ := key ds hd
  exact ⟨hT _ (List.mem_cons_of_mem _ a), hT _ (List.mem_cons_of_mem _ b)⟩
theorem pn_dice {T : List Rat} (hT : ∀ d ∈ T, Die d) (hl : T.length ≤ 200) : Pn 300 2 600 (.tuple (T.map pQ)) := pn_qs (n := 200) (fun x hx => (hT x hx).2.2) hl
theorem w_right {s : Sto} (v : Vu 2000 s) : WF f_law_is_right [.s] s fun r _ => r = .d (.bool true) := by
  refine WF.body rfl ?_
  simp [m_law_is_right, List.replicate_succ]
  refine WF.use (w_hall (p := 1) (m := 1600) (by decide) (by decide) v.mono) ?_
  rintro _ s2 ⟨h, rfl, hp, ok, sm, v2⟩
  have nN := ok.nN
  have n1 := ok.n1
  simp
  refine WF.use (w_hero (m := 1400) ok v2.mono) ?_
  rintro _ s3 ⟨H, rfl, ho, v3⟩
  simp [pHouse]
  refine WF.use (w_odds (m := 1300) n1 (by omega) v3.mono) ?_
  rintro _ s4 ⟨st, rfl, o, v4⟩
  simp [szle (show 7 ≤ 1000 by decide)]
  refine WF.use (w_pickL (m := 1200) v4.mono (by decide) (by decide)) ?_
  rintro _ s5 ⟨y, hy, rfl, v5⟩
  obtain ⟨k, rfl, hk⟩ : ∃ k : Nat, y = .int (k : Nat) ∧ k ≤ 5 := by
    simp only [List.mem_cons, List.not_mem_nil, or_false] at hy
    rcases hy with rfl | rfl | rfl | rfl | rfl | rfl | rfl
    · exact ⟨0, rfl, by decide⟩
    · exact ⟨1, rfl, by decide⟩
    · exact ⟨1, rfl, by decide⟩
    · exact ⟨2, rfl, by decide⟩
    · exact ⟨3, rfl, by decide⟩
    · exact ⟨4, rfl, by decide⟩
    · exact ⟨5, rfl, by decide⟩
  clear hy
  have fold : PyData.tuple [pQ h.share, .int (h.pays : Nat), .tuple (h.stands.map pStand)] = pHouse h := rfl
  simp only [fold]
  simp
  refine WF.use (w_free_road (m := 1100) ok sm hk v5.mono) ?_
  rintro _ s6 ⟨W, rfl, ro, wl, v6⟩
  simp
  refine WF.use (w_draw (l := 4) (m := 1000) v6.mono (by decide) (by decide)) ?_
  rintro _ s7 ⟨d, rfl, _, _, v7⟩
  by_cases hd0 : 0 < d
  · simp [hd0]
    refine WF.use (w_thrown (m := 100) ok sm ho o (by omega) v7.mono) ?_
    rintro _ s77 ⟨q, ds, rfl, dl, hq, hd, v77⟩
    have hk' : ds.length ≤ 60 := by omega
    have p0 := pickI_lt (d := q) (odds_ne o)
    rw [o.1.len] at p0
    have g0 := GS.first (H := H) ho p0
    obtain ⟨ro1, _⟩ := road_ok ok sm ho ds _ _ g0
    have wl1 := roadF_len (h := h) (H := H) ds (pickI st q) (lfirst H (pickI st q))
    have e1 := fun s => e_followed (s := s) ok sm ho o hk' hq hd
    generalize roadF h H ds (pickI st q) (lfirst H (pickI st q)) = W1 at *
    simp
    refine WF.of (e1 _) ?_
    have hB := box_ok1 ok sm ho o ro1
    have bl : (boxF h H st W1).length = 2 * W1.length + 1 := boxF_len
    have eB := fun s => e_lroad_box (s := s) ok sm ho o ro1 (by omega)
    have eC := fun s => e_way_chance (s := s) ok sm ho o ro1 (by omega)
    have eX := fun s => e_box_of (s := s) ok sm ho o ro1 (by omega)
    have eR := fun (q : Rat) (ds : List (Rat × Rat)) s (a : ds.length ≤ 60) (b : Die q) (c : ∀ d ∈ ds, Die d.1 ∧ Die d.2) => e_run (s := s) ok sm ho o a b c
    have eF := fun (q : Rat) (ds : List (Rat × Rat)) s (a : ds.length ≤ 60) (b : Die q) (c : ∀ d ∈ ds, Die d.1 ∧ Die d.2) => e_followed (s := s) ok sm ho o a b c
    have rin := fun (q : Rat) (ds : List (Rat × Rat)) (f : Fits (boxF h H st W1) (toss q ds)) => run_in ok sm ho o ro1 f
    have rout := fun (q : Rat) (ds : List (Rat × Rat)) (a : W1 ≠ []) (b : Die q) (c : ∀ d ∈ ds, Die d.1 ∧ Die d.2) e => run_fits (W := W1) ok sm ho o a b c e
    have rW := fReprN_of (rp_road ok ro1 (by omega))
    have vlt : QLt 111 (vol (boxF h H st W1)) := (vol_lt hB).mono (by omega)
    have rV := fReprN_of (rp_q vlt)
    have rB := fReprN_of (rp_box hB (by omega))
    have vn := vol_nn hB
    have vp := vol_pos hB
    have eVol := fun s => e_volume (s := s) hB (by omega)
    have owl : eqOk (.tuple (W1.map pTri)) = true := (pn_road ok ro1 (by omega)).eqOk (by decide)
    generalize boxF h H st W1 = B at *
    try simp
    refine WF.of (eB _) ?_
    simp [frzs, frz1]
    refine WF.of (eVol _) ?_
    simp [ix_num]
    by_cases hv : 0 < vol B
    · have hv' := num_pos_iff.mpr hv
      have v0 : vol B ≠ 0 := fun z => by rw [z] at hv; exact absurd hv (by decide)
      simp [hv']
      refine WF.of (eC _) ?_
      simp [rV, fEq_strs]
      refine WF.of (eX _) ?_
      simp [v0, rB, fEq_strs, fIs_tn, frzs, frz1]
      refine WF.use (w_within (m := 20) hB (vp hv) (by omega) v77.mono) ?_
      rintro _ s8 ⟨T, rfl, fT, dT, v8⟩
      have tl := fT.len
      obtain ⟨q2, ds2, eT, dl2⟩ := toss_ex (n := W1.length) (D := T) (by omega)
      obtain ⟨hq2, hd2⟩ := dice_of eT dT
      have e1 := eR q2 ds2 s8 (by omega) hq2 hd2
      have e2 : roadF h H ds2 (pickI st q2) (lfirst H (pickI st q2)) = W1 := rin q2 ds2 (by rw [eT]; exact fT)
      rw [e2, eT] at e1
      unfold pQs at e1
      simp
      refine WF.of e1 ?_
      simp [rW, fEq_strs, fEqE_f]
      by_cases hW : W1 = []
      · simp [hW]
      · have hW' : W1.isEmpty = false := by
          cases W1 with
          | nil => exact absurd rfl hW
          | cons t W1 => rfl
        rw [hW']
        simp [frzs, frz1]
        refine WF.use (w_outside (m := 5) hB fT dT (by omega) v8.mono) ?_
        rintro r9 s9 ⟨T', rr, tl', dT', out, v9⟩
        obtain ⟨q3, ds3, eT3, dl3⟩ := toss_ex (n := W1.length) (D := T') (by omega)
        obtain ⟨hq3, hd3⟩ := dice_of eT3 dT'
        have e3 := fun s => eR q3 ds3 s (by omega) hq3 hd3
        have e4 := fun s => eF q3 ds3 s (by omega) hq3 hd3
        have ro3 : RoadOk h (roadF h H ds3 (pickI st q3) (lfirst H (pickI st q3))) := by
          have p3 := (pick_spec o hq3.1 hq3.2.1).1
          exact (road_ok ok sm ho ds3 _ _ (GS.first (H := H) ho p3)).1
        have l3 := roadF_len (h := h) (H := H) ds3 (pickI st q3) (lfirst H (pickI st q3))
        have key : roadF h H ds3 (pickI st q3) (lfirst H (pickI st q3)) = W1 → T' = T := fun e => by
          have f3 := rout q3 ds3 hW hq3 hd3 e
          rw [eT3] at f3
          rcases out with out | out
          · exact out
          · exact absurd f3 out
        generalize roadF h H ds3 (pickI st q3) (lfirst H (pickI st q3)) = V at *
        have rV3 := fReprN_of (rp_road ok ro3 (by omega))
        have ovl : eqOk (.tuple (V.map pTri)) = true := (pn_road ok ro3 (by omega)).eqOk (by decide)
        have oT : eqOk (.tuple (T.map pQ)) = true := (pn_dice dT (by omega)).eqOk (by decide)
        have oT' : eqOk (.tuple (T'.map pQ)) = true := (pn_dice dT' (by omega)).eqOk (by decide)
        have q1 : fEq true (.d (.tuple (V.map pTri))) (.d (.tuple (W1.map pTri))) = some (.d (.bool (!decide (V = W1)))) := fEq_map eqv_pTri ovl owl
        have q2 : fEq false (.d (.tuple (T'.map pQ))) (.d (.tuple (T.map pQ))) = some (.d (.bool (decide (T' = T)))) := fEq_map (fun _ _ => eqv_pQ) oT' oT
        rw [eT3] at e3 e4
        unfold pQs at e3 e4
        have tup : fTupOf [r9] = some (.d (.tuple (T'.map pQ))) := by
          rcases rr with rfl | rfl <;> rfl
        try simp [tup]
        refine WF.of (e3 _) ?_
        simp [rV3]
        refine WF.of (e4 _) ?_
        simp [rV3, fEq_strs, q1]
        by_cases eV : V = W1
        · have q0 : fEq false (.d (.tuple (T.map pQ))) (.d (.tuple (T.map pQ))) = some (.d (.bool true)) := by
            rw [fEq_map (fun _ _ => eqv_pQ) oT oT]; simp
          simp [eV, key eV, q0]
        · simp [eV]
    · have hv' : ¬ 0 < (vol B).num := fun z => hv (num_pos_iff.mp z)
      have v0 : vol B = 0 := by grind
      simp [hv']
      refine WF.of (eC _) ?_
      simp [rV, fEq_strs]
      refine WF.of (eX _) ?_
      simp [v0, fReprN_none, fEq_strs, fIs_nn]
      refine WF.of (eX _) ?_
      simp [v0, fReprN_none]
      have eN : fEq false (.d (.str noneT)) (.d (.str (Str.ofString "None"))) = some (.d (.bool true)) := fEq_strs
      simp [eN]
  · simp [hd0]
    have hB := box_ok1 ok sm ho o ro
    have bl : (boxF h H st W).length = 2 * W.length + 1 := boxF_len
    have eB := fun s => e_lroad_box (s := s) ok sm ho o ro (by omega)
    have eC := fun s => e_way_chance (s := s) ok sm ho o ro (by omega)
    have eX := fun s => e_box_of (s := s) ok sm ho o ro (by omega)
    have eR := fun (q : Rat) (ds : List (Rat × Rat)) s (a : ds.length ≤ 60) (b : Die q) (c : ∀ d ∈ ds, Die d.1 ∧ Die d.2) => e_run (s := s) ok sm ho o a b c
    have eF := fun (q : Rat) (ds : List (Rat × Rat)) s (a : ds.length ≤ 60) (b : Die q) (c : ∀ d ∈ ds, Die d.1 ∧ Die d.2) => e_followed (s := s) ok sm ho o a b c
    have rin := fun (q : Rat) (ds : List (Rat × Rat)) (f : Fits (boxF h H st W) (toss q ds)) => run_in ok sm ho o ro f
    have rout := fun (q : Rat) (ds : List (Rat × Rat)) (a : W ≠ []) (b : Die q) (c : ∀ d ∈ ds, Die d.1 ∧ Die d.2) e => run_fits (W := W) ok sm ho o a b c e
    have rW := fReprN_of (rp_road ok ro (by omega))
    have vlt : QLt 111 (vol (boxF h H st W)) := (vol_lt hB).mono (by omega)
    have rV := fReprN_of (rp_q vlt)
    have rB := fReprN_of (rp_box hB (by omega))
    have vn := vol_nn hB
    have vp := vol_pos hB
    have eVol := fun s => e_volume (s := s) hB (by omega)
    have owl : eqOk (.tuple (W.map pTri)) = true := (pn_road ok ro (by omega)).eqOk (by decide)
    generalize boxF h H st W = B at *
    try simp
    refine WF.of (eB _) ?_
    simp [frzs, frz1]
    refine WF.of (eVol _) ?_
    simp [ix_num]
    by_cases hv : 0 < vol B
    · have hv' := num_pos_iff.mpr hv
      have v0 : vol B ≠ 0 := fun z => by rw [z] at hv; exact absurd hv (by decide)
      simp [hv']
      refine WF.of (eC _) ?_
      simp [rV, fEq_strs]
      refine WF.of (eX _) ?_
      simp [v0, rB, fEq_strs, fIs_tn, frzs, frz1]
      refine WF.use (w_within (m := 20) hB (vp hv) (by omega) v7.mono) ?_
      rintro _ s8 ⟨T, rfl, fT, dT, v8⟩
      have tl := fT.len
      obtain ⟨q2, ds2, eT, dl2⟩ := toss_ex (n := W.length) (D := T) (by omega)
      obtain ⟨hq2, hd2⟩ := dice_of eT dT
      have e1 := eR q2 ds2 s8 (by omega) hq2 hd2
      have e2 : roadF h H ds2 (pickI st q2) (lfirst H (pickI st q2)) = W := rin q2 ds2 (by rw [eT]; exact fT)
      rw [e2, eT] at e1
      unfold pQs at e1
      simp
      refine WF.of e1 ?_
      simp [rW, fEq_strs, fEqE_f]
      by_cases hW : W = []
      · simp [hW]
      · have hW' : W.isEmpty = false := by
          cases W with
          | nil => exact absurd rfl hW
          | cons t W => rfl
        rw [hW']
        simp [frzs, frz1]
        refine WF.use (w_outside (m := 5) hB fT dT (by omega) v8.mono) ?_
        rintro r9 s9 ⟨T', rr, tl', dT', out, v9⟩
        obtain ⟨q3, ds3, eT3, dl3⟩ := toss_ex (n := W.length) (D := T') (by omega)
        obtain ⟨hq3, hd3⟩ := dice_of eT3 dT'
        have e3 := fun s => eR q3 ds3 s (by omega) hq3 hd3
        have e4 := fun s => eF q3 ds3 s (by omega) hq3 hd3
        have ro3 : RoadOk h (roadF h H ds3 (pickI st q3) (lfirst H (pickI st q3))) := by
          have p3 := (pick_spec o hq3.1 hq3.2.1).1
          exact (road_ok ok sm ho ds3 _ _ (GS.first (H := H) ho p3)).1
        have l3 := roadF_len (h := h) (H := H) ds3 (pickI st q3) (lfirst H (pickI st q3))
        have key : roadF h H ds3 (pickI st q3) (lfirst H (pickI st q3)) = W → T' = T := fun e => by
          have f3 := rout q3 ds3 hW hq3 hd3 e
          rw [eT3] at f3
          rcases out with out | out
          · exact out
          · exact absurd f3 out
        generalize roadF h H ds3 (pickI st q3) (lfirst H (pickI st q3)) = V at *
        have rV3 := fReprN_of (rp_road ok ro3 (by omega))
        have ovl : eqOk (.tuple (V.map pTri)) = true := (pn_road ok ro3 (by omega)).eqOk (by decide)
        have oT : eqOk (.tuple (T.map pQ)) = true := (pn_dice dT (by omega)).eqOk (by decide)
        have oT' : eqOk (.tuple (T'.map pQ)) = true := (pn_dice dT' (by omega)).eqOk (by decide)
        have q1 : fEq true (.d (.tuple (V.map pTri))) (.d (.tuple (W.map pTri))) = some (.d (.bool (!decide (V = W)))) := fEq_map eqv_pTri ovl owl
        have q2 : fEq false (.d (.tuple (T'.map pQ))) (.d (.tuple (T.map pQ))) = some (.d (.bool (decide (T' = T)))) := fEq_map (fun _ _ => eqv_pQ) oT' oT
        rw [eT3] at e3 e4
        unfold pQs at e3 e4
        have tup : fTupOf [r9] = some (.d (.tuple (T'.map pQ))) := by
          rcases rr with rfl | rfl <;> rfl
        try simp [tup]
        refine WF.of (e3 _) ?_
        simp [rV3]
        refine WF.of (e4 _) ?_
        simp [rV3, fEq_strs, q1]
        by_cases eV : V = W
        · have q0 : fEq false (.d (.tuple (T.map pQ))) (.d (.tuple (T.map pQ))) = some (.d (.bool true)) := by
            rw [fEq_map (fun _ _ => eqv_pQ) oT oT]; simp
          simp [eV, key eV, q0]
        · simp [eV]
    · have hv' : ¬ 0 < (vol B).num := fun z => hv (num_pos_iff.mp z)
      have v0 : vol B = 0 := by grind
      simp [hv']
      refine WF.of (eC _) ?_
      simp [rV, fEq_strs]
      refine WF.of (eX _) ?_
      simp [v0, fReprN_none, fEq_strs, fIs_nn]
      refine WF.of (eX _) ?_
      simp [v0, fReprN_none]
      have eN : fEq false (.d (.str noneT)) (.d (.str (Str.ofString "None"))) = some (.d (.bool true)) := fEq_strs
      simp [eN]
end
theorem w_urn {ns : List Int} {l : Nat} (hl : l ≤ 100) {s : Sto} : WF f_law_urn [.d (.list (ns.map .int)), .d (.int (l : Int))] s fun r s' => s' = s ∧ ∃ a b : Int, r = .f [.int a, .int b, .int 0] ∧ 0 ≤ b ∧ b < 2147483587 := by
  have q : mulOk 331 (l : Int) = true := mulOk_of (a := 9) (b := 7) (by decide) (by omega) (by decide)
  have key : ∀ (x c : Int), 0 ≤ x → x < 2147483587 → mulOk x 52361 = true ∧ 0 ≤ (x * 52361 + c % 2147483629 + 17) % 2147483587 ∧ (x * 52361 + c % 2147483629 + 17) % 2147483587 < 2147483587 := fun x c h0 h1 =>
    ⟨mulOk_of (a := 31) (b := 16) (by omega) (by decide) (by decide), Int.emod_nonneg _ (by decide), Int.emod_lt_of_pos _ (by decide)⟩
  have cut10 : ∀ xs : List PyData, cutD xs none (some 10) = xs.take 10 := fun xs => cut_to (k := 10)
  refine WF.body rfl ?_
  simp [m_law_urn, List.replicate_succ, fMul_ok q, fSl, cut10]
  rw [← List.map_take]
  refine WFor_inv (fun z : Int => PyData.int z) (ns.take 10) (fun i ρ s' => s' = s ∧ ∃ y x3, ρ = [some (.d (.list (ns.map .int))), some (.d (.int (l : Int))), some (.d (.int y)), x3, none] ∧ 0 ≤ y ∧ y < 2147483587) ⟨rfl, 9683 + 331 * (l : Int), none, rfl, by omega, by omega⟩ ?_ ?_
  · rintro i z ρ s' hz ⟨rfl, y, x3, rfl, h0, h1⟩
    obtain ⟨k1, k3, k4⟩ := key y z h0 h1
    simp [gMod_pos, fMul_ok k1]
    exact ⟨k3, k4⟩
  · rintro ρ s' ⟨rfl, y, x3, rfl, h0, h1⟩
    have gp : gPow 10 16 = some (.int (10 ^ (16 : Int).toNat)) := if_pos (by decide)
    generalize (10 : Int) ^ (16 : Int).toNat = T at gp
    by_cases h : l < ns.length
    · have e : atI (ns.map PyData.int) (l : Int) = some (.int ns[l]) := by
        rw [atI_ofNat (by simpa using h)]
        simp [h]
      simp [h, e, gp, sz3]
      by_cases h3 : ns[l] < 0
      · simp [h3, sz3]; exact ⟨h0, h1⟩
      · by_cases h2 : T ≤ ns[l]
        · simp [gp, h3, h2, sz3]; exact ⟨h0, h1⟩
        · simp [gp, h3, h2, sz3]; exact ⟨h0, h1⟩
    · simp [h, gp, sz3]
      by_cases h2 : T ≤ 0
      · simp [h2, sz3]; exact ⟨h0, h1⟩
      · simp [h2, sz3]; exact ⟨h0, h1⟩
theorem plain (ns : List Int) (hn : ns.length ≤ 63) (hb : ∀ z ∈ ns, Builtin.Int.intBits z ≤ 1048576) : ∃ s', f_law [.d (.list (ns.map .int))] [] = some (.d (.bool true), s') := by
  refine ⟨[], WF.eq (WF.body rfl ?_)⟩
  have e2 : range1 [.d (.int 3)] = some ((List.range 3).map fun i => PyData.int (i : Nat)) := range1_nat (n := 3) (by decide)
  simp [m_law, List.replicate_succ]
  rw [e2, WO_some]
  refine WFor_inv (fun i : Nat => PyData.int i) (List.range 3) (fun i ρ s' => s' = [] ∧ ∃ c1, ρ = [some (.d (.list (ns.map .int))), c1]) ⟨rfl, _, rfl⟩ ?_ ?_
  · rintro i x ρ s' hx ⟨rfl, c1, rfl⟩
    obtain ⟨rfl, hi⟩ := range_at hx
    simp
    refine WF.use (w_urn (ns := ns) (l := x) (by omega)) ?_
    rintro _ s' ⟨rfl, a, b, rfl, b0, b1⟩
    simp [callNK, stoOf, onlyD]
    refine WF.use (w_right (s := [a, b, 0]) ⟨a, b, 0, rfl, b0, b1, by decide, by decide⟩) ?_
    rintro _ s' rfl
    simp
  · rintro ρ s' ⟨rfl, c1, rfl⟩
    simp
end WW
namespace WW
open PySem PySem.Spec L2 Dh
section
variable {P : Program} {w : World} {K : PySem.W.Frag} {mg : Str → Option Value} {base : Heap} {ad : Nat → Addr} {fd : Nat → FuncData}
theorem sc_is_whole : FnScope n_is_whole p_is_whole (defScope s_is_whole) := ⟨rfl, rfl, rfl, by decide +kernel, rfl, by decide +kernel, by decide +kernel⟩
theorem bd_is_whole (T : Txt K mg ad fd) : Binds K (fd 0) p_is_whole [] := T.d_is_whole.binds (ps := p_is_whole) fun _ _ _ _ _ _ us hl => match us, hl with | [_], _ => rfl
theorem ok_is_whole (T : Txt K mg ad fd) : FnG P w K mg base 1 (ad 0) (fd 0) p_is_whole (spOf K 1 f_is_whole) := (fnG_of (m := m_is_whole) T.d_is_whole sc_is_whole fun cdv A outer s H E hr hg =>
    (sl_one (ss_ret (se_and (se_isi (T := "int") (by decide) (se_var (i := 0)) T.b_isinstance T.b_int (by decide +kernel)) (se_one (se_not (se_isi (T := "bool") (by decide) (se_var (i := 0)) T.b_isinstance T.b_bool (by decide +kernel)))))))).imp fun _ _ _ _ => spOf_run'
theorem sc_is_between : FnScope n_is_between p_is_between (defScope s_is_between) := ⟨rfl, rfl, rfl, by decide +kernel, rfl, by decide +kernel, by decide +kernel⟩
theorem bd_is_between (T : Txt K mg ad fd) : Binds K (fd 1) p_is_between [] := T.d_is_between.binds (ps := p_is_between) fun _ _ _ _ _ _ us hl => match us, hl with | [_, _, _], _ => rfl
theorem ok_is_between (T : Txt K mg ad fd) : FnG P w K mg base 2 (ad 1) (fd 1) p_is_between (spOf K 3 f_is_between) := (fnG_of (m := m_is_between) T.d_is_between sc_is_between fun cdv A outer s H E hr hg =>
    (sl_one (ss_ret (se_and (se_call (ok_is_whole T) (hr.mono (by omega)) hg T.m_is_whole T.d_is_whole.kp (bd_is_whole T) (sa_cons (se_var (i := 0)) sa_nil)) (se_one (se_lele (se_var (i := 1)) (se_var (i := 0)) (se_var (i := 2)))))))).imp fun _ _ _ _ => spOf_run'
theorem sc_is_tuple_of : FnScope n_is_tuple_of p_is_tuple_of (defScope s_is_tuple_of) := ⟨rfl, rfl, rfl, by decide +kernel, rfl, by decide +kernel, by decide +kernel⟩
theorem bd_is_tuple_of (T : Txt K mg ad fd) : Binds K (fd 2) p_is_tuple_of [] := T.d_is_tuple_of.binds (ps := p_is_tuple_of) fun _ _ _ _ _ _ us hl => match us, hl with | [_, _], _ => rfl
theorem ok_is_tuple_of (T : Txt K mg ad fd) : FnG P w K mg base 1 (ad 2) (fd 2) p_is_tuple_of (spOf K 2 f_is_tuple_of) := (fnG_of (m := m_is_tuple_of) T.d_is_tuple_of sc_is_tuple_of fun cdv A outer s H E hr hg =>
    (sl_one (ss_ret (se_and (se_isi (T := "tuple") (by decide) (se_var (i := 0)) T.b_isinstance T.b_tuple (by decide +kernel)) (se_one (se_eq hr (se_len (sa_cons (se_var (i := 0)) sa_nil) T.b_len) (se_var (i := 1)))))))).imp fun _ _ _ _ => spOf_run'
theorem sc_is_ratio : FnScope n_is_ratio p_is_ratio (defScope s_is_ratio) := ⟨rfl, rfl, rfl, by decide +kernel, rfl, by decide +kernel, by decide +kernel⟩
theorem bd_is_ratio (T : Txt K mg ad fd) : Binds K (fd 3) p_is_ratio [] := T.d_is_ratio.binds (ps := p_is_ratio) fun _ _ _ _ _ _ us hl => match us, hl with | [_], _ => rfl
theorem ok_is_ratio (T : Txt K mg ad fd) : FnG P w K mg base 2 (ad 3) (fd 3) p_is_ratio (spOf K 1 f_is_ratio) := (fnG_of (m := m_is_ratio) T.d_is_ratio sc_is_ratio fun cdv A outer s H E hr hg =>
    (sl_cons (ss_if (sb_w (sw_or (sb_not (sb_val (se_call (ok_is_tuple_of T) (hr.mono (by omega)) hg T.m_is_tuple_of T.d_is_tuple_of.kp (bd_is_tuple_of T) (sa_cons (se_var (i := 0)) (sa_cons se_int sa_nil))))) (sw_or (sb_not (sb_val (se_call (ok_is_whole T) (hr.mono (by omega)) hg T.m_is_whole T.d_is_whole.kp (bd_is_whole T) (sa_cons (se_ix (se_var (i := 0)) se_int) sa_nil)))) (sw_or1 (sb_not (sb_val (se_call (ok_is_whole T) (hr.mono (by omega)) hg T.m_is_whole T.d_is_whole.kp (bd_is_whole T) (sa_cons (se_ix (se_var (i := 0)) se_int) sa_nil))))))))
    (sl_one (ss_ret se_bl))
    sl_nil)
    (sl_one (ss_ret (se_and (se_gt (se_ix (se_var (i := 0)) se_int) se_int) (se_one (se_eq hr (se_gcd (sa_cons (se_ix (se_var (i := 0)) se_int) (sa_cons (se_ix (se_var (i := 0)) se_int) sa_nil)) T.b_gcd) se_int))))))).imp fun _ _ _ _ => spOf_run'
theorem sc_is_row : FnScope n_is_row p_is_row (defScope s_is_row) := ⟨rfl, rfl, rfl, by decide +kernel, rfl, by decide +kernel, by decide +kernel⟩
theorem bd_is_row (T : Txt K mg ad fd) : Binds K (fd 4) p_is_row [] := T.d_is_row.binds (ps := p_is_row) fun _ _ _ _ _ _ us hl => match us, hl with | [_, _], _ => rfl
theorem ok_is_row (T : Txt K mg ad fd) : FnG P w K mg base 3 (ad 4) (fd 4) p_is_row (spOf K 2 f_is_row) := (fnG_of (m := m_is_row) T.d_is_row sc_is_row fun cdv A outer s H E hr hg =>
    (sl_one (ss_ret (se_and (se_call (ok_is_tuple_of T) (hr.mono (by omega)) hg T.m_is_tuple_of T.d_is_tuple_of.kp (bd_is_tuple_of T) (sa_cons (se_var (i := 0)) (sa_cons (se_var (i := 1)) sa_nil))) (se_one (se_all rfl (sa_cons (se_lc (own := [("each", 2)]) (is := [2]) rfl sc_is_row.nd (si_seq (se_var (i := 0))) (blkOk_by (own := [("each", 2)]) (N := n_is_row) (sc := defScope s_is_row) (by decide +kernel)) (by decide) (fun _ _ _ _ _ => (sg_name (i := 2) sc_is_row.nd)) (fun _ _ _ _ _ => sts_nil) (fun _ _ _ _ _ => (se_call (ok_is_ratio T) (hr.mono (by omega)) hg T.m_is_ratio T.d_is_ratio.kp (bd_is_ratio T) (sa_cons (se_var (i := 2)) sa_nil)))) sa_nil) T.b_all)))))).imp fun _ _ _ _ => spOf_run'
theorem sc_ratio : FnScope n_ratio p_ratio (defScope s_ratio) := ⟨rfl, rfl, rfl, by decide +kernel, rfl, by decide +kernel, by decide +kernel⟩
theorem bd_ratio (T : Txt K mg ad fd) : Binds K (fd 5) p_ratio [] := T.d_ratio.binds (ps := p_ratio) fun _ _ _ _ _ _ us hl => match us, hl with | [_, _], _ => rfl
theorem ok_ratio (T : Txt K mg ad fd) : FnG P w K mg base 1 (ad 5) (fd 5) p_ratio (spOf K 2 f_ratio) := (fnG_of (m := m_ratio) T.d_ratio sc_ratio fun cdv A outer s H E hr hg =>
    (sl_cons (ss_set (i := 2) sc_ratio.nd rfl (.inl rfl) (se_if (sb_gt (se_var (i := 1)) se_int) (se_gcd (sa_cons (se_var (i := 0)) (sa_cons (se_var (i := 1)) sa_nil)) T.b_gcd) (se_neg (se_gcd (sa_cons (se_var (i := 0)) (sa_cons (se_var (i := 1)) sa_nil)) T.b_gcd))))
    (sl_one (ss_ret (se_tup (sa_cons (se_fdiv (se_var (i := 0)) (se_var (i := 2))) (sa_cons (se_fdiv (se_var (i := 1)) (se_var (i := 2))) sa_nil))))))).imp fun _ _ _ _ => spOf_run'
theorem sc_plus : FnScope n_plus p_plus (defScope s_plus) := ⟨rfl, rfl, rfl, by decide +kernel, rfl, by decide +kernel, by decide +kernel⟩
theorem bd_plus (T : Txt K mg ad fd) : Binds K (fd 6) p_plus [] := T.d_plus.binds (ps := p_plus) fun _ _ _ _ _ _ us hl => match us, hl with | [_, _], _ => rfl
theorem ok_plus (T : Txt K mg ad fd) : FnG P w K mg base 2 (ad 6) (fd 6) p_plus (spOf K 2 f_plus) := (fnG_of (m := m_plus) T.d_plus sc_plus fun cdv A outer s H E hr hg =>
    (sl_one (ss_ret (se_call (ok_ratio T) (hr.mono (by omega)) hg T.m_ratio T.d_ratio.kp (bd_ratio T) (sa_cons (se_add (se_mul (se_ix (se_var (i := 0)) se_int) (se_ix (se_var (i := 1)) se_int)) (se_mul (se_ix (se_var (i := 1)) se_int) (se_ix (se_var (i := 0)) se_int))) (sa_cons (se_mul (se_ix (se_var (i := 0)) se_int) (se_ix (se_var (i := 1)) se_int)) sa_nil)))))).imp fun _ _ _ _ => spOf_run'
theorem sc_times : FnScope n_times p_times (defScope s_times) := ⟨rfl, rfl, rfl, by decide +kernel, rfl, by decide +kernel, by decide +kernel⟩
theorem bd_times (T : Txt K mg ad fd) : Binds K (fd 7) p_times [] := T.d_times.binds (ps := p_times) fun _ _ _ _ _ _ us hl => match us, hl with | [_, _], _ => rfl
theorem ok_times (T : Txt K mg ad fd) : FnG P w K mg base 2 (ad 7) (fd 7) p_times (spOf K 2 f_times) := (fnG_of (m := m_times) T.d_times sc_times fun cdv A outer s H E hr hg =>
    (sl_one (ss_ret (se_call (ok_ratio T) (hr.mono (by omega)) hg T.m_ratio T.d_ratio.kp (bd_ratio T) (sa_cons (se_mul (se_ix (se_var (i := 0)) se_int) (se_ix (se_var (i := 1)) se_int)) (sa_cons (se_mul (se_ix (se_var (i := 0)) se_int) (se_ix (se_var (i := 1)) se_int)) sa_nil)))))).imp fun _ _ _ _ => spOf_run'
theorem sc_is_less : FnScope n_is_less p_is_less (defScope s_is_less) := ⟨rfl, rfl, rfl, by decide +kernel, rfl, by decide +kernel, by decide +kernel⟩
theorem bd_is_less (T : Txt K mg ad fd) : Binds K (fd 8) p_is_less [] := T.d_is_less.binds (ps := p_is_less) fun _ _ _ _ _ _ us hl => match us, hl with | [_, _], _ => rfl
theorem ok_is_less (T : Txt K mg ad fd) : FnG P w K mg base 1 (ad 8) (fd 8) p_is_less (spOf K 2 f_is_less) := (fnG_of (m := m_is_less) T.d_is_less sc_is_less fun cdv A outer s H E hr hg =>
    (sl_one (ss_ret (se_lt (se_mul (se_ix (se_var (i := 0)) se_int) (se_ix (se_var (i := 1)) se_int)) (se_mul (se_ix (se_var (i := 1)) se_int) (se_ix (se_var (i := 0)) se_int)))))).imp fun _ _ _ _ => spOf_run'
theorem sc_total : FnScope n_total p_total (defScope s_total) := ⟨rfl, rfl, rfl, by decide +kernel, rfl, by decide +kernel, by decide +kernel⟩
theorem bd_total (T : Txt K mg ad fd) : Binds K (fd 9) p_total [] := T.d_total.binds (ps := p_total) fun _ _ _ _ _ _ us hl => match us, hl with | [_], _ => rfl
theorem ok_total (T : Txt K mg ad fd) : FnG P w K mg base 3 (ad 9) (fd 9) p_total (spOf K 1 f_total) := (fnG_of (m := m_total) T.d_total sc_total fun cdv A outer s H E hr hg =>
    (sl_cons (ss_set (i := 1) sc_total.nd rfl (.inl rfl) (se_glob T.g_ZERO (by rfl)))
    (sl_cons (ss_for PassesOwn.never rfl (si_seq (se_var (i := 0))) (sg_name (i := 2) sc_total.nd)
    (sl_one (ss_set (i := 1) sc_total.nd rfl (.inl rfl) (se_call (ok_plus T) (hr.mono (by omega)) hg T.m_plus T.d_plus.kp (bd_plus T) (sa_cons (se_var (i := 1)) (sa_cons (se_var (i := 2)) sa_nil))))))
    (sl_one (ss_retV (i := 1)))))).imp fun _ _ _ _ => spOf_run'
theorem sc_is_chance_row : FnScope n_is_chance_row p_is_chance_row (defScope s_is_chance_row) := ⟨rfl, rfl, rfl, by decide +kernel, rfl, by decide +kernel, by decide +kernel⟩
theorem bd_is_chance_row (T : Txt K mg ad fd) : Binds K (fd 10) p_is_chance_row [] := T.d_is_chance_row.binds (ps := p_is_chance_row) fun _ _ _ _ _ _ us hl => match us, hl with | [_, _], _ => rfl
theorem ok_is_chance_row (T : Txt K mg ad fd) : FnG P w K mg base 4 (ad 10) (fd 10) p_is_chance_row (spOf K 2 f_is_chance_row) := (fnG_of (m := m_is_chance_row) T.d_is_chance_row sc_is_chance_row fun cdv A outer s H E hr hg =>
    (sl_one (ss_ret (se_and (se_call (ok_is_row T) (hr.mono (by omega)) hg T.m_is_row T.d_is_row.kp (bd_is_row T) (sa_cons (se_var (i := 0)) (sa_cons (se_var (i := 1)) sa_nil))) (se_and (se_all rfl (sa_cons (se_lc (own := [("each", 2)]) (is := [2]) rfl sc_is_chance_row.nd (si_seq (se_var (i := 0))) (blkOk_by (own := [("each", 2)]) (N := n_is_chance_row) (sc := defScope s_is_chance_row) (by decide +kernel)) (by decide) (fun _ _ _ _ _ => (sg_name (i := 2) sc_is_chance_row.nd)) (fun _ _ _ _ _ => sts_nil) (fun _ _ _ _ _ => (se_ge (se_ix (se_var (i := 2)) se_int) se_int))) sa_nil) T.b_all) (se_one (se_eq hr (se_call (ok_total T) (hr.mono (by omega)) hg T.m_total T.d_total.kp (bd_total T) (sa_cons (se_var (i := 0)) sa_nil)) (se_glob T.g_ONE (by rfl))))))))).imp fun _ _ _ _ => spOf_run'
theorem sc_is_still_by : FnScope n_is_still_by p_is_still_by (defScope s_is_still_by) := ⟨rfl, rfl, rfl, by decide +kernel, rfl, by decide +kernel, by decide +kernel⟩
theorem bd_is_still_by (T : Txt K mg ad fd) : Binds K (fd 11) p_is_still_by [] := T.d_is_still_by.binds (ps := p_is_still_by) fun _ _ _ _ _ _ us hl => match us, hl with | [_, _], _ => rfl
theorem ok_is_still_by (T : Txt K mg ad fd) : FnG P w K mg base 5 (ad 11) (fd 11) p_is_still_by (spOf K 2 f_is_still_by) := (fnG_of (m := m_is_still_by) T.d_is_still_by sc_is_still_by fun cdv A outer s H E hr hg =>
    (sl_cons (ss_if (sb_not (sb_val (se_call (ok_is_tuple_of T) (hr.mono (by omega)) hg T.m_is_tuple_of T.d_is_tuple_of.kp (bd_is_tuple_of T) (sa_cons (se_var (i := 1)) (sa_cons (se_len (sa_cons (se_ix (se_var (i := 0)) se_int) sa_nil) T.b_len) sa_nil)))))
    (sl_one (ss_ret se_bl))
    sl_nil)
    (sl_one (ss_ret (se_all rfl (sa_cons (se_lc (own := [("odds", 2), ("deeds", 3)]) (is := [2, 3]) rfl sc_is_still_by.nd (si_z2 (sa_cons (se_var (i := 1)) (sa_cons (se_ix (se_var (i := 0)) se_int) sa_nil)) T.b_zip) (blkOk_by (own := [("odds", 2), ("deeds", 3)]) (N := n_is_still_by) (sc := defScope s_is_still_by) (by decide +kernel)) (by decide) (fun _ _ _ _ _ => (sg_tup rfl (sgs_cons (sg_name (i := 2) sc_is_still_by.nd) (sgs_cons (sg_name (i := 3) sc_is_still_by.nd) sgs_nil)))) (fun _ _ _ _ _ => sts_nil) (fun _ _ _ _ _ => (se_call (ok_is_chance_row T) (hr.mono (by omega)) hg T.m_is_chance_row T.d_is_chance_row.kp (bd_is_chance_row T) (sa_cons (se_var (i := 2)) (sa_cons (se_len (sa_cons (se_var (i := 3)) sa_nil) T.b_len) sa_nil))))) sa_nil) T.b_all))))).imp fun _ _ _ _ => spOf_run'
theorem sc_are_odds : FnScope n_are_odds p_are_odds (defScope s_are_odds) := ⟨rfl, rfl, rfl, by decide +kernel, rfl, by decide +kernel, by decide +kernel⟩
theorem bd_are_odds (T : Txt K mg ad fd) : Binds K (fd 12) p_are_odds [] := T.d_are_odds.binds (ps := p_are_odds) fun _ _ _ _ _ _ us hl => match us, hl with | [_, _, _], _ => rfl
theorem ok_are_odds (T : Txt K mg ad fd) : FnG P w K mg base 5 (ad 12) (fd 12) p_are_odds (spOf K 3 f_are_odds) := (fnG_of (m := m_are_odds) T.d_are_odds sc_are_odds fun cdv A outer s H E hr hg =>
    (sl_one (ss_ret (se_and (se_call (ok_is_tuple_of T) (hr.mono (by omega)) hg T.m_is_tuple_of T.d_is_tuple_of.kp (bd_is_tuple_of T) (sa_cons (se_var (i := 0)) (sa_cons (se_var (i := 1)) sa_nil))) (se_one (se_all rfl (sa_cons (se_lc (own := [("odds", 3)]) (is := [3]) rfl sc_are_odds.nd (si_seq (se_var (i := 0))) (blkOk_by (own := [("odds", 3)]) (N := n_are_odds) (sc := defScope s_are_odds) (by decide +kernel)) (by decide) (fun _ _ _ _ _ => (sg_name (i := 3) sc_are_odds.nd)) (fun _ _ _ _ _ => sts_nil) (fun _ _ _ _ _ => (se_call (ok_is_chance_row T) (hr.mono (by omega)) hg T.m_is_chance_row T.d_is_chance_row.kp (bd_is_chance_row T) (sa_cons (se_var (i := 3)) (sa_cons (se_len (sa_cons (se_var (i := 2)) sa_nil) T.b_len) sa_nil))))) sa_nil) T.b_all)))))).imp fun _ _ _ _ => spOf_run'
theorem sc_are_nexts : FnScope n_are_nexts p_are_nexts (defScope s_are_nexts) := ⟨rfl, rfl, rfl, by decide +kernel, rfl, by decide +kernel, by decide +kernel⟩
theorem bd_are_nexts (T : Txt K mg ad fd) : Binds K (fd 13) p_are_nexts [] := T.d_are_nexts.binds (ps := p_are_nexts) fun _ _ _ _ _ _ us hl => match us, hl with | [_, _, _], _ => rfl
theorem ok_are_nexts (T : Txt K mg ad fd) : FnG P w K mg base 3 (ad 13) (fd 13) p_are_nexts (spOf K 3 f_are_nexts) := (fnG_of (m := m_are_nexts) T.d_are_nexts sc_are_nexts fun cdv A outer s H E hr hg =>
    (sl_cons (ss_if (sb_not (sb_val (se_call (ok_is_tuple_of T) (hr.mono (by omega)) hg T.m_is_tuple_of T.d_is_tuple_of.kp (bd_is_tuple_of T) (sa_cons (se_var (i := 0)) (sa_cons (se_len (sa_cons (se_var (i := 2)) sa_nil) T.b_len) sa_nil)))))
    (sl_one (ss_ret se_bl))
    sl_nil)
    (sl_one (ss_ret (se_all rfl (sa_cons (se_lc (own := [("row", 3)]) (is := [3]) rfl sc_are_nexts.nd (si_seq (se_var (i := 0))) (blkOk_by (own := [("row", 3)]) (N := n_are_nexts) (sc := defScope s_are_nexts) (by decide +kernel)) (by decide) (fun _ _ _ _ _ => (sg_name (i := 3) sc_are_nexts.nd)) (fun _ _ _ _ _ => sts_nil) (fun _ _ _ _ _ => (se_and (se_call (ok_is_tuple_of T) (hr.mono (by omega)) hg T.m_is_tuple_of T.d_is_tuple_of.kp (bd_is_tuple_of T) (sa_cons (se_var (i := 3)) (sa_cons (se_var (i := 1)) sa_nil))) (se_one (se_all rfl (sa_cons (se_lc (own := [("mind", 4)]) (is := [4]) rfl sc_are_nexts.nd (si_seq (se_var (i := 3))) (blkOk_by (own := [("mind", 4)]) (N := n_are_nexts) (sc := relS _ (defScope s_are_nexts)) (by decide +kernel)) (by decide) (fun _ _ _ _ _ => (sg_name (i := 4) sc_are_nexts.nd)) (fun _ _ _ _ _ => sts_nil) (fun _ _ _ _ _ => (se_call (ok_is_between T) (hr.mono (by omega)) hg T.m_is_between T.d_is_between.kp (bd_is_between T) (sa_cons (se_var (i := 4)) (sa_cons se_int (sa_cons (se_sub (se_var (i := 1)) se_int) sa_nil)))))) sa_nil) T.b_all))))) sa_nil) T.b_all))))).imp fun _ _ _ _ => spOf_run'
theorem sc_is_minded_by : FnScope n_is_minded_by p_is_minded_by (defScope s_is_minded_by) := ⟨rfl, rfl, rfl, by decide +kernel, rfl, by decide +kernel, by decide +kernel⟩
theorem bd_is_minded_by (T : Txt K mg ad fd) : Binds K (fd 14) p_is_minded_by [] := T.d_is_minded_by.binds (ps := p_is_minded_by) fun _ _ _ _ _ _ us hl => match us, hl with | [_, _], _ => rfl
theorem ok_is_minded_by (T : Txt K mg ad fd) : FnG P w K mg base 6 (ad 14) (fd 14) p_is_minded_by (spOf K 2 f_is_minded_by) := (fnG_of (m := m_is_minded_by) T.d_is_minded_by sc_is_minded_by fun cdv A outer s H E hr hg =>
    (sl_cons (ss_if (sb_w (sw_or (sb_not (sb_val (se_call (ok_is_tuple_of T) (hr.mono (by omega)) hg T.m_is_tuple_of T.d_is_tuple_of.kp (bd_is_tuple_of T) (sa_cons (se_var (i := 1)) (sa_cons se_int sa_nil))))) (sw_or1 (sb_not (sb_val (se_call (ok_is_between T) (hr.mono (by omega)) hg T.m_is_between T.d_is_between.kp (bd_is_between T) (sa_cons (se_ix (se_var (i := 1)) se_int) (sa_cons se_int (sa_cons (se_glob T.g_MOST_MINDS (by rfl)) sa_nil)))))))))
    (sl_one (ss_ret se_bl))
    sl_nil)
    (sl_cons (ss_asg (se_var (i := 1)) (sg_tup rfl (sgs_cons (sg_name (i := 2) sc_is_minded_by.nd) (sgs_cons (sg_name (i := 3) sc_is_minded_by.nd) (sgs_cons (sg_name (i := 4) sc_is_minded_by.nd) sgs_nil)))))
    (sl_cons (ss_if (sb_w (sw_or (sb_not (sb_val (se_call (ok_is_tuple_of T) (hr.mono (by omega)) hg T.m_is_tuple_of T.d_is_tuple_of.kp (bd_is_tuple_of T) (sa_cons (se_var (i := 3)) (sa_cons (se_len (sa_cons (se_ix (se_var (i := 0)) se_int) sa_nil) T.b_len) sa_nil))))) (sw_or1 (sb_not (sb_val (se_call (ok_is_tuple_of T) (hr.mono (by omega)) hg T.m_is_tuple_of T.d_is_tuple_of.kp (bd_is_tuple_of T) (sa_cons (se_var (i := 4)) (sa_cons (se_len (sa_cons (se_ix (se_var (i := 0)) se_int) sa_nil) T.b_len) sa_nil))))))))
    (sl_one (ss_ret se_bl))
    sl_nil)
    (sl_cons (ss_if (sb_not (sb_val (se_all rfl (sa_cons (se_lc (own := [("each", 5), ("deeds", 6)]) (is := [5, 6]) rfl sc_is_minded_by.nd (si_z2 (sa_cons (se_var (i := 3)) (sa_cons (se_ix (se_var (i := 0)) se_int) sa_nil)) T.b_zip) (blkOk_by (own := [("each", 5), ("deeds", 6)]) (N := n_is_minded_by) (sc := defScope s_is_minded_by) (by decide +kernel)) (by decide) (fun _ _ _ _ _ => (sg_tup rfl (sgs_cons (sg_name (i := 5) sc_is_minded_by.nd) (sgs_cons (sg_name (i := 6) sc_is_minded_by.nd) sgs_nil)))) (fun _ _ _ _ _ => sts_nil) (fun _ _ _ _ _ => (se_call (ok_are_odds T) (hr.mono (by omega)) hg T.m_are_odds T.d_are_odds.kp (bd_are_odds T) (sa_cons (se_var (i := 5)) (sa_cons (se_var (i := 2)) (sa_cons (se_var (i := 6)) sa_nil)))))) sa_nil) T.b_all)))
    (sl_one (ss_ret se_bl))
    sl_nil)
    (sl_one (ss_ret (se_all rfl (sa_cons (se_lc (own := [("each", 5), ("deeds", 6)]) (is := [5, 6]) rfl sc_is_minded_by.nd (si_z2 (sa_cons (se_var (i := 4)) (sa_cons (se_ix (se_var (i := 0)) se_int) sa_nil)) T.b_zip) (blkOk_by (own := [("each", 5), ("deeds", 6)]) (N := n_is_minded_by) (sc := defScope s_is_minded_by) (by decide +kernel)) (by decide) (fun _ _ _ _ _ => (sg_tup rfl (sgs_cons (sg_name (i := 5) sc_is_minded_by.nd) (sgs_cons (sg_name (i := 6) sc_is_minded_by.nd) sgs_nil)))) (fun _ _ _ _ _ => sts_nil) (fun _ _ _ _ _ => (se_call (ok_are_nexts T) (hr.mono (by omega)) hg T.m_are_nexts T.d_are_nexts.kp (bd_are_nexts T) (sa_cons (se_var (i := 5)) (sa_cons (se_var (i := 2)) (sa_cons (se_var (i := 6)) sa_nil)))))) sa_nil) T.b_all)))))))).imp fun _ _ _ _ => spOf_run'
theorem sc_are_chances : FnScope n_are_chances p_are_chances (defScope s_are_chances) := ⟨rfl, rfl, rfl, by decide +kernel, rfl, by decide +kernel, by decide +kernel⟩
theorem bd_are_chances (T : Txt K mg ad fd) : Binds K (fd 15) p_are_chances [] := T.d_are_chances.binds (ps := p_are_chances) fun _ _ _ _ _ _ us hl => match us, hl with | [_, _], _ => rfl
theorem ok_are_chances (T : Txt K mg ad fd) : FnG P w K mg base 4 (ad 15) (fd 15) p_are_chances (spOf K 2 f_are_chances) := (fnG_of (m := m_are_chances) T.d_are_chances sc_are_chances fun cdv A outer s H E hr hg =>
    (sl_cons (ss_if (sb_w (sw_or (sb_not (sb_val (se_isi (T := "tuple") (by decide) (se_var (i := 0)) T.b_isinstance T.b_tuple (by decide +kernel)))) (sw_or1 (sb_not (sb_val (se_all rfl (sa_cons (se_lc (own := [("each", 3)]) (is := [3]) rfl sc_are_chances.nd (si_seq (se_var (i := 0))) (blkOk_by (own := [("each", 3)]) (N := n_are_chances) (sc := defScope s_are_chances) (by decide +kernel)) (by decide) (fun _ _ _ _ _ => (sg_name (i := 3) sc_are_chances.nd)) (fun _ _ _ _ _ => sts_nil) (fun _ _ _ _ _ => (se_call (ok_is_tuple_of T) (hr.mono (by omega)) hg T.m_is_tuple_of T.d_is_tuple_of.kp (bd_is_tuple_of T) (sa_cons (se_var (i := 3)) (sa_cons se_int sa_nil))))) sa_nil) T.b_all))))))
    (sl_one (ss_ret se_bl))
    sl_nil)
    (sl_cons (ss_if (sb_not (sb_val (se_all rfl (sa_cons (se_lc (own := [("stand", 4), ("chance", 5)]) (is := [4, 5]) rfl sc_are_chances.nd (si_seq (se_var (i := 0))) (blkOk_by (own := [("stand", 4), ("chance", 5)]) (N := n_are_chances) (sc := defScope s_are_chances) (by decide +kernel)) (by decide) (fun _ _ _ _ _ => (sg_tup rfl (sgs_cons (sg_name (i := 4) sc_are_chances.nd) (sgs_cons (sg_name (i := 5) sc_are_chances.nd) sgs_nil)))) (fun _ _ _ _ _ => sts_nil) (fun _ _ _ _ _ => (se_and (se_call (ok_is_between T) (hr.mono (by omega)) hg T.m_is_between T.d_is_between.kp (bd_is_between T) (sa_cons (se_var (i := 4)) (sa_cons se_int (sa_cons (se_sub (se_var (i := 1)) se_int) sa_nil)))) (se_and (se_call (ok_is_ratio T) (hr.mono (by omega)) hg T.m_is_ratio T.d_is_ratio.kp (bd_is_ratio T) (sa_cons (se_var (i := 5)) sa_nil)) (se_one (se_gt (se_ix (se_var (i := 5)) se_int) se_int)))))) sa_nil) T.b_all)))
    (sl_one (ss_ret se_bl))
    sl_nil)
    (sl_cons (ss_setLc (i := 2) (own := [("stand", 4), ("_", 6)]) (is := [4, 6]) rfl sc_are_chances.nd rfl rfl (sw_true rfl rfl rfl (by decide +kernel)) (si_seq (se_var (i := 0))) (blkOk_by (own := [("stand", 4), ("_", 6)]) (N := n_are_chances) (sc := defScope s_are_chances) (by decide +kernel)) (by decide) (fun _ _ _ _ _ => (sg_tup rfl (sgs_cons (sg_name (i := 4) sc_are_chances.nd) (sgs_cons (sg_name (i := 6) sc_are_chances.nd) sgs_nil)))) (fun _ _ _ _ _ => sts_nil) (fun _ _ _ _ _ => (se_var (i := 4))))
    (sl_one (ss_frz [2] (ss_ret (se_and (se_all rfl (sa_cons (se_lc (own := [("one", 7), ("two", 8)]) (is := [7, 8]) rfl sc_are_chances.nd (si_z2 (sa_cons (se_var (i := 2)) (sa_cons (se_sl (se_var (i := 2)) (so_some se_int) so_none) sa_nil)) T.b_zip) (blkOk_by (own := [("one", 7), ("two", 8)]) (N := n_are_chances) (sc := defScope s_are_chances) (by decide +kernel)) (by decide) (fun _ _ _ _ _ => (sg_tup rfl (sgs_cons (sg_name (i := 7) sc_are_chances.nd) (sgs_cons (sg_name (i := 8) sc_are_chances.nd) sgs_nil)))) (fun _ _ _ _ _ => sts_nil) (fun _ _ _ _ _ => (se_lt (se_var (i := 7)) (se_var (i := 8))))) sa_nil) T.b_all) (se_one (se_eq hr (se_call (ok_total T) (hr.mono (by omega)) hg T.m_total T.d_total.kp (bd_total T) (sa_cons (se_lc (own := [("_", 6), ("chance", 5)]) (is := [6, 5]) rfl sc_are_chances.nd (si_seq (se_var (i := 0))) (blkOk_by (own := [("_", 6), ("chance", 5)]) (N := n_are_chances) (sc := defScope s_are_chances) (by decide +kernel)) (by decide) (fun _ _ _ _ _ => (sg_tup rfl (sgs_cons (sg_name (i := 6) sc_are_chances.nd) (sgs_cons (sg_name (i := 5) sc_are_chances.nd) sgs_nil)))) (fun _ _ _ _ _ => sts_nil) (fun _ _ _ _ _ => (se_var (i := 5)))) sa_nil)) (se_glob T.g_ONE (by rfl)))))))))))).imp fun _ _ _ _ => spOf_run'
end
end WW
namespace WW
open PySem PySem.Spec L2 Dh
section
variable {P : Program} {w : World} {K : PySem.W.Frag} {mg : Str → Option Value} {base : Heap} {ad : Nat → Addr} {fd : Nat → FuncData}
theorem sc_is_deed : FnScope n_is_deed p_is_deed (defScope s_is_deed) := ⟨rfl, rfl, rfl, by decide +kernel, rfl, by decide +kernel, by decide +kernel⟩
theorem bd_is_deed (T : Txt K mg ad fd) : Binds K (fd 16) p_is_deed [] := T.d_is_deed.binds (ps := p_is_deed) fun _ _ _ _ _ _ us hl => match us, hl with | [_, _, _], _ => rfl
theorem ok_is_deed (T : Txt K mg ad fd) : FnG P w K mg base 5 (ad 16) (fd 16) p_is_deed (spOf K 3 f_is_deed) := (fnG_of (m := m_is_deed) T.d_is_deed sc_is_deed fun cdv A outer s H E hr hg =>
    (sl_one (ss_ret (se_and (se_call (ok_is_tuple_of T) (hr.mono (by omega)) hg T.m_is_tuple_of T.d_is_tuple_of.kp (bd_is_tuple_of T) (sa_cons (se_var (i := 0)) (sa_cons se_int sa_nil))) (se_and (se_call (ok_are_chances T) (hr.mono (by omega)) hg T.m_are_chances T.d_are_chances.kp (bd_are_chances T) (sa_cons (se_ix (se_var (i := 0)) se_int) (sa_cons (se_var (i := 2)) sa_nil))) (se_one (se_call (ok_is_row T) (hr.mono (by omega)) hg T.m_is_row T.d_is_row.kp (bd_is_row T) (sa_cons (se_ix (se_var (i := 0)) se_int) (sa_cons (se_var (i := 1)) sa_nil))))))))).imp fun _ _ _ _ => spOf_run'
theorem sc_is_stand : FnScope n_is_stand p_is_stand (defScope s_is_stand) := ⟨rfl, rfl, rfl, by decide +kernel, rfl, by decide +kernel, by decide +kernel⟩
theorem bd_is_stand (T : Txt K mg ad fd) : Binds K (fd 17) p_is_stand [] := T.d_is_stand.binds (ps := p_is_stand) fun _ _ _ _ _ _ us hl => match us, hl with | [_, _, _], _ => rfl
theorem ok_is_stand (T : Txt K mg ad fd) : FnG P w K mg base 6 (ad 17) (fd 17) p_is_stand (spOf K 3 f_is_stand) := (fnG_of (m := m_is_stand) T.d_is_stand sc_is_stand fun cdv A outer s H E hr hg =>
    (sl_cons (ss_if (sb_w (sw_or (sb_not (sb_val (se_isi (T := "tuple") (by decide) (se_var (i := 0)) T.b_isinstance T.b_tuple (by decide +kernel)))) (sw_or1 (sb_not (sb_val (se_call (ok_is_between T) (hr.mono (by omega)) hg T.m_is_between T.d_is_between.kp (bd_is_between T) (sa_cons (se_len (sa_cons (se_var (i := 0)) sa_nil) T.b_len) (sa_cons se_int (sa_cons (se_glob T.g_MOST_DEEDS (by rfl)) sa_nil)))))))))
    (sl_one (ss_ret se_bl))
    sl_nil)
    (sl_one (ss_ret (se_all rfl (sa_cons (se_lc (own := [("each", 3)]) (is := [3]) rfl sc_is_stand.nd (si_seq (se_var (i := 0))) (blkOk_by (own := [("each", 3)]) (N := n_is_stand) (sc := defScope s_is_stand) (by decide +kernel)) (by decide) (fun _ _ _ _ _ => (sg_name (i := 3) sc_is_stand.nd)) (fun _ _ _ _ _ => sts_nil) (fun _ _ _ _ _ => (se_call (ok_is_deed T) (hr.mono (by omega)) hg T.m_is_deed T.d_is_deed.kp (bd_is_deed T) (sa_cons (se_var (i := 3)) (sa_cons (se_var (i := 1)) (sa_cons (se_var (i := 2)) sa_nil)))))) sa_nil) T.b_all))))).imp fun _ _ _ _ => spOf_run'
theorem sc_is_share : FnScope n_is_share p_is_share (defScope s_is_share) := ⟨rfl, rfl, rfl, by decide +kernel, rfl, by decide +kernel, by decide +kernel⟩
theorem bd_is_share (T : Txt K mg ad fd) : Binds K (fd 18) p_is_share [] := T.d_is_share.binds (ps := p_is_share) fun _ _ _ _ _ _ us hl => match us, hl with | [_], _ => rfl
theorem ok_is_share (T : Txt K mg ad fd) : FnG P w K mg base 3 (ad 18) (fd 18) p_is_share (spOf K 1 f_is_share) := (fnG_of (m := m_is_share) T.d_is_share sc_is_share fun cdv A outer s H E hr hg =>
    (sl_one (ss_ret (se_and (se_call (ok_is_ratio T) (hr.mono (by omega)) hg T.m_is_ratio T.d_is_ratio.kp (bd_is_ratio T) (sa_cons (se_var (i := 0)) sa_nil)) (se_one (se_lelt se_int (se_ix (se_var (i := 0)) se_int) (se_ix (se_var (i := 0)) se_int))))))).imp fun _ _ _ _ => spOf_run'
theorem sc_is_house_by : FnScope n_is_house_by p_is_house_by (defScope s_is_house_by) := ⟨rfl, rfl, rfl, by decide +kernel, rfl, by decide +kernel, by decide +kernel⟩
theorem bd_is_house_by (T : Txt K mg ad fd) : Binds K (fd 19) p_is_house_by [] := T.d_is_house_by.binds (ps := p_is_house_by) fun _ _ _ _ _ _ us hl => match us, hl with | [_], _ => rfl
theorem ok_is_house_by (T : Txt K mg ad fd) : FnG P w K mg base 7 (ad 19) (fd 19) p_is_house_by (spOf K 1 f_is_house_by) := (fnG_of (m := m_is_house_by) T.d_is_house_by sc_is_house_by fun cdv A outer s H E hr hg =>
    (sl_cons (ss_if (sb_w (sw_or (sb_not (sb_val (se_call (ok_is_tuple_of T) (hr.mono (by omega)) hg T.m_is_tuple_of T.d_is_tuple_of.kp (bd_is_tuple_of T) (sa_cons (se_var (i := 0)) (sa_cons se_int sa_nil))))) (sw_or (sb_not (sb_val (se_call (ok_is_share T) (hr.mono (by omega)) hg T.m_is_share T.d_is_share.kp (bd_is_share T) (sa_cons (se_ix (se_var (i := 0)) se_int) sa_nil)))) (sw_or1 (sb_not (sb_val (se_call (ok_is_between T) (hr.mono (by omega)) hg T.m_is_between T.d_is_between.kp (bd_is_between T) (sa_cons (se_ix (se_var (i := 0)) se_int) (sa_cons se_int (sa_cons (se_glob T.g_MOST_PAYS (by rfl)) sa_nil))))))))))
    (sl_one (ss_ret se_bl))
    sl_nil)
    (sl_cons (ss_set (i := 1) sc_is_house_by.nd rfl (.inr rfl) (se_ix (se_var (i := 0)) se_int))
    (sl_cons (ss_if (sb_w (sw_or (sb_not (sb_val (se_isi (T := "tuple") (by decide) (se_var (i := 1)) T.b_isinstance T.b_tuple (by decide +kernel)))) (sw_or1 (sb_not (sb_val (se_call (ok_is_between T) (hr.mono (by omega)) hg T.m_is_between T.d_is_between.kp (bd_is_between T) (sa_cons (se_len (sa_cons (se_var (i := 1)) sa_nil) T.b_len) (sa_cons se_int (sa_cons (se_glob T.g_MOST_STANDS (by rfl)) sa_nil)))))))))
    (sl_one (ss_ret se_bl))
    sl_nil)
    (sl_one (ss_ret (se_all rfl (sa_cons (se_lc (own := [("each", 2)]) (is := [2]) rfl sc_is_house_by.nd (si_seq (se_var (i := 1))) (blkOk_by (own := [("each", 2)]) (N := n_is_house_by) (sc := defScope s_is_house_by) (by decide +kernel)) (by decide) (fun _ _ _ _ _ => (sg_name (i := 2) sc_is_house_by.nd)) (fun _ _ _ _ _ => sts_nil) (fun _ _ _ _ _ => (se_call (ok_is_stand T) (hr.mono (by omega)) hg T.m_is_stand T.d_is_stand.kp (bd_is_stand T) (sa_cons (se_var (i := 2)) (sa_cons (se_ix (se_var (i := 0)) se_int) (sa_cons (se_len (sa_cons (se_var (i := 1)) sa_nil) T.b_len) sa_nil)))))) sa_nil) T.b_all))))))).imp fun _ _ _ _ => spOf_run'
theorem sc_check_house : FnScope n_check_house p_check_house (defScope s_check_house) := ⟨rfl, rfl, rfl, by decide +kernel, rfl, by decide +kernel, by decide +kernel⟩
theorem bd_check_house (T : Txt K mg ad fd) : Binds K (fd 20) p_check_house [] := T.d_check_house.binds (ps := p_check_house) fun _ _ _ _ _ _ us hl => match us, hl with | [_], _ => rfl
theorem ok_check_house (T : Txt K mg ad fd) : FnG P w K mg base 8 (ad 20) (fd 20) p_check_house (spOf K 1 f_check_house) := (fnG_of (m := m_check_house) T.d_check_house sc_check_house fun cdv A outer s H E hr hg =>
    (sl_one (ss_if (sb_not (sb_val (se_call (ok_is_house_by T) (hr.mono (by omega)) hg T.m_is_house_by T.d_is_house_by.kp (bd_is_house_by T) (sa_cons (se_var (i := 0)) sa_nil))))
    (sl_one ss_never)
    sl_nil))).imp fun _ _ _ _ => spOf_run'
theorem sc_check_start : FnScope n_check_start p_check_start (defScope s_check_start) := ⟨rfl, rfl, rfl, by decide +kernel, rfl, by decide +kernel, by decide +kernel⟩
theorem bd_check_start (T : Txt K mg ad fd) : Binds K (fd 21) p_check_start [] := T.d_check_start.binds (ps := p_check_start) fun _ _ _ _ _ _ us hl => match us, hl with | [_, _], _ => rfl
theorem ok_check_start (T : Txt K mg ad fd) : FnG P w K mg base 4 (ad 21) (fd 21) p_check_start (spOf K 2 f_check_start) := (fnG_of (m := m_check_start) T.d_check_start sc_check_start fun cdv A outer s H E hr hg =>
    (sl_cons (ss_if (sb_not (sb_val (se_call (ok_is_tuple_of T) (hr.mono (by omega)) hg T.m_is_tuple_of T.d_is_tuple_of.kp (bd_is_tuple_of T) (sa_cons (se_var (i := 1)) (sa_cons (se_len (sa_cons (se_ix (se_var (i := 0)) se_int) sa_nil) T.b_len) sa_nil)))))
    (sl_one ss_never)
    sl_nil)
    (sl_cons (ss_for PassesOwn.never rfl (si_enum (sa_cons (se_var (i := 1)) sa_nil) T.b_enumerate) (sg_tup rfl (sgs_cons (sg_name (i := 2) sc_check_start.nd) (sgs_cons (sg_name (i := 3) sc_check_start.nd) sgs_nil)))
    (sl_one (ss_if (sb_w (sw_or (sb_not (sb_val (se_call (ok_is_ratio T) (hr.mono (by omega)) hg T.m_is_ratio T.d_is_ratio.kp (bd_is_ratio T) (sa_cons (se_var (i := 3)) sa_nil)))) (sw_or1 (sb_lt (se_ix (se_var (i := 3)) se_int) se_int))))
    (sl_one ss_never)
    sl_nil)))
    (sl_one (ss_if (sb_ne hr (se_call (ok_total T) (hr.mono (by omega)) hg T.m_total T.d_total.kp (bd_total T) (sa_cons (se_var (i := 1)) sa_nil)) (se_glob T.g_ONE (by rfl)))
    (sl_one ss_never)
    sl_nil))))).imp fun _ _ _ _ => spOf_run'
theorem sc_is_memory : FnScope n_is_memory p_is_memory (defScope s_is_memory) := ⟨rfl, rfl, rfl, by decide +kernel, rfl, by decide +kernel, by decide +kernel⟩
theorem bd_is_memory (T : Txt K mg ad fd) : Binds K (fd 22) p_is_memory [] := T.d_is_memory.binds (ps := p_is_memory) fun _ _ _ _ _ _ us hl => match us, hl with | [_, _], _ => rfl
theorem ok_is_memory (T : Txt K mg ad fd) : FnG P w K mg base 3 (ad 22) (fd 22) p_is_memory (spOf K 2 f_is_memory) := (fnG_of (m := m_is_memory) T.d_is_memory sc_is_memory fun cdv A outer s H E hr hg =>
    (sl_cons (ss_if (sb_w (sw_or (sb_not (sb_val (se_isi (T := "tuple") (by decide) (se_var (i := 1)) T.b_isinstance T.b_tuple (by decide +kernel)))) (sw_or (sb_not (sb_lele se_int (se_len (sa_cons (se_var (i := 1)) sa_nil) T.b_len) (se_glob T.g_MOST_MEMORY (by rfl)))) (sw_or1 (sb_eq hr (se_mod (se_len (sa_cons (se_var (i := 1)) sa_nil) T.b_len) se_int) se_int)))))
    (sl_one (ss_ret se_bl))
    sl_nil)
    (sl_cons (ss_if (sb_not (sb_val (se_call (ok_is_between T) (hr.mono (by omega)) hg T.m_is_between T.d_is_between.kp (bd_is_between T) (sa_cons (se_ix (se_var (i := 1)) se_int) (sa_cons se_int (sa_cons (se_sub (se_len (sa_cons (se_ix (se_var (i := 0)) se_int) sa_nil) T.b_len) se_int) sa_nil))))))
    (sl_one (ss_ret se_bl))
    sl_nil)
    (sl_cons (ss_for PassesOwn.never rfl (si_range3 (sa_cons se_int (sa_cons (se_len (sa_cons (se_var (i := 1)) sa_nil) T.b_len) (sa_cons se_int sa_nil))) T.b_range) (sg_name (i := 2) sc_is_memory.nd)
    (sl_cons (ss_set (i := 3) sc_is_memory.nd rfl (.inl rfl) (se_ix (se_ix (se_var (i := 0)) se_int) (se_ix (se_var (i := 1)) (se_sub (se_var (i := 2)) se_int))))
    (sl_cons (ss_if (sb_w (sw_or (sb_not (sb_val (se_call (ok_is_between T) (hr.mono (by omega)) hg T.m_is_between T.d_is_between.kp (bd_is_between T) (sa_cons (se_ix (se_var (i := 1)) (se_var (i := 2))) (sa_cons se_int (sa_cons (se_sub (se_len (sa_cons (se_var (i := 3)) sa_nil) T.b_len) se_int) sa_nil)))))) (sw_or1 (sb_not (sb_val (se_call (ok_is_between T) (hr.mono (by omega)) hg T.m_is_between T.d_is_between.kp (bd_is_between T) (sa_cons (se_ix (se_var (i := 1)) (se_add (se_var (i := 2)) se_int)) (sa_cons se_int (sa_cons (se_sub (se_len (sa_cons (se_ix (se_var (i := 0)) se_int) sa_nil) T.b_len) se_int) sa_nil)))))))))
    (sl_one (ss_ret se_bl))
    sl_nil)
    (sl_one (ss_if (sb_notin hr (se_ix (se_var (i := 1)) (se_add (se_var (i := 2)) se_int)) (se_lc (own := [("goal", 4), ("_", 5)]) (is := [4, 5]) rfl sc_is_memory.nd (si_seq (se_ix (se_ix (se_var (i := 3)) (se_ix (se_var (i := 1)) (se_var (i := 2)))) se_int)) (blkOk_by (own := [("goal", 4), ("_", 5)]) (N := n_is_memory) (sc := defScope s_is_memory) (by decide +kernel)) (by decide) (fun _ _ _ _ _ => (sg_tup rfl (sgs_cons (sg_name (i := 4) sc_is_memory.nd) (sgs_cons (sg_name (i := 5) sc_is_memory.nd) sgs_nil)))) (fun _ _ _ _ _ => sts_nil) (fun _ _ _ _ _ => (se_var (i := 4)))))
    (sl_one (ss_ret se_bl))
    sl_nil)))))
    (sl_one (ss_ret se_bl)))))).imp fun _ _ _ _ => spOf_run'
theorem sc_is_told_by : FnScope n_is_told_by p_is_told_by (defScope s_is_told_by) := ⟨rfl, rfl, rfl, by decide +kernel, rfl, by decide +kernel, by decide +kernel⟩
theorem bd_is_told_by (T : Txt K mg ad fd) : Binds K (fd 23) p_is_told_by [] := T.d_is_told_by.binds (ps := p_is_told_by) fun _ _ _ _ _ _ us hl => match us, hl with | [_, _], _ => rfl
theorem ok_is_told_by (T : Txt K mg ad fd) : FnG P w K mg base 6 (ad 23) (fd 23) p_is_told_by (spOf K 2 f_is_told_by) := (fnG_of (m := m_is_told_by) T.d_is_told_by sc_is_told_by fun cdv A outer s H E hr hg =>
    (sl_cons (ss_if (sb_w (sw_or (sb_not (sb_val (se_call (ok_is_tuple_of T) (hr.mono (by omega)) hg T.m_is_tuple_of T.d_is_tuple_of.kp (bd_is_tuple_of T) (sa_cons (se_var (i := 1)) (sa_cons se_int sa_nil))))) (sw_or (sb_not (sb_val (se_isi (T := "tuple") (by decide) (se_ix (se_var (i := 1)) se_int) T.b_isinstance T.b_tuple (by decide +kernel)))) (sw_or1 (sb_gt (se_len (sa_cons (se_ix (se_var (i := 1)) se_int) sa_nil) T.b_len) (se_glob T.g_MOST_LISTS (by rfl)))))))
    (sl_one (ss_ret se_bl))
    sl_nil)
    (sl_cons (ss_if (sb_not (sb_val (se_all rfl (sa_cons (se_lc (own := [("each", 2)]) (is := [2]) rfl sc_is_told_by.nd (si_seq (se_ix (se_var (i := 1)) se_int)) (blkOk_by (own := [("each", 2)]) (N := n_is_told_by) (sc := defScope s_is_told_by) (by decide +kernel)) (by decide) (fun _ _ _ _ _ => (sg_name (i := 2) sc_is_told_by.nd)) (fun _ _ _ _ _ => sts_nil) (fun _ _ _ _ _ => (se_and (se_call (ok_is_tuple_of T) (hr.mono (by omega)) hg T.m_is_tuple_of T.d_is_tuple_of.kp (bd_is_tuple_of T) (sa_cons (se_var (i := 2)) (sa_cons se_int sa_nil))) (se_one (se_call (ok_is_memory T) (hr.mono (by omega)) hg T.m_is_memory T.d_is_memory.kp (bd_is_memory T) (sa_cons (se_var (i := 0)) (sa_cons (se_ix (se_var (i := 2)) se_int) sa_nil))))))) sa_nil) T.b_all)))
    (sl_one (ss_ret se_bl))
    sl_nil)
    (sl_cons (ss_if (sb_not (sb_val (se_all rfl (sa_cons (se_lc (own := [("one", 3), ("two", 4)]) (is := [3, 4]) rfl sc_is_told_by.nd (si_z2 (sa_cons (se_ix (se_var (i := 1)) se_int) (sa_cons (se_sl (se_ix (se_var (i := 1)) se_int) (so_some se_int) so_none) sa_nil)) T.b_zip) (blkOk_by (own := [("one", 3), ("two", 4)]) (N := n_is_told_by) (sc := defScope s_is_told_by) (by decide +kernel)) (by decide) (fun _ _ _ _ _ => (sg_tup rfl (sgs_cons (sg_name (i := 3) sc_is_told_by.nd) (sgs_cons (sg_name (i := 4) sc_is_told_by.nd) sgs_nil)))) (fun _ _ _ _ _ => sts_nil) (fun _ _ _ _ _ => (se_ltT hr (se_ix (se_var (i := 3)) se_int) (se_ix (se_var (i := 4)) se_int)))) sa_nil) T.b_all)))
    (sl_one (ss_ret se_bl))
    sl_nil)
    (sl_cons (ss_if (sb_not (sb_val (se_all rfl (sa_cons (se_lc (own := [("memory", 5), ("odds", 6)]) (is := [5, 6]) rfl sc_is_told_by.nd (si_seq (se_ix (se_var (i := 1)) se_int)) (blkOk_by (own := [("memory", 5), ("odds", 6)]) (N := n_is_told_by) (sc := defScope s_is_told_by) (by decide +kernel)) (by decide) (fun _ _ _ _ _ => (sg_tup rfl (sgs_cons (sg_name (i := 5) sc_is_told_by.nd) (sgs_cons (sg_name (i := 6) sc_is_told_by.nd) sgs_nil)))) (fun _ _ _ _ _ => sts_nil) (fun _ _ _ _ _ => (se_call (ok_is_chance_row T) (hr.mono (by omega)) hg T.m_is_chance_row T.d_is_chance_row.kp (bd_is_chance_row T) (sa_cons (se_var (i := 6)) (sa_cons (se_len (sa_cons (se_ix (se_ix (se_var (i := 0)) se_int) (se_ix (se_var (i := 5)) (se_neg se_int))) sa_nil) T.b_len) sa_nil))))) sa_nil) T.b_all)))
    (sl_one (ss_ret se_bl))
    sl_nil)
    (sl_one (ss_ret (se_call (ok_is_still_by T) (hr.mono (by omega)) hg T.m_is_still_by T.d_is_still_by.kp (bd_is_still_by T) (sa_cons (se_var (i := 0)) (sa_cons (se_ix (se_var (i := 1)) se_int) sa_nil)))))))))).imp fun _ _ _ _ => spOf_run'
theorem sc_is_player_by : FnScope n_is_player_by p_is_player_by (defScope s_is_player_by) := ⟨rfl, rfl, rfl, by decide +kernel, rfl, by decide +kernel, by decide +kernel⟩
theorem bd_is_player_by (T : Txt K mg ad fd) : Binds K (fd 24) p_is_player_by [] := T.d_is_player_by.binds (ps := p_is_player_by) fun _ _ _ _ _ _ us hl => match us, hl with | [_, _], _ => rfl
theorem ok_is_player_by (T : Txt K mg ad fd) : FnG P w K mg base 7 (ad 24) (fd 24) p_is_player_by (spOf K 2 f_is_player_by) := (fnG_of (m := m_is_player_by) T.d_is_player_by sc_is_player_by fun cdv A outer s H E hr hg =>
    (sl_cons (ss_if (sb_w (sw_or (sb_not (sb_val (se_call (ok_is_tuple_of T) (hr.mono (by omega)) hg T.m_is_tuple_of T.d_is_tuple_of.kp (bd_is_tuple_of T) (sa_cons (se_var (i := 1)) (sa_cons se_int sa_nil))))) (sw_or1 (sb_not (sb_val (se_isi (T := "str") (by decide) (se_ix (se_var (i := 1)) se_int) T.b_isinstance T.b_str (by decide +kernel)))))))
    (sl_one (ss_ret se_bl))
    sl_nil)
    (sl_cons (ss_if (sb_eq hr (se_ix (se_var (i := 1)) se_int) se_str)
    (sl_one (ss_ret (se_call (ok_is_still_by T) (hr.mono (by omega)) hg T.m_is_still_by T.d_is_still_by.kp (bd_is_still_by T) (sa_cons (se_var (i := 0)) (sa_cons (se_ix (se_var (i := 1)) se_int) sa_nil)))))
    sl_nil)
    (sl_cons (ss_if (sb_eq hr (se_ix (se_var (i := 1)) se_int) se_str)
    (sl_one (ss_ret (se_call (ok_is_minded_by T) (hr.mono (by omega)) hg T.m_is_minded_by T.d_is_minded_by.kp (bd_is_minded_by T) (sa_cons (se_var (i := 0)) (sa_cons (se_ix (se_var (i := 1)) se_int) sa_nil)))))
    sl_nil)
    (sl_one (ss_ret (se_and (se_eq hr (se_ix (se_var (i := 1)) se_int) se_str) (se_one (se_call (ok_is_told_by T) (hr.mono (by omega)) hg T.m_is_told_by T.d_is_told_by.kp (bd_is_told_by T) (sa_cons (se_var (i := 0)) (sa_cons (se_ix (se_var (i := 1)) se_int) sa_nil))))))))))).imp fun _ _ _ _ => spOf_run'
theorem sc_kept_of : FnScope n_kept_of p_kept_of (defScope s_kept_of) := ⟨rfl, rfl, rfl, by decide +kernel, rfl, by decide +kernel, by decide +kernel⟩
theorem bd_kept_of (T : Txt K mg ad fd) : Binds K (fd 25) p_kept_of [] := T.d_kept_of.binds (ps := p_kept_of) fun _ _ _ _ _ _ us hl => match us, hl with | [_, _], _ => rfl
theorem ok_kept_of (T : Txt K mg ad fd) : FnG P w K mg base 1 (ad 25) (fd 25) p_kept_of (spOf K 2 f_kept_of) := (fnG_of (m := m_kept_of) T.d_kept_of sc_kept_of fun cdv A outer s H E hr hg =>
    (sl_cons (ss_if (sb_val (se_any rfl (sa_cons (se_lc (own := [("each", 2), ("_", 3)]) (is := [2, 3]) rfl sc_kept_of.nd (si_seq (se_ix (se_var (i := 0)) se_int)) (blkOk_by (own := [("each", 2), ("_", 3)]) (N := n_kept_of) (sc := defScope s_kept_of) (by decide +kernel)) (by decide) (fun _ _ _ _ _ => (sg_tup rfl (sgs_cons (sg_name (i := 2) sc_kept_of.nd) (sgs_cons (sg_name (i := 3) sc_kept_of.nd) sgs_nil)))) (fun _ _ _ _ _ => sts_nil) (fun _ _ _ _ _ => (se_eq hr (se_sl (se_var (i := 2)) so_none (so_some (se_len (sa_cons (se_var (i := 1)) sa_nil) T.b_len))) (se_var (i := 1))))) sa_nil) T.b_any))
    (sl_one (ss_retV (i := 1)))
    sl_nil)
    (sl_one (ss_ret se_non)))).imp fun _ _ _ _ => spOf_run'
theorem sc_first_kept : FnScope n_first_kept p_first_kept (defScope s_first_kept) := ⟨rfl, rfl, rfl, by decide +kernel, rfl, by decide +kernel, by decide +kernel⟩
theorem bd_first_kept (T : Txt K mg ad fd) : Binds K (fd 26) p_first_kept [] := T.d_first_kept.binds (ps := p_first_kept) fun _ _ _ _ _ _ us hl => match us, hl with | [_, _], _ => rfl
theorem ok_first_kept (T : Txt K mg ad fd) : FnG P w K mg base 2 (ad 26) (fd 26) p_first_kept (spOf K 2 f_first_kept) := (fnG_of (m := m_first_kept) T.d_first_kept sc_first_kept fun cdv A outer s H E hr hg =>
    (sl_cons (ss_if (sb_eq hr (se_ix (se_var (i := 0)) se_int) se_str)
    (sl_one (ss_ret se_non))
    sl_nil)
    (sl_one (ss_ret (se_if (sb_eq hr (se_ix (se_var (i := 0)) se_int) se_str) se_int (se_call (ok_kept_of T) (hr.mono (by omega)) hg T.m_kept_of T.d_kept_of.kp (bd_kept_of T) (sa_cons (se_ix (se_var (i := 0)) se_int) (sa_cons (se_tup (sa_cons (se_var (i := 1)) sa_nil)) sa_nil)))))))).imp fun _ _ _ _ => spOf_run'
theorem sc_next_kept : FnScope n_next_kept p_next_kept (defScope s_next_kept) := ⟨rfl, rfl, rfl, by decide +kernel, rfl, by decide +kernel, by decide +kernel⟩
theorem bd_next_kept (T : Txt K mg ad fd) : Binds K (fd 27) p_next_kept [] := T.d_next_kept.binds (ps := p_next_kept) fun _ _ _ _ _ _ us hl => match us, hl with | [_, _, _, _, _], _ => rfl
theorem ok_next_kept (T : Txt K mg ad fd) : FnG P w K mg base 2 (ad 27) (fd 27) p_next_kept (spOf K 5 f_next_kept) := (fnG_of (m := m_next_kept) T.d_next_kept sc_next_kept fun cdv A outer s H E hr hg =>
    (sl_cons (ss_if (sb_eq hr (se_ix (se_var (i := 0)) se_int) se_str)
    (sl_one (ss_ret (se_ix (se_ix (se_ix (se_ix (se_ix (se_var (i := 0)) se_int) se_int) (se_var (i := 1))) (se_var (i := 2))) (se_var (i := 4)))))
    sl_nil)
    (sl_one (ss_ret (se_if (sb_is (se_var (i := 4)) se_non) se_non (se_call (ok_kept_of T) (hr.mono (by omega)) hg T.m_kept_of T.d_kept_of.kp (bd_kept_of T) (sa_cons (se_ix (se_var (i := 0)) se_int) (sa_cons (se_add (se_var (i := 4)) (se_tup (sa_cons (se_var (i := 2)) (sa_cons (se_var (i := 3)) sa_nil)))) sa_nil)))))))).imp fun _ _ _ _ => spOf_run'
theorem sc_odds_at : FnScope n_odds_at p_odds_at (defScope s_odds_at) := ⟨rfl, rfl, rfl, by decide +kernel, rfl, by decide +kernel, by decide +kernel⟩
theorem bd_odds_at (T : Txt K mg ad fd) : Binds K (fd 28) p_odds_at [] := T.d_odds_at.binds (ps := p_odds_at) fun _ _ _ _ _ _ us hl => match us, hl with | [_, _, _], _ => rfl
theorem ok_odds_at (T : Txt K mg ad fd) : FnG P w K mg base 1 (ad 28) (fd 28) p_odds_at (spOf K 3 f_odds_at) := (fnG_of (m := m_odds_at) T.d_odds_at sc_odds_at fun cdv A outer s H E hr hg =>
    (sl_cons (ss_if (sb_eq hr (se_ix (se_var (i := 0)) se_int) se_str)
    (sl_one (ss_ret (se_ix (se_ix (se_var (i := 0)) se_int) (se_var (i := 1)))))
    sl_nil)
    (sl_cons (ss_if (sb_eq hr (se_ix (se_var (i := 0)) se_int) se_str)
    (sl_one (ss_ret (se_ix (se_ix (se_ix (se_ix (se_var (i := 0)) se_int) se_int) (se_var (i := 1))) (se_var (i := 2)))))
    sl_nil)
    (sl_cons (ss_for PassesOwn.never rfl (si_seq (se_ix (se_ix (se_var (i := 0)) se_int) se_int)) (sg_tup rfl (sgs_cons (sg_name (i := 3) sc_odds_at.nd) (sgs_cons (sg_name (i := 4) sc_odds_at.nd) sgs_nil)))
    (sl_one (ss_if (sb_eq hr (se_var (i := 3)) (se_var (i := 2)))
    (sl_one (ss_retV (i := 4)))
    sl_nil)))
    (sl_one (ss_ret (se_ix (se_ix (se_ix (se_var (i := 0)) se_int) se_int) (se_var (i := 1))))))))).imp fun _ _ _ _ => spOf_run'
theorem sc_check_player : FnScope n_check_player p_check_player (defScope s_check_player) := ⟨rfl, rfl, rfl, by decide +kernel, rfl, by decide +kernel, by decide +kernel⟩
theorem bd_check_player (T : Txt K mg ad fd) : Binds K (fd 29) p_check_player [] := T.d_check_player.binds (ps := p_check_player) fun _ _ _ _ _ _ us hl => match us, hl with | [_, _, _], _ => rfl
theorem ok_check_player (T : Txt K mg ad fd) : FnG P w K mg base 9 (ad 29) (fd 29) p_check_player (spOf K 3 f_check_player) := (fnG_of (m := m_check_player) T.d_check_player sc_check_player fun cdv A outer s H E hr hg =>
    (sl_cons (ss_drop (se_call (ok_check_house T) (hr.mono (by omega)) hg T.m_check_house T.d_check_house.kp (bd_check_house T) (sa_cons (se_var (i := 0)) sa_nil)))
    (sl_cons (ss_drop (se_call (ok_check_start T) (hr.mono (by omega)) hg T.m_check_start T.d_check_start.kp (bd_check_start T) (sa_cons (se_var (i := 0)) (sa_cons (se_var (i := 1)) sa_nil))))
    (sl_one (ss_if (sb_not (sb_val (se_call (ok_is_player_by T) (hr.mono (by omega)) hg T.m_is_player_by T.d_is_player_by.kp (bd_is_player_by T) (sa_cons (se_var (i := 0)) (sa_cons (se_var (i := 2)) sa_nil)))))
    (sl_one ss_never)
    sl_nil))))).imp fun _ _ _ _ => spOf_run'
theorem sc_is_die : FnScope n_is_die p_is_die (defScope s_is_die) := ⟨rfl, rfl, rfl, by decide +kernel, rfl, by decide +kernel, by decide +kernel⟩
theorem bd_is_die (T : Txt K mg ad fd) : Binds K (fd 30) p_is_die [] := T.d_is_die.binds (ps := p_is_die) fun _ _ _ _ _ _ us hl => match us, hl with | [_], _ => rfl
theorem ok_is_die (T : Txt K mg ad fd) : FnG P w K mg base 3 (ad 30) (fd 30) p_is_die (spOf K 1 f_is_die) := (fnG_of (m := m_is_die) T.d_is_die sc_is_die fun cdv A outer s H E hr hg =>
    (sl_one (ss_ret (se_and (se_call (ok_is_ratio T) (hr.mono (by omega)) hg T.m_is_ratio T.d_is_ratio.kp (bd_is_ratio T) (sa_cons (se_var (i := 0)) sa_nil)) (se_one (se_lelt se_int (se_ix (se_var (i := 0)) se_int) (se_ix (se_var (i := 0)) se_int))))))).imp fun _ _ _ _ => spOf_run'
theorem sc_is_step : FnScope n_is_step p_is_step (defScope s_is_step) := ⟨rfl, rfl, rfl, by decide +kernel, rfl, by decide +kernel, by decide +kernel⟩
theorem bd_is_step (T : Txt K mg ad fd) : Binds K (fd 31) p_is_step [] := T.d_is_step.binds (ps := p_is_step) fun _ _ _ _ _ _ us hl => match us, hl with | [_, _], _ => rfl
theorem ok_is_step (T : Txt K mg ad fd) : FnG P w K mg base 3 (ad 31) (fd 31) p_is_step (spOf K 2 f_is_step) := (fnG_of (m := m_is_step) T.d_is_step sc_is_step fun cdv A outer s H E hr hg =>
    (sl_cons (ss_if (sb_w (sw_or (sb_not (sb_val (se_call (ok_is_tuple_of T) (hr.mono (by omega)) hg T.m_is_tuple_of T.d_is_tuple_of.kp (bd_is_tuple_of T) (sa_cons (se_var (i := 1)) (sa_cons se_int sa_nil))))) (sw_or1 (sb_not (sb_val (se_call (ok_is_between T) (hr.mono (by omega)) hg T.m_is_between T.d_is_between.kp (bd_is_between T) (sa_cons (se_ix (se_var (i := 1)) se_int) (sa_cons se_int (sa_cons (se_sub (se_len (sa_cons (se_ix (se_var (i := 0)) se_int) sa_nil) T.b_len) se_int) sa_nil)))))))))
    (sl_one (ss_ret se_bl))
    sl_nil)
    (sl_cons (ss_set (i := 2) sc_is_step.nd rfl (.inl rfl) (se_ix (se_ix (se_var (i := 0)) se_int) (se_ix (se_var (i := 1)) se_int)))
    (sl_cons (ss_if (sb_w (sw_or (sb_not (sb_val (se_call (ok_is_between T) (hr.mono (by omega)) hg T.m_is_between T.d_is_between.kp (bd_is_between T) (sa_cons (se_ix (se_var (i := 1)) se_int) (sa_cons se_int (sa_cons (se_sub (se_len (sa_cons (se_var (i := 2)) sa_nil) T.b_len) se_int) sa_nil)))))) (sw_or1 (sb_not (sb_val (se_call (ok_is_between T) (hr.mono (by omega)) hg T.m_is_between T.d_is_between.kp (bd_is_between T) (sa_cons (se_ix (se_var (i := 1)) se_int) (sa_cons se_int (sa_cons (se_sub (se_len (sa_cons (se_ix (se_var (i := 0)) se_int) sa_nil) T.b_len) se_int) sa_nil)))))))))
    (sl_one (ss_ret se_bl))
    sl_nil)
    (sl_one (ss_ret (se_in hr (se_ix (se_var (i := 1)) se_int) (se_lc (own := [("goal", 3), ("_", 4)]) (is := [3, 4]) rfl sc_is_step.nd (si_seq (se_ix (se_ix (se_var (i := 2)) (se_ix (se_var (i := 1)) se_int)) se_int)) (blkOk_by (own := [("goal", 3), ("_", 4)]) (N := n_is_step) (sc := defScope s_is_step) (by decide +kernel)) (by decide) (fun _ _ _ _ _ => (sg_tup rfl (sgs_cons (sg_name (i := 3) sc_is_step.nd) (sgs_cons (sg_name (i := 4) sc_is_step.nd) sgs_nil)))) (fun _ _ _ _ _ => sts_nil) (fun _ _ _ _ _ => (se_var (i := 3))))))))))).imp fun _ _ _ _ => spOf_run'
end
end WW
namespace WW
open PySem PySem.Spec L2 Dh
section
variable {P : Program} {w : World} {K : PySem.W.Frag} {mg : Str → Option Value} {base : Heap} {ad : Nat → Addr} {fd : Nat → FuncData}
theorem sc_wrong_steps : FnScope n_wrong_steps p_wrong_steps (defScope s_wrong_steps) := ⟨rfl, rfl, rfl, by decide +kernel, rfl, by decide +kernel, by decide +kernel⟩
theorem bd_wrong_steps (T : Txt K mg ad fd) : Binds K (fd 32) p_wrong_steps [] := T.d_wrong_steps.binds (ps := p_wrong_steps) fun _ _ _ _ _ _ us hl => match us, hl with | [_, _], _ => rfl
theorem ok_wrong_steps (T : Txt K mg ad fd) : FnG P w K mg base 4 (ad 32) (fd 32) p_wrong_steps (spOf K 2 f_wrong_steps) := (fnG_of (m := m_wrong_steps) T.d_wrong_steps sc_wrong_steps fun cdv A outer s H E hr hg =>
    (sl_cons (ss_set (i := 2) sc_wrong_steps.nd rfl (.inl rfl) (se_lst sa_nil))
    (sl_cons (ss_for PassesOwn.never rfl (si_enum (sa_cons (se_var (i := 1)) sa_nil) T.b_enumerate) (sg_tup rfl (sgs_cons (sg_name (i := 3) sc_wrong_steps.nd) (sgs_cons (sg_name (i := 4) sc_wrong_steps.nd) sgs_nil)))
    (sl_one (ss_if (sb_w (sw_or (sb_not (sb_val (se_call (ok_is_step T) (hr.mono (by omega)) hg T.m_is_step T.d_is_step.kp (bd_is_step T) (sa_cons (se_var (i := 0)) (sa_cons (se_var (i := 4)) sa_nil))))) (sw_or1 (sb_w (sw_and (sb_gt (se_var (i := 3)) se_int) (sw_and (sb_eqN hr (se_var (i := 2)) (se_lst sa_nil)) (sw_and1 (sb_ne hr (se_ix (se_ix (se_var (i := 1)) (se_sub (se_var (i := 3)) se_int)) se_int) (se_ix (se_var (i := 4)) se_int)))))))))
    (sl_one (ss_append (i := 2) (se_var (i := 3))))
    sl_nil)))
    (sl_one (ss_retV (i := 2)))))).imp fun _ _ _ _ => spOf_run'
theorem sc_picked : FnScope n_picked p_picked (defScope s_picked) := ⟨rfl, rfl, rfl, by decide +kernel, rfl, by decide +kernel, by decide +kernel⟩
theorem bd_picked (T : Txt K mg ad fd) : Binds K (fd 33) p_picked [] := T.d_picked.binds (ps := p_picked) fun _ _ _ _ _ _ us hl => match us, hl with | [_, _], _ => rfl
theorem ok_picked (T : Txt K mg ad fd) : FnG P w K mg base 3 (ad 33) (fd 33) p_picked (spOf K 2 f_picked) := (fnG_of (m := m_picked) T.d_picked sc_picked fun cdv A outer s H E hr hg =>
    (sl_cons (ss_set (i := 2) sc_picked.nd rfl (.inl rfl) (se_glob T.g_ZERO (by rfl)))
    (sl_cons (ss_for PassesOwn.never rfl (si_enum (sa_cons (se_var (i := 0)) sa_nil) T.b_enumerate) (sg_tup rfl (sgs_cons (sg_name (i := 3) sc_picked.nd) (sgs_cons (sg_name (i := 4) sc_picked.nd) sgs_nil)))
    (sl_cons (ss_set (i := 2) sc_picked.nd rfl (.inl rfl) (se_call (ok_plus T) (hr.mono (by omega)) hg T.m_plus T.d_plus.kp (bd_plus T) (sa_cons (se_var (i := 2)) (sa_cons (se_var (i := 4)) sa_nil))))
    (sl_one (ss_if (sb_val (se_call (ok_is_less T) (hr.mono (by omega)) hg T.m_is_less T.d_is_less.kp (bd_is_less T) (sa_cons (se_var (i := 1)) (sa_cons (se_var (i := 2)) sa_nil))))
    (sl_one (ss_retV (i := 3)))
    sl_nil))))
    (sl_one (ss_ret (se_sub (se_len (sa_cons (se_var (i := 0)) sa_nil) T.b_len) se_int)))))).imp fun _ _ _ _ => spOf_run'
theorem sc_run_by : FnScope n_run_by p_run_by (defScope s_run_by) := ⟨rfl, rfl, rfl, by decide +kernel, rfl, by decide +kernel, by decide +kernel⟩
theorem bd_run_by (T : Txt K mg ad fd) : Binds K (fd 34) p_run_by [] := T.d_run_by.binds (ps := p_run_by) fun _ _ _ _ _ _ us hl => match us, hl with | [_, _, _, _], _ => rfl
theorem ok_run_by (T : Txt K mg ad fd) : FnG P w K mg base 4 (ad 34) (fd 34) p_run_by (spOf K 4 f_run_by) := (fnG_of (m := m_run_by) T.d_run_by sc_run_by fun cdv A outer s H E hr hg =>
    (sl_cons (ss_set (i := 4) sc_run_by.nd rfl (.inl rfl) (se_call (ok_picked T) (hr.mono (by omega)) hg T.m_picked T.d_picked.kp (bd_picked T) (sa_cons (se_var (i := 1)) (sa_cons (se_ix (se_var (i := 3)) se_int) sa_nil))))
    (sl_cons (ss_par (i := 5) (j := 6) rfl sc_run_by.nd (sa_cons (se_call (ok_first_kept T) (hr.mono (by omega)) hg T.m_first_kept T.d_first_kept.kp (bd_first_kept T) (sa_cons (se_var (i := 2)) (sa_cons (se_var (i := 4)) sa_nil))) (sa_cons (se_lst sa_nil) sa_nil)))
    (sl_cons (ss_for PassesOwn.never rfl (si_range3 (sa_cons se_int (sa_cons (se_len (sa_cons (se_var (i := 3)) sa_nil) T.b_len) (sa_cons se_int sa_nil))) T.b_range) (sg_name (i := 7) sc_run_by.nd)
    (sl_cons (ss_set (i := 8) sc_run_by.nd rfl (.inl rfl) (se_call (ok_picked T) (hr.mono (by omega)) hg T.m_picked T.d_picked.kp (bd_picked T) (sa_cons (se_call (ok_odds_at T) (hr.mono (by omega)) hg T.m_odds_at T.d_odds_at.kp (bd_odds_at T) (sa_cons (se_var (i := 2)) (sa_cons (se_var (i := 4)) (sa_cons (se_var (i := 5)) sa_nil)))) (sa_cons (se_ix (se_var (i := 3)) (se_var (i := 7))) sa_nil))))
    (sl_cons (ss_set (i := 9) sc_run_by.nd rfl (.inl rfl) (se_ix (se_ix (se_ix (se_ix (se_var (i := 0)) se_int) (se_var (i := 4))) (se_var (i := 8))) se_int))
    (sl_cons (ss_set (i := 10) sc_run_by.nd rfl (.inl rfl) (se_ix (se_ix (se_var (i := 9)) (se_call (ok_picked T) (hr.mono (by omega)) hg T.m_picked T.d_picked.kp (bd_picked T) (sa_cons (se_lc (own := [("_", 11), ("chance", 12)]) (is := [11, 12]) rfl sc_run_by.nd (si_seq (se_var (i := 9))) (blkOk_by (own := [("_", 11), ("chance", 12)]) (N := n_run_by) (sc := defScope s_run_by) (by decide +kernel)) (by decide) (fun _ _ _ _ _ => (sg_tup rfl (sgs_cons (sg_name (i := 11) sc_run_by.nd) (sgs_cons (sg_name (i := 12) sc_run_by.nd) sgs_nil)))) (fun _ _ _ _ _ => sts_nil) (fun _ _ _ _ _ => (se_var (i := 12)))) (sa_cons (se_ix (se_var (i := 3)) (se_add (se_var (i := 7)) se_int)) sa_nil)))) se_int))
    (sl_cons (ss_append (i := 6) (se_tup (sa_cons (se_var (i := 4)) (sa_cons (se_var (i := 8)) (sa_cons (se_var (i := 10)) sa_nil)))))
    (sl_one (ss_par (i := 4) (j := 5) rfl sc_run_by.nd (sa_cons (se_var (i := 10)) (sa_cons (se_call (ok_next_kept T) (hr.mono (by omega)) hg T.m_next_kept T.d_next_kept.kp (bd_next_kept T) (sa_cons (se_var (i := 2)) (sa_cons (se_var (i := 4)) (sa_cons (se_var (i := 8)) (sa_cons (se_var (i := 10)) (sa_cons (se_var (i := 5)) sa_nil)))))) sa_nil)))))))))
    (sl_one (ss_ret (se_tuple (sa_cons (se_var (i := 6)) sa_nil) T.b_tuple))))))).imp fun _ _ _ _ => spOf_run'
theorem sc_stretch_of : FnScope n_stretch_of p_stretch_of (defScope s_stretch_of) := ⟨rfl, rfl, rfl, by decide +kernel, rfl, by decide +kernel, by decide +kernel⟩
theorem bd_stretch_of (T : Txt K mg ad fd) : Binds K (fd 35) p_stretch_of [] := T.d_stretch_of.binds (ps := p_stretch_of) fun _ _ _ _ _ _ us hl => match us, hl with | [_, _], _ => rfl
theorem ok_stretch_of (T : Txt K mg ad fd) : FnG P w K mg base 4 (ad 35) (fd 35) p_stretch_of (spOf K 2 f_stretch_of) := (fnG_of (m := m_stretch_of) T.d_stretch_of sc_stretch_of fun cdv A outer s H E hr hg =>
    (sl_cons (ss_set (i := 2) sc_stretch_of.nd rfl (.inl rfl) (se_call (ok_total T) (hr.mono (by omega)) hg T.m_total T.d_total.kp (bd_total T) (sa_cons (se_sl (se_var (i := 0)) so_none (so_some (se_var (i := 1)))) sa_nil)))
    (sl_one (ss_ret (se_tup (sa_cons (se_var (i := 2)) (sa_cons (se_call (ok_plus T) (hr.mono (by omega)) hg T.m_plus T.d_plus.kp (bd_plus T) (sa_cons (se_var (i := 2)) (sa_cons (se_ix (se_var (i := 0)) (se_var (i := 1))) sa_nil))) sa_nil))))))).imp fun _ _ _ _ => spOf_run'
theorem sc_box_by : FnScope n_box_by p_box_by (defScope s_box_by) := ⟨rfl, rfl, rfl, by decide +kernel, rfl, by decide +kernel, by decide +kernel⟩
theorem bd_box_by (T : Txt K mg ad fd) : Binds K (fd 36) p_box_by [] := T.d_box_by.binds (ps := p_box_by) fun _ _ _ _ _ _ us hl => match us, hl with | [_, _, _, _], _ => rfl
theorem ok_box_by (T : Txt K mg ad fd) : FnG P w K mg base 5 (ad 36) (fd 36) p_box_by (spOf K 4 f_box_by) := (fnG_of (m := m_box_by) T.d_box_by sc_box_by fun cdv A outer s H E hr hg =>
    (sl_cons (ss_if (sb_eqE hr (se_var (i := 3)) (se_tup sa_nil))
    (sl_one (ss_ret (se_tup (sa_cons (se_tup (sa_cons (se_glob T.g_ZERO (by rfl)) (sa_cons (se_glob T.g_ONE (by rfl)) sa_nil))) sa_nil))))
    sl_nil)
    (sl_cons (ss_par (i := 4) (j := 5) rfl sc_box_by.nd (sa_cons (se_lst (sa_cons (se_call (ok_stretch_of T) (hr.mono (by omega)) hg T.m_stretch_of T.d_stretch_of.kp (bd_stretch_of T) (sa_cons (se_var (i := 1)) (sa_cons (se_ix (se_ix (se_var (i := 3)) se_int) se_int) sa_nil))) sa_nil)) (sa_cons (se_call (ok_first_kept T) (hr.mono (by omega)) hg T.m_first_kept T.d_first_kept.kp (bd_first_kept T) (sa_cons (se_var (i := 2)) (sa_cons (se_ix (se_ix (se_var (i := 3)) se_int) se_int) sa_nil))) sa_nil)))
    (sl_cons (ss_for PassesOwn.never rfl (si_seq (se_var (i := 3))) (sg_tup rfl (sgs_cons (sg_name (i := 6) sc_box_by.nd) (sgs_cons (sg_name (i := 7) sc_box_by.nd) (sgs_cons (sg_name (i := 8) sc_box_by.nd) sgs_nil))))
    (sl_cons (ss_set (i := 9) sc_box_by.nd rfl (.inl rfl) (se_ix (se_ix (se_ix (se_ix (se_var (i := 0)) se_int) (se_var (i := 6))) (se_var (i := 7))) se_int))
    (sl_cons (ss_append (i := 4) (se_call (ok_stretch_of T) (hr.mono (by omega)) hg T.m_stretch_of T.d_stretch_of.kp (bd_stretch_of T) (sa_cons (se_call (ok_odds_at T) (hr.mono (by omega)) hg T.m_odds_at T.d_odds_at.kp (bd_odds_at T) (sa_cons (se_var (i := 2)) (sa_cons (se_var (i := 6)) (sa_cons (se_var (i := 5)) sa_nil)))) (sa_cons (se_var (i := 7)) sa_nil))))
    (sl_cons (ss_append (i := 4) (se_call (ok_stretch_of T) (hr.mono (by omega)) hg T.m_stretch_of T.d_stretch_of.kp (bd_stretch_of T) (sa_cons (se_lc (own := [("_", 10), ("chance", 11)]) (is := [10, 11]) rfl sc_box_by.nd (si_seq (se_var (i := 9))) (blkOk_by (own := [("_", 10), ("chance", 11)]) (N := n_box_by) (sc := defScope s_box_by) (by decide +kernel)) (by decide) (fun _ _ _ _ _ => (sg_tup rfl (sgs_cons (sg_name (i := 10) sc_box_by.nd) (sgs_cons (sg_name (i := 11) sc_box_by.nd) sgs_nil)))) (fun _ _ _ _ _ => sts_nil) (fun _ _ _ _ _ => (se_var (i := 11)))) (sa_cons (se_idxL (se_lc (own := [("each", 12), ("_", 10)]) (is := [12, 10]) rfl sc_box_by.nd (si_seq (se_var (i := 9))) (blkOk_by (own := [("each", 12), ("_", 10)]) (N := n_box_by) (sc := defScope s_box_by) (by decide +kernel)) (by decide) (fun _ _ _ _ _ => (sg_tup rfl (sgs_cons (sg_name (i := 12) sc_box_by.nd) (sgs_cons (sg_name (i := 10) sc_box_by.nd) sgs_nil)))) (fun _ _ _ _ _ => sts_nil) (fun _ _ _ _ _ => (se_var (i := 12)))) (se_var (i := 8))) sa_nil))))
    (sl_one (ss_set (i := 5) sc_box_by.nd rfl (.inl rfl) (se_call (ok_next_kept T) (hr.mono (by omega)) hg T.m_next_kept T.d_next_kept.kp (bd_next_kept T) (sa_cons (se_var (i := 2)) (sa_cons (se_var (i := 6)) (sa_cons (se_var (i := 7)) (sa_cons (se_var (i := 8)) (sa_cons (se_var (i := 5)) sa_nil))))))))))))
    (sl_one (ss_ret (se_tuple (sa_cons (se_var (i := 4)) sa_nil) T.b_tuple))))))).imp fun _ _ _ _ => spOf_run'
theorem sc_chance_by : FnScope n_chance_by p_chance_by (defScope s_chance_by) := ⟨rfl, rfl, rfl, by decide +kernel, rfl, by decide +kernel, by decide +kernel⟩
theorem bd_chance_by (T : Txt K mg ad fd) : Binds K (fd 37) p_chance_by [] := T.d_chance_by.binds (ps := p_chance_by) fun _ _ _ _ _ _ us hl => match us, hl with | [_, _, _, _], _ => rfl
theorem ok_chance_by (T : Txt K mg ad fd) : FnG P w K mg base 3 (ad 37) (fd 37) p_chance_by (spOf K 4 f_chance_by) := (fnG_of (m := m_chance_by) T.d_chance_by sc_chance_by fun cdv A outer s H E hr hg =>
    (sl_cons (ss_if (sb_eqE hr (se_var (i := 3)) (se_tup sa_nil))
    (sl_one (ss_ret (se_glob T.g_ONE (by rfl))))
    sl_nil)
    (sl_cons (ss_par (i := 4) (j := 5) rfl sc_chance_by.nd (sa_cons (se_ix (se_var (i := 1)) (se_ix (se_ix (se_var (i := 3)) se_int) se_int)) (sa_cons (se_call (ok_first_kept T) (hr.mono (by omega)) hg T.m_first_kept T.d_first_kept.kp (bd_first_kept T) (sa_cons (se_var (i := 2)) (sa_cons (se_ix (se_ix (se_var (i := 3)) se_int) se_int) sa_nil))) sa_nil)))
    (sl_cons (ss_for PassesOwn.never rfl (si_seq (se_var (i := 3))) (sg_tup rfl (sgs_cons (sg_name (i := 6) sc_chance_by.nd) (sgs_cons (sg_name (i := 7) sc_chance_by.nd) (sgs_cons (sg_name (i := 8) sc_chance_by.nd) sgs_nil))))
    (sl_cons (ss_set (i := 9) sc_chance_by.nd rfl (.inl rfl) (se_dictP rfl (sa_cons (se_ix (se_ix (se_ix (se_ix (se_var (i := 0)) se_int) (se_var (i := 6))) (se_var (i := 7))) se_int) sa_nil) T.b_dict))
    (sl_cons (ss_set (i := 4) sc_chance_by.nd rfl (.inl rfl) (se_call (ok_times T) (hr.mono (by omega)) hg T.m_times T.d_times.kp (bd_times T) (sa_cons (se_var (i := 4)) (sa_cons (se_call (ok_times T) (hr.mono (by omega)) hg T.m_times T.d_times.kp (bd_times T) (sa_cons (se_ix (se_call (ok_odds_at T) (hr.mono (by omega)) hg T.m_odds_at T.d_odds_at.kp (bd_odds_at T) (sa_cons (se_var (i := 2)) (sa_cons (se_var (i := 6)) (sa_cons (se_var (i := 5)) sa_nil)))) (se_var (i := 7))) (sa_cons (se_ixM hr (se_var (i := 9)) (se_var (i := 8))) sa_nil))) sa_nil))))
    (sl_one (ss_set (i := 5) sc_chance_by.nd rfl (.inl rfl) (se_call (ok_next_kept T) (hr.mono (by omega)) hg T.m_next_kept T.d_next_kept.kp (bd_next_kept T) (sa_cons (se_var (i := 2)) (sa_cons (se_var (i := 6)) (sa_cons (se_var (i := 7)) (sa_cons (se_var (i := 8)) (sa_cons (se_var (i := 5)) sa_nil)))))))))))
    (sl_one (ss_retV (i := 4))))))).imp fun _ _ _ _ => spOf_run'
theorem sc_check_dice : FnScope n_check_dice p_check_dice (defScope s_check_dice) := ⟨rfl, rfl, rfl, by decide +kernel, rfl, by decide +kernel, by decide +kernel⟩
theorem bd_check_dice (T : Txt K mg ad fd) : Binds K (fd 38) p_check_dice [] := T.d_check_dice.binds (ps := p_check_dice) fun _ _ _ _ _ _ us hl => match us, hl with | [_], _ => rfl
theorem ok_check_dice (T : Txt K mg ad fd) : FnG P w K mg base 4 (ad 38) (fd 38) p_check_dice (spOf K 1 f_check_dice) := (fnG_of (m := m_check_dice) T.d_check_dice sc_check_dice fun cdv A outer s H E hr hg =>
    (sl_cons (ss_if (sb_w (sw_or (sb_not (sb_val (se_isi (T := "tuple") (by decide) (se_var (i := 0)) T.b_isinstance T.b_tuple (by decide +kernel)))) (sw_or (sb_gt (se_len (sa_cons (se_var (i := 0)) sa_nil) T.b_len) (se_glob T.g_MOST_DICE (by rfl))) (sw_or1 (sb_eq hr (se_mod (se_len (sa_cons (se_var (i := 0)) sa_nil) T.b_len) se_int) se_int)))))
    (sl_one ss_never)
    sl_nil)
    (sl_one (ss_for PassesOwn.never rfl (si_enum (sa_cons (se_var (i := 0)) sa_nil) T.b_enumerate) (sg_tup rfl (sgs_cons (sg_name (i := 1) sc_check_dice.nd) (sgs_cons (sg_name (i := 2) sc_check_dice.nd) sgs_nil)))
    (sl_one (ss_if (sb_not (sb_val (se_call (ok_is_die T) (hr.mono (by omega)) hg T.m_is_die T.d_is_die.kp (bd_is_die T) (sa_cons (se_var (i := 2)) sa_nil))))
    (sl_one ss_never)
    sl_nil)))))).imp fun _ _ _ _ => spOf_run'
theorem sc_check_way : FnScope n_check_way p_check_way (defScope s_check_way) := ⟨rfl, rfl, rfl, by decide +kernel, rfl, by decide +kernel, by decide +kernel⟩
theorem bd_check_way (T : Txt K mg ad fd) : Binds K (fd 39) p_check_way [] := T.d_check_way.binds (ps := p_check_way) fun _ _ _ _ _ _ us hl => match us, hl with | [_, _], _ => rfl
theorem ok_check_way (T : Txt K mg ad fd) : FnG P w K mg base 5 (ad 39) (fd 39) p_check_way (spOf K 2 f_check_way) := (fnG_of (m := m_check_way) T.d_check_way sc_check_way fun cdv A outer s H E hr hg =>
    (sl_cons (ss_if (sb_w (sw_or (sb_not (sb_val (se_isi (T := "tuple") (by decide) (se_var (i := 1)) T.b_isinstance T.b_tuple (by decide +kernel)))) (sw_or1 (sb_gt (se_len (sa_cons (se_var (i := 1)) sa_nil) T.b_len) (se_glob T.g_MOST_WAY (by rfl))))))
    (sl_one ss_never)
    sl_nil)
    (sl_one (ss_for PassesOwn.never rfl (si_seq (se_call (ok_wrong_steps T) (hr.mono (by omega)) hg T.m_wrong_steps T.d_wrong_steps.kp (bd_wrong_steps T) (sa_cons (se_var (i := 0)) (sa_cons (se_var (i := 1)) sa_nil)))) (sg_name (i := 2) sc_check_way.nd)
    (sl_one ss_never))))).imp fun _ _ _ _ => spOf_run'
theorem sc_run : FnScope n_run p_run (defScope s_run) := ⟨rfl, rfl, rfl, by decide +kernel, rfl, by decide +kernel, by decide +kernel⟩
theorem bd_run (T : Txt K mg ad fd) : Binds K (fd 40) p_run [] := T.d_run.binds (ps := p_run) fun _ _ _ _ _ _ us hl => match us, hl with | [_, _, _, _], _ => rfl
theorem ok_run (T : Txt K mg ad fd) : FnG P w K mg base 10 (ad 40) (fd 40) p_run (spOf K 4 f_run) := (fnG_of (m := m_run) T.d_run sc_run fun cdv A outer s H E hr hg =>
    (sl_cons (ss_drop (se_call (ok_check_player T) (hr.mono (by omega)) hg T.m_check_player T.d_check_player.kp (bd_check_player T) (sa_cons (se_var (i := 0)) (sa_cons (se_var (i := 1)) (sa_cons (se_var (i := 2)) sa_nil)))))
    (sl_cons (ss_drop (se_call (ok_check_dice T) (hr.mono (by omega)) hg T.m_check_dice T.d_check_dice.kp (bd_check_dice T) (sa_cons (se_var (i := 3)) sa_nil)))
    (sl_one (ss_ret (se_call (ok_run_by T) (hr.mono (by omega)) hg T.m_run_by T.d_run_by.kp (bd_run_by T) (sa_cons (se_var (i := 0)) (sa_cons (se_var (i := 1)) (sa_cons (se_var (i := 2)) (sa_cons (se_var (i := 3)) sa_nil)))))))))).imp fun _ _ _ _ => spOf_run'
theorem sc_way_chance : FnScope n_way_chance p_way_chance (defScope s_way_chance) := ⟨rfl, rfl, rfl, by decide +kernel, rfl, by decide +kernel, by decide +kernel⟩
theorem bd_way_chance (T : Txt K mg ad fd) : Binds K (fd 41) p_way_chance [] := T.d_way_chance.binds (ps := p_way_chance) fun _ _ _ _ _ _ us hl => match us, hl with | [_, _, _, _], _ => rfl
theorem ok_way_chance (T : Txt K mg ad fd) : FnG P w K mg base 10 (ad 41) (fd 41) p_way_chance (spOf K 4 f_way_chance) := (fnG_of (m := m_way_chance) T.d_way_chance sc_way_chance fun cdv A outer s H E hr hg =>
    (sl_cons (ss_drop (se_call (ok_check_player T) (hr.mono (by omega)) hg T.m_check_player T.d_check_player.kp (bd_check_player T) (sa_cons (se_var (i := 0)) (sa_cons (se_var (i := 1)) (sa_cons (se_var (i := 2)) sa_nil)))))
    (sl_cons (ss_drop (se_call (ok_check_way T) (hr.mono (by omega)) hg T.m_check_way T.d_check_way.kp (bd_check_way T) (sa_cons (se_var (i := 0)) (sa_cons (se_var (i := 3)) sa_nil))))
    (sl_one (ss_ret (se_call (ok_chance_by T) (hr.mono (by omega)) hg T.m_chance_by T.d_chance_by.kp (bd_chance_by T) (sa_cons (se_var (i := 0)) (sa_cons (se_var (i := 1)) (sa_cons (se_var (i := 2)) (sa_cons (se_var (i := 3)) sa_nil)))))))))).imp fun _ _ _ _ => spOf_run'
theorem sc_box_of : FnScope n_box_of p_box_of (defScope s_box_of) := ⟨rfl, rfl, rfl, by decide +kernel, rfl, by decide +kernel, by decide +kernel⟩
theorem bd_box_of (T : Txt K mg ad fd) : Binds K (fd 42) p_box_of [] := T.d_box_of.binds (ps := p_box_of) fun _ _ _ _ _ _ us hl => match us, hl with | [_, _, _, _], _ => rfl
theorem kb_box_of_0123 (T : Txt K mg ad fd) : KB0 K (fd 42) p_box_of ["house", "start", "player", "way"] [0, 1, 2, 3] := by
  obtain ⟨oc, od, kV, doc, pm, an, cdv, ct, osl, e, _, _⟩ := T.d_box_of.ex
  rw [e]
  intro s ws hK hl
  match ws, hl with
  | [_, _, _, _], _ => exact BindsTo.of_eq rfl
theorem ok_box_of (T : Txt K mg ad fd) : FnG P w K mg base 10 (ad 42) (fd 42) p_box_of (spOf K 4 f_box_of) := (fnG_of (m := m_box_of) T.d_box_of sc_box_of fun cdv A outer s H E hr hg =>
    (sl_cons (ss_drop (se_call (ok_check_player T) (hr.mono (by omega)) hg T.m_check_player T.d_check_player.kp (bd_check_player T) (sa_cons (se_var (i := 0)) (sa_cons (se_var (i := 1)) (sa_cons (se_var (i := 2)) sa_nil)))))
    (sl_cons (ss_drop (se_call (ok_check_way T) (hr.mono (by omega)) hg T.m_check_way T.d_check_way.kp (bd_check_way T) (sa_cons (se_var (i := 0)) (sa_cons (se_var (i := 3)) sa_nil))))
    (sl_cons (ss_if (sb_eq hr (se_call (ok_chance_by T) (hr.mono (by omega)) hg T.m_chance_by T.d_chance_by.kp (bd_chance_by T) (sa_cons (se_var (i := 0)) (sa_cons (se_var (i := 1)) (sa_cons (se_var (i := 2)) (sa_cons (se_var (i := 3)) sa_nil))))) (se_glob T.g_ZERO (by rfl)))
    (sl_one (ss_ret se_non))
    sl_nil)
    (sl_one (ss_ret (se_call (ok_box_by T) (hr.mono (by omega)) hg T.m_box_by T.d_box_by.kp (bd_box_by T) (sa_cons (se_var (i := 0)) (sa_cons (se_var (i := 1)) (sa_cons (se_var (i := 2)) (sa_cons (se_var (i := 3)) sa_nil))))))))))).imp fun _ _ _ _ => spOf_run'
theorem sc_law_urn : FnScope n_law_urn p_law_urn (defScope s_law_urn) := ⟨rfl, rfl, rfl, by decide +kernel, rfl, by decide +kernel, by decide +kernel⟩
theorem bd_law_urn (T : Txt K mg ad fd) : Binds K (fd 43) p_law_urn [] := T.d_law_urn.binds (ps := p_law_urn) fun _ _ _ _ _ _ us hl => match us, hl with | [_, _], _ => rfl
theorem ok_law_urn (T : Txt K mg ad fd) : FnG P w K mg base 1 (ad 43) (fd 43) p_law_urn (spOf K 2 f_law_urn) := (fnG_of (m := m_law_urn) T.d_law_urn sc_law_urn fun cdv A outer s H E hr hg =>
    (sl_cons (ss_set (i := 2) sc_law_urn.nd rfl (.inl rfl) (se_add se_int (se_mul se_int (se_var (i := 1)))))
    (sl_cons (ss_for PassesOwn.never rfl (si_seq (se_sl (se_var (i := 0)) so_none (so_some se_int))) (sg_name (i := 3) sc_law_urn.nd)
    (sl_one (ss_set (i := 2) sc_law_urn.nd rfl (.inl rfl) (se_mod (se_toint (sa_cons (se_add (se_add (se_mul (se_var (i := 2)) se_int) (se_mod (se_toint (sa_cons (se_var (i := 3)) sa_nil) T.b_int) se_int)) se_int) sa_nil) T.b_int) se_int))))
    (sl_cons (ss_set (i := 4) sc_law_urn.nd rfl (.inl rfl) (se_if (sb_lt (se_var (i := 1)) (se_len (sa_cons (se_var (i := 0)) sa_nil) T.b_len)) (se_toint (sa_cons (se_ix (se_var (i := 0)) (se_var (i := 1))) sa_nil) T.b_int) se_int))
    (sl_one (ss_ret (se_lst (sa_cons (se_if (sb_w (sw_or (sb_lt (se_var (i := 4)) se_int) (sw_or1 (sb_ge (se_var (i := 4)) (se_pow se_int se_int))))) (se_abs (sa_cons (se_var (i := 4)) sa_nil) T.b_abs) se_int) (sa_cons (se_var (i := 2)) (sa_cons se_int sa_nil)))))))))).imp fun _ _ _ _ => spOf_run'
theorem sc_law_draw : FnScope n_law_draw p_law_draw (defScope s_law_draw) := ⟨rfl, rfl, rfl, by decide +kernel, rfl, by decide +kernel, by decide +kernel⟩
theorem bd_law_draw (T : Txt K mg ad fd) : Binds K (fd 44) p_law_draw [] := T.d_law_draw.binds (ps := p_law_draw) fun _ _ _ _ _ _ us hl => match us, hl with | [_, _], _ => rfl
theorem ok_law_draw (T : Txt K mg ad fd) : FnG P w K mg base 1 (ad 44) (fd 44) p_law_draw (spOf K 2 f_law_draw) := (fnG_of (m := m_law_draw) T.d_law_draw sc_law_draw fun cdv A outer s H E hr hg =>
    (sl_cons (ss_if (sb_gt (se_ix (se_var (i := 0)) se_int) se_int)
    (sl_cons (ss_pair (i := 0) (j := 2) rfl sc_law_draw.nd (se_divmod (sa_cons (se_ix (se_var (i := 0)) se_int) (sa_cons (se_var (i := 1)) sa_nil)) T.b_divmod) (pg_sub (pv 0) se_int set_list))
    (sl_one (ss_retV (i := 2))))
    sl_nil)
    (sl_cons (ss_put (i := 0) (se_add (se_ix (se_var (i := 0)) se_int) se_int) (pg_sub (pv 0) se_int set_list))
    (sl_cons (ss_set (i := 3) sc_law_draw.nd rfl (.inl rfl) (se_mod (se_toint (sa_cons (se_add (se_add (se_mul (se_ix (se_var (i := 0)) se_int) se_int) (se_mul (se_ix (se_var (i := 0)) se_int) se_int)) se_int) sa_nil) T.b_int) se_int))
    (sl_cons (ss_put (i := 0) (se_var (i := 3)) (pg_sub (pv 0) se_int set_list))
    (sl_one (ss_ret (se_mod (se_toint (sa_cons (se_fdiv (se_toint (sa_cons (se_mul (se_var (i := 3)) (se_add (se_mod (se_toint (sa_cons (se_var (i := 3)) sa_nil) T.b_int) se_int) se_int)) sa_nil) T.b_int) se_int) sa_nil) T.b_int) (se_var (i := 1)))))))))).imp fun _ _ _ _ => spOf_run'
theorem sc_law_pick : FnScope n_law_pick p_law_pick (defScope s_law_pick) := ⟨rfl, rfl, rfl, by decide +kernel, rfl, by decide +kernel, by decide +kernel⟩
theorem bd_law_pick (T : Txt K mg ad fd) : Binds K (fd 45) p_law_pick [] := T.d_law_pick.binds (ps := p_law_pick) fun _ _ _ _ _ _ us hl => match us, hl with | [_, _], _ => rfl
theorem ok_law_pick (T : Txt K mg ad fd) : FnG P w K mg base 2 (ad 45) (fd 45) p_law_pick (spOf K 2 f_law_pick) := (fnG_of (m := m_law_pick) T.d_law_pick sc_law_pick fun cdv A outer s H E hr hg =>
    (sl_one (ss_ret (se_ix (se_var (i := 1)) (se_call (ok_law_draw T) (hr.mono (by omega)) hg T.m_law_draw T.d_law_draw.kp (bd_law_draw T) (sa_cons (se_var (i := 0)) (sa_cons (se_len (sa_cons (se_var (i := 1)) sa_nil) T.b_len) sa_nil))))))).imp fun _ _ _ _ => spOf_run'
theorem sc_law_cut : FnScope n_law_cut p_law_cut (defScope s_law_cut) := ⟨rfl, rfl, rfl, by decide +kernel, rfl, by decide +kernel, by decide +kernel⟩
theorem bd_law_cut (T : Txt K mg ad fd) : Binds K (fd 46) p_law_cut [] := T.d_law_cut.binds (ps := p_law_cut) fun _ _ _ _ _ _ us hl => match us, hl with | [_, _], _ => rfl
theorem ok_law_cut (T : Txt K mg ad fd) : FnG P w K mg base 1 (ad 46) (fd 46) p_law_cut (spOf K 2 f_law_cut) := (fnG_of (m := m_law_cut) T.d_law_cut sc_law_cut fun cdv A outer s H E hr hg =>
    (sl_cons (ss_par (i := 2) (j := 3) rfl sc_law_cut.nd (sa_cons (se_abs (sa_cons (se_var (i := 0)) sa_nil) T.b_abs) (sa_cons (se_var (i := 1)) sa_nil)))
    (sl_cons (ss_while PassesOwn.never (sb_gt (se_var (i := 3)) se_int)
    (sl_one (ss_par (i := 2) (j := 3) rfl sc_law_cut.nd (sa_cons (se_var (i := 3)) (sa_cons (se_mod (se_toint (sa_cons (se_var (i := 2)) sa_nil) T.b_int) (se_var (i := 3))) sa_nil)))))
    (sl_one (ss_ret (se_tup (sa_cons (se_fdiv (se_var (i := 0)) (se_var (i := 2))) (sa_cons (se_fdiv (se_var (i := 1)) (se_var (i := 2))) sa_nil)))))))).imp fun _ _ _ _ => spOf_run'
theorem sc_law_plus : FnScope n_law_plus p_law_plus (defScope s_law_plus) := ⟨rfl, rfl, rfl, by decide +kernel, rfl, by decide +kernel, by decide +kernel⟩
theorem bd_law_plus (T : Txt K mg ad fd) : Binds K (fd 47) p_law_plus [] := T.d_law_plus.binds (ps := p_law_plus) fun _ _ _ _ _ _ us hl => match us, hl with | [_, _], _ => rfl
theorem ok_law_plus (T : Txt K mg ad fd) : FnG P w K mg base 2 (ad 47) (fd 47) p_law_plus (spOf K 2 f_law_plus) := (fnG_of (m := m_law_plus) T.d_law_plus sc_law_plus fun cdv A outer s H E hr hg =>
    (sl_one (ss_ret (se_call (ok_law_cut T) (hr.mono (by omega)) hg T.m_law_cut T.d_law_cut.kp (bd_law_cut T) (sa_cons (se_add (se_mul (se_ix (se_var (i := 0)) se_int) (se_ix (se_var (i := 1)) se_int)) (se_mul (se_ix (se_var (i := 1)) se_int) (se_ix (se_var (i := 0)) se_int))) (sa_cons (se_mul (se_ix (se_var (i := 0)) se_int) (se_ix (se_var (i := 1)) se_int)) sa_nil)))))).imp fun _ _ _ _ => spOf_run'
end
end WW
namespace WW
open PySem PySem.Spec L2 Dh
section
variable {P : Program} {w : World} {K : PySem.W.Frag} {mg : Str → Option Value} {base : Heap} {ad : Nat → Addr} {fd : Nat → FuncData}
theorem sc_law_times : FnScope n_law_times p_law_times (defScope s_law_times) := ⟨rfl, rfl, rfl, by decide +kernel, rfl, by decide +kernel, by decide +kernel⟩
theorem bd_law_times (T : Txt K mg ad fd) : Binds K (fd 48) p_law_times [] := T.d_law_times.binds (ps := p_law_times) fun _ _ _ _ _ _ us hl => match us, hl with | [_, _], _ => rfl
theorem ok_law_times (T : Txt K mg ad fd) : FnG P w K mg base 2 (ad 48) (fd 48) p_law_times (spOf K 2 f_law_times) := (fnG_of (m := m_law_times) T.d_law_times sc_law_times fun cdv A outer s H E hr hg =>
    (sl_one (ss_ret (se_call (ok_law_cut T) (hr.mono (by omega)) hg T.m_law_cut T.d_law_cut.kp (bd_law_cut T) (sa_cons (se_mul (se_ix (se_var (i := 0)) se_int) (se_ix (se_var (i := 1)) se_int)) (sa_cons (se_mul (se_ix (se_var (i := 0)) se_int) (se_ix (se_var (i := 1)) se_int)) sa_nil)))))).imp fun _ _ _ _ => spOf_run'
theorem sc_law_less : FnScope n_law_less p_law_less (defScope s_law_less) := ⟨rfl, rfl, rfl, by decide +kernel, rfl, by decide +kernel, by decide +kernel⟩
theorem bd_law_less (T : Txt K mg ad fd) : Binds K (fd 49) p_law_less [] := T.d_law_less.binds (ps := p_law_less) fun _ _ _ _ _ _ us hl => match us, hl with | [_, _], _ => rfl
theorem ok_law_less (T : Txt K mg ad fd) : FnG P w K mg base 2 (ad 49) (fd 49) p_law_less (spOf K 2 f_law_less) := (fnG_of (m := m_law_less) T.d_law_less sc_law_less fun cdv A outer s H E hr hg =>
    (sl_one (ss_ret (se_call (ok_law_cut T) (hr.mono (by omega)) hg T.m_law_cut T.d_law_cut.kp (bd_law_cut T) (sa_cons (se_sub (se_mul (se_ix (se_var (i := 0)) se_int) (se_ix (se_var (i := 1)) se_int)) (se_mul (se_ix (se_var (i := 1)) se_int) (se_ix (se_var (i := 0)) se_int))) (sa_cons (se_mul (se_ix (se_var (i := 0)) se_int) (se_ix (se_var (i := 1)) se_int)) sa_nil)))))).imp fun _ _ _ _ => spOf_run'
theorem sc_law_is_under : FnScope n_law_is_under p_law_is_under (defScope s_law_is_under) := ⟨rfl, rfl, rfl, by decide +kernel, rfl, by decide +kernel, by decide +kernel⟩
theorem bd_law_is_under (T : Txt K mg ad fd) : Binds K (fd 50) p_law_is_under [] := T.d_law_is_under.binds (ps := p_law_is_under) fun _ _ _ _ _ _ us hl => match us, hl with | [_, _], _ => rfl
theorem ok_law_is_under (T : Txt K mg ad fd) : FnG P w K mg base 1 (ad 50) (fd 50) p_law_is_under (spOf K 2 f_law_is_under) := (fnG_of (m := m_law_is_under) T.d_law_is_under sc_law_is_under fun cdv A outer s H E hr hg =>
    (sl_one (ss_ret (se_lt (se_mul (se_ix (se_var (i := 0)) se_int) (se_ix (se_var (i := 1)) se_int)) (se_mul (se_ix (se_var (i := 1)) se_int) (se_ix (se_var (i := 0)) se_int)))))).imp fun _ _ _ _ => spOf_run'
theorem sc_law_odds : FnScope n_law_odds p_law_odds (defScope s_law_odds) := ⟨rfl, rfl, rfl, by decide +kernel, rfl, by decide +kernel, by decide +kernel⟩
theorem bd_law_odds (T : Txt K mg ad fd) : Binds K (fd 51) p_law_odds [] := T.d_law_odds.binds (ps := p_law_odds) fun _ _ _ _ _ _ us hl => match us, hl with | [_, _], _ => rfl
theorem ok_law_odds (T : Txt K mg ad fd) : FnG P w K mg base 3 (ad 51) (fd 51) p_law_odds (spOf K 2 f_law_odds) := (fnG_of (m := m_law_odds) T.d_law_odds sc_law_odds fun cdv A outer s H E hr hg =>
    (sl_cons (ss_set (i := 2) sc_law_odds.nd rfl (.inl rfl) (se_lst sa_nil))
    (sl_cons (ss_for PassesOwn.never rfl (si_range1 (sa_cons (se_var (i := 1)) sa_nil) T.b_range) (sg_name (i := 3) sc_law_odds.nd)
    (sl_one (ss_append (i := 2) (se_call (ok_law_pick T) (hr.mono (by omega)) hg T.m_law_pick T.d_law_pick.kp (bd_law_pick T) (sa_cons (se_var (i := 0)) (sa_cons (se_lst (sa_cons se_int (sa_cons se_int (sa_cons se_int (sa_cons se_int (sa_cons se_int (sa_cons se_int (sa_cons se_int sa_nil)))))))) sa_nil))))))
    (sl_cons (ss_if (sb_eq hr (se_sum rfl (sa_cons (se_var (i := 2)) sa_nil) T.b_sum) se_int)
    (sl_one (ss_put (i := 2) se_int (pg_sub (pv 2) (se_call (ok_law_draw T) (hr.mono (by omega)) hg T.m_law_draw T.d_law_draw.kp (bd_law_draw T) (sa_cons (se_var (i := 0)) (sa_cons (se_var (i := 1)) sa_nil))) set_list)))
    sl_nil)
    (sl_cons (ss_set (i := 4) sc_law_odds.nd rfl (.inr rfl) (se_sum rfl (sa_cons (se_var (i := 2)) sa_nil) T.b_sum))
    (sl_one (ss_frz [2] (ss_ret (se_tuple (sa_cons (se_lc (own := [("_law_each", 5)]) (is := [5]) rfl sc_law_odds.nd (si_seq (se_var (i := 2))) (blkOk_by (own := [("_law_each", 5)]) (N := n_law_odds) (sc := defScope s_law_odds) (by decide +kernel)) (by decide) (fun _ _ _ _ _ => (sg_name (i := 5) sc_law_odds.nd)) (fun _ _ _ _ _ => sts_nil) (fun _ _ _ _ _ => (se_call (ok_law_cut T) (hr.mono (by omega)) hg T.m_law_cut T.d_law_cut.kp (bd_law_cut T) (sa_cons (se_var (i := 5)) (sa_cons (se_var (i := 4)) sa_nil))))) sa_nil) T.b_tuple))))))))).imp fun _ _ _ _ => spOf_run'
theorem sc_law_hall : FnScope n_law_hall p_law_hall (defScope s_law_hall) := ⟨rfl, rfl, rfl, by decide +kernel, rfl, by decide +kernel, by decide +kernel⟩
theorem bd_law_hall (T : Txt K mg ad fd) : Binds K (fd 52) p_law_hall [] := T.d_law_hall.binds (ps := p_law_hall) fun _ _ _ _ _ _ us hl => match us, hl with | [_, _, _], _ => rfl
theorem ok_law_hall (T : Txt K mg ad fd) : FnG P w K mg base 4 (ad 52) (fd 52) p_law_hall (spOf K 3 f_law_hall) := (fnG_of (m := m_law_hall) T.d_law_hall sc_law_hall fun cdv A outer s H E hr hg =>
    (sl_cons (ss_par (i := 3) (j := 4) rfl sc_law_hall.nd (sa_cons (se_add se_int (se_call (ok_law_draw T) (hr.mono (by omega)) hg T.m_law_draw T.d_law_draw.kp (bd_law_draw T) (sa_cons (se_var (i := 0)) (sa_cons (se_var (i := 1)) sa_nil)))) (sa_cons (se_lst sa_nil) sa_nil)))
    (sl_cons (ss_for PassesOwn.never rfl (si_range1 (sa_cons (se_var (i := 3)) sa_nil) T.b_range) (sg_name (i := 5) sc_law_hall.nd)
    (sl_cons (ss_set (i := 6) sc_law_hall.nd rfl (.inl rfl) (se_lst sa_nil))
    (sl_cons (ss_for PassesOwn.never rfl (si_range1 (sa_cons (se_call (ok_law_pick T) (hr.mono (by omega)) hg T.m_law_pick T.d_law_pick.kp (bd_law_pick T) (sa_cons (se_var (i := 0)) (sa_cons (se_lst (sa_cons se_int (sa_cons se_int (sa_cons se_int (sa_cons se_int sa_nil))))) sa_nil))) sa_nil) T.b_range) (sg_name (i := 7) sc_law_hall.nd)
    (sl_cons (ss_par2t (i := 8) (j := 9) rfl sc_law_hall.nd (sa2_cons (se_call (ok_law_odds T) (hr.mono (by omega)) hg T.m_law_odds T.d_law_odds.kp (bd_law_odds T) (sa_cons (se_var (i := 0)) (sa_cons (se_var (i := 3)) sa_nil))) (sa2_cons (se_lst sa_nil) sa2_nil)))
    (sl_cons (ss_for PassesOwn.never rfl (si_range1 (sa_cons (se_var (i := 2)) sa_nil) T.b_range) (sg_name (i := 10) sc_law_hall.nd)
    (sl_one (ss_append (i := 9) (se_call (ok_law_cut T) (hr.mono (by omega)) hg T.m_law_cut T.d_law_cut.kp (bd_law_cut T) (sa_cons (se_sub (se_call (ok_law_draw T) (hr.mono (by omega)) hg T.m_law_draw T.d_law_draw.kp (bd_law_draw T) (sa_cons (se_var (i := 0)) (sa_cons se_int sa_nil))) se_int) (sa_cons (se_call (ok_law_pick T) (hr.mono (by omega)) hg T.m_law_pick T.d_law_pick.kp (bd_law_pick T) (sa_cons (se_var (i := 0)) (sa_cons (se_lst (sa_cons se_int (sa_cons se_int (sa_cons se_int sa_nil)))) sa_nil))) sa_nil))))))
    (sl_one (ss_append (i := 6) (se_tup (sa_cons (se_tuple (sa_cons (se_lc (own := [("_law_k", 11)]) (is := [11]) rfl sc_law_hall.nd (si_range1 (sa_cons (se_var (i := 3)) sa_nil) T.b_range) (blkOk_by (own := [("_law_k", 11)]) (N := n_law_hall) (sc := defScope s_law_hall) (by decide +kernel)) (by decide) (fun _ _ _ _ _ => (sg_name (i := 11) sc_law_hall.nd)) (fun _ _ _ _ _ => sts_one (sb_gt (se_ix (se_ix (se_var (i := 8)) (se_var (i := 11))) se_int) se_int)) (fun _ _ _ _ _ => (se_tup (sa_cons (se_var (i := 11)) (sa_cons (se_ix (se_var (i := 8)) (se_var (i := 11))) sa_nil))))) sa_nil) T.b_tuple) (sa_cons (se_tuple (sa_cons (se_var (i := 9)) sa_nil) T.b_tuple) sa_nil))))))))
    (sl_one (ss_append (i := 4) (se_tuple (sa_cons (se_var (i := 6)) sa_nil) T.b_tuple))))))
    (sl_one (ss_ret (se_tup (sa_cons (se_call (ok_law_pick T) (hr.mono (by omega)) hg T.m_law_pick T.d_law_pick.kp (bd_law_pick T) (sa_cons (se_var (i := 0)) (sa_cons (se_lst (sa_cons (se_tup (sa_cons se_int (sa_cons se_int sa_nil))) (sa_cons (se_tup (sa_cons se_int (sa_cons se_int sa_nil))) (sa_cons (se_tup (sa_cons se_int (sa_cons se_int sa_nil))) (sa_cons (se_tup (sa_cons se_int (sa_cons se_int sa_nil))) (sa_cons (se_tup (sa_cons se_int (sa_cons se_int sa_nil))) (sa_cons (se_tup (sa_cons se_int (sa_cons se_int sa_nil))) sa_nil))))))) sa_nil))) (sa_cons (se_var (i := 2)) (sa_cons (se_tuple (sa_cons (se_var (i := 4)) sa_nil) T.b_tuple) sa_nil))))))))).imp fun _ _ _ _ => spOf_run'
theorem sc_law_habit : FnScope n_law_habit p_law_habit (defScope s_law_habit) := ⟨rfl, rfl, rfl, by decide +kernel, rfl, by decide +kernel, by decide +kernel⟩
theorem bd_law_habit (T : Txt K mg ad fd) : Binds K (fd 53) p_law_habit [] := T.d_law_habit.binds (ps := p_law_habit) fun _ _ _ _ _ _ us hl => match us, hl with | [_, _], _ => rfl
theorem ok_law_habit (T : Txt K mg ad fd) : FnG P w K mg base 4 (ad 53) (fd 53) p_law_habit (spOf K 2 f_law_habit) := (fnG_of (m := m_law_habit) T.d_law_habit sc_law_habit fun cdv A outer s H E hr hg =>
    (sl_cons (ss_set (i := 2) sc_law_habit.nd rfl (.inl rfl) (se_lst sa_nil))
    (sl_cons (ss_for PassesOwn.never rfl (si_seq (se_ix (se_var (i := 1)) se_int)) (sg_name (i := 3) sc_law_habit.nd)
    (sl_one (ss_append (i := 2) (se_call (ok_law_odds T) (hr.mono (by omega)) hg T.m_law_odds T.d_law_odds.kp (bd_law_odds T) (sa_cons (se_var (i := 0)) (sa_cons (se_len (sa_cons (se_var (i := 3)) sa_nil) T.b_len) sa_nil))))))
    (sl_one (ss_ret (se_tuple (sa_cons (se_var (i := 2)) sa_nil) T.b_tuple)))))).imp fun _ _ _ _ => spOf_run'
theorem sc_law_memory : FnScope n_law_memory p_law_memory (defScope s_law_memory) := ⟨rfl, rfl, rfl, by decide +kernel, rfl, by decide +kernel, by decide +kernel⟩
theorem bd_law_memory (T : Txt K mg ad fd) : Binds K (fd 54) p_law_memory [] := T.d_law_memory.binds (ps := p_law_memory) fun _ _ _ _ _ _ us hl => match us, hl with | [_, _], _ => rfl
theorem ok_law_memory (T : Txt K mg ad fd) : FnG P w K mg base 3 (ad 54) (fd 54) p_law_memory (spOf K 2 f_law_memory) := (fnG_of (m := m_law_memory) T.d_law_memory sc_law_memory fun cdv A outer s H E hr hg =>
    (sl_cons (ss_set (i := 2) sc_law_memory.nd rfl (.inl rfl) (se_tup (sa_cons (se_call (ok_law_draw T) (hr.mono (by omega)) hg T.m_law_draw T.d_law_draw.kp (bd_law_draw T) (sa_cons (se_var (i := 0)) (sa_cons (se_len (sa_cons (se_ix (se_var (i := 1)) se_int) sa_nil) T.b_len) sa_nil))) sa_nil)))
    (sl_cons (ss_for PassesOwn.never rfl (si_range1 (sa_cons (se_call (ok_law_pick T) (hr.mono (by omega)) hg T.m_law_pick T.d_law_pick.kp (bd_law_pick T) (sa_cons (se_var (i := 0)) (sa_cons (se_lst (sa_cons se_int (sa_cons se_int (sa_cons se_int (sa_cons se_int (sa_cons se_int (sa_cons se_int (sa_cons se_int sa_nil)))))))) sa_nil))) sa_nil) T.b_range) (sg_name (i := 3) sc_law_memory.nd)
    (sl_cons (ss_set (i := 4) sc_law_memory.nd rfl (.inl rfl) (se_call (ok_law_draw T) (hr.mono (by omega)) hg T.m_law_draw T.d_law_draw.kp (bd_law_draw T) (sa_cons (se_var (i := 0)) (sa_cons (se_len (sa_cons (se_ix (se_ix (se_var (i := 1)) se_int) (se_ix (se_var (i := 2)) (se_neg se_int))) sa_nil) T.b_len) sa_nil))))
    (sl_one (ss_set (i := 2) sc_law_memory.nd rfl (.inl rfl) (se_add (se_var (i := 2)) (se_tup (sa_cons (se_var (i := 4)) (sa_cons (se_ix (se_call (ok_law_pick T) (hr.mono (by omega)) hg T.m_law_pick T.d_law_pick.kp (bd_law_pick T) (sa_cons (se_var (i := 0)) (sa_cons (se_ix (se_ix (se_ix (se_ix (se_var (i := 1)) se_int) (se_ix (se_var (i := 2)) (se_neg se_int))) (se_var (i := 4))) se_int) sa_nil))) se_int) sa_nil))))))))
    (sl_one (ss_retV (i := 2)))))).imp fun _ _ _ _ => spOf_run'
theorem sc_law_recalled : FnScope n_law_recalled p_law_recalled (defScope s_law_recalled) := ⟨rfl, rfl, rfl, by decide +kernel, rfl, by decide +kernel, by decide +kernel⟩
theorem bd_law_recalled (T : Txt K mg ad fd) : Binds K (fd 55) p_law_recalled [] := T.d_law_recalled.binds (ps := p_law_recalled) fun _ _ _ _ _ _ us hl => match us, hl with | [_, _], _ => rfl
theorem ok_law_recalled (T : Txt K mg ad fd) : FnG P w K mg base 5 (ad 55) (fd 55) p_law_recalled (spOf K 2 f_law_recalled) := (fnG_of (m := m_law_recalled) T.d_law_recalled sc_law_recalled fun cdv A outer s H E hr hg =>
    (sl_cons (ss_set (i := 2) sc_law_recalled.nd rfl (.inr rfl) se_dictT)
    (sl_cons (ss_for PassesOwn.never rfl (si_range1 (sa_cons (se_call (ok_law_pick T) (hr.mono (by omega)) hg T.m_law_pick T.d_law_pick.kp (bd_law_pick T) (sa_cons (se_var (i := 0)) (sa_cons (se_lst (sa_cons se_int (sa_cons se_int (sa_cons se_int (sa_cons se_int (sa_cons se_int sa_nil)))))) sa_nil))) sa_nil) T.b_range) (sg_name (i := 3) sc_law_recalled.nd)
    (sl_cons (ss_set (i := 4) sc_law_recalled.nd rfl (.inl rfl) (se_call (ok_law_memory T) (hr.mono (by omega)) hg T.m_law_memory T.d_law_memory.kp (bd_law_memory T) (sa_cons (se_var (i := 0)) (sa_cons (se_var (i := 1)) sa_nil))))
    (sl_one (ss_putT (i := 2) (se_call (ok_law_odds T) (hr.mono (by omega)) hg T.m_law_odds T.d_law_odds.kp (bd_law_odds T) (sa_cons (se_var (i := 0)) (sa_cons (se_len (sa_cons (se_ix (se_ix (se_var (i := 1)) se_int) (se_ix (se_var (i := 4)) (se_neg se_int))) sa_nil) T.b_len) sa_nil))) (pg_sub (pv 2) (se_var (i := 4)) (set_dictT (unitsM hr)))))))
    (sl_one (ss_ret (se_tup (sa_cons (se_tuple (sa_cons (se_lc (own := [("_law_path", 4)]) (is := [4]) rfl sc_law_recalled.nd (si_seq (se_sortT hr rfl (sa_cons (se_var (i := 2)) sa_nil) T.b_sorted)) (blkOk_by (own := [("_law_path", 4)]) (N := n_law_recalled) (sc := defScope s_law_recalled) (by decide +kernel)) (by decide) (fun _ _ _ _ _ => (sg_name (i := 4) sc_law_recalled.nd)) (fun _ _ _ _ _ => sts_nil) (fun _ _ _ _ _ => (se_tup (sa_cons (se_var (i := 4)) (sa_cons (se_ixT hr (se_var (i := 2)) (se_var (i := 4))) sa_nil))))) sa_nil) T.b_tuple) (sa_cons (se_call (ok_law_habit T) (hr.mono (by omega)) hg T.m_law_habit T.d_law_habit.kp (bd_law_habit T) (sa_cons (se_var (i := 0)) (sa_cons (se_var (i := 1)) sa_nil))) sa_nil)))))))).imp fun _ _ _ _ => spOf_run'
theorem sc_law_mindful : FnScope n_law_mindful p_law_mindful (defScope s_law_mindful) := ⟨rfl, rfl, rfl, by decide +kernel, rfl, by decide +kernel, by decide +kernel⟩
theorem bd_law_mindful (T : Txt K mg ad fd) : Binds K (fd 56) p_law_mindful [] := T.d_law_mindful.binds (ps := p_law_mindful) fun _ _ _ _ _ _ us hl => match us, hl with | [_, _], _ => rfl
theorem ok_law_mindful (T : Txt K mg ad fd) : FnG P w K mg base 4 (ad 56) (fd 56) p_law_mindful (spOf K 2 f_law_mindful) := (fnG_of (m := m_law_mindful) T.d_law_mindful sc_law_mindful fun cdv A outer s H E hr hg =>
    (sl_cons (ss_par3g (i := 2) (j := 3) (l := 4) rfl sc_law_mindful.nd (sa2_cons (se_add se_int (se_call (ok_law_draw T) (hr.mono (by omega)) hg T.m_law_draw T.d_law_draw.kp (bd_law_draw T) (sa_cons (se_var (i := 0)) (sa_cons se_int sa_nil)))) (sa2_cons (se_lst sa_nil) (sa2_cons (se_lst sa_nil) sa2_nil))))
    (sl_cons (ss_for PassesOwn.never rfl (si_seq (se_ix (se_var (i := 1)) se_int)) (sg_name (i := 5) sc_law_mindful.nd)
    (sl_cons (ss_par2f (i := 6) (j := 7) rfl sc_law_mindful.nd (sa2_cons (se_lst sa_nil) (sa2_cons (se_lst sa_nil) sa2_nil)))
    (sl_cons (ss_for PassesOwn.never rfl (si_range1 (sa_cons (se_var (i := 2)) sa_nil) T.b_range) (sg_name (i := 8) sc_law_mindful.nd)
    (sl_one (ss_append (i := 6) (se_call (ok_law_odds T) (hr.mono (by omega)) hg T.m_law_odds T.d_law_odds.kp (bd_law_odds T) (sa_cons (se_var (i := 0)) (sa_cons (se_len (sa_cons (se_var (i := 5)) sa_nil) T.b_len) sa_nil))))))
    (sl_cons (ss_for PassesOwn.never rfl (si_seq (se_var (i := 5))) (sg_name (i := 9) sc_law_mindful.nd)
    (sl_cons (ss_set (i := 10) sc_law_mindful.nd rfl (.inl rfl) (se_lst sa_nil))
    (sl_cons (ss_for PassesOwn.never rfl (si_range1 (sa_cons (se_var (i := 2)) sa_nil) T.b_range) (sg_name (i := 8) sc_law_mindful.nd)
    (sl_one (ss_append (i := 10) (se_call (ok_law_draw T) (hr.mono (by omega)) hg T.m_law_draw T.d_law_draw.kp (bd_law_draw T) (sa_cons (se_var (i := 0)) (sa_cons (se_var (i := 2)) sa_nil))))))
    (sl_one (ss_append (i := 7) (se_tuple (sa_cons (se_var (i := 10)) sa_nil) T.b_tuple))))))
    (sl_cons (ss_append (i := 3) (se_tuple (sa_cons (se_var (i := 6)) sa_nil) T.b_tuple))
    (sl_one (ss_append (i := 4) (se_tuple (sa_cons (se_var (i := 7)) sa_nil) T.b_tuple))))))))
    (sl_one (ss_ret (se_tup (sa_cons (se_var (i := 2)) (sa_cons (se_tuple (sa_cons (se_var (i := 3)) sa_nil) T.b_tuple) (sa_cons (se_tuple (sa_cons (se_var (i := 4)) sa_nil) T.b_tuple) sa_nil))))))))).imp fun _ _ _ _ => spOf_run'
theorem sc_law_hero : FnScope n_law_hero p_law_hero (defScope s_law_hero) := ⟨rfl, rfl, rfl, by decide +kernel, rfl, by decide +kernel, by decide +kernel⟩
theorem bd_law_hero (T : Txt K mg ad fd) : Binds K (fd 57) p_law_hero [] := T.d_law_hero.binds (ps := p_law_hero) fun _ _ _ _ _ _ us hl => match us, hl with | [_, _], _ => rfl
theorem ok_law_hero (T : Txt K mg ad fd) : FnG P w K mg base 6 (ad 57) (fd 57) p_law_hero (spOf K 2 f_law_hero) := (fnG_of (m := m_law_hero) T.d_law_hero sc_law_hero fun cdv A outer s H E hr hg =>
    (sl_cons (ss_set (i := 2) sc_law_hero.nd rfl (.inl rfl) (se_call (ok_law_pick T) (hr.mono (by omega)) hg T.m_law_pick T.d_law_pick.kp (bd_law_pick T) (sa_cons (se_var (i := 0)) (sa_cons (se_lst (sa_cons se_str (sa_cons se_str (sa_cons se_str (sa_cons se_str (sa_cons se_str (sa_cons se_str sa_nil))))))) sa_nil))))
    (sl_cons (ss_if (sb_eq hr (se_var (i := 2)) se_str)
    (sl_one (ss_ret (se_tup (sa_cons (se_var (i := 2)) (sa_cons (se_call (ok_law_recalled T) (hr.mono (by omega)) hg T.m_law_recalled T.d_law_recalled.kp (bd_law_recalled T) (sa_cons (se_var (i := 0)) (sa_cons (se_var (i := 1)) sa_nil))) sa_nil)))))
    sl_nil)
    (sl_one (ss_ret (se_tup (sa_cons (se_var (i := 2)) (sa_cons (se_if (sb_eq hr (se_var (i := 2)) se_str) (se_call (ok_law_habit T) (hr.mono (by omega)) hg T.m_law_habit T.d_law_habit.kp (bd_law_habit T) (sa_cons (se_var (i := 0)) (sa_cons (se_var (i := 1)) sa_nil))) (se_call (ok_law_mindful T) (hr.mono (by omega)) hg T.m_law_mindful T.d_law_mindful.kp (bd_law_mindful T) (sa_cons (se_var (i := 0)) (sa_cons (se_var (i := 1)) sa_nil)))) sa_nil)))))))).imp fun _ _ _ _ => spOf_run'
theorem sc_law_first_note : FnScope n_law_first_note p_law_first_note (defScope s_law_first_note) := ⟨rfl, rfl, rfl, by decide +kernel, rfl, by decide +kernel, by decide +kernel⟩
theorem bd_law_first_note (T : Txt K mg ad fd) : Binds K (fd 58) p_law_first_note [] := T.d_law_first_note.binds (ps := p_law_first_note) fun _ _ _ _ _ _ us hl => match us, hl with | [_, _], _ => rfl
theorem ok_law_first_note (T : Txt K mg ad fd) : FnG P w K mg base 1 (ad 58) (fd 58) p_law_first_note (spOf K 2 f_law_first_note) := (fnG_of (m := m_law_first_note) T.d_law_first_note sc_law_first_note fun cdv A outer s H E hr hg =>
    (sl_one (ss_ret (se_tup (sa_cons (se_var (i := 1)) (sa_cons (se_if (sb_ne hr (se_ix (se_var (i := 0)) se_int) se_str) se_int (se_tup (sa_cons (se_var (i := 1)) sa_nil))) sa_nil)))))).imp fun _ _ _ _ => spOf_run'
theorem sc_law_next_note : FnScope n_law_next_note p_law_next_note (defScope s_law_next_note) := ⟨rfl, rfl, rfl, by decide +kernel, rfl, by decide +kernel, by decide +kernel⟩
theorem bd_law_next_note (T : Txt K mg ad fd) : Binds K (fd 59) p_law_next_note [] := T.d_law_next_note.binds (ps := p_law_next_note) fun _ _ _ _ _ _ us hl => match us, hl with | [_, _, _, _], _ => rfl
theorem ok_law_next_note (T : Txt K mg ad fd) : FnG P w K mg base 1 (ad 59) (fd 59) p_law_next_note (spOf K 4 f_law_next_note) := (fnG_of (m := m_law_next_note) T.d_law_next_note sc_law_next_note fun cdv A outer s H E hr hg =>
    (sl_cons (ss_if (sb_eq hr (se_ix (se_var (i := 0)) se_int) se_str)
    (sl_one (ss_ret (se_tup (sa_cons (se_var (i := 3)) (sa_cons se_int sa_nil)))))
    sl_nil)
    (sl_cons (ss_if (sb_eq hr (se_ix (se_var (i := 0)) se_int) se_str)
    (sl_one (ss_ret (se_tup (sa_cons (se_var (i := 3)) (sa_cons (se_ix (se_ix (se_ix (se_ix (se_ix (se_var (i := 0)) se_int) se_int) (se_ix (se_var (i := 1)) se_int)) (se_var (i := 2))) (se_ix (se_var (i := 1)) se_int)) sa_nil)))))
    sl_nil)
    (sl_cons (ss_set (i := 4) sc_law_next_note.nd rfl (.inr rfl) (se_add (se_ix (se_var (i := 1)) se_int) (se_tup (sa_cons (se_var (i := 2)) (sa_cons (se_var (i := 3)) sa_nil)))))
    (sl_cons (ss_setLc (i := 5) (own := [("_law_pair", 6)]) (is := [6]) rfl sc_law_next_note.nd rfl rfl (sw_true rfl rfl rfl (by decide +kernel)) (si_seq (se_ix (se_ix (se_var (i := 0)) se_int) se_int)) (blkOk_by (own := [("_law_pair", 6)]) (N := n_law_next_note) (sc := defScope s_law_next_note) (by decide +kernel)) (by decide) (fun _ _ _ _ _ => (sg_name (i := 6) sc_law_next_note.nd)) (fun _ _ _ _ _ => sts_one (sb_w (sw_and (sb_neE hr (se_ix (se_var (i := 1)) se_int) (se_tup sa_nil)) (sw_and1 (sb_eq hr (se_sl (se_ix (se_var (i := 6)) se_int) so_none (so_some (se_len (sa_cons (se_var (i := 4)) sa_nil) T.b_len))) (se_var (i := 4))))))) (fun _ _ _ _ _ => (se_var (i := 6))))
    (sl_one (ss_ret (se_tup (sa_cons (se_var (i := 3)) (sa_cons (se_if (sb_neN hr (se_var (i := 5)) (se_lst sa_nil)) (se_var (i := 4)) (se_tup sa_nil)) sa_nil)))))))))).imp fun _ _ _ _ => spOf_run'
theorem sc_law_note_odds : FnScope n_law_note_odds p_law_note_odds (defScope s_law_note_odds) := ⟨rfl, rfl, rfl, by decide +kernel, rfl, by decide +kernel, by decide +kernel⟩
theorem bd_law_note_odds (T : Txt K mg ad fd) : Binds K (fd 60) p_law_note_odds [] := T.d_law_note_odds.binds (ps := p_law_note_odds) fun _ _ _ _ _ _ us hl => match us, hl with | [_, _], _ => rfl
theorem ok_law_note_odds (T : Txt K mg ad fd) : FnG P w K mg base 1 (ad 60) (fd 60) p_law_note_odds (spOf K 2 f_law_note_odds) := (fnG_of (m := m_law_note_odds) T.d_law_note_odds sc_law_note_odds fun cdv A outer s H E hr hg =>
    (sl_cons (ss_if (sb_eq hr (se_ix (se_var (i := 0)) se_int) se_str)
    (sl_one (ss_ret (se_ix (se_ix (se_var (i := 0)) se_int) (se_ix (se_var (i := 1)) se_int))))
    sl_nil)
    (sl_cons (ss_if (sb_eq hr (se_ix (se_var (i := 0)) se_int) se_str)
    (sl_one (ss_ret (se_ix (se_ix (se_ix (se_ix (se_var (i := 0)) se_int) se_int) (se_ix (se_var (i := 1)) se_int)) (se_ix (se_var (i := 1)) se_int))))
    sl_nil)
    (sl_cons (ss_setLc (i := 2) (own := [("_law_pair", 3)]) (is := [3]) rfl sc_law_note_odds.nd rfl rfl (sw_true rfl rfl rfl (by decide +kernel)) (si_seq (se_ix (se_ix (se_var (i := 0)) se_int) se_int)) (blkOk_by (own := [("_law_pair", 3)]) (N := n_law_note_odds) (sc := defScope s_law_note_odds) (by decide +kernel)) (by decide) (fun _ _ _ _ _ => (sg_name (i := 3) sc_law_note_odds.nd)) (fun _ _ _ _ _ => sts_one (sb_eq hr (se_ix (se_var (i := 3)) se_int) (se_ix (se_var (i := 1)) se_int))) (fun _ _ _ _ _ => (se_ix (se_var (i := 3)) se_int)))
    (sl_one (ss_ret (se_if (sb_neN hr (se_var (i := 2)) (se_lst sa_nil)) (se_ix (se_var (i := 2)) se_int) (se_ix (se_ix (se_ix (se_var (i := 0)) se_int) se_int) (se_ix (se_var (i := 1)) se_int))))))))).imp fun _ _ _ _ => spOf_run'
theorem sc_law_picked : FnScope n_law_picked p_law_picked (defScope s_law_picked) := ⟨rfl, rfl, rfl, by decide +kernel, rfl, by decide +kernel, by decide +kernel⟩
theorem bd_law_picked (T : Txt K mg ad fd) : Binds K (fd 61) p_law_picked [] := T.d_law_picked.binds (ps := p_law_picked) fun _ _ _ _ _ _ us hl => match us, hl with | [_, _], _ => rfl
theorem ok_law_picked (T : Txt K mg ad fd) : FnG P w K mg base 3 (ad 61) (fd 61) p_law_picked (spOf K 2 f_law_picked) := (fnG_of (m := m_law_picked) T.d_law_picked sc_law_picked fun cdv A outer s H E hr hg =>
    (sl_cons (ss_set (i := 2) sc_law_picked.nd rfl (.inl rfl) (se_tup (sa_cons se_int (sa_cons se_int sa_nil))))
    (sl_cons (ss_for PassesOwn.never rfl (si_range1 (sa_cons (se_len (sa_cons (se_var (i := 0)) sa_nil) T.b_len) sa_nil) T.b_range) (sg_name (i := 3) sc_law_picked.nd)
    (sl_cons (ss_set (i := 2) sc_law_picked.nd rfl (.inl rfl) (se_call (ok_law_plus T) (hr.mono (by omega)) hg T.m_law_plus T.d_law_plus.kp (bd_law_plus T) (sa_cons (se_var (i := 2)) (sa_cons (se_ix (se_var (i := 0)) (se_var (i := 3))) sa_nil))))
    (sl_one (ss_if (sb_val (se_call (ok_law_is_under T) (hr.mono (by omega)) hg T.m_law_is_under T.d_law_is_under.kp (bd_law_is_under T) (sa_cons (se_var (i := 1)) (sa_cons (se_var (i := 2)) sa_nil))))
    (sl_one (ss_retV (i := 3)))
    sl_nil))))
    (sl_one (ss_ret (se_sub (se_len (sa_cons (se_var (i := 0)) sa_nil) T.b_len) se_int)))))).imp fun _ _ _ _ => spOf_run'
theorem sc_law_stretch : FnScope n_law_stretch p_law_stretch (defScope s_law_stretch) := ⟨rfl, rfl, rfl, by decide +kernel, rfl, by decide +kernel, by decide +kernel⟩
theorem bd_law_stretch (T : Txt K mg ad fd) : Binds K (fd 62) p_law_stretch [] := T.d_law_stretch.binds (ps := p_law_stretch) fun _ _ _ _ _ _ us hl => match us, hl with | [_, _], _ => rfl
theorem ok_law_stretch (T : Txt K mg ad fd) : FnG P w K mg base 3 (ad 62) (fd 62) p_law_stretch (spOf K 2 f_law_stretch) := (fnG_of (m := m_law_stretch) T.d_law_stretch sc_law_stretch fun cdv A outer s H E hr hg =>
    (sl_cons (ss_set (i := 2) sc_law_stretch.nd rfl (.inl rfl) (se_tup (sa_cons se_int (sa_cons se_int sa_nil))))
    (sl_cons (ss_for PassesOwn.never rfl (si_seq (se_sl (se_var (i := 0)) so_none (so_some (se_var (i := 1))))) (sg_name (i := 3) sc_law_stretch.nd)
    (sl_one (ss_set (i := 2) sc_law_stretch.nd rfl (.inl rfl) (se_call (ok_law_plus T) (hr.mono (by omega)) hg T.m_law_plus T.d_law_plus.kp (bd_law_plus T) (sa_cons (se_var (i := 2)) (sa_cons (se_var (i := 3)) sa_nil))))))
    (sl_one (ss_ret (se_tup (sa_cons (se_var (i := 2)) (sa_cons (se_call (ok_law_plus T) (hr.mono (by omega)) hg T.m_law_plus T.d_law_plus.kp (bd_law_plus T) (sa_cons (se_var (i := 2)) (sa_cons (se_ix (se_var (i := 0)) (se_var (i := 1))) sa_nil))) sa_nil)))))))).imp fun _ _ _ _ => spOf_run'
theorem sc_law_die : FnScope n_law_die p_law_die (defScope s_law_die) := ⟨rfl, rfl, rfl, by decide +kernel, rfl, by decide +kernel, by decide +kernel⟩
theorem bd_law_die (T : Txt K mg ad fd) : Binds K (fd 63) p_law_die [] := T.d_law_die.binds (ps := p_law_die) fun _ _ _ _ _ _ us hl => match us, hl with | [_, _], _ => rfl
theorem ok_law_die (T : Txt K mg ad fd) : FnG P w K mg base 4 (ad 63) (fd 63) p_law_die (spOf K 2 f_law_die) := (fnG_of (m := m_law_die) T.d_law_die sc_law_die fun cdv A outer s H E hr hg =>
    (sl_cons (ss_setLc (i := 2) (own := [("_law_at", 7)]) (is := [7]) rfl sc_law_die.nd rfl rfl (sw_true rfl rfl rfl (by decide +kernel)) (si_range1 (sa_cons (se_len (sa_cons (se_var (i := 1)) sa_nil) T.b_len) sa_nil) T.b_range) (blkOk_by (own := [("_law_at", 7)]) (N := n_law_die) (sc := defScope s_law_die) (by decide +kernel)) (by decide) (fun _ _ _ _ _ => (sg_name (i := 7) sc_law_die.nd)) (fun _ _ _ _ _ => sts_one (sb_gt (se_ix (se_ix (se_var (i := 1)) (se_var (i := 7))) se_int) se_int)) (fun _ _ _ _ _ => (se_var (i := 7))))
    (sl_cons (ss_frz [2] (ss_par (i := 3) (j := 4) rfl sc_law_die.nd (sa_cons (se_call (ok_law_pick T) (hr.mono (by omega)) hg T.m_law_pick T.d_law_pick.kp (bd_law_pick T) (sa_cons (se_var (i := 0)) (sa_cons (se_var (i := 2)) sa_nil))) (sa_cons (se_call (ok_law_draw T) (hr.mono (by omega)) hg T.m_law_draw T.d_law_draw.kp (bd_law_draw T) (sa_cons (se_var (i := 0)) (sa_cons se_int sa_nil))) sa_nil))))
    (sl_cons (ss_set (i := 5) sc_law_die.nd rfl (.inl rfl) (se_ix (se_call (ok_law_stretch T) (hr.mono (by omega)) hg T.m_law_stretch T.d_law_stretch.kp (bd_law_stretch T) (sa_cons (se_var (i := 1)) (sa_cons (se_var (i := 3)) sa_nil))) se_int))
    (sl_cons (ss_if (sb_eq hr (se_var (i := 4)) se_int)
    (sl_one (ss_ret (se_call (ok_law_pick T) (hr.mono (by omega)) hg T.m_law_pick T.d_law_pick.kp (bd_law_pick T) (sa_cons (se_var (i := 0)) (sa_cons (se_lst (sa_cons (se_tup (sa_cons se_int (sa_cons se_int sa_nil))) (sa_cons (se_tup (sa_cons se_int (sa_cons se_int sa_nil))) (sa_cons (se_tup (sa_cons se_int (sa_cons se_int sa_nil))) (sa_cons (se_tup (sa_cons se_int (sa_cons se_int sa_nil))) (sa_cons (se_call (ok_law_cut T) (hr.mono (by omega)) hg T.m_law_cut T.d_law_cut.kp (bd_law_cut T) (sa_cons (se_call (ok_law_draw T) (hr.mono (by omega)) hg T.m_law_draw T.d_law_draw.kp (bd_law_draw T) (sa_cons (se_var (i := 0)) (sa_cons (se_pow se_int se_int) sa_nil))) (sa_cons (se_pow se_int se_int) sa_nil))) sa_nil)))))) sa_nil)))))
    sl_nil)
    (sl_cons (ss_set (i := 6) sc_law_die.nd rfl (.inl rfl) (se_call (ok_law_pick T) (hr.mono (by omega)) hg T.m_law_pick T.d_law_pick.kp (bd_law_pick T) (sa_cons (se_var (i := 0)) (sa_cons (se_lst (sa_cons (se_tup (sa_cons se_int (sa_cons se_int sa_nil))) (sa_cons (se_tup (sa_cons se_int (sa_cons se_int sa_nil))) (sa_cons (se_tup (sa_cons se_int (sa_cons se_int sa_nil))) (sa_cons (se_tup (sa_cons se_int (sa_cons se_int sa_nil))) (sa_cons (se_tup (sa_cons (se_pow se_int se_int) (sa_cons (se_add (se_pow se_int se_int) se_int) sa_nil))) (sa_cons (se_tup (sa_cons (se_sub (se_pow se_int se_int) se_int) (sa_cons (se_pow se_int se_int) sa_nil))) sa_nil))))))) sa_nil))))
    (sl_one (ss_ret (se_call (ok_law_plus T) (hr.mono (by omega)) hg T.m_law_plus T.d_law_plus.kp (bd_law_plus T) (sa_cons (se_var (i := 5)) (sa_cons (se_call (ok_law_times T) (hr.mono (by omega)) hg T.m_law_times T.d_law_times.kp (bd_law_times T) (sa_cons (se_ix (se_var (i := 1)) (se_var (i := 3))) (sa_cons (se_var (i := 6)) sa_nil))) sa_nil))))))))))).imp fun _ _ _ _ => spOf_run'
end
end WW
namespace WW
open PySem PySem.Spec L2 Dh
section
variable {P : Program} {w : World} {K : PySem.W.Frag} {mg : Str → Option Value} {base : Heap} {ad : Nat → Addr} {fd : Nat → FuncData}
theorem sc_law_followed : FnScope n_law_followed p_law_followed (defScope s_law_followed) := ⟨rfl, rfl, rfl, by decide +kernel, rfl, by decide +kernel, by decide +kernel⟩
theorem bd_law_followed (T : Txt K mg ad fd) : Binds K (fd 64) p_law_followed [] := T.d_law_followed.binds (ps := p_law_followed) fun _ _ _ _ _ _ us hl => match us, hl with | [_, _, _, _], _ => rfl
theorem ok_law_followed (T : Txt K mg ad fd) : FnG P w K mg base 4 (ad 64) (fd 64) p_law_followed (spOf K 4 f_law_followed) := (fnG_of (m := m_law_followed) T.d_law_followed sc_law_followed fun cdv A outer s H E hr hg =>
    (sl_cons (ss_par (i := 4) (j := 5) rfl sc_law_followed.nd (sa_cons (se_call (ok_law_first_note T) (hr.mono (by omega)) hg T.m_law_first_note T.d_law_first_note.kp (bd_law_first_note T) (sa_cons (se_var (i := 1)) (sa_cons (se_call (ok_law_picked T) (hr.mono (by omega)) hg T.m_law_picked T.d_law_picked.kp (bd_law_picked T) (sa_cons (se_var (i := 2)) (sa_cons (se_ix (se_var (i := 3)) se_int) sa_nil))) sa_nil))) (sa_cons (se_lst sa_nil) sa_nil)))
    (sl_cons (ss_for PassesOwn.never rfl (si_range3 (sa_cons se_int (sa_cons (se_sub (se_len (sa_cons (se_var (i := 3)) sa_nil) T.b_len) se_int) (sa_cons se_int sa_nil))) T.b_range) (sg_name (i := 6) sc_law_followed.nd)
    (sl_cons (ss_set (i := 7) sc_law_followed.nd rfl (.inl rfl) (se_call (ok_law_picked T) (hr.mono (by omega)) hg T.m_law_picked T.d_law_picked.kp (bd_law_picked T) (sa_cons (se_call (ok_law_note_odds T) (hr.mono (by omega)) hg T.m_law_note_odds T.d_law_note_odds.kp (bd_law_note_odds T) (sa_cons (se_var (i := 1)) (sa_cons (se_var (i := 4)) sa_nil))) (sa_cons (se_ix (se_var (i := 3)) (se_var (i := 6))) sa_nil))))
    (sl_cons (ss_set (i := 8) sc_law_followed.nd rfl (.inl rfl) (se_ix (se_ix (se_ix (se_ix (se_var (i := 0)) se_int) (se_ix (se_var (i := 4)) se_int)) (se_var (i := 7))) se_int))
    (sl_cons (ss_set (i := 9) sc_law_followed.nd rfl (.inl rfl) (se_ix (se_ix (se_var (i := 8)) (se_call (ok_law_picked T) (hr.mono (by omega)) hg T.m_law_picked T.d_law_picked.kp (bd_law_picked T) (sa_cons (se_lc (own := [("_law_pair", 10)]) (is := [10]) rfl sc_law_followed.nd (si_seq (se_var (i := 8))) (blkOk_by (own := [("_law_pair", 10)]) (N := n_law_followed) (sc := defScope s_law_followed) (by decide +kernel)) (by decide) (fun _ _ _ _ _ => (sg_name (i := 10) sc_law_followed.nd)) (fun _ _ _ _ _ => sts_nil) (fun _ _ _ _ _ => (se_ix (se_var (i := 10)) se_int))) (sa_cons (se_ix (se_var (i := 3)) (se_add (se_var (i := 6)) se_int)) sa_nil)))) se_int))
    (sl_cons (ss_append (i := 5) (se_tup (sa_cons (se_ix (se_var (i := 4)) se_int) (sa_cons (se_var (i := 7)) (sa_cons (se_var (i := 9)) sa_nil)))))
    (sl_one (ss_set (i := 4) sc_law_followed.nd rfl (.inl rfl) (se_call (ok_law_next_note T) (hr.mono (by omega)) hg T.m_law_next_note T.d_law_next_note.kp (bd_law_next_note T) (sa_cons (se_var (i := 1)) (sa_cons (se_var (i := 4)) (sa_cons (se_var (i := 7)) (sa_cons (se_var (i := 9)) sa_nil))))))))))))
    (sl_one (ss_ret (se_tuple (sa_cons (se_var (i := 5)) sa_nil) T.b_tuple)))))).imp fun _ _ _ _ => spOf_run'
theorem sc_law_thrown : FnScope n_law_thrown p_law_thrown (defScope s_law_thrown) := ⟨rfl, rfl, rfl, by decide +kernel, rfl, by decide +kernel, by decide +kernel⟩
theorem bd_law_thrown (T : Txt K mg ad fd) : Binds K (fd 65) p_law_thrown [] := T.d_law_thrown.binds (ps := p_law_thrown) fun _ _ _ _ _ _ us hl => match us, hl with | [_, _, _, _, _], _ => rfl
theorem ok_law_thrown (T : Txt K mg ad fd) : FnG P w K mg base 5 (ad 65) (fd 65) p_law_thrown (spOf K 5 f_law_thrown) := (fnG_of (m := m_law_thrown) T.d_law_thrown sc_law_thrown fun cdv A outer s H E hr hg =>
    (sl_cons (ss_set (i := 5) sc_law_thrown.nd rfl (.inl rfl) (se_lst (sa_cons (se_call (ok_law_die T) (hr.mono (by omega)) hg T.m_law_die T.d_law_die.kp (bd_law_die T) (sa_cons (se_var (i := 0)) (sa_cons (se_var (i := 3)) sa_nil))) sa_nil)))
    (sl_cons (ss_set (i := 6) sc_law_thrown.nd rfl (.inl rfl) (se_call (ok_law_first_note T) (hr.mono (by omega)) hg T.m_law_first_note T.d_law_first_note.kp (bd_law_first_note T) (sa_cons (se_var (i := 2)) (sa_cons (se_call (ok_law_picked T) (hr.mono (by omega)) hg T.m_law_picked T.d_law_picked.kp (bd_law_picked T) (sa_cons (se_var (i := 3)) (sa_cons (se_ix (se_var (i := 5)) se_int) sa_nil))) sa_nil))))
    (sl_cons (ss_for PassesOwn.never rfl (si_range1 (sa_cons (se_var (i := 4)) sa_nil) T.b_range) (sg_name (i := 7) sc_law_thrown.nd)
    (sl_cons (ss_set (i := 8) sc_law_thrown.nd rfl (.inl rfl) (se_call (ok_law_note_odds T) (hr.mono (by omega)) hg T.m_law_note_odds T.d_law_note_odds.kp (bd_law_note_odds T) (sa_cons (se_var (i := 2)) (sa_cons (se_var (i := 6)) sa_nil))))
    (sl_cons (ss_set (i := 9) sc_law_thrown.nd rfl (.inl rfl) (se_call (ok_law_die T) (hr.mono (by omega)) hg T.m_law_die T.d_law_die.kp (bd_law_die T) (sa_cons (se_var (i := 0)) (sa_cons (se_var (i := 8)) sa_nil))))
    (sl_cons (ss_set (i := 10) sc_law_thrown.nd rfl (.inl rfl) (se_call (ok_law_picked T) (hr.mono (by omega)) hg T.m_law_picked T.d_law_picked.kp (bd_law_picked T) (sa_cons (se_var (i := 8)) (sa_cons (se_var (i := 9)) sa_nil))))
    (sl_cons (ss_set (i := 11) sc_law_thrown.nd rfl (.inl rfl) (se_ix (se_ix (se_ix (se_ix (se_var (i := 1)) se_int) (se_ix (se_var (i := 6)) se_int)) (se_var (i := 10))) se_int))
    (sl_cons (ss_setLc (i := 12) (own := [("_law_pair", 14)]) (is := [14]) rfl sc_law_thrown.nd rfl rfl (sw_true rfl rfl rfl (by decide +kernel)) (si_seq (se_var (i := 11))) (blkOk_by (own := [("_law_pair", 14)]) (N := n_law_thrown) (sc := defScope s_law_thrown) (by decide +kernel)) (by decide) (fun _ _ _ _ _ => (sg_name (i := 14) sc_law_thrown.nd)) (fun _ _ _ _ _ => sts_nil) (fun _ _ _ _ _ => (se_ix (se_var (i := 14)) se_int)))
    (sl_cons (ss_frz [12] (ss_set (i := 13) sc_law_thrown.nd rfl (.inl rfl) (se_call (ok_law_die T) (hr.mono (by omega)) hg T.m_law_die T.d_law_die.kp (bd_law_die T) (sa_cons (se_var (i := 0)) (sa_cons (se_var (i := 12)) sa_nil)))))
    (sl_cons (ss_set (i := 5) sc_law_thrown.nd rfl (.inl rfl) (se_add (se_var (i := 5)) (se_lst (sa_cons (se_var (i := 9)) (sa_cons (se_var (i := 13)) sa_nil)))))
    (sl_one (ss_frz [12] (ss_set (i := 6) sc_law_thrown.nd rfl (.inl rfl) (se_call (ok_law_next_note T) (hr.mono (by omega)) hg T.m_law_next_note T.d_law_next_note.kp (bd_law_next_note T) (sa_cons (se_var (i := 2)) (sa_cons (se_var (i := 6)) (sa_cons (se_var (i := 10)) (sa_cons (se_ix (se_ix (se_var (i := 11)) (se_call (ok_law_picked T) (hr.mono (by omega)) hg T.m_law_picked T.d_law_picked.kp (bd_law_picked T) (sa_cons (se_var (i := 12)) (sa_cons (se_var (i := 13)) sa_nil)))) se_int) sa_nil))))))))))))))))
    (sl_one (ss_ret (se_tuple (sa_cons (se_var (i := 5)) sa_nil) T.b_tuple))))))).imp fun _ _ _ _ => spOf_run'
theorem sc_law_road_box : FnScope n_law_road_box p_law_road_box (defScope s_law_road_box) := ⟨rfl, rfl, rfl, by decide +kernel, rfl, by decide +kernel, by decide +kernel⟩
theorem bd_law_road_box (T : Txt K mg ad fd) : Binds K (fd 66) p_law_road_box [] := T.d_law_road_box.binds (ps := p_law_road_box) fun _ _ _ _ _ _ us hl => match us, hl with | [_, _, _, _], _ => rfl
theorem ok_law_road_box (T : Txt K mg ad fd) : FnG P w K mg base 4 (ad 66) (fd 66) p_law_road_box (spOf K 4 f_law_road_box) := (fnG_of (m := m_law_road_box) T.d_law_road_box sc_law_road_box fun cdv A outer s H E hr hg =>
    (sl_cons (ss_if (sb_eqE hr (se_var (i := 3)) (se_tup sa_nil))
    (sl_one (ss_ret (se_lst (sa_cons (se_tup (sa_cons (se_tup (sa_cons se_int (sa_cons se_int sa_nil))) (sa_cons (se_tup (sa_cons se_int (sa_cons se_int sa_nil))) sa_nil))) sa_nil))))
    sl_nil)
    (sl_cons (ss_par (i := 4) (j := 5) rfl sc_law_road_box.nd (sa_cons (se_call (ok_law_first_note T) (hr.mono (by omega)) hg T.m_law_first_note T.d_law_first_note.kp (bd_law_first_note T) (sa_cons (se_var (i := 1)) (sa_cons (se_ix (se_ix (se_var (i := 3)) se_int) se_int) sa_nil))) (sa_cons (se_lst (sa_cons (se_call (ok_law_stretch T) (hr.mono (by omega)) hg T.m_law_stretch T.d_law_stretch.kp (bd_law_stretch T) (sa_cons (se_var (i := 2)) (sa_cons (se_ix (se_ix (se_var (i := 3)) se_int) se_int) sa_nil))) sa_nil)) sa_nil)))
    (sl_cons (ss_for PassesOwn.never rfl (si_seq (se_var (i := 3))) (sg_tup rfl (sgs_cons (sg_name (i := 6) sc_law_road_box.nd) (sgs_cons (sg_name (i := 7) sc_law_road_box.nd) (sgs_cons (sg_name (i := 8) sc_law_road_box.nd) sgs_nil))))
    (sl_cons (ss_append (i := 5) (se_call (ok_law_stretch T) (hr.mono (by omega)) hg T.m_law_stretch T.d_law_stretch.kp (bd_law_stretch T) (sa_cons (se_call (ok_law_note_odds T) (hr.mono (by omega)) hg T.m_law_note_odds T.d_law_note_odds.kp (bd_law_note_odds T) (sa_cons (se_var (i := 1)) (sa_cons (se_var (i := 4)) sa_nil))) (sa_cons (se_var (i := 7)) sa_nil))))
    (sl_cons (ss_set (i := 9) sc_law_road_box.nd rfl (.inl rfl) (se_ix (se_ix (se_ix (se_ix (se_var (i := 0)) se_int) (se_var (i := 6))) (se_var (i := 7))) se_int))
    (sl_cons (ss_append (i := 5) (se_call (ok_law_stretch T) (hr.mono (by omega)) hg T.m_law_stretch T.d_law_stretch.kp (bd_law_stretch T) (sa_cons (se_lc (own := [("_law_pair", 10)]) (is := [10]) rfl sc_law_road_box.nd (si_seq (se_var (i := 9))) (blkOk_by (own := [("_law_pair", 10)]) (N := n_law_road_box) (sc := defScope s_law_road_box) (by decide +kernel)) (by decide) (fun _ _ _ _ _ => (sg_name (i := 10) sc_law_road_box.nd)) (fun _ _ _ _ _ => sts_nil) (fun _ _ _ _ _ => (se_ix (se_var (i := 10)) se_int))) (sa_cons (se_idxL (se_lc (own := [("_law_pair", 10)]) (is := [10]) rfl sc_law_road_box.nd (si_seq (se_var (i := 9))) (blkOk_by (own := [("_law_pair", 10)]) (N := n_law_road_box) (sc := defScope s_law_road_box) (by decide +kernel)) (by decide) (fun _ _ _ _ _ => (sg_name (i := 10) sc_law_road_box.nd)) (fun _ _ _ _ _ => sts_nil) (fun _ _ _ _ _ => (se_ix (se_var (i := 10)) se_int))) (se_var (i := 8))) sa_nil))))
    (sl_one (ss_set (i := 4) sc_law_road_box.nd rfl (.inl rfl) (se_call (ok_law_next_note T) (hr.mono (by omega)) hg T.m_law_next_note T.d_law_next_note.kp (bd_law_next_note T) (sa_cons (se_var (i := 1)) (sa_cons (se_var (i := 4)) (sa_cons (se_var (i := 7)) (sa_cons (se_var (i := 8)) sa_nil)))))))))))
    (sl_one (ss_retV (i := 5))))))).imp fun _ _ _ _ => spOf_run'
theorem sc_law_volume : FnScope n_law_volume p_law_volume (defScope s_law_volume) := ⟨rfl, rfl, rfl, by decide +kernel, rfl, by decide +kernel, by decide +kernel⟩
theorem bd_law_volume (T : Txt K mg ad fd) : Binds K (fd 67) p_law_volume [] := T.d_law_volume.binds (ps := p_law_volume) fun _ _ _ _ _ _ us hl => match us, hl with | [_], _ => rfl
theorem ok_law_volume (T : Txt K mg ad fd) : FnG P w K mg base 3 (ad 67) (fd 67) p_law_volume (spOf K 1 f_law_volume) := (fnG_of (m := m_law_volume) T.d_law_volume sc_law_volume fun cdv A outer s H E hr hg =>
    (sl_cons (ss_set (i := 1) sc_law_volume.nd rfl (.inl rfl) (se_tup (sa_cons se_int (sa_cons se_int sa_nil))))
    (sl_cons (ss_for PassesOwn.never rfl (si_seq (se_var (i := 0))) (sg_tup rfl (sgs_cons (sg_name (i := 2) sc_law_volume.nd) (sgs_cons (sg_name (i := 3) sc_law_volume.nd) sgs_nil)))
    (sl_one (ss_set (i := 1) sc_law_volume.nd rfl (.inl rfl) (se_call (ok_law_times T) (hr.mono (by omega)) hg T.m_law_times T.d_law_times.kp (bd_law_times T) (sa_cons (se_var (i := 1)) (sa_cons (se_call (ok_law_less T) (hr.mono (by omega)) hg T.m_law_less T.d_law_less.kp (bd_law_less T) (sa_cons (se_var (i := 3)) (sa_cons (se_var (i := 2)) sa_nil))) sa_nil))))))
    (sl_one (ss_retV (i := 1)))))).imp fun _ _ _ _ => spOf_run'
theorem sc_law_free_road : FnScope n_law_free_road p_law_free_road (defScope s_law_free_road) := ⟨rfl, rfl, rfl, by decide +kernel, rfl, by decide +kernel, by decide +kernel⟩
theorem bd_law_free_road (T : Txt K mg ad fd) : Binds K (fd 68) p_law_free_road [] := T.d_law_free_road.binds (ps := p_law_free_road) fun _ _ _ _ _ _ us hl => match us, hl with | [_, _, _], _ => rfl
theorem ok_law_free_road (T : Txt K mg ad fd) : FnG P w K mg base 3 (ad 68) (fd 68) p_law_free_road (spOf K 3 f_law_free_road) := (fnG_of (m := m_law_free_road) T.d_law_free_road sc_law_free_road fun cdv A outer s H E hr hg =>
    (sl_cons (ss_par (i := 3) (j := 4) rfl sc_law_free_road.nd (sa_cons (se_call (ok_law_draw T) (hr.mono (by omega)) hg T.m_law_draw T.d_law_draw.kp (bd_law_draw T) (sa_cons (se_var (i := 0)) (sa_cons (se_len (sa_cons (se_ix (se_var (i := 1)) se_int) sa_nil) T.b_len) sa_nil))) (sa_cons (se_lst sa_nil) sa_nil)))
    (sl_cons (ss_for PassesOwn.never rfl (si_range1 (sa_cons (se_var (i := 2)) sa_nil) T.b_range) (sg_name (i := 5) sc_law_free_road.nd)
    (sl_cons (ss_set (i := 6) sc_law_free_road.nd rfl (.inl rfl) (se_call (ok_law_draw T) (hr.mono (by omega)) hg T.m_law_draw T.d_law_draw.kp (bd_law_draw T) (sa_cons (se_var (i := 0)) (sa_cons (se_len (sa_cons (se_ix (se_ix (se_var (i := 1)) se_int) (se_var (i := 3))) sa_nil) T.b_len) sa_nil))))
    (sl_cons (ss_set (i := 7) sc_law_free_road.nd rfl (.inl rfl) (se_ix (se_call (ok_law_pick T) (hr.mono (by omega)) hg T.m_law_pick T.d_law_pick.kp (bd_law_pick T) (sa_cons (se_var (i := 0)) (sa_cons (se_ix (se_ix (se_ix (se_ix (se_var (i := 1)) se_int) (se_var (i := 3))) (se_var (i := 6))) se_int) sa_nil))) se_int))
    (sl_cons (ss_append (i := 4) (se_tup (sa_cons (se_var (i := 3)) (sa_cons (se_var (i := 6)) (sa_cons (se_var (i := 7)) sa_nil)))))
    (sl_one (ss_set (i := 3) sc_law_free_road.nd rfl (.inl rfl) (se_var (i := 7))))))))
    (sl_one (ss_ret (se_tuple (sa_cons (se_var (i := 4)) sa_nil) T.b_tuple)))))).imp fun _ _ _ _ => spOf_run'
theorem sc_law_within : FnScope n_law_within p_law_within (defScope s_law_within) := ⟨rfl, rfl, rfl, by decide +kernel, rfl, by decide +kernel, by decide +kernel⟩
theorem bd_law_within (T : Txt K mg ad fd) : Binds K (fd 69) p_law_within [] := T.d_law_within.binds (ps := p_law_within) fun _ _ _ _ _ _ us hl => match us, hl with | [_, _], _ => rfl
theorem ok_law_within (T : Txt K mg ad fd) : FnG P w K mg base 3 (ad 69) (fd 69) p_law_within (spOf K 2 f_law_within) := (fnG_of (m := m_law_within) T.d_law_within sc_law_within fun cdv A outer s H E hr hg =>
    (sl_cons (ss_set (i := 2) sc_law_within.nd rfl (.inl rfl) (se_lst sa_nil))
    (sl_cons (ss_for PassesOwn.never rfl (si_seq (se_var (i := 1))) (sg_tup rfl (sgs_cons (sg_name (i := 3) sc_law_within.nd) (sgs_cons (sg_name (i := 4) sc_law_within.nd) sgs_nil)))
    (sl_cons (ss_set (i := 5) sc_law_within.nd rfl (.inl rfl) (se_call (ok_law_pick T) (hr.mono (by omega)) hg T.m_law_pick T.d_law_pick.kp (bd_law_pick T) (sa_cons (se_var (i := 0)) (sa_cons (se_lst (sa_cons (se_tup (sa_cons se_int (sa_cons se_int sa_nil))) (sa_cons (se_tup (sa_cons se_int (sa_cons se_int sa_nil))) (sa_cons (se_tup (sa_cons se_int (sa_cons se_int sa_nil))) (sa_cons (se_tup (sa_cons (se_sub (se_pow se_int se_int) se_int) (sa_cons (se_pow se_int se_int) sa_nil))) (sa_cons (se_tup (sa_cons se_int (sa_cons se_int sa_nil))) sa_nil)))))) sa_nil))))
    (sl_one (ss_append (i := 2) (se_call (ok_law_plus T) (hr.mono (by omega)) hg T.m_law_plus T.d_law_plus.kp (bd_law_plus T) (sa_cons (se_var (i := 3)) (sa_cons (se_call (ok_law_times T) (hr.mono (by omega)) hg T.m_law_times T.d_law_times.kp (bd_law_times T) (sa_cons (se_var (i := 5)) (sa_cons (se_call (ok_law_less T) (hr.mono (by omega)) hg T.m_law_less T.d_law_less.kp (bd_law_less T) (sa_cons (se_var (i := 4)) (sa_cons (se_var (i := 3)) sa_nil))) sa_nil))) sa_nil)))))))
    (sl_one (ss_retV (i := 2)))))).imp fun _ _ _ _ => spOf_run'
theorem sc_law_outside : FnScope n_law_outside p_law_outside (defScope s_law_outside) := ⟨rfl, rfl, rfl, by decide +kernel, rfl, by decide +kernel, by decide +kernel⟩
theorem bd_law_outside (T : Txt K mg ad fd) : Binds K (fd 70) p_law_outside [] := T.d_law_outside.binds (ps := p_law_outside) fun _ _ _ _ _ _ us hl => match us, hl with | [_, _, _], _ => rfl
theorem ok_law_outside (T : Txt K mg ad fd) : FnG P w K mg base 3 (ad 70) (fd 70) p_law_outside (spOf K 3 f_law_outside) := (fnG_of (m := m_law_outside) T.d_law_outside sc_law_outside fun cdv A outer s H E hr hg =>
    (sl_cons (ss_setLc (i := 3) (own := [("_law_k", 4)]) (is := [4]) rfl sc_law_outside.nd rfl rfl (sw_true rfl rfl rfl (by decide +kernel)) (si_range1 (sa_cons (se_len (sa_cons (se_var (i := 1)) sa_nil) T.b_len) sa_nil) T.b_range) (blkOk_by (own := [("_law_k", 4)]) (N := n_law_outside) (sc := defScope s_law_outside) (by decide +kernel)) (by decide) (fun _ _ _ _ _ => (sg_name (i := 4) sc_law_outside.nd)) (fun _ _ _ _ _ => sts_one (sb_ne hr (se_ix (se_var (i := 1)) (se_var (i := 4))) (se_tup (sa_cons (se_tup (sa_cons se_int (sa_cons se_int sa_nil))) (sa_cons (se_tup (sa_cons se_int (sa_cons se_int sa_nil))) sa_nil))))) (fun _ _ _ _ _ => (se_var (i := 4))))
    (sl_cons (ss_if (sb_eqN hr (se_var (i := 3)) (se_lst sa_nil))
    (sl_one (ss_retV (i := 2)))
    sl_nil)
    (sl_cons (ss_frz [3] (ss_set (i := 4) sc_law_outside.nd rfl (.inl rfl) (se_call (ok_law_pick T) (hr.mono (by omega)) hg T.m_law_pick T.d_law_pick.kp (bd_law_pick T) (sa_cons (se_var (i := 0)) (sa_cons (se_var (i := 3)) sa_nil)))))
    (sl_cons (ss_asg (se_ix (se_var (i := 1)) (se_var (i := 4))) (sg_tup rfl (sgs_cons (sg_name (i := 5) sc_law_outside.nd) (sgs_cons (sg_name (i := 6) sc_law_outside.nd) sgs_nil))))
    (sl_cons (ss_set (i := 7) sc_law_outside.nd rfl (.inl rfl) (se_call (ok_law_pick T) (hr.mono (by omega)) hg T.m_law_pick T.d_law_pick.kp (bd_law_pick T) (sa_cons (se_var (i := 0)) (sa_cons (se_lst (sa_cons (se_tup (sa_cons se_int (sa_cons se_int sa_nil))) (sa_cons (se_tup (sa_cons se_int (sa_cons se_int sa_nil))) (sa_cons (se_tup (sa_cons se_int (sa_cons se_int sa_nil))) sa_nil)))) sa_nil))))
    (sl_cons (ss_if (sb_w (sw_and (sb_gt (se_ix (se_var (i := 5)) se_int) se_int) (sw_and1 (sb_w (sw_or (sb_eq hr (se_var (i := 6)) (se_tup (sa_cons se_int (sa_cons se_int sa_nil)))) (sw_or1 (sb_eq hr (se_call (ok_law_draw T) (hr.mono (by omega)) hg T.m_law_draw T.d_law_draw.kp (bd_law_draw T) (sa_cons (se_var (i := 0)) (sa_cons se_int sa_nil))) se_int)))))))
    (sl_one (ss_set (i := 8) sc_law_outside.nd rfl (.inl rfl) (se_call (ok_law_times T) (hr.mono (by omega)) hg T.m_law_times T.d_law_times.kp (bd_law_times T) (sa_cons (se_var (i := 5)) (sa_cons (se_call (ok_law_pick T) (hr.mono (by omega)) hg T.m_law_pick T.d_law_pick.kp (bd_law_pick T) (sa_cons (se_var (i := 0)) (sa_cons (se_lst (sa_cons (se_tup (sa_cons se_int (sa_cons se_int sa_nil))) (sa_cons (se_tup (sa_cons se_int (sa_cons se_int sa_nil))) (sa_cons (se_tup (sa_cons (se_sub (se_pow se_int se_int) se_int) (sa_cons (se_pow se_int se_int) sa_nil))) sa_nil)))) sa_nil))) sa_nil)))))
    (sl_one (ss_set (i := 8) sc_law_outside.nd rfl (.inl rfl) (se_call (ok_law_plus T) (hr.mono (by omega)) hg T.m_law_plus T.d_law_plus.kp (bd_law_plus T) (sa_cons (se_var (i := 6)) (sa_cons (se_call (ok_law_times T) (hr.mono (by omega)) hg T.m_law_times T.d_law_times.kp (bd_law_times T) (sa_cons (se_var (i := 7)) (sa_cons (se_call (ok_law_less T) (hr.mono (by omega)) hg T.m_law_less T.d_law_less.kp (bd_law_less T) (sa_cons (se_tup (sa_cons se_int (sa_cons se_int sa_nil))) (sa_cons (se_var (i := 6)) sa_nil))) sa_nil))) sa_nil))))))
    (sl_one (ss_ret (se_add (se_add (se_sl (se_var (i := 2)) so_none (so_some (se_var (i := 4)))) (se_lst (sa_cons (se_var (i := 8)) sa_nil))) (se_sl (se_var (i := 2)) (so_some (se_add (se_var (i := 4)) se_int)) so_none))))))))))).imp fun _ _ _ _ => spOf_run'
theorem sc_law_is_right : FnScope n_law_is_right p_law_is_right (defScope s_law_is_right) := ⟨rfl, rfl, rfl, by decide +kernel, rfl, by decide +kernel, by decide +kernel⟩
theorem bd_law_is_right (T : Txt K mg ad fd) : Binds K (fd 71) p_law_is_right [] := T.d_law_is_right.binds (ps := p_law_is_right) fun _ _ _ _ _ _ us hl => match us, hl with | [_], _ => rfl
theorem ok_law_is_right (T : Txt K mg ad fd) : FnG P w K mg base 11 (ad 71) (fd 71) p_law_is_right (spOf K 1 f_law_is_right) := (fnG_of (m := m_law_is_right) T.d_law_is_right sc_law_is_right fun cdv A outer s H E hr hg =>
    (sl_cons (ss_set (i := 1) sc_law_is_right.nd rfl (.inl rfl) (se_call (ok_law_hall T) (hr.mono (by omega)) hg T.m_law_hall T.d_law_hall.kp (bd_law_hall T) (sa_cons (se_var (i := 0)) (sa_cons se_int (sa_cons se_int sa_nil)))))
    (sl_cons (ss_par (i := 2) (j := 3) rfl sc_law_is_right.nd (sa_cons (se_call (ok_law_hero T) (hr.mono (by omega)) hg T.m_law_hero T.d_law_hero.kp (bd_law_hero T) (sa_cons (se_var (i := 0)) (sa_cons (se_var (i := 1)) sa_nil))) (sa_cons (se_call (ok_law_odds T) (hr.mono (by omega)) hg T.m_law_odds T.d_law_odds.kp (bd_law_odds T) (sa_cons (se_var (i := 0)) (sa_cons (se_len (sa_cons (se_ix (se_var (i := 1)) se_int) sa_nil) T.b_len) sa_nil))) sa_nil)))
    (sl_cons (ss_set (i := 4) sc_law_is_right.nd rfl (.inl rfl) (se_call (ok_law_pick T) (hr.mono (by omega)) hg T.m_law_pick T.d_law_pick.kp (bd_law_pick T) (sa_cons (se_var (i := 0)) (sa_cons (se_lst (sa_cons se_int (sa_cons se_int (sa_cons se_int (sa_cons se_int (sa_cons se_int (sa_cons se_int (sa_cons se_int sa_nil)))))))) sa_nil))))
    (sl_cons (ss_set (i := 5) sc_law_is_right.nd rfl (.inl rfl) (se_call (ok_law_free_road T) (hr.mono (by omega)) hg T.m_law_free_road T.d_law_free_road.kp (bd_law_free_road T) (sa_cons (se_var (i := 0)) (sa_cons (se_var (i := 1)) (sa_cons (se_var (i := 4)) sa_nil)))))
    (sl_cons (ss_if (sb_gt (se_call (ok_law_draw T) (hr.mono (by omega)) hg T.m_law_draw T.d_law_draw.kp (bd_law_draw T) (sa_cons (se_var (i := 0)) (sa_cons se_int sa_nil))) se_int)
    (sl_one (ss_set (i := 5) sc_law_is_right.nd rfl (.inl rfl) (se_call (ok_law_followed T) (hr.mono (by omega)) hg T.m_law_followed T.d_law_followed.kp (bd_law_followed T) (sa_cons (se_var (i := 1)) (sa_cons (se_var (i := 2)) (sa_cons (se_var (i := 3)) (sa_cons (se_call (ok_law_thrown T) (hr.mono (by omega)) hg T.m_law_thrown T.d_law_thrown.kp (bd_law_thrown T) (sa_cons (se_var (i := 0)) (sa_cons (se_var (i := 1)) (sa_cons (se_var (i := 2)) (sa_cons (se_var (i := 3)) (sa_cons (se_var (i := 4)) sa_nil)))))) sa_nil)))))))
    sl_nil)
    (sl_cons (ss_set (i := 6) sc_law_is_right.nd rfl (.inl rfl) (se_call (ok_law_road_box T) (hr.mono (by omega)) hg T.m_law_road_box T.d_law_road_box.kp (bd_law_road_box T) (sa_cons (se_var (i := 1)) (sa_cons (se_var (i := 2)) (sa_cons (se_var (i := 3)) (sa_cons (se_var (i := 5)) sa_nil))))))
    (sl_cons (ss_frz [6] (ss_set (i := 7) sc_law_is_right.nd rfl (.inl rfl) (se_call (ok_law_volume T) (hr.mono (by omega)) hg T.m_law_volume T.d_law_volume.kp (bd_law_volume T) (sa_cons (se_var (i := 6)) sa_nil))))
    (sl_cons (ss_set (i := 8) sc_law_is_right.nd rfl (.inl rfl) (se_if (sb_gt (se_ix (se_var (i := 7)) se_int) se_int) (se_tuple (sa_cons (se_var (i := 6)) sa_nil) T.b_tuple) se_non))
    (sl_cons (ss_if (sb_ne hr (se_reprN hr hg (sa_cons (se_call (ok_way_chance T) (hr.mono (by omega)) hg T.m_way_chance T.d_way_chance.kp (bd_way_chance T) (sa_cons (se_var (i := 1)) (sa_cons (se_var (i := 3)) (sa_cons (se_var (i := 2)) (sa_cons (se_var (i := 5)) sa_nil))))) sa_nil) T.b_repr) (se_reprN hr hg (sa_cons (se_var (i := 7)) sa_nil) T.b_repr))
    (sl_one (ss_ret se_bl))
    sl_nil)
    (sl_cons (ss_if (sb_ne hr (se_reprN hr hg (sa_cons (se_call (ok_box_of T) (hr.mono (by omega)) hg T.m_box_of T.d_box_of.kp (bd_box_of T) (sa_cons (se_var (i := 1)) (sa_cons (se_var (i := 3)) (sa_cons (se_var (i := 2)) (sa_cons (se_var (i := 5)) sa_nil))))) sa_nil) T.b_repr) (se_reprN hr hg (sa_cons (se_var (i := 8)) sa_nil) T.b_repr))
    (sl_one (ss_ret se_bl))
    sl_nil)
    (sl_cons (ss_if (sb_is (se_var (i := 8)) se_non)
    (sl_one (ss_ret (se_eq hr (se_reprN hr hg (sa_cons (se_callK (ks := ["house", "start", "player", "way"]) (π := [0, 1, 2, 3]) (ok_box_of T) (hr.mono (by omega)) hg T.m_box_of T.d_box_of.kp (kb_box_of_0123 T) (sk_cons (se_var (i := 1)) (sk_cons (se_var (i := 3)) (sk_cons (se_var (i := 2)) (sk_cons (se_var (i := 5)) sk_nil))))) sa_nil) T.b_repr) se_str)))
    sl_nil)
    (sl_cons (ss_frz [6] (ss_set (i := 9) sc_law_is_right.nd rfl (.inl rfl) (se_call (ok_law_within T) (hr.mono (by omega)) hg T.m_law_within T.d_law_within.kp (bd_law_within T) (sa_cons (se_var (i := 0)) (sa_cons (se_var (i := 6)) sa_nil)))))
    (sl_cons (ss_if (sb_ne hr (se_reprN hr hg (sa_cons (se_call (ok_run T) (hr.mono (by omega)) hg T.m_run T.d_run.kp (bd_run T) (sa_cons (se_var (i := 1)) (sa_cons (se_var (i := 3)) (sa_cons (se_var (i := 2)) (sa_cons (se_tuple (sa_cons (se_var (i := 9)) sa_nil) T.b_tuple) sa_nil))))) sa_nil) T.b_repr) (se_reprN hr hg (sa_cons (se_var (i := 5)) sa_nil) T.b_repr))
    (sl_one (ss_ret se_bl))
    sl_nil)
    (sl_cons (ss_if (sb_eqE hr (se_var (i := 5)) (se_tup sa_nil))
    (sl_one (ss_ret se_bl))
    sl_nil)
    (sl_cons (ss_frz [6, 9] (ss_set (i := 10) sc_law_is_right.nd rfl (.inl rfl) (se_tuple (sa_cons (se_call (ok_law_outside T) (hr.mono (by omega)) hg T.m_law_outside T.d_law_outside.kp (bd_law_outside T) (sa_cons (se_var (i := 0)) (sa_cons (se_var (i := 6)) (sa_cons (se_var (i := 9)) sa_nil)))) sa_nil) T.b_tuple)))
    (sl_cons (ss_set (i := 11) sc_law_is_right.nd rfl (.inl rfl) (se_call (ok_run T) (hr.mono (by omega)) hg T.m_run T.d_run.kp (bd_run T) (sa_cons (se_var (i := 1)) (sa_cons (se_var (i := 3)) (sa_cons (se_var (i := 2)) (sa_cons (se_var (i := 10)) sa_nil))))))
    (sl_one (ss_ret (se_and (se_eq hr (se_reprN hr hg (sa_cons (se_var (i := 11)) sa_nil) T.b_repr) (se_reprN hr hg (sa_cons (se_call (ok_law_followed T) (hr.mono (by omega)) hg T.m_law_followed T.d_law_followed.kp (bd_law_followed T) (sa_cons (se_var (i := 1)) (sa_cons (se_var (i := 2)) (sa_cons (se_var (i := 3)) (sa_cons (se_var (i := 10)) sa_nil))))) sa_nil) T.b_repr)) (se_one (se_or (se_ne hr (se_var (i := 11)) (se_var (i := 5))) (se_one (se_eq hr (se_var (i := 10)) (se_tuple (sa_cons (se_var (i := 9)) sa_nil) T.b_tuple))))))))))))))))))))))))).imp fun _ _ _ _ => spOf_run'
theorem sc_law : FnScope n_law p_law (defScope s_law) := ⟨rfl, rfl, rfl, by decide +kernel, rfl, by decide +kernel, by decide +kernel⟩
theorem ok_law (T : Txt K mg ad fd) : FnG P w K mg base 12 (ad 72) (fd 72) p_law (spOf K 1 f_law) := (fnG_of (m := m_law) T.d_law sc_law fun cdv A outer s H E hr hg =>
    (sl_cons (ss_for PassesOwn.never rfl (si_range1 (sa_cons se_int sa_nil) T.b_range) (sg_name (i := 1) sc_law.nd)
    (sl_one (ss_if (sb_not (sb_val (se_callN (ok_law_is_right T) hr hg T.m_law_is_right T.d_law_is_right.kp (bd_law_is_right T) (sa_cons (se_call (ok_law_urn T) (hr.mono (by omega)) hg T.m_law_urn T.d_law_urn.kp (bd_law_urn T) (sa_cons (se_var (i := 0)) (sa_cons (se_var (i := 1)) sa_nil))) sa_nil) (by omega))))
    (sl_one (ss_ret se_bl))
    sl_nil)))
    (sl_one (ss_ret se_bl)))).imp fun _ _ _ _ => spOf_run'
end
end WW
namespace WW
open PySem PySem.Spec L2 Dh PyProof.Rows
theorem txtH {K : PySem.W.Frag} {h : Heap} {mg : Str → Option Value} (X : K.In h) (G : h.Ns mainGlobals mg) (c : SaysM csl bsl fal fnl K) : Txt K mg (fun i => He.ga K (nml.getD i "")) (fun i => fdAt K (nml.getD i "")) :=
  { d_is_whole := c.func 0 73,
    m_is_whole := He.glo_ok X G (c.sy.fact 0),
    d_is_between := c.func 1 74,
    m_is_between := He.glo_ok X G (c.sy.fact 1),
    d_is_tuple_of := c.func 2 75,
    m_is_tuple_of := He.glo_ok X G (c.sy.fact 2),
    d_is_ratio := c.func 3 76,
    m_is_ratio := He.glo_ok X G (c.sy.fact 3),
    d_is_row := c.func 4 77,
    m_is_row := He.glo_ok X G (c.sy.fact 4),
    d_ratio := c.func 5 78,
    m_ratio := He.glo_ok X G (c.sy.fact 5),
    d_plus := c.func 6 79,
    m_plus := He.glo_ok X G (c.sy.fact 6),
    d_times := c.func 7 80,
    m_times := He.glo_ok X G (c.sy.fact 7),
    d_is_less := c.func 8 81,
    m_is_less := He.glo_ok X G (c.sy.fact 8),
    d_total := c.func 9 82,
    m_total := He.glo_ok X G (c.sy.fact 9),
    d_is_chance_row := c.func 10 83,
    m_is_chance_row := He.glo_ok X G (c.sy.fact 10),
    d_is_still_by := c.func 11 84,
    m_is_still_by := He.glo_ok X G (c.sy.fact 11),
    d_are_odds := c.func 12 85,
    m_are_odds := He.glo_ok X G (c.sy.fact 12),
    d_are_nexts := c.func 13 86,
    m_are_nexts := He.glo_ok X G (c.sy.fact 13),
    d_is_minded_by := c.func 14 87,
    m_is_minded_by := He.glo_ok X G (c.sy.fact 14),
    d_are_chances := c.func 15 88,
    m_are_chances := He.glo_ok X G (c.sy.fact 15),
    d_is_deed := c.func 16 89,
    m_is_deed := He.glo_ok X G (c.sy.fact 16),
    d_is_stand := c.func 17 90,
    m_is_stand := He.glo_ok X G (c.sy.fact 17),
    d_is_share := c.func 18 91,
    m_is_share := He.glo_ok X G (c.sy.fact 18),
    d_is_house_by := c.func 19 92,
    m_is_house_by := He.glo_ok X G (c.sy.fact 19),
    d_check_house := c.func 20 93,
    m_check_house := He.glo_ok X G (c.sy.fact 20),
    d_check_start := c.func 21 94,
    m_check_start := He.glo_ok X G (c.sy.fact 21),
    d_is_memory := c.func 22 95,
    m_is_memory := He.glo_ok X G (c.sy.fact 22),
    d_is_told_by := c.func 23 96,
    m_is_told_by := He.glo_ok X G (c.sy.fact 23),
    d_is_player_by := c.func 24 97,
    m_is_player_by := He.glo_ok X G (c.sy.fact 24),
    d_kept_of := c.func 25 98,
    m_kept_of := He.glo_ok X G (c.sy.fact 25),
    d_first_kept := c.func 26 99,
    m_first_kept := He.glo_ok X G (c.sy.fact 26),
    d_next_kept := c.func 27 100,
    m_next_kept := He.glo_ok X G (c.sy.fact 27),
    d_odds_at := c.func 28 101,
    m_odds_at := He.glo_ok X G (c.sy.fact 28),
    d_check_player := c.func 29 102,
    m_check_player := He.glo_ok X G (c.sy.fact 29),
    d_is_die := c.func 30 103,
    m_is_die := He.glo_ok X G (c.sy.fact 30),
    d_is_step := c.func 31 104,
    m_is_step := He.glo_ok X G (c.sy.fact 31),
    d_wrong_steps := c.func 32 105,
    m_wrong_steps := He.glo_ok X G (c.sy.fact 32),
    d_picked := c.func 33 106,
    m_picked := He.glo_ok X G (c.sy.fact 33),
    d_run_by := c.func 34 107,
    m_run_by := He.glo_ok X G (c.sy.fact 34),
    d_stretch_of := c.func 35 108,
    m_stretch_of := He.glo_ok X G (c.sy.fact 35),
    d_box_by := c.func 36 109,
    m_box_by := He.glo_ok X G (c.sy.fact 36),
    d_chance_by := c.func 37 110,
    m_chance_by := He.glo_ok X G (c.sy.fact 37),
    d_check_dice := c.func 38 111,
    m_check_dice := He.glo_ok X G (c.sy.fact 38),
    d_check_way := c.func 39 112,
    m_check_way := He.glo_ok X G (c.sy.fact 39),
    d_run := c.func 40 113,
    m_run := He.glo_ok X G (c.sy.fact 40),
    d_way_chance := c.func 41 114,
    m_way_chance := He.glo_ok X G (c.sy.fact 41),
    d_box_of := c.func 42 115,
    m_box_of := He.glo_ok X G (c.sy.fact 42),
    d_law_urn := c.func 43 116,
    m_law_urn := He.glo_ok X G (c.sy.fact 43),
    d_law_draw := c.func 44 117,
    m_law_draw := He.glo_ok X G (c.sy.fact 44),
    d_law_pick := c.func 45 118,
    m_law_pick := He.glo_ok X G (c.sy.fact 45),
    d_law_cut := c.func 46 119,
    m_law_cut := He.glo_ok X G (c.sy.fact 46),
    d_law_plus := c.func 47 120,
    m_law_plus := He.glo_ok X G (c.sy.fact 47),
    d_law_times := c.func 48 121,
    m_law_times := He.glo_ok X G (c.sy.fact 48),
    d_law_less := c.func 49 122,
    m_law_less := He.glo_ok X G (c.sy.fact 49),
    d_law_is_under := c.func 50 123,
    m_law_is_under := He.glo_ok X G (c.sy.fact 50),
    d_law_odds := c.func 51 124,
    m_law_odds := He.glo_ok X G (c.sy.fact 51),
    d_law_hall := c.func 52 125,
    m_law_hall := He.glo_ok X G (c.sy.fact 52),
    d_law_habit := c.func 53 126,
    m_law_habit := He.glo_ok X G (c.sy.fact 53),
    d_law_memory := c.func 54 127,
    m_law_memory := He.glo_ok X G (c.sy.fact 54),
    d_law_recalled := c.func 55 128,
    m_law_recalled := He.glo_ok X G (c.sy.fact 55),
    d_law_mindful := c.func 56 129,
    m_law_mindful := He.glo_ok X G (c.sy.fact 56),
    d_law_hero := c.func 57 130,
    m_law_hero := He.glo_ok X G (c.sy.fact 57),
    d_law_first_note := c.func 58 131,
    m_law_first_note := He.glo_ok X G (c.sy.fact 58),
    d_law_next_note := c.func 59 132,
    m_law_next_note := He.glo_ok X G (c.sy.fact 59),
    d_law_note_odds := c.func 60 133,
    m_law_note_odds := He.glo_ok X G (c.sy.fact 60),
    d_law_picked := c.func 61 134,
    m_law_picked := He.glo_ok X G (c.sy.fact 61),
    d_law_stretch := c.func 62 135,
    m_law_stretch := He.glo_ok X G (c.sy.fact 62),
    d_law_die := c.func 63 136,
    m_law_die := He.glo_ok X G (c.sy.fact 63),
    d_law_followed := c.func 64 137,
    m_law_followed := He.glo_ok X G (c.sy.fact 64),
    d_law_thrown := c.func 65 138,
    m_law_thrown := He.glo_ok X G (c.sy.fact 65),
    d_law_road_box := c.func 66 139,
    m_law_road_box := He.glo_ok X G (c.sy.fact 66),
    d_law_volume := c.func 67 140,
    m_law_volume := He.glo_ok X G (c.sy.fact 67),
    d_law_free_road := c.func 68 141,
    m_law_free_road := He.glo_ok X G (c.sy.fact 68),
    d_law_within := c.func 69 142,
    m_law_within := He.glo_ok X G (c.sy.fact 69),
    d_law_outside := c.func 70 143,
    m_law_outside := He.glo_ok X G (c.sy.fact 70),
    d_law_is_right := c.func 71 144,
    m_law_is_right := He.glo_ok X G (c.sy.fact 71),
    d_law := c.func 72 145,
    m_law := He.glo_ok X G (c.sy.fact 72),
    b_abs := He.free_ok X G (c.sy.fact 146),
    b_all := He.free_ok X G (c.sy.fact 147),
    b_any := He.free_ok X G (c.sy.fact 148),
    b_bool := He.free_ok X G (c.sy.fact 149),
    b_dict := He.free_ok X G (c.sy.fact 150),
    b_divmod := He.free_ok X G (c.sy.fact 151),
    b_enumerate := He.free_ok X G (c.sy.fact 152),
    b_int := He.free_ok X G (c.sy.fact 153),
    b_isinstance := He.free_ok X G (c.sy.fact 154),
    b_len := He.free_ok X G (c.sy.fact 155),
    b_range := He.free_ok X G (c.sy.fact 156),
    b_repr := He.free_ok X G (c.sy.fact 157),
    b_sorted := He.free_ok X G (c.sy.fact 158),
    b_str := He.free_ok X G (c.sy.fact 159),
    b_sum := He.free_ok X G (c.sy.fact 160),
    b_tuple := He.free_ok X G (c.sy.fact 161),
    b_zip := He.free_ok X G (c.sy.fact 162),
    b_gcd := c.blt X G 0,
    g_MOST_DEEDS := c.con X G 0,
    g_MOST_DICE := c.con X G 1,
    g_MOST_LISTS := c.con X G 2,
    g_MOST_MEMORY := c.con X G 3,
    g_MOST_MINDS := c.con X G 4,
    g_MOST_PAYS := c.con X G 5,
    g_MOST_STANDS := c.con X G 6,
    g_MOST_WAY := c.con X G 7,
    g_ONE := c.con X G 8,
    g_ZERO := c.con X G 9 }
theorem all_mkH {P : Program} {w : World} {K : PySem.W.Frag} {h : Heap} {mg : Str → Option Value} {fa : Addr} (X : K.In h) (G : h.Ns mainGlobals mg) (hfa : mg "law" = some (.ref fa)) (c : SaysM csl bsl fal fnl K) :
    ∃ fd : FuncData, (∀ (s : Shared) (v : Value), BindsTo s fd ⟨[v], []⟩ [("_law_script", v)]) ∧ ∀ base : Heap, K.In base → base.Ns mainGlobals mg → FnG P w K mg base 12 fa fd ["_law_script"] (spOf K 1 f_law) := by
  have e := hfa.symm.trans (He.glo_ok X G (c.sy.fact 72 (f := .glo "law") rfl))
  have T := txtH X G c
  cases e
  refine ⟨_, fun s v => ?_, fun base _ _ => ok_law T⟩
  obtain ⟨oc, od, kV, doc, pm, an, cdv, ct, osl, e, _, _⟩ := T.d_law.ex
  rw [e]
  exact .of_eq rfl
end WW
open PySem PySem.W PySem.Calls PyProof.Rows
set_option maxHeartbeats 0 in
theorem PySem.Challenge.cw_deedhouses_k83_whole_dice_that_make_a_wa_holds : PySem.Challenge.rw_deedhouses_k83_whole_dice_that_make_a_wa.Holds := by
  w_on; o_law
  refine HandSHeadRun.head_imp (r := OpenLaw.row PySem.Challenge.rw_deedhouses_k83_whole_dice_that_make_a_wa) (q := view (OpenLaw.row PySem.Challenge.rw_deedhouses_k83_whole_dice_that_make_a_wa).prog [0, 100]) (H := WW.hkM) (ob := WW.obM) (M := 6000) (loose := WW.loose) (d := HandSHeadRun.topDef (OpenLaw.row PySem.Challenge.rw_deedhouses_k83_whole_dice_that_make_a_wa).prog 100) (kwd := []) WW.obM_eq
    WW.runM (by kernel_rfl) (by kernel_rfl) (by kernel_rfl) (by rfl) (by first | assumption | decide +kernel) (by decide +kernel) ⟨rfl, rfl, rfl, rfl, rfl, by decide +kernel⟩ ?hw ?hc
  case hw => w_witness2
  case hc =>
    refine Dh.law_endH (l := PySem.Challenge.rw_deedhouses_k83_whole_dice_that_make_a_wa) (n := 63) (k := 12) (x := "_law_script") (g := WW.f_law) rfl (by decide) (by kernel_rfl) ⟨rfl, by decide, by decide⟩ WW.plain ?F
    intro w mg fa h Y G hmg0
    obtain ⟨K, KX, c⟩ := Y
    have hmg : mg ("law" : PySem.Str) = some (.ref fa) := by
      have e : (HandSHeadRun.topDef (OpenLaw.row PySem.Challenge.rw_deedhouses_k83_whole_dice_that_make_a_wa).prog 100).name = ("law" : PySem.Str) := by kernel_rfl
      rw [← e]
      exact hmg0
    obtain ⟨fd, hb, hF⟩ := WW.all_mkH KX G hmg c
    exact ⟨K, fd, KX, hb, hF⟩
