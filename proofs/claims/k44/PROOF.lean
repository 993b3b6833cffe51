import PyProof.Rows.All
import Wide.All
import OpenK.AllK
import Wide.FinOn
import HandS.ForMost
import HandS.Walk
import HandS.WideBits
import HandS.TupAny
import HandS.TupMul
import HandS.Strs
import HandS.Gcd
import HandS.IsInst
import HandS.Zip
import HandS.Iter
import KE.GoesEnum
import HandS.Style
import HandS.EndBits
import HandS.Head0
import HandS.Head1
import HandS.Head2
import HandS.Head3
import HandS.HeadHook1
import HandS.Deep
import HandS.DictComp
import PyProof.NeKinds
import HandS.Small
import HandS.WordsDict
import HandS.SortInts
import Wide.Txt2
import KE.DataMinMax
import HandS.More
import HandS.Conv
import KE.KDictZip
import PyProof.ListNew
import PySem.Challenge.RW_deedhouses_k44_filled_and_corners_of_str
import PyProof.ReprBulk
set_option Elab.async false
set_option linter.all false
set_option maxRecDepth 100000
set_option maxHeartbeats 4000000
namespace Dh
open PySem PySem.Spec L2 PyProof.Rows
/-- Q of a tuple just made -/
abbrev TpQ (H : Hp) (xs : List V) (Q : VK) : Prop := ∀ (p : Addr) (o : Obj), H p = none → o.dict = none → Q (.ref p) (upd H p (.frz o (.tup xs)))
section
variable {X : Cx} {es : List Expr} {t : TA} {pos : Pos}
theorem obj_tup {h : Heap} {H : Hp} {a : Addr} {its : List Value} {xs : List V} {n : Nat} (e : h.get? a = some { cls := .type "tuple", data := .seq its.toArray n }) (hz : xs.length ≤ sizeLine) (r : Vals xs its) : ObjOk X.prog X.w H h a (.frz { cls := .type "tuple", data := .seq its.toArray n } (.tup xs)) :=
  ⟨e, hz, its, r, ⟨_, e, rfl, n, rfl⟩⟩
def tTupS (t : TA) : TE := fun σ H Q => t σ H fun xs H1 => xs.length ≤ sizeLine ∧ TpQ H1 xs Q
theorem pe_tupS {x1} (h : PA X es t) : PE X (.Tuple es x1 pos) (tTupS t) := by
  refine ⟨fun pins s σ H Q I hq => ?_⟩
  refine wpAny_Tuple_spliced (thn (h.run pos pins s σ H _ I hq) fun us s1 ⟨xs, H1, I1, r, z, q⟩ => ⟨by rw [← r.length]; exact z, ?_⟩)
  have hf : H1 s1.heap.objs.size = none := I1.hok.fresh (Nat.le_refl _)
  exact ⟨.ref s1.heap.objs.size, upd H1 s1.heap.objs.size (.frz { cls := .type "tuple", data := .seq us.toArray } (.tup xs)), I1.laid (t' := s1.toks) (fun b u e => Heap.get?_push_of_some _ e) (Nat.le_refl _) (obj_tup (Heap.get?_push_size _ rfl) z r), rfl, q _ _ hf rfl⟩
theorem call_tuple_ofS : CallR X (.type "tuple") (fun xs H Q => ∃ p ys, xs = [.ref p] ∧ ((SqL X.K H p ys ∧ TpQ H ys Q) ∨ (SqT X.K H p ys ∧ Q (.ref p) H))) := by
  intro pins s σ H xs us Q I r h
  obtain ⟨p, ys, rfl, h⟩ := h
  obtain ⟨u, rfl, rx⟩ := vals1 r
  cases rx
  rcases h with ⟨hq, q⟩ | ⟨hq, q⟩
  · obtain ⟨its, r', pl, hz⟩ := I.list hq
    have hlen := r'.length
    refine call_tuple_list pl.isList (fun h' kp => ?_) (by simp only [List.size_toArray] <;> omega)
    have I1 : Inv X pins σ H { s with heap := h' } := I.kept (t' := s.toks) kp
    have I2 : Inv X pins σ (upd H h'.objs.size (.frz { cls := .type "tuple", data := .seq its.toArray } (.tup ys))) { s with heap := h'.push { cls := .type "tuple", data := .seq its.toArray } } :=
      I1.laid (t' := s.toks) (fun b o e => Heap.get?_push_of_some _ e) (Nat.le_refl _) (obj_tup (Heap.get?_push_size _ rfl) hz r')
    exact ⟨.ref h'.objs.size, _, I2, rfl, q _ _ (I1.hok.fresh (Nat.le_refl _)) rfl⟩
  · obtain ⟨its, r', pl, hz⟩ := I.tuple hq
    exact call_tuple_same pl ⟨.ref p, H, I, rfl, q⟩
theorem call_divmodS : CallR X (.builtin "divmod") (fun xs H Q => ∃ i j, xs = [.int i, .int j] ∧ CDivP i j ∧ TpQ H [.int (i / j), .int (i % j)] Q) := by
  intro pins s σ H xs us Q I r h
  obtain ⟨i, j, rfl, ⟨h1, h2⟩, q⟩ := h
  obtain ⟨u, w', rfl, ⟨t, rfl⟩, ⟨t', rfl⟩⟩ := vals2 r
  refine divmod_int (by omega) ?_ (.inl h2)
  rw [Int.fdiv_eq_ediv_of_nonneg i (by omega), Int.fmod_eq_emod_of_nonneg i (by omega)]
  have hn : H s.heap.objs.size = none := I.hok.fresh (Nat.le_refl _)
  refine ⟨.ref s.heap.objs.size, _, ?_, rfl, q _ { cls := .type "tuple", data := .seq [Value.int (i / j) s.toks, Value.int (i % j) (s.toks + 1)].toArray } hn rfl⟩
  exact I.laid (fun b o e => Heap.get?_push_of_some _ e) (Nat.le_refl _) (obj_tup (its := [.int (i / j) s.toks, .int (i % j) (s.toks + 1)]) (Heap.get?_push_size s.heap rfl) (by simp only [List.length_cons, List.length_nil]; rw [sizeLine_eq]; decide) (.cons ⟨_, rfl⟩ (.cons ⟨_, rfl⟩ .nil)))
/-- t + u -/
def rCatS (K : PySem.W.Frag) : R2 := fun x y H Q => ∃ a b xs ys, x = .ref a ∧ y = .ref b ∧ SqT K H a xs ∧ SqT K H b ys ∧ xs.length + ys.length ≤ sizeLine ∧
  (xs = [] → Q (.ref b) H) ∧ (xs ≠ [] → ys = [] → Q (.ref a) H) ∧ (xs ≠ [] → ys ≠ [] → TpQ H (xs ++ ys) Q)
theorem op_catS : OpR X (binaryOp .Add) (rCatS X.K) := by
  intro pins s σ H x y v u Q I rx ry h
  obtain ⟨a, b, xs, ys, rfl, rfl, ha, hb, hz, q0, q1, q2⟩ := h
  cases rx
  cases ry
  obtain ⟨its, r1, p1, _⟩ := I.tuple ha
  obtain ⟨its2, r2, p2, _⟩ := I.tuple hb
  by_cases hx : xs = []
  · subst hx
    cases r1
    exact cat_tup0 p1 p2 ⟨.ref b, H, I, rfl, q0 rfl⟩
  · refine HT.cat_tup p1 p2 (fun z => hx (r1.nil_iff.mp z)) (fun z => ⟨.ref a, H, I, rfl, q1 hx (r2.nil_iff.mp z)⟩) (fun z => ?_) (by rw [← r1.length, ← r2.length]; exact hz)
    exact ⟨.ref s.heap.objs.size, _, I.laid (t' := s.toks) (fun b ob q => Heap.get?_push_of_some _ q) (Nat.le_refl _) (obj_tup (its := its ++ its2) (xs := xs ++ ys) (by first | exact Heap.get?_push_size _ rfl | (rw [← List.append_toArray] <;> exact Heap.get?_push_size _ rfl)) (by rw [List.length_append]; exact hz) (r1.append r2)), rfl, q2 hx (fun w => z (r2.nil_iff.mpr w)) _ _ (I.hok.fresh (Nat.le_refl _)) rfl⟩
/-- t[lo:hi]: the whole of it is t itself -/
def rSlS (K : PySem.W.Frag) : V → Option Int → Option Int → Hp → VK → Prop := fun x lo hi H Q => ∃ a xs, x = .ref a ∧ SqT K H a xs ∧
  (HT.sIx xs.length 0 lo = 0 ∧ HT.sIx xs.length xs.length hi = xs.length → Q (.ref a) H) ∧ (¬ (HT.sIx xs.length 0 lo = 0 ∧ HT.sIx xs.length xs.length hi = xs.length) → TpQ H (cutV xs lo hi) Q)
theorem sl_tupS : SlR X (rSlS X.K) := by
  intro pins s σ H x v vl vu lo hi sl Q I rx hs pl pu h
  obtain ⟨a, xs, rfl, hx, q1, q2⟩ := h
  cases rx
  obtain ⟨its, r, ht, hz⟩ := I.tuple hx
  have hlen : its.toArray.size = xs.length := by rw [List.size_toArray]; exact r.length.symm
  refine ⟨"tuple", _, PyProof.Rows.slot_tuple_getitem.lookup, ht.typeIs, ?_⟩
  by_cases hw : HT.sIx xs.length 0 lo = 0 ∧ HT.sIx xs.length xs.length hi = xs.length
  · exact getItem_tuple_whole ht hs pl pu (by rw [hlen]; exact hw) ⟨.ref a, H, I, rfl, q1 hw⟩
  · refine HT.getItem_tuple_cut ht hs pl pu (by rw [hlen]; exact hw) ?_ (by rw [hlen]; exact hz)
    rw [hlen]
    exact ⟨.ref s.heap.objs.size, _, I.laid (t' := s.toks) (fun b ob q => Heap.get?_push_of_some _ q) (Nat.le_refl _) (obj_tup (Heap.get?_push_size _ rfl) (Nat.le_trans (cutV_length xs lo hi) hz) ((r.drop (HT.sIx xs.length 0 lo)).take (HT.sIx xs.length xs.length hi - HT.sIx xs.length 0 lo))), rfl, q2 hw _ _ (I.hok.fresh (Nat.le_refl _)) rfl⟩
/-- t * k -/
def rRepS (K : PySem.W.Frag) : R2 := fun x y H Q => ∃ l k xs, x = .ref l ∧ y = .int k ∧ SqT K H l xs ∧ xs ≠ [] ∧ 2 ≤ k ∧ k ≤ 1000 ∧ xs.length ≤ 1000 ∧ TpQ H (List.replicate k.toNat xs).flatten Q
theorem op_repS : OpR X (binaryOp .Mult) (rRepS X.K) := by
  intro pins s σ H x y v u Q I rx ry h
  obtain ⟨l, k, xs, rfl, rfl, hT, hne, h1, h2, hz, q⟩ := h
  cases rx
  obtain ⟨t, rfl⟩ := ry
  obtain ⟨its, r, ⟨⟨cls, dd, data, sl⟩, ho, hc, n, hd⟩, hs⟩ := I.tuple hT
  simp only at hc hd
  subst hc hd
  have hle : its.length = xs.length := r.length.symm
  have hn : its ≠ [] := fun e => hne (by
    rw [e] at hle
    exact List.eq_nil_of_length_eq_zero hle.symm)
  have hi : its.toArray.isEmpty = false := by
    cases its with
    | nil => exact absurd rfl hn
    | cons a b => rfl
  have hsz0 : its.toArray.size = xs.length := by rw [List.size_toArray, hle]
  have hm : ((its.toArray.size : Nat) : Int) * k ≤ 1000000 := by
    rw [hsz0]
    have a1 : ((xs.length : Nat) : Int) * k ≤ 1000 * k := Int.mul_le_mul_of_nonneg_right (by omega) (by omega)
    omega
  have flen : (List.replicate k.toNat its).flatten.length ≤ sizeLine := by
    rw [PyProof.Rows.lm_len_rep_flat, hle, sizeLine_eq]
    have a1 : k.toNat * xs.length ≤ 1000 * 1000 := Nat.mul_le_mul (by omega) hz
    omega
  have c0 : (decide (k < -(2 ^ 63)) || decide (k ≥ 2 ^ 63)) = false := by
    rw [decide_eq_false (by omega), decide_eq_false (by omega)] <;> rfl
  have c1 : (its.toArray.isEmpty || k == 1) = false := by
    rw [hi, Bool.false_or]
    exact beq_eq_false_iff_ne.mpr (by omega)
  have c2 : (decide (k ≤ 0) || its.toArray.isEmpty) = false := by
    rw [hi, Bool.or_false]
    exact decide_eq_false (by omega)
  have c4 : Builtin.Tuple.tupleTooMany (((its.toArray.size : Nat) : Int) * k) = false := by
    unfold Builtin.Tuple.tupleTooMany
    rw [sizeLine_eq]
    exact decide_eq_false (by omega)
  refine wpAny_binaryOp_repeat_ref (T := "tuple") (U := "int") (by decide) ⟨_, ho, rfl⟩ (fun s' => typeIs_int s' k t) noFill_tuple_mul F.fills_int_mul F.slot_int_rmul repeat_tuple F.slot_int_index.lookup
    (call_meets F.slot_int_rmul (typeIs_int s k t) F.entry_int_rmul (F.args_int_rmul_2 _ _) (int_rmul_tuple k t l its.toArray n dd sl)
      ⟨ho, rfl, ⟨_, ho, rfl⟩, call_meets F.slot_tuple_mul ⟨_, ho, rfl⟩ F.entry_tuple_mul (F.args_tuple_mul_2 _ _) (tuple_mulW l its.toArray n dd sl k t c0 c1 c2 (by omega) c4 (by rw [size_rep, List.size_toArray]; exact flen)) ⟨ho, ?_⟩⟩)
  rw [size_rep]
  exact ⟨.ref s.heap.objs.size, _, I.laid (t' := s.toks) (fun b ob q => Heap.get?_push_of_some _ q) (Nat.le_refl _) (obj_tup (Heap.get?_push_size _ rfl) (by rw [PyProof.Rows.lm_len_rep_flat, sizeLine_eq]; have a1 : k.toNat * xs.length ≤ 1000 * 1000 := Nat.mul_le_mul (by omega) hz; omega) (r.rep k.toNat)), rfl, q _ _ (I.hok.fresh (Nat.le_refl _)) rfl⟩
end
/-- the list at a, each item with its place in a new pair -/
def IteS (K : PySem.W.Frag) (a : Addr) : It where
  go := fun i H => ∃ (xs : List V) (x : V), SqL K H a xs ∧ xs[i]? = some x
  yld := fun i H v H' => ∃ T o x, v = .ref T ∧ H T = none ∧ o.dict = none ∧ H' = upd H T (.frz o (.tup [.int (i : Nat), x])) ∧ ∀ xs, SqL K H a xs → xs[i]? = some x
  stop := fun i H => ∃ xs : List V, SqL K H a xs ∧ xs.length = i
theorem turn_enumS {P : Program} {w : World} {K : PySem.W.Frag} {elts : List Expr} {kk : Nat} {tpos : Pos} (a e it : Addr) :
    Turn P w K (.Tuple elts kk tpos) (IteS K a) [e, it] e (fun i h => (∃ old, IsEnum h e it ((i : Nat) : Int) old) ∧ h.IsListIter it a i ∧ e ≠ it) where
  mem := by simp
  obj := fun i h st b hb => by
    obtain ⟨⟨old, he⟩, ⟨o, ho, hc, hd⟩, _⟩ := st
    have e' : b = e ∨ b = it := by simpa using hb
    rcases e' with z | z
    · rw [z]; exact ⟨_, he, fun v q => nomatch q⟩
    · rw [z]; exact ⟨o, ho, fun v q => by rw [hd] at q; cases q⟩
  keep := fun i h h' st k => let ⟨⟨old, he⟩, hi, hne⟩ := st; ⟨⟨old, k e (by simp) _ he⟩, hi.at fun o q => k it (by simp) o q, hne⟩
  item := by
    intro X hP hw hK hc i pins s σ H E I hf st hg
    subst hP hw hK
    obtain ⟨⟨old, he⟩, hit, hne⟩ := st
    obtain ⟨xs, x, hq, hx⟩ := hg
    obtain ⟨its, rv, p, hz⟩ := I.list hq
    obtain ⟨u, hu, ru⟩ := rv.get hx
    have hel : e < s.heap.objs.size := Heap.lt_size he
    have hil : it < s.heap.objs.size := by obtain ⟨_, q, _⟩ := hit; exact Heap.lt_size q
    refine wpAny_pyNext_enum_item he hit p.isList (x := u) (by simpa using hu) hne fun h' ho hit' hT hsz hk => ?_
    refine ⟨_, rfl, wpAny_letOwnedTupleGo_enum (s := { s with heap := h', toks := s.toks + 1 }) ho fun h'' he' sb => ?_⟩
    have hT2 : h''.get? s.heap.objs.size = some { cls := .type "tuple", data := .seq #[.int i s.toks, u] } := (sb.2 _ (Nat.ne_of_gt hel)).trans hT
    have I1 : Inv X pins σ (upd H s.heap.objs.size (.frz { cls := .type "tuple", data := .seq #[.int i s.toks, u] } (.tup [.int (i : Nat), x]))) { s with heap := h'', toks := s.toks + 1 } :=
      I.turnedNew (ch := [e, it]) (fun b ob hb q => (sb.2 b (fun z => hb (by simp [z]))).trans (hk b ob (fun z => hb (by simp [z])) (fun z => hb (by simp [z])) q)) hf (Nat.le_refl _) (obj_tup (its := [.int i s.toks, u]) hT2 (by show 2 ≤ sizeLine; decide) (.cons ⟨_, rfl⟩ (.cons ru .nil)))
    refine ⟨.ref s.heap.objs.size, _, I1, rfl, ⟨_, _, x, rfl, I.hok.fresh (Nat.le_refl _), rfl, rfl, fun ys hy => by rw [I.list_inj hy hq]; exact hx⟩, ⟨⟨u, ?_⟩, hit'.at fun o q => (sb.2 it (Ne.symm hne)).trans q, hne⟩, fun b hb => ?_⟩
    · have e1 : ((i + 1 : Nat) : Int) = (i : Int) + 1 := by omega
      rw [e1]; exact he'
    · have hb' : b < s.heap.objs.size := by
        have e' : b = e ∨ b = it := by simpa using hb
        rcases e' with z | z
        · rw [z]; exact hel
        · rw [z]; exact hil
      rw [upd_ne (Nat.ne_of_lt hb')]
      exact (hf b hb).1
  done := by
    intro X hP hw hK hc i pins s σ H E I hf st hg
    subst hP hw hK
    obtain ⟨⟨old, he⟩, hit, hne⟩ := st
    obtain ⟨xs, hq, hx⟩ := hg
    obtain ⟨its, rv, p, hz⟩ := I.list hq
    obtain ⟨f0, f1, f2, f3, f4, f5⟩ := hf it (by simp)
    have hl := rv.length
    exact wpAny_pyNext_enum_end (I.ok.hd hc) he hit p.isList (by simp; omega) fun h' eb => ⟨rfl, I.turned (t' := s.toks) (fun b o hb q => eb b o hb q) f0 f1 f3 f4 f5⟩
  self := fun A i s Q E st h => let ⟨⟨_, he⟩, _⟩ := st; wpAny_pyIter_enum he h
end Dh
namespace Dh
open PySem PySem.Spec L2
/-- what an expression gives: a datum that stays; a list just made; a list of the frame's own, looked at; the spring -/
inductive R where
  | d (x : PyData) | f (xs : List PyData) | b (xs : List PyData) | s | m (acc : List (Key × PyData)) | n (acc : List (Key × PyData))
/-- what a slot holds -/
inductive Cl where
  | d (x : PyData) | o (xs : List PyData) | s | m (acc : List (Key × PyData))
abbrev Ev := List (Option Cl)
abbrev Sto := List Int
abbrev Mx := Ev → Sto → Option (R × Sto)
abbrev Mt := Ev → Sto → Option (Bool × Sto)
abbrev Ma := Ev → Sto → Option (List R × Sto)
abbrev Fz := Addr → Prop
/-- a list that stays -/
def FzL (K : PySem.W.Frag) (fz : Fz) (H : Hp) (a : Addr) (xs : List V) : Prop :=
  (H a = some (.lst xs) ∧ fz a) ∨ (∃ o, H a = some (.frz o (.lst xs))) ∨
    ∃ (o : Obj) (its : Array Value) (n : Nat), K.lookup a = some o ∧ o.cls = .type "list" ∧ o.dict = none ∧ o.data = .seq its n ∧ its.size ≤ sizeLine ∧ Vals xs its.toList
theorem FzL.sq {K : PySem.W.Frag} {fz : Fz} {H : Hp} {a : Addr} {xs : List V} (h : FzL K fz H a xs) : SqL K H a xs := by
  rcases h with ⟨h, _⟩ | h | h
  · exact .inl (.inl h)
  · exact .inl (.inr h)
  · exact .inr h
/-- a tuple that stays; it bears no names of its own -/
def FzT (K : PySem.W.Frag) (H : Hp) (a : Addr) (xs : List V) : Prop :=
  (∃ o, H a = some (.frz o (.tup xs)) ∧ o.dict = none) ∨
    ∃ (o : Obj) (its : Array Value) (n : Nat), K.lookup a = some o ∧ o.cls = .type "tuple" ∧ o.dict = none ∧ o.data = .seq its n ∧ its.size ≤ sizeLine ∧ Vals xs its.toList
theorem FzT.sq {K : PySem.W.Frag} {H : Hp} {a : Addr} {xs : List V} (h : FzT K H a xs) : SqT K H a xs := by
  rcases h with ⟨o, h, _⟩ | ⟨o, its, n, h1, h2, _, h3, h4, h5⟩
  · exact .inl (.inr ⟨o, h⟩)
  · exact .inr ⟨o, its, n, h1, h2, h3, h4, h5⟩
mutual
/-- the value v is the datum d, for as long as what is frozen stays -/
inductive Im (K : PySem.W.Frag) (fz : Fz) (H : Hp) : V → PyData → Prop
  | non : Im K fz H .non .none
  | bl (b : Bool) : Im K fz H (.bl b) (.bool b)
  | int (i : Int) : Im K fz H (.int i) (.int i)
  | str (x : Str) : Im K fz H (.str x) (.str x)
  | lst {a : Addr} {xs : List V} {ds : List PyData} : FzL K fz H a xs → ImA K fz H xs ds → Im K fz H (.ref a) (.list ds)
  | tup {a : Addr} {xs : List V} {ds : List PyData} : FzT K H a xs → ImA K fz H xs ds → Im K fz H (.ref a) (.tuple ds)
  | dct {a : Addr} {kvs : List (Key × V)} {ds : List (PyData × PyData)} : H a = some (.dK kvs) → fz a → ImA K fz H (kvs.map fun p => kV p.1) (ds.map (·.1)) → ImA K fz H (kvs.map (·.2)) (ds.map (·.2)) → Im K fz H (.ref a) (.dict ds)
inductive ImA (K : PySem.W.Frag) (fz : Fz) (H : Hp) : List V → List PyData → Prop
  | nil : ImA K fz H [] []
  | cons {v : V} {vs : List V} {d : PyData} {ds : List PyData} : Im K fz H v d → ImA K fz H vs ds → ImA K fz H (v :: vs) (d :: ds)
end
/-- the entries of a dict as they are tracked, and as data -/
def ImK (K : PySem.W.Frag) (fz : Fz) (H : Hp) (kvs : List (Key × V)) (acc : List (Key × PyData)) : Prop := kvs.map (·.1) = acc.map (·.1) ∧ ImA K fz H (kvs.map (·.2)) (acc.map (·.2))
/-- from one moment to a later one: what was tracked stands, but the spring; what is newly frozen was not there -/
structure Stp (sp : Option Addr) (fz : Fz) (H : Hp) (fz' : Fz) (H' : Hp) : Prop where
  mono : ∀ a, fz a → fz' a
  ext : ∀ a o, H a = some o → some a ≠ sp → H' a = some o
  new : ∀ a, fz' a → fz a ∨ (some a ≠ sp ∧ H a = none)
  trk : (∀ a, fz a → H a ≠ none) → ∀ a, fz' a → H' a ≠ none
section
variable {K : PySem.W.Frag} {sp : Option Addr} {fz fz1 fz2 : Fz} {H H1 H2 : Hp}
theorem Stp.refl : Stp sp fz H fz H := ⟨fun _ h => h, fun _ _ h _ => h, fun _ h => .inl h, fun h => h⟩
theorem Stp.back (s : Stp sp fz H fz1 H1) {a : Addr} (n : some a ≠ sp) (h : H1 a = none) : H a = none := by
  cases q : H a with
  | none => rfl
  | some o => rw [s.ext a o q n] at h; cases h
theorem Stp.trans (s : Stp sp fz H fz1 H1) (t : Stp sp fz1 H1 fz2 H2) : Stp sp fz H fz2 H2 where
  mono := fun a h => t.mono a (s.mono a h)
  ext := fun a o h n => t.ext a o (s.ext a o h n) n
  new := fun a h => by
    rcases t.new a h with h | ⟨n, h⟩
    · exact s.new a h
    · exact .inr ⟨n, s.back n h⟩
  trk := fun h => t.trk (s.trk h)
theorem Stp.nsp (s : Stp sp fz H fz1 H1) (n : ∀ a, sp = some a → ¬ fz a) : ∀ a, sp = some a → ¬ fz1 a := fun a e h => by
  rcases s.new a h with h | ⟨h, _⟩
  · exact n a e h
  · exact h e.symm
/-- a new object -/
theorem Stp.laid {a : Addr} {o : HO} (h : H a = none) : Stp sp fz H fz (upd H a o) :=
  ⟨fun _ h => h, fun b u q _ => by rw [upd_ne (ne_of_none q h)]; exact q, fun _ h => .inl h, fun t b q z => by
    by_cases e : b = a
    · subst e; rw [upd_same] at z; cases z
    · rw [upd_ne e] at z; exact t b q z⟩
/-- a new object, frozen -/
theorem Stp.frz {a : Addr} {o : HO} (h : H a = none) (n : some a ≠ sp) : Stp sp fz H (fun b => fz b ∨ b = a) (upd H a o) :=
  ⟨fun _ h => .inl h, fun b u q _ => by rw [upd_ne (ne_of_none q h)]; exact q, fun b q => by
    rcases q with q | q
    · exact .inl q
    · subst q; exact .inr ⟨n, h⟩, fun t b q z => by
    by_cases e : b = a
    · subst e; rw [upd_same] at z; cases z
    · rw [upd_ne e] at z
      rcases q with q | q
      · exact t b q z
      · exact e q⟩
/-- a list that was just made is frozen -/
theorem Stp.freeze {a : Addr} {o : HO} (s : Stp sp fz H fz1 H1) (h0 : H a = none) (n : some a ≠ sp) (h : H1 a = some o) : Stp sp fz H (fun b => fz1 b ∨ b = a) H1 :=
  ⟨fun b q => .inl (s.mono b q), s.ext, fun b q => by
    rcases q with q | q
    · exact s.new b q
    · subst q; exact .inr ⟨n, h0⟩, fun t b q z => by
    rcases q with q | q
    · exact s.trk t b q z
    · subst q; rw [h] at z; cases z⟩
def SpL (sp : Option Addr) (H : Hp) (sto : Sto) : Prop := ∀ a, sp = some a → H a = some (.lst (sto.map V.int))
theorem SpL.ne {sto : Sto} {a : Addr} {o : Option HO} (l : SpL sp H sto) (h : H a = o) (n : o ≠ some (.lst (sto.map V.int))) : some a ≠ sp := fun e => n (h.symm.trans (l a e.symm))
theorem SpL.upd {sto : Sto} {a : Addr} {o : HO} (l : SpL sp H sto) (n : some a ≠ sp) : SpL sp (L2.upd H a o) sto := fun p e => by
  have : p ≠ a := fun z => n (by rw [← z, e])
  rw [upd_ne this]
  exact l p e
/-- the value is the spring -/
def IsS (sp : Option Addr) (v : V) : Prop := ∃ a, sp = some a ∧ v = .ref a
/-- the spring stands, it is not frozen, what is frozen is tracked -/
structure Bs (sp : Option Addr) (fz : Fz) (H : Hp) (sto : Sto) : Prop where
  spl : SpL sp H sto
  nsp : ∀ a, sp = some a → ¬ fz a
  trk : ∀ a, fz a → H a ≠ none
theorem Bs.step {sto sto' : Sto} (B : Bs sp fz H sto) (s : Stp sp fz H fz1 H1) (l : SpL sp H1 sto') : Bs sp fz1 H1 sto' := ⟨l, s.nsp B.nsp, s.trk B.trk⟩
theorem ne_spring {sto : Sto} {a : Addr} {xs : List V} (l : SpL sp H sto) (h : H a = some (.tup xs)) : some a ≠ sp := by
  exact l.ne h (by intro z; cases z)
theorem SqT.stp {sto : Sto} {a : Addr} {xs : List V} (s : Stp sp fz H fz1 H1) (B : Bs sp fz H sto) (h : SqT K H a xs) : SqT K H1 a xs := by
  rcases h with (h | ⟨o, h⟩) | h
  · exact .inl (.inl (s.ext _ _ h (ne_spring B.spl h)))
  · exact .inl (.inr ⟨o, s.ext _ _ h (B.spl.ne h (by intro z; cases z))⟩)
  · exact .inr h
theorem FzT.stp {sto : Sto} {a : Addr} {xs : List V} (s : Stp sp fz H fz1 H1) (B : Bs sp fz H sto) (h : FzT K H a xs) : FzT K H1 a xs := by
  rcases h with ⟨o, h, d⟩ | h
  · exact .inl ⟨o, s.ext _ _ h (B.spl.ne h (by intro z; cases z)), d⟩
  · exact .inr h
theorem FzL.stp {sto : Sto} {a : Addr} {xs : List V} (s : Stp sp fz H fz1 H1) (B : Bs sp fz H sto) (h : FzL K fz H a xs) : FzL K fz1 H1 a xs := by
  rcases h with ⟨h, f⟩ | ⟨o, h⟩ | h
  · exact .inl ⟨s.ext _ _ h (by intro e; exact B.nsp _ e.symm f), s.mono _ f⟩
  · exact .inr (.inl ⟨o, s.ext _ _ h (B.spl.ne h (by intro z; cases z))⟩)
  · exact .inr (.inr h)
mutual
theorem Im.stp {sto : Sto} (s : Stp sp fz H fz1 H1) (B : Bs sp fz H sto) : ∀ {v : V} {d : PyData}, Im K fz H v d → Im K fz1 H1 v d
  | _, _, .non => .non
  | _, _, .bl b => .bl b
  | _, _, .int i => .int i
  | _, _, .str x => .str x
  | _, _, .lst h a => .lst (h.stp s B) (ImA.stp s B a)
  | _, _, .tup h a => .tup (FzT.stp s B h) (ImA.stp s B a)
  | _, _, .dct h f a b => .dct (s.ext _ _ h (by intro e; exact B.nsp _ e.symm f)) (s.mono _ f) (ImA.stp s B a) (ImA.stp s B b)
theorem ImA.stp {sto : Sto} (s : Stp sp fz H fz1 H1) (B : Bs sp fz H sto) : ∀ {v : List V} {d : List PyData}, ImA K fz H v d → ImA K fz1 H1 v d
  | _, _, .nil => .nil
  | _, _, .cons h t => .cons (Im.stp s B h) (ImA.stp s B t)
end
mutual
theorem Im.fzm (g : ∀ a, fz a → fz1 a) : ∀ {v : V} {d : PyData}, Im K fz H v d → Im K fz1 H v d
  | _, _, .non => .non
  | _, _, .bl b => .bl b
  | _, _, .int i => .int i
  | _, _, .str x => .str x
  | _, _, .lst h a => .lst (by
      rcases h with ⟨h, f⟩ | h | h
      · exact .inl ⟨h, g _ f⟩
      · exact .inr (.inl h)
      · exact .inr (.inr h)) (ImA.fzm g a)
  | _, _, .tup h a => .tup h (ImA.fzm g a)
  | _, _, .dct h f a b => .dct h (g _ f) (ImA.fzm g a) (ImA.fzm g b)
theorem ImA.fzm (g : ∀ a, fz a → fz1 a) : ∀ {v : List V} {d : List PyData}, ImA K fz H v d → ImA K fz1 H v d
  | _, _, .nil => .nil
  | _, _, .cons h t => .cons (Im.fzm g h) (ImA.fzm g t)
end
theorem ImA.length : ∀ {v : List V} {d : List PyData}, ImA K fz H v d → v.length = d.length
  | _, _, .nil => rfl
  | _, _, .cons _ t => by rw [List.length_cons, List.length_cons, ImA.length t]
theorem ImA.at : ∀ {v : List V} {d : List PyData}, ImA K fz H v d → ∀ (i : Nat) (x : PyData), d[i]? = some x → ∃ w, v[i]? = some w ∧ Im K fz H w x
  | _, _, .nil, i, x, h => by simp at h
  | _, _, .cons h t, 0, x, e => by
    simp only [List.getElem?_cons_zero, Option.some.injEq] at e
    subst e
    exact ⟨_, rfl, h⟩
  | _, _, .cons h t, i + 1, x, e => by
    simp only [List.getElem?_cons_succ] at e ⊢
    exact ImA.at t i x e
theorem ImA.get : ∀ {v : List V} {d : List PyData}, ImA K fz H v d → ∀ (i : Nat) (w : V), v[i]? = some w → ∃ x, d[i]? = some x ∧ Im K fz H w x
  | _, _, .nil, i, x, h => by simp at h
  | _, _, .cons h t, 0, x, e => by
    simp only [List.getElem?_cons_zero, Option.some.injEq] at e
    subst e
    exact ⟨_, rfl, h⟩
  | _, _, .cons h t, i + 1, x, e => by
    simp only [List.getElem?_cons_succ] at e ⊢
    exact ImA.get t i x e
theorem ImA.append : ∀ {v : List V} {d : List PyData}, ImA K fz H v d → ∀ {v' : List V} {d' : List PyData}, ImA K fz H v' d' → ImA K fz H (v ++ v') (d ++ d')
  | _, _, .nil, _, _, h => h
  | _, _, .cons h t, _, _, h' => .cons h (t.append h')
theorem ImA.drop : ∀ {v : List V} {d : List PyData} (n : Nat), ImA K fz H v d → ImA K fz H (v.drop n) (d.drop n)
  | _, _, 0, h => by simpa using h
  | _, _, n + 1, .nil => by simpa using ImA.nil
  | _, _, n + 1, .cons h t => by simpa using ImA.drop n t
theorem ImA.take : ∀ {v : List V} {d : List PyData} (n : Nat), ImA K fz H v d → ImA K fz H (v.take n) (d.take n)
  | _, _, 0, h => by simpa using ImA.nil
  | _, _, n + 1, .nil => by simpa using ImA.nil
  | _, _, n + 1, .cons h t => by simpa using ImA.cons h (ImA.take n t)
theorem ImA.set : ∀ {v : List V} {d : List PyData} (i : Nat) {w : V} {x : PyData}, ImA K fz H v d → Im K fz H w x → ImA K fz H (v.set i w) (d.set i x)
  | _, _, i, _, _, .nil, _ => by simpa using ImA.nil
  | _, _, 0, _, _, .cons h t, q => by simpa using ImA.cons q t
  | _, _, i + 1, _, _, .cons h t, q => by simpa using ImA.cons h (ImA.set i t q)
theorem ImA.ints : ∀ (ns : List Int), ImA K fz H (ns.map V.int) (ns.map PyData.int)
  | [] => .nil
  | n :: r => .cons (.int n) (ImA.ints r)
end
/-- the context of a frame: the spring's place, what was frozen and the heap at the entry -/
structure Cn where
  sp : Option Addr
  fz0 : Fz
  H0 : Hp
def CellOk (K : PySem.W.Frag) (C : Cn) (fz : Fz) (H : Hp) (σ : St) (i : Nat) : Cl → Prop
  | .d x => ∃ v, σ[i]? = some (some v) ∧ Im K fz H v x
  | .o xs => ∃ a vs, σ[i]? = some (some (.ref a)) ∧ H a = some (.lst vs) ∧ ImA K fz H vs xs ∧ ¬ fz a ∧ some a ≠ C.sp ∧ C.H0 a = none
  | .s => ∃ a, C.sp = some a ∧ σ[i]? = some (some (.ref a))
  | .m acc => ∃ a kvs, σ[i]? = some (some (.ref a)) ∧ H a = some (.dK kvs) ∧ ImK K fz H kvs acc ∧ ¬ fz a ∧ some a ≠ C.sp ∧ C.H0 a = none
structure Fm (K : PySem.W.Frag) (C : Cn) (fz : Fz) (ρ : Ev) (sto : Sto) (σ : St) (H : Hp) : Prop where
  len : ρ.length = σ.length
  st : Stp C.sp C.fz0 C.H0 fz H
  bs : Bs C.sp fz H sto
  vars : ∀ (i : Nat) (c : Cl), ρ[i]? = some (some c) → CellOk K C fz H σ i c
  sep : ∀ (i j : Nat) (xs ys : List PyData) (a : Addr), i ≠ j → ρ[i]? = some (some (.o xs)) → ρ[j]? = some (some (.o ys)) → σ[i]? = some (some (.ref a)) → σ[j]? ≠ some (some (.ref a))
section
variable {K : PySem.W.Frag} {C : Cn} {fz fz1 : Fz} {ρ : Ev} {sto sto' : Sto} {σ : St} {H H1 : Hp}
theorem Fm.step (F : Fm K C fz ρ sto σ H) (s : Stp C.sp fz H fz1 H1) (l : SpL C.sp H1 sto') : Fm K C fz1 ρ sto' σ H1 where
  len := F.len
  st := F.st.trans s
  bs := F.bs.step s l
  vars := fun i c h => by
    have q := F.vars i c h
    cases c with
    | d x => obtain ⟨v, e, q⟩ := q; exact ⟨v, e, q.stp s F.bs⟩
    | o xs =>
      obtain ⟨a, vs, e, h1, h2, h3, h4, h5⟩ := q
      refine ⟨a, vs, e, s.ext _ _ h1 h4, h2.stp s F.bs, fun z => ?_, h4, h5⟩
      rcases s.new a z with z | ⟨_, z⟩
      · exact h3 z
      · rw [h1] at z; cases z
    | s => exact q
    | m acc =>
      obtain ⟨a, vs, e, h1, h2, h3, h4, h5⟩ := q
      refine ⟨a, vs, e, s.ext _ _ h1 h4, ⟨h2.1, h2.2.stp s F.bs⟩, fun z => ?_, h4, h5⟩
      rcases s.new a z with z | ⟨_, z⟩
      · exact h3 z
      · rw [h1] at z; cases z
  sep := F.sep
end
/-- what an expression gives, seen from the heap H at its start -/
def ImR (K : PySem.W.Frag) (sp : Option Addr) (H : Hp) (fz' : Fz) (H' : Hp) (v : V) : R → Prop
  | .d x => Im K fz' H' v x
  | .f xs => ∃ a vs, v = .ref a ∧ H' a = some (.lst vs) ∧ ImA K fz' H' vs xs ∧ ¬ fz' a ∧ some a ≠ sp ∧ H a = none
  | .b xs => ∃ a vs, v = .ref a ∧ H' a = some (.lst vs) ∧ ImA K fz' H' vs xs ∧ some a ≠ sp
  | .s => IsS sp v
  | .m acc => ∃ a kvs, v = .ref a ∧ H' a = some (.dK kvs) ∧ ImK K fz' H' kvs acc ∧ ¬ fz' a ∧ some a ≠ sp ∧ H a = none
  | .n acc => ∃ a kvs, v = .ref a ∧ H' a = some (.dK kvs) ∧ ImK K fz' H' kvs acc ∧ some a ≠ sp
section
variable {K : PySem.W.Frag} {sp : Option Addr} {fz fz1 fz2 : Fz} {H H1 H2 : Hp} {sto : Sto} {v : V} {r : R}
/-- later on -/
theorem ImR.stp (h : ImR K sp H fz1 H1 v r) (s : Stp sp fz1 H1 fz2 H2) (B : Bs sp fz1 H1 sto) : ImR K sp H fz2 H2 v r := by
  cases r with
  | d x => exact Im.stp s B h
  | f xs =>
    obtain ⟨a, vs, e, h1, h2, h3, h4, h5⟩ := h
    refine ⟨a, vs, e, s.ext _ _ h1 h4, h2.stp s B, fun z => ?_, h4, h5⟩
    rcases s.new a z with z | ⟨_, z⟩
    · exact h3 z
    · rw [h1] at z; cases z
  | b xs =>
    obtain ⟨a, vs, e, h1, h2, h4⟩ := h
    exact ⟨a, vs, e, s.ext _ _ h1 h4, h2.stp s B, h4⟩
  | s => exact h
  | m acc =>
    obtain ⟨a, vs, e, h1, h2, h3, h4, h5⟩ := h
    refine ⟨a, vs, e, s.ext _ _ h1 h4, ⟨h2.1, h2.2.stp s B⟩, fun z => ?_, h4, h5⟩
    rcases s.new a z with z | ⟨_, z⟩
    · exact h3 z
    · rw [h1] at z; cases z
  | n acc =>
    obtain ⟨a, vs, e, h1, h2, h4⟩ := h
    exact ⟨a, vs, e, s.ext _ _ h1 h4, ⟨h2.1, h2.2.stp s B⟩, h4⟩
/-- seen from an earlier start -/
theorem ImR.early (h : ImR K sp H1 fz2 H2 v r) (s : Stp sp fz H fz1 H1) : ImR K sp H fz2 H2 v r := by
  cases r with
  | d x => exact h
  | f xs =>
    obtain ⟨a, vs, e, h1, h2, h3, h4, h5⟩ := h
    exact ⟨a, vs, e, h1, h2, h3, h4, s.back h4 h5⟩
  | b xs => exact h
  | s => exact h
  | m acc =>
    obtain ⟨a, vs, e, h1, h2, h3, h4, h5⟩ := h
    exact ⟨a, vs, e, h1, h2, h3, h4, s.back h4 h5⟩
  | n acc => exact h
end
def rdE (K : PySem.W.Frag) (m : Mx) : TE := fun σ H Q => ∃ (C : Cn) (fz : Fz) (ρ : Ev) (sto : Sto) (r : R) (sto' : Sto), Fm K C fz ρ sto σ H ∧ m ρ sto = some (r, sto') ∧
  ∀ v fz' H', Stp C.sp fz H fz' H' → SpL C.sp H' sto' → ImR K C.sp H fz' H' v r → Q v H'
def rdT (K : PySem.W.Frag) (m : Mt) : TT := fun σ H Q => ∃ (C : Cn) (fz : Fz) (ρ : Ev) (sto : Sto) (r : Bool) (sto' : Sto), Fm K C fz ρ sto σ H ∧ m ρ sto = some (r, sto') ∧
  ∀ fz' H', Stp C.sp fz H fz' H' → SpL C.sp H' sto' → Q r H'
abbrev ImRs (K : PySem.W.Frag) (sp : Option Addr) (H : Hp) (fz' : Fz) (H' : Hp) : List V → List R → Prop := Paired (ImR K sp H fz' H')
def rdA (K : PySem.W.Frag) (m : Ma) : TA := fun σ H Q => ∃ (C : Cn) (fz : Fz) (ρ : Ev) (sto : Sto) (r : List R) (sto' : Sto), Fm K C fz ρ sto σ H ∧ m ρ sto = some (r, sto') ∧
  ∀ vs fz' H', Stp C.sp fz H fz' H' → SpL C.sp H' sto' → ImRs K C.sp H fz' H' vs r → Q vs H'
def SE (X : Cx) (e : Expr) (m : Mx) : Prop := PE X e (rdE X.K m)
def SB (X : Cx) (e : Expr) (m : Mt) : Prop := PT X e (rdT X.K m)
/-- a test among and | or -/
def SW (X : Cx) (e : Expr) (m : Mt) : Prop := PW X e (rdT X.K m)
def SA (X : Cx) (es : List Expr) (m : Ma) : Prop := PA X es (rdA X.K m)
theorem PE.imp {X : Cx} {e : Expr} {t t' : TE} (h : PE X e t) (q : ∀ σ H Q, t' σ H Q → t σ H Q) : PE X e t' := ⟨fun pins s σ H Q I w => h.run pins s σ H Q I (q _ _ _ w)⟩
theorem PT.imp {X : Cx} {e : Expr} {t t' : TT} (h : PT X e t) (q : ∀ σ H Q, t' σ H Q → t σ H Q) : PT X e t' := ⟨fun pins s σ H Q I w => h.run pins s σ H Q I (q _ _ _ w)⟩
theorem PW.imp {X : Cx} {e : Expr} {t t' : TT} (h : PW X e t) (q : ∀ σ H Q, t' σ H Q → t σ H Q) : PW X e t' := ⟨fun wh pins s σ H Q I w => h.run wh pins s σ H Q I (q _ _ _ w)⟩
theorem PA.imp {X : Cx} {e : List Expr} {t t' : TA} (h : PA X e t) (q : ∀ σ H Q, t' σ H Q → t σ H Q) : PA X e t' := ⟨fun p pins s σ H Q I w => h.run p pins s σ H Q I (q _ _ _ w)⟩
theorem PS.imp {X : Cx} {e : Stmt} {t t' : TS} (h : PS X e t) (q : ∀ D σ H, t' D σ H → t D σ H) : PS X e t' := ⟨fun pins s σ H D I w => h.run pins s σ H D I (q _ _ _ w)⟩
theorem PSs.imp {X : Cx} {e : List Stmt} {t t' : TS} (h : PSs X e t) (q : ∀ D σ H, t' D σ H → t D σ H) : PSs X e t' := ⟨fun pins s σ H D I w => h.run pins s σ H D I (q _ _ _ w)⟩
def bnd {α β : Type} (a : Ev → Sto → Option (α × Sto)) (f : α → Ev → Sto → Option (β × Sto)) : Ev → Sto → Option (β × Sto) := fun ρ s =>
  match a ρ s with
  | some (x, s1) => f x ρ s1
  | none => none
theorem bnd_some {α β : Type} {a : Ev → Sto → Option (α × Sto)} {f : α → Ev → Sto → Option (β × Sto)} {ρ : Ev} {s : Sto} {y : β} {s2 : Sto} (h : bnd a f ρ s = some (y, s2)) : ∃ x s1, a ρ s = some (x, s1) ∧ f x ρ s1 = some (y, s2) := by
  unfold bnd at h
  split at h
  · rename_i x s1 e
    exact ⟨x, s1, e, h⟩
  · cases h
def ret {α : Type} (x : Option α) : Sto → Option (α × Sto) := fun s => match x with | some y => some (y, s) | none => none
theorem ret_some {α : Type} {x : Option α} {s : Sto} {y : α} {s2 : Sto} (h : ret x s = some (y, s2)) : x = some y ∧ s2 = s := by
  unfold ret at h
  split at h
  · rename_i z
    cases h
    exact ⟨rfl, rfl⟩
  · cases h
/-- one value, then a rule by values -/
def m1 (f : R → Option R) (a : Mx) : Mx := bnd a fun x _ => ret (f x)
def m2 (f : R → R → Option R) (a b : Mx) : Mx := bnd a fun x => bnd b fun y _ => ret (f x y)
def mA (f : List R → Option R) (a : Ma) : Mx := bnd a fun x _ => ret (f x)
/-- by values: from a heap with the spring, the rule's reading r follows from the function f -/
def Ok1 (K : PySem.W.Frag) (r : V → Hp → VK → Prop) (f : R → Option R) : Prop := ∀ (sp : Option Addr) (fz : Fz) (H H0 : Hp) (sto : Sto) (v : V) (x z : R) (Q : VK), Bs sp fz H sto → ImR K sp H0 fz H v x → f x = some z →
  (∀ u fz' H', Stp sp fz H fz' H' → SpL sp H' sto → ImR K sp H fz' H' u z ∨ (x = z ∧ u = v) → Q u H') → r v H Q
def Ok2 (K : PySem.W.Frag) (r : R2) (f : R → R → Option R) : Prop := ∀ (sp : Option Addr) (fz : Fz) (H H0 : Hp) (sto : Sto) (v w : V) (x y z : R) (Q : VK), Bs sp fz H sto → ImR K sp H0 fz H v x → ImR K sp H0 fz H w y → f x y = some z →
  (∀ u fz' H', Stp sp fz H fz' H' → SpL sp H' sto → ImR K sp H fz' H' u z → Q u H') → r v w H Q
def OkA (K : PySem.W.Frag) (r : List V → Hp → VK → Prop) (f : List R → Option R) : Prop := ∀ (sp : Option Addr) (fz fzS : Fz) (H H0 : Hp) (sto : Sto) (vs : List V) (xs : List R) (z : R) (Q : VK), Stp sp fzS H0 fz H → Bs sp fz H sto → ImRs K sp H0 fz H vs xs → f xs = some z →
  (∀ u fz' H', Stp sp fzS H0 fz' H' → SpL sp H' sto → ImR K sp H0 fz' H' u z → Q u H') → r vs H Q
section
variable {K : PySem.W.Frag} {sp : Option Addr} {fz fz1 fz2 : Fz} {H H1 H2 : Hp} {sto : Sto}
theorem ImRs.stp : ∀ {vs : List V} {rs : List R}, ImRs K sp H fz1 H1 vs rs → Stp sp fz1 H1 fz2 H2 → Bs sp fz1 H1 sto → ImRs K sp H fz2 H2 vs rs
  | _, _, .nil, _, _ => .nil
  | _, _, .cons h t, s, B => .cons (h.stp s B) (ImRs.stp t s B)
theorem ImRs.early : ∀ {vs : List V} {rs : List R}, ImRs K sp H1 fz2 H2 vs rs → Stp sp fz H fz1 H1 → ImRs K sp H fz2 H2 vs rs
  | _, _, .nil, _ => .nil
  | _, _, .cons h t, s => .cons (h.early s) (ImRs.early t s)
end
section
variable {X : Cx} {a b : Expr} {ma mb : Mx}
/-- two expressions, then a rule -/
theorem rd_two {K : PySem.W.Frag} {r : R2} {f : R → R → Option R} (hf : Ok2 K r f) {σ : St} {H : Hp} {Q : VK} (h : rdE K (m2 f ma mb) σ H Q) : tOp r (rdE K ma) (rdE K mb) σ H Q := by
  obtain ⟨C, fz, ρ, sto, z, sto', F, e, k⟩ := h
  obtain ⟨x, s1, ea, e⟩ := bnd_some e
  obtain ⟨y, s2, eb, e⟩ := bnd_some e
  obtain ⟨ef, rfl⟩ := ret_some e
  refine ⟨C, fz, ρ, sto, x, s1, F, ea, fun v fz1 H1 st1 l1 i1 => ?_⟩
  refine ⟨C, fz1, ρ, s1, y, sto', F.step st1 l1, eb, fun w fz2 H2 st2 l2 i2 => ?_⟩
  have B1 := F.bs.step st1 l1
  refine hf C.sp fz2 H2 H sto' v w x y z Q (B1.step st2 l2) (i1.stp st2 B1) (i2.early st1) ef fun u fz3 H3 st3 l3 i3 => ?_
  exact k u fz3 H3 ((st1.trans st2).trans st3) l3 (i3.early (st1.trans st2))
theorem rd_one {K : PySem.W.Frag} {r : V → Hp → VK → Prop} {f : R → Option R} (hf : Ok1 K r f) {σ : St} {H : Hp} {Q : VK} (h : rdE K (m1 f ma) σ H Q) : tUn r (rdE K ma) σ H Q := by
  obtain ⟨C, fz, ρ, sto, z, sto', F, e, k⟩ := h
  obtain ⟨x, s1, ea, e⟩ := bnd_some e
  obtain ⟨ef, rfl⟩ := ret_some e
  refine ⟨C, fz, ρ, sto, x, sto', F, ea, fun v fz1 H1 st1 l1 i1 => ?_⟩
  refine hf C.sp fz1 H1 H sto' v x z Q (F.bs.step st1 l1) i1 ef fun u fz3 H3 st3 l3 i3 => ?_
  refine k u fz3 H3 (st1.trans st3) l3 ?_
  rcases i3 with i3 | ⟨rfl, rfl⟩
  · exact i3.early st1
  · exact i1.stp st3 (F.bs.step st1 l1)
theorem rd_args {K : PySem.W.Frag} {r : List V → Hp → VK → Prop} {f : List R → Option R} {m : Ma} (hf : OkA K r f) {σ : St} {H : Hp} {Q : VK} (h : rdE K (mA f m) σ H Q) : tCB r (rdA K m) σ H Q := by
  obtain ⟨C, fz, ρ, sto, z, sto', F, e, k⟩ := h
  obtain ⟨x, s1, ea, e⟩ := bnd_some e
  obtain ⟨ef, rfl⟩ := ret_some e
  refine ⟨C, fz, ρ, sto, x, sto', F, ea, fun v fz1 H1 st1 l1 i1 => ?_⟩
  exact hf C.sp fz1 fz H1 H sto' v x z Q st1 (F.bs.step st1 l1) i1 ef fun u fz3 H3 st3 l3 i3 => k u fz3 H3 st3 l3 i3
end
def maNil : Ma := fun _ s => some ([], s)
def maCons (a : Mx) (r : Ma) : Ma := bnd a fun x => bnd r fun xs _ s => some (x :: xs, s)
section
variable {X : Cx} {e : Expr} {es : List Expr} {me : Mx} {mr : Ma}
theorem sa_nil : SA X [] maNil := PA.imp pa_nil fun σ H Q h => by
  obtain ⟨C, fz, ρ, sto, r, sto', F, e, k⟩ := h
  cases e
  exact k [] fz H .refl F.bs.spl .nil
theorem sa_cons (he : SE X e me) (hr : SA X es mr) (hs : starEach (e :: es) X.env = (false, eval e X.env) :: starEach es X.env := by rfl) : SA X (e :: es) (maCons me mr) := PA.imp (pa_cons he hr hs) fun σ H Q h => by
  obtain ⟨C, fz, ρ, sto, r, sto', F, e, k⟩ := h
  obtain ⟨x, s1, ea, e⟩ := bnd_some e
  obtain ⟨xs, s2, eb, e⟩ := bnd_some e
  cases e
  refine ⟨C, fz, ρ, sto, x, s1, F, ea, fun v fz1 H1 st1 l1 i1 => ?_⟩
  refine ⟨C, fz1, ρ, s1, xs, sto', F.step st1 l1, eb, fun vs fz2 H2 st2 l2 i2 => ?_⟩
  exact k (v :: vs) fz2 H2 (st1.trans st2) l2 (.cons (i1.stp st2 (F.bs.step st1 l1)) (i2.early st1))
end
def rdCl : Cl → R
  | .d x => .d x
  | .o xs => .b xs
  | .s => .s
  | .m acc => .n acc
def mVar (i : Nat) : Mx := fun ρ s => match ρ[i]? with
  | some (some c) => some (rdCl c, s)
  | _ => none
def mKon (x : PyData) : Mx := fun _ s => some (.d x, s)
section
variable {X : Cx}
theorem se_var {i : Nat} {x : Str} {pos : Pos} (hN : X.N[i]? = some x := by rfl) (hv : Vis X.env.scope x := by first | exact Or.inl rfl | exact Or.inr (Or.inl rfl) | exact Or.inr (Or.inr rfl)) (hd : (x == ("__debug__" : Str)) = false := by decide)
    (hcd : (x == ("__classdict__" : Str)) = false := by decide) : SE X (.Name x pos) (mVar i) := PE.imp (pe_var hN hv hd hcd) fun σ H Q h => by
  obtain ⟨C, fz, ρ, sto, r, sto', F, e, k⟩ := h
  unfold mVar at e
  split at e
  · rename_i c hc
    cases e
    have q := F.vars i c hc
    cases c with
    | d x => obtain ⟨v, e, q⟩ := q; exact ⟨v, e, k v fz H .refl F.bs.spl q⟩
    | o xs =>
      obtain ⟨a, vs, e, h1, h2, h3, h4, h5⟩ := q
      exact ⟨_, e, k _ fz H .refl F.bs.spl ⟨a, vs, rfl, h1, h2, h4⟩⟩
    | s => obtain ⟨a, ea, q⟩ := q; exact ⟨_, q, k _ fz H .refl F.bs.spl ⟨a, ea, rfl⟩⟩
    | m acc =>
      obtain ⟨a, vs, e, h1, h2, h3, h4, h5⟩ := q
      exact ⟨_, e, k _ fz H .refl F.bs.spl ⟨a, vs, rfl, h1, h2, h4⟩⟩
  · cases e
theorem rd_kon {K : PySem.W.Frag} {v : V} {x : PyData} (hv : ∀ fz H, Im K fz H v x) {σ : St} {H : Hp} {Q : VK} (h : rdE K (mKon x) σ H Q) : tC v σ H Q := by
  obtain ⟨C, fz, ρ, sto, r, sto', F, e, k⟩ := h
  cases e
  exact k v fz H .refl F.bs.spl (hv _ _)
theorem se_int {i : Int} {j pos} : SE X (.Constant (.int i) j pos) (mKon (.int i)) := PE.imp pe_int fun _ _ _ h => rd_kon (fun _ _ => .int i) h
theorem se_bl {i : Bool} {j pos} : SE X (.Constant (.bool i) j pos) (mKon (.bool i)) := PE.imp pe_bl fun _ _ _ h => rd_kon (fun _ _ => .bl i) h
/-- a constant of the text -/
structure GlK (K : PySem.W.Frag) (mg : Str → Option Value) (x : Str) (d : PyData) : Prop where
  ex : ∃ v u, mg x = some u ∧ RelV v u ∧ ∀ fz H, Im K fz H v d
theorem se_glob {x : Str} {d : PyData} {pos : Pos} (hk : GlK X.K X.mg x d) (hg : Gl X x) (hd : (x == ("__debug__" : Str)) = false := by decide) : SE X (.Name x pos) (mKon d) := by
  obtain ⟨v, u, hm, r, q⟩ := hk.ex
  exact PE.imp (pe_glob hg hm r hd) fun _ _ _ h => rd_kon q h
end
end Dh
namespace Dh
open PySem PySem.Spec L2 PyProof.Rows
theorem tuple_mul1 (l : Addr) (items : Array Value) (n : Nat) (dd : Option Addr) (sl : Array (Option Value)) (u : Tok) :
    Meets (Builtin.«tuple.__mul__» ⟨[.ref l, .int 1 u], []⟩) (fun _ R s => s.heap.get? l = some { cls := .type "tuple", dict := dd, data := .seq items n, slots := sl } ∧ R (.ok (.ret (Value.ref l))) s) :=
  .of_wp fun prog w A R s h => by
    obtain ⟨hp, g, d, tk, os⟩ := s
    obtain ⟨hl, h⟩ := h
    have f1 := AutoSeq1.idx_int
    wp_walk using wpAny_loadPart' hl
    exact ⟨_, rfl, h⟩
def rRepT1 (K : PySem.W.Frag) : R2 := fun x y H Q => ∃ l xs, x = .ref l ∧ y = .int 1 ∧ SqT K H l xs ∧ Q (.ref l) H
section
variable {X : Cx}
theorem op_repT1 : OpR X (binaryOp .Mult) (rRepT1 X.K) := by
  intro pins s σ H x y v u Q I rx ry h
  obtain ⟨l, xs, rfl, rfl, hT, q⟩ := h
  cases rx
  obtain ⟨t, rfl⟩ := ry
  obtain ⟨its, r, ⟨⟨cls, dd, data, sl⟩, ho, hc, n, hd⟩, hs⟩ := I.tuple hT
  simp only at hc hd
  subst hc hd
  refine wpAny_binaryOp_repeat_ref (T := "tuple") (U := "int") (by decide) ⟨_, ho, rfl⟩ (fun s' => typeIs_int s' 1 t) noFill_tuple_mul F.fills_int_mul F.slot_int_rmul repeat_tuple F.slot_int_index.lookup
    (call_meets F.slot_int_rmul (typeIs_int s 1 t) F.entry_int_rmul (F.args_int_rmul_2 _ _) (int_rmul_tuple 1 t l its.toArray n dd sl)
      ⟨ho, rfl, ⟨_, ho, rfl⟩, call_meets F.slot_tuple_mul ⟨_, ho, rfl⟩ F.entry_tuple_mul (F.args_tuple_mul_2 _ _) (tuple_mul1 l its.toArray n dd sl t) ⟨ho, ?_⟩⟩)
  exact ⟨.ref l, H, I, rfl, q⟩
end
end Dh
namespace Dh
open PySem PySem.Spec L2
theorem OpR.or {X : Cx} {f : Value → Value → Sem Value} {r r' : R2} (h : OpR X f r) (h' : OpR X f r') : OpR X f (fun x y H Q => r x y H Q ∨ r' x y H Q) := fun pins s σ H x y v u Q I rx ry q => by
  rcases q with q | q
  · exact h pins s σ H x y v u Q I rx ry q
  · exact h' pins s σ H x y v u Q I rx ry q
theorem CallR.or {X : Cx} {f : Value} {r r' : List V → Hp → VK → Prop} (h : CallR X f r) (h' : CallR X f r') : CallR X f (fun x H Q => r x H Q ∨ r' x H Q) := fun pins s σ H x v Q I rx q => by
  rcases q with q | q
  · exact h pins s σ H x v Q I rx q
  · exact h' pins s σ H x v Q I rx q
section
variable {X : Cx} {a b : Expr} {ma mb : Mx} {pos : Pos}
theorem se_op {op : Operator} {r : R2} {f : R → R → Option R} (ho : OpR X (binaryOp op) r) (hf : Ok2 X.K r f) (ha : SE X a ma) (hb : SE X b mb) : SE X (.BinOp a op b pos) (m2 f ma mb) := PE.imp (pe_op ho ha hb) fun _ _ _ h => rd_two hf h
theorem se_un {op : UnaryOp} {r : V → Hp → VK → Prop} {f : R → Option R} (ho : UnR X (unaryOp op) r) (hf : Ok1 X.K r f) (ha : SE X a ma) : SE X (.UnaryOp op a pos) (m1 f ma) := PE.imp (pe_un ho ha) fun _ _ _ h => rd_one hf h
theorem se_cmp {op : CmpOp} {r : R2} {f : R → R → Option R} (ho : OpR X (compareOp op) r) (hf : Ok2 X.K r f) (ha : SE X a ma) (hb : SE X b mb) (hm : behindInMarks op b = false) : SE X (.Compare a [op] [b] pos) (m2 f ma mb) := PE.imp (pe_cmpR ho ha hb hm) fun _ _ _ h => rd_two hf h
/-- the truth of a bool -/
def bT (a : Mx) : Mt := bnd a fun x _ s => match x with | .d (.bool k) => some (k, s) | _ => none
theorem rd_bT {K : PySem.W.Frag} {m : Mx} {σ : L2.St} {H : Hp} {Q : Bool → Hp → Prop} (h : rdT K (bT m) σ H Q) : rdE K m σ H fun x H1 => ∃ c, x = .bl c ∧ Q c H1 := by
  obtain ⟨C, fz, ρ, sto, z, sto', F, e, k⟩ := h
  obtain ⟨x, s1, ea, e⟩ := bnd_some e
  split at e
  · rename_i k'
    cases e
    exact ⟨C, fz, ρ, sto, _, _, F, ea, fun v fz1 H1 st1 l1 i1 => by cases i1; exact ⟨_, rfl, k fz1 H1 st1 l1⟩⟩
  · cases e
theorem sb_val (h : SE X a ma) (he : ∀ whole, isTrue a X.env whole = (do let v ← whole; standAt a.pos; holding [v] (truthy v)) := by intro _; rfl) : SB X a (bT ma) := PT.imp (pt_val h he) fun _ _ _ q => rd_bT q
theorem sb_cmp {op : CmpOp} {r : R2} {f : R → R → Option R} (ho : OpR X (compareOp op) r) (hf : Ok2 X.K r f) (ha : SE X a ma) (hb : SE X b mb) (hm : behindInMarks op b = false) : SB X (.Compare a [op] [b] pos) (bT (m2 f ma mb)) :=
  PT.imp (pt_cmpR ho ha hb hm) fun σ H Q q => rd_two (Q := fun x H' => ∃ k, x = .bl k ∧ Q k H') hf (rd_bT q)
end
def fI (g : Int → Int → Option PyData) : R → R → Option R
  | .d (.int i), .d (.int j) => (g i j).map .d
  | _, _ => none
theorem fI_some {g : Int → Int → Option PyData} {x y z : R} (h : fI g x y = some z) : ∃ i j d, x = .d (.int i) ∧ y = .d (.int j) ∧ g i j = some d ∧ z = .d d := by
  unfold fI at h
  split at h
  · rename_i i j
    cases q : g i j with
    | none => rw [q] at h; cases h
    | some d => rw [q] at h; cases h; exact ⟨i, j, d, rfl, rfl, q, rfl⟩
  · cases h
theorem ok_I {K : PySem.W.Frag} {C : Int → Int → Prop} {gv : Int → Int → V} {g : Int → Int → Option PyData} (hg : ∀ i j d, g i j = some d → C i j ∧ ∀ fz H, Im K fz H (gv i j) d) : Ok2 K (rI C gv) (fI g) := by
  intro sp fz H H0 sto v w x y z Q B ix iy e k
  obtain ⟨i, j, d, rfl, rfl, q, rfl⟩ := fI_some e
  cases ix
  cases iy
  obtain ⟨c, im⟩ := hg i j d q
  exact ⟨i, j, rfl, rfl, c, k _ fz H .refl B.spl (im _ _)⟩
theorem ok_I0 {K : PySem.W.Frag} {gv : Int → Int → V} {g : Int → Int → Option PyData} (hg : ∀ i j d, g i j = some d → ∀ fz H, Im K fz H (gv i j) d) : Ok2 K (rI0 gv) (fI g) := by
  intro sp fz H H0 sto v w x y z Q B ix iy e k
  obtain ⟨i, j, d, rfl, rfl, q, rfl⟩ := fI_some e
  cases ix
  cases iy
  exact ⟨i, j, rfl, rfl, k _ fz H .refl B.spl (hg i j d q _ _)⟩
def gMns (i j : Int) : Option PyData := some (.int (i - j))
def gLt (i j : Int) : Option PyData := some (.bool (decide (i < j)))
def gLe (i j : Int) : Option PyData := some (.bool (decide (i ≤ j)))
def gGt (i j : Int) : Option PyData := some (.bool (decide (j < i)))
def gGe (i j : Int) : Option PyData := some (.bool (decide (j ≤ i)))
def gFdiv (i j : Int) : Option PyData := if j ≠ 0 ∧ Builtin.divisionGoesByPylong i j = false then some (.int (i.fdiv j)) else none
def gMod (i j : Int) : Option PyData := if j ≠ 0 then some (.int (i.fmod j)) else none
def gPow (i j : Int) : Option PyData := if 0 ≤ j ∧ j ≤ 1000000 ∧ i.natAbs < 2 ^ 64 then some (.int (i ^ j.toNat)) else none
/-- two factors of together at most 2^27 bits -/
def mulOk (i j : Int) : Bool := Nat.ble (Builtin.Int.intBits i + Builtin.Int.intBits j) 134217728
def CFdivP (i j : Int) : Prop := j ≠ 0 ∧ Builtin.divisionGoesByPylong i j = false
section
variable {X : Cx} {a b : Expr} {ma mb : Mx} {pos : Pos}
theorem op_fdivP : OpR X (binaryOp .FloorDiv) (rI CFdivP fun i j => .int (i.fdiv j)) := opI fun _ _ _ _ _ _ _ hc q => PyProof.Rows.floordiv_int hc.1 q (.inl hc.2)
theorem se_sub (ha : SE X a ma) (hb : SE X b mb) : SE X (.BinOp a .Sub b pos) (m2 (fI gMns) ma mb) := se_op op_sub (ok_I0 fun i j d e _ _ => by cases e; exact .int _) ha hb
theorem se_fdiv (ha : SE X a ma) (hb : SE X b mb) : SE X (.BinOp a .FloorDiv b pos) (m2 (fI gFdiv) ma mb) := se_op op_fdivP (ok_I fun i j d e => by
  unfold gFdiv at e
  split at e
  · rename_i c; cases e; exact ⟨c, fun _ _ => .int _⟩
  · cases e) ha hb
theorem se_mod (ha : SE X a ma) (hb : SE X b mb) : SE X (.BinOp a .Mod b pos) (m2 (fI gMod) ma mb) := se_op op_modN (ok_I fun i j d e => by
  unfold gMod at e
  split at e
  · rename_i c; cases e; exact ⟨c, fun _ _ => .int _⟩
  · cases e) ha hb
theorem se_pow (ha : SE X a ma) (hb : SE X b mb) : SE X (.BinOp a .Pow b pos) (m2 (fI gPow) ma mb) := se_op op_pow (ok_I fun i j d e => by
  unfold gPow at e
  split at e
  · rename_i c; cases e; exact ⟨c, fun _ _ => .int _⟩
  · cases e) ha hb
theorem ok_lt {K : PySem.W.Frag} : Ok2 K (rI0 fun i j => .bl (decide (i < j))) (fI gLt) := ok_I0 fun i j d e _ _ => by cases e; exact .bl _
theorem ok_le {K : PySem.W.Frag} : Ok2 K (rI0 fun i j => .bl (decide (i ≤ j))) (fI gLe) := ok_I0 fun i j d e _ _ => by cases e; exact .bl _
theorem ok_gt {K : PySem.W.Frag} : Ok2 K (rI0 fun i j => .bl (decide (j < i))) (fI gGt) := ok_I0 fun i j d e _ _ => by cases e; exact .bl _
theorem ok_ge {K : PySem.W.Frag} : Ok2 K (rI0 fun i j => .bl (decide (j ≤ i))) (fI gGe) := ok_I0 fun i j d e _ _ => by cases e; exact .bl _
theorem se_lt (ha : SE X a ma) (hb : SE X b mb) : SE X (.Compare a [.Lt] [b] pos) (m2 (fI gLt) ma mb) := se_cmp op_lt ok_lt ha hb (nomark _)
theorem se_gt (ha : SE X a ma) (hb : SE X b mb) : SE X (.Compare a [.Gt] [b] pos) (m2 (fI gGt) ma mb) := se_cmp op_gt ok_gt ha hb (nomark _)
theorem sb_lt (ha : SE X a ma) (hb : SE X b mb) : SB X (.Compare a [.Lt] [b] pos) (bT (m2 (fI gLt) ma mb)) := sb_cmp op_lt ok_lt ha hb (nomark _)
theorem sb_gt (ha : SE X a ma) (hb : SE X b mb) : SB X (.Compare a [.Gt] [b] pos) (bT (m2 (fI gGt) ma mb)) := sb_cmp op_gt ok_gt ha hb (nomark _)
theorem sb_ge (ha : SE X a ma) (hb : SE X b mb) : SB X (.Compare a [.GtE] [b] pos) (bT (m2 (fI gGe) ma mb)) := sb_cmp op_ge ok_ge ha hb (nomark _)
def fNeg : R → Option R
  | .d (.int i) => some (.d (.int (-i)))
  | _ => none
theorem se_neg (ha : SE X a ma) : SE X (.UnaryOp .USub a pos) (m1 fNeg ma) := se_un un_neg (by
  intro sp fz H H0 sto v x z Q B ix e k
  unfold fNeg at e
  split at e
  · cases e
    cases ix
    exact ⟨_, rfl, k _ fz H .refl B.spl (.inl (.int _))⟩
  · cases e) ha
end
/-- a list that is looked at -/
def rdL : R → Option (List PyData)
  | .d (.list xs) => some xs
  | .f xs => some xs
  | .b xs => some xs
  | _ => none
/-- where it stands -/
theorem ImR.list {K : PySem.W.Frag} {sp : Option Addr} {fz : Fz} {H H0 : Hp} {v : V} {x : R} {xs : List PyData} (i : ImR K sp H0 fz H v x) (e : rdL x = some xs) : ∃ a vs, v = .ref a ∧ SqL K H a vs ∧ ImA K fz H vs xs := by
  unfold rdL at e
  split at e
  · cases e
    cases i with
    | lst h a => exact ⟨_, _, rfl, h.sq, a⟩
  · cases e
    obtain ⟨a, vs, e, h1, h2, _⟩ := i
    exact ⟨a, vs, e, .inl (.inl h1), h2⟩
  · cases e
    obtain ⟨a, vs, e, h1, h2, _⟩ := i
    exact ⟨a, vs, e, .inl (.inl h1), h2⟩
  · cases e
def rdQ : R → Option (List PyData)
  | .d (.tuple xs) => some xs
  | r => rdL r
theorem ImR.seq {K : PySem.W.Frag} {sp : Option Addr} {fz : Fz} {H H0 : Hp} {v : V} {x : R} {xs : List PyData} (i : ImR K sp H0 fz H v x) (e : rdQ x = some xs) : ∃ a vs, v = .ref a ∧ (SqL K H a vs ∨ SqT K H a vs) ∧ ImA K fz H vs xs := by
  unfold rdQ at e
  split at e
  · cases e
    cases i with
    | tup h a => exact ⟨_, _, rfl, .inr h.sq, a⟩
  · obtain ⟨a, vs, e1, h1, h2⟩ := i.list e
    exact ⟨a, vs, e1, .inl h1, h2⟩
theorem ImR.tup {K : PySem.W.Frag} {sp : Option Addr} {fz : Fz} {H H0 : Hp} {v : V} {xs : List PyData} (i : ImR K sp H0 fz H v (.d (.tuple xs))) : ∃ a vs, v = .ref a ∧ SqT K H a vs ∧ ImA K fz H vs xs := by
  cases i with
  | tup h a => exact ⟨_, _, rfl, h.sq, a⟩
theorem ImR.tupF {K : PySem.W.Frag} {sp : Option Addr} {fz : Fz} {H H0 : Hp} {v : V} {xs : List PyData} (i : ImR K sp H0 fz H v (.d (.tuple xs))) : ∃ a vs, v = .ref a ∧ FzT K H a vs ∧ ImA K fz H vs xs := by
  cases i with
  | tup h a => exact ⟨_, _, rfl, h, a⟩
/-- a new tuple of data -/
theorem new_tup {K : PySem.W.Frag} {sp : Option Addr} {fz : Fz} {H : Hp} {sto : Sto} {p : Addr} {vs : List V} {xs : List PyData} {o : Obj} (B : Bs sp fz H sto) (a : ImA K fz H vs xs) (hp : H p = none) (hd : o.dict = none) :
    Stp sp fz H fz (upd H p (.frz o (.tup vs))) ∧ SpL sp (upd H p (.frz o (.tup vs))) sto ∧ Im K fz (upd H p (.frz o (.tup vs))) (.ref p) (.tuple xs) := by
  have s : Stp sp fz H fz (upd H p (.frz o (.tup vs))) := .laid hp
  have e : some p ≠ sp := B.spl.ne hp (by intro z; cases z)
  exact ⟨s, B.spl.upd e, .tup (.inl ⟨o, upd_same, hd⟩) (a.stp s B)⟩
/-- a new list of data -/
theorem new_lst {K : PySem.W.Frag} {sp : Option Addr} {fz : Fz} {H : Hp} {sto : Sto} {p : Addr} {vs : List V} {xs : List PyData} (B : Bs sp fz H sto) (a : ImA K fz H vs xs) (hp : H p = none) :
    Stp sp fz H fz (upd H p (.lst vs)) ∧ SpL sp (upd H p (.lst vs)) sto ∧ ImR K sp H fz (upd H p (.lst vs)) (.ref p) (.f xs) := by
  have s : Stp sp fz H fz (upd H p (.lst vs)) := .laid hp
  have e : some p ≠ sp := B.spl.ne hp (by intro z; cases z)
  exact ⟨s, B.spl.upd e, ⟨p, vs, rfl, upd_same, a.stp s B, fun q => B.trk p q hp, e, hp⟩⟩
def fAdd : R → R → Option R
  | .d (.int i), .d (.int j) => some (.d (.int (i + j)))
  | .d (.str x), .d (.str y) => if x.length + y.length ≤ sizeLine then some (.d (.str (x ++ y))) else none
  | .d (.tuple xs), .d (.tuple ys) => if xs.length + ys.length ≤ sizeLine then some (.d (.tuple (xs ++ ys))) else none
  | .f xs, .f ys => if xs.length + ys.length ≤ sizeLine then some (.f (xs ++ ys)) else none
  | .f xs, .b ys => if xs.length + ys.length ≤ sizeLine then some (.f (xs ++ ys)) else none
  | .b xs, .f ys => if xs.length + ys.length ≤ sizeLine then some (.f (xs ++ ys)) else none
  | .b xs, .b ys => if xs.length + ys.length ≤ sizeLine then some (.f (xs ++ ys)) else none
  | _, _ => none
def rAdd (K : PySem.W.Frag) : R2 := fun x y H Q => rI0 (fun i j => .int (i + j)) x y H Q ∨ (∃ i j, x = .str i ∧ y = .str j ∧ i.length + j.length ≤ sizeLine ∧ Q (.str (i ++ j)) H) ∨ rCatS K x y H Q ∨ rCat x y H Q
/-- a tracked list (own, or just made) -/
def trL : R → Option (List PyData)
  | .f xs => some xs
  | .b xs => some xs
  | _ => none
theorem ImR.trk {K : PySem.W.Frag} {sp : Option Addr} {fz : Fz} {H H0 : Hp} {v : V} {x : R} {xs : List PyData} (i : ImR K sp H0 fz H v x) (e : trL x = some xs) : ∃ a vs, v = .ref a ∧ H a = some (.lst vs) ∧ ImA K fz H vs xs := by
  unfold trL at e
  split at e
  · cases e
    obtain ⟨a, vs, e, h1, h2, _⟩ := i
    exact ⟨a, vs, e, h1, h2⟩
  · cases e
    obtain ⟨a, vs, e, h1, h2, _⟩ := i
    exact ⟨a, vs, e, h1, h2⟩
  · cases e
theorem ok_cat {K : PySem.W.Frag} {sp : Option Addr} {fz : Fz} {H H0 : Hp} {sto : Sto} {v w : V} {x y : R} {xs ys : List PyData} {Q : VK} (B : Bs sp fz H sto) (ix : ImR K sp H0 fz H v x) (iy : ImR K sp H0 fz H w y) (ex : trL x = some xs) (ey : trL y = some ys) (hz : xs.length + ys.length ≤ sizeLine)
    (k : ∀ u fz' H', Stp sp fz H fz' H' → SpL sp H' sto → ImR K sp H fz' H' u (.f (xs ++ ys)) → Q u H') : rCat v w H Q := by
  obtain ⟨a, vs, rfl, h1, h2⟩ := ix.trk ex
  obtain ⟨b, ws, rfl, h3, h4⟩ := iy.trk ey
  refine ⟨a, b, vs, ws, rfl, rfl, h1, h3, by rw [h2.length, h4.length]; exact hz, fun p hp => ?_⟩
  obtain ⟨s, l, i⟩ := new_lst B (h2.append h4) hp
  exact k _ fz _ s l i
theorem ok_add {K : PySem.W.Frag} : Ok2 K (rAdd K) fAdd := by
  intro sp fz H H0 sto v w x y z Q B ix iy e k
  unfold fAdd at e
  split at e
  · cases e; cases ix; cases iy
    exact .inl ⟨_, _, rfl, rfl, k _ fz H .refl B.spl (.int _)⟩
  · split at e
    · rename_i hz
      cases e; cases ix; cases iy
      exact .inr (.inl ⟨_, _, rfl, rfl, hz, k _ fz H .refl B.spl (.str _)⟩)
    · cases e
  · split at e
    · rename_i xs ys hz
      cases e
      obtain ⟨a, vs, rfl, h1, h2⟩ := ix.tupF
      obtain ⟨b, ws, rfl, h3, h4⟩ := iy.tupF
      refine .inr (.inr (.inl ⟨a, b, vs, ws, rfl, rfl, h1.sq, h3.sq, by rw [h2.length, h4.length]; exact hz, fun q => ?_, fun _ q => ?_, fun _ _ p o hp ho => ?_⟩))
      · subst q
        have q2 : xs = [] := List.length_eq_zero_iff.mp h2.length.symm
        subst q2
        exact k _ fz H .refl B.spl (show Im K fz H _ _ from .tup h3 h4)
      · subst q
        have q2 : ys = [] := List.length_eq_zero_iff.mp h4.length.symm
        subst q2
        exact k _ fz H .refl B.spl (show Im K fz H _ _ from .tup h1 (by rw [List.append_nil]; exact h2))
      · obtain ⟨s, l, i⟩ := new_tup B (h2.append h4) hp ho
        exact k _ fz _ s l i
    · cases e
  · split at e
    · rename_i hz; cases e
      exact .inr (.inr (.inr (ok_cat B ix iy rfl rfl hz k)))
    · cases e
  · split at e
    · rename_i hz; cases e
      exact .inr (.inr (.inr (ok_cat B ix iy rfl rfl hz k)))
    · cases e
  · split at e
    · rename_i hz; cases e
      exact .inr (.inr (.inr (ok_cat B ix iy rfl rfl hz k)))
    · cases e
  · split at e
    · rename_i hz; cases e
      exact .inr (.inr (.inr (ok_cat B ix iy rfl rfl hz k)))
    · cases e
  · cases e
section
variable {X : Cx} {a b : Expr} {ma mb : Mx} {pos : Pos}
theorem se_add (ha : SE X a ma) (hb : SE X b mb) : SE X (.BinOp a .Add b pos) (m2 fAdd ma mb) := se_op (op_add.or (op_add_str.or (op_catS.or op_cat))) ok_add ha hb
end
def fMul : R → R → Option R
  | .d (.int i), .d (.int j) => if mulOk i j = true then some (.d (.int (i * j))) else none
  | .d (.tuple xs), .d (.int k) => if k = 1 then some (.d (.tuple xs)) else if xs ≠ [] ∧ 2 ≤ k ∧ k ≤ 1000 ∧ xs.length ≤ 1000 then some (.d (.tuple (List.replicate k.toNat xs).flatten)) else none
  | .f xs, .d (.int k) => if 0 ≤ k ∧ k < 2 ^ 63 ∧ xs.length * k.toNat ≤ sizeLine then some (.f (List.replicate k.toNat xs).flatten) else none
  | .b xs, .d (.int k) => if 0 ≤ k ∧ k < 2 ^ 63 ∧ xs.length * k.toNat ≤ sizeLine then some (.f (List.replicate k.toNat xs).flatten) else none
  | _, _ => none
theorem ImA.rep {K : PySem.W.Frag} {fz : Fz} {H : Hp} {vs : List V} {xs : List PyData} (h : ImA K fz H vs xs) : ∀ n : Nat, ImA K fz H (List.replicate n vs).flatten (List.replicate n xs).flatten
  | 0 => by simpa using ImA.nil
  | n + 1 => by
    rw [List.replicate_succ, List.replicate_succ, List.flatten_cons, List.flatten_cons]
    exact h.append (h.rep n)
theorem ok_rep {K : PySem.W.Frag} {sp : Option Addr} {fz : Fz} {H H0 : Hp} {sto : Sto} {v : V} {x : R} {xs : List PyData} {j : Int} {Q : VK} (B : Bs sp fz H sto) (ix : ImR K sp H0 fz H v x) (ex : trL x = some xs) (hz : 0 ≤ j ∧ j < 2 ^ 63 ∧ xs.length * j.toNat ≤ sizeLine)
    (k : ∀ u fz' H', Stp sp fz H fz' H' → SpL sp H' sto → ImR K sp H fz' H' u (.f (List.replicate j.toNat xs).flatten) → Q u H') : rRep v (.int j) H Q := by
  obtain ⟨a, vs, rfl, h1, h2⟩ := ix.trk ex
  refine ⟨a, j, vs, rfl, rfl, h1, by omega, hz.2.1, by rw [h2.length]; exact hz.2.2, fun p hp => ?_⟩
  obtain ⟨s, l, i⟩ := new_lst B (h2.rep j.toNat) hp
  exact k _ fz _ s l i
theorem ok_mul {K : PySem.W.Frag} : Ok2 K (fun x y H Q => rI CMulX (fun i j => .int (i * j)) x y H Q ∨ rRepS K x y H Q ∨ rRepT1 K x y H Q ∨ rRep x y H Q) fMul := by
  intro sp fz H H0 sto v w x y z Q B ix iy e k
  unfold fMul at e
  split at e
  · split at e
    · rename_i hz; cases e; cases ix; cases iy
      exact .inl ⟨_, _, rfl, rfl, (by unfold CMulX; have := Nat.le_of_ble_eq_true hz; omega), k _ fz H .refl B.spl (.int _)⟩
    · cases e
  · split at e
    · rename_i xs j hk
      subst hk
      cases e; cases iy
      obtain ⟨a, vs, rfl, h1, h2⟩ := ix.tupF
      exact .inr (.inr (.inl ⟨a, vs, rfl, rfl, h1.sq, k _ fz H .refl B.spl (show Im K fz H _ _ from .tup h1 h2)⟩))
    · split at e
      · rename_i xs j _ hz
        cases e; cases iy
        obtain ⟨a, vs, rfl, h1, h2⟩ := ix.tup
        refine .inr (.inl ⟨a, j, vs, rfl, rfl, h1, fun q => ?_, hz.2.1, hz.2.2.1, by rw [h2.length]; exact hz.2.2.2, fun p o hp ho => ?_⟩)
        · subst q; exact hz.1 (List.length_eq_zero_iff.mp h2.length.symm)
        · obtain ⟨s, l, i⟩ := new_tup B (h2.rep j.toNat) hp ho
          exact k _ fz _ s l i
      · cases e
  · split at e
    · rename_i hz; cases e; cases iy
      exact .inr (.inr (.inr (ok_rep B ix rfl hz k)))
    · cases e
  · split at e
    · rename_i hz; cases e; cases iy
      exact .inr (.inr (.inr (ok_rep B ix rfl hz k)))
    · cases e
  · cases e
section
variable {X : Cx} {a b : Expr} {ma mb : Mx} {pos : Pos}
theorem se_mul (ha : SE X a ma) (hb : SE X b mb) : SE X (.BinOp a .Mult b pos) (m2 fMul ma mb) := se_op (op_mulX.or (op_repS.or (op_repT1.or op_rep))) ok_mul ha hb
end
section
variable {X : Cx} {pins : List (Addr × Obj)} {σ : L2.St} {H : Hp} {s : Shared} {fz : Fz}
mutual
def noDict : PyData → Bool
  | .list xs => noDicts xs
  | .tuple xs => noDicts xs
  | .dict _ => false
  | _ => true
def noDicts : List PyData → Bool
  | [] => true
  | x :: xs => noDict x && noDicts xs
end
mutual
theorem Im.dp : ∀ {v : V} {d : PyData}, Im X.K fz H v d → noDict d = true → Dp X.K H v d
  | _, _, .non, _ => .non
  | _, _, .bl b, _ => .bl b
  | _, _, .int i, _ => .int i
  | _, _, .str x, _ => .str x
  | _, _, .lst h a, q => .lst h.sq (ImA.dp a (by simpa [noDict] using q))
  | _, _, .tup h a, q => .tup h.sq (ImA.dp a (by simpa [noDict] using q))
  | _, _, .dct _ _ _ _, q => by simp [noDict] at q
theorem ImA.dp : ∀ {v : List V} {d : List PyData}, ImA X.K fz H v d → noDicts d = true → DpAll X.K H v d
  | _, _, .nil, _ => .nil
  | _, _, .cons h t, q => by
    simp only [noDicts, Bool.and_eq_true] at q
    exact .cons (Im.dp h q.1) (ImA.dp t q.2)
end
/-- any datum that is looked at -/
def rdD : R → Option PyData
  | .d x => some x
  | .f xs => some (.list xs)
  | .b xs => some (.list xs)
  | _ => none
theorem ImR.dp {sp : Option Addr} {H0 : Hp} {v : V} {x : R} {d : PyData} (i : ImR X.K sp H0 fz H v x) (e : rdD x = some d) (hn : noDict d = true) : Dp X.K H v d := by
  cases x with
  | d x => cases e; exact Im.dp i hn
  | f xs =>
    cases e
    obtain ⟨a, vs, rfl, h1, h2, _⟩ := i
    exact .lst (.inl (.inl h1)) (ImA.dp h2 (by simpa [noDict] using hn))
  | b xs =>
    cases e
    obtain ⟨a, vs, rfl, h1, h2, _⟩ := i
    exact .lst (.inl (.inl h1)) (ImA.dp h2 (by simpa [noDict] using hn))
  | s => cases e
  | m _ => cases e
  | n _ => cases e
end
/-- data that == may be asked of here -/
def eqOk (d : PyData) : Bool := noDict d && SeqAt.shaped d
def fEqD (neg : Bool) : R → R → Option R := fun x y => match rdD x, rdD y with
  | some d, some e => if eqOk d = true ∧ eqOk e = true then some (.d (.bool (if neg then !PyData.eqv d e else PyData.eqv d e))) else none
  | _, _ => none
def strOf : R → Option Str
  | .d (.str x) => some x
  | _ => none
/-- ==; of any two texts, or of two data without a dict that are not too deep -/
def fEq (neg : Bool) : R → R → Option R := fun x y => match strOf x, strOf y with
  | some a, some b => some (.d (.bool (if neg then !(a == b) else a == b)))
  | _, _ => fEqD neg x y
section
variable {X : Cx} {a b : Expr} {ma mb : Mx} {pos : Pos}
theorem strOf_some {x : R} {a : Str} (h : strOf x = some a) : x = .d (.str a) := by
  unfold strOf at h
  split at h
  · cases h; rfl
  · cases h
theorem fEq_some {neg : Bool} {x y z : R} (h : fEqD neg x y = some z) : ∃ d e, rdD x = some d ∧ rdD y = some e ∧ noDict d = true ∧ noDict e = true ∧ SeqAt.shaped d = true ∧ SeqAt.shaped e = true ∧ z = .d (.bool (if neg then !PyData.eqv d e else PyData.eqv d e)) := by
  unfold fEqD at h
  split at h
  · rename_i d e h1 h2
    split at h
    · rename_i hz
      cases h
      simp only [eqOk, Bool.and_eq_true] at hz
      exact ⟨d, e, h1, h2, hz.1.1, hz.2.1, hz.1.2, hz.2.2, rfl⟩
    · cases h
  · cases h
theorem ok_eq : Ok2 X.K (fun x y H Q => rEq x y H Q ∨ rEqD X.K x y H Q) (fEq false) := by
  intro sp fz H H0 sto v w x y z Q B ix iy h k
  unfold fEq at h
  split at h
  · rename_i a b ea eb
    cases strOf_some ea
    cases strOf_some eb
    cases h
    cases ix
    cases iy
    exact .inl ⟨rfl, k _ fz H .refl B.spl (by rw [dec_str]; exact .bl _)⟩
  · obtain ⟨d, e, h1, h2, n1, n2, s1, s2, rfl⟩ := fEq_some h
    exact .inr ⟨d, e, ix.dp h1 n1, iy.dp h2 n2, s1, s2, k _ fz H .refl B.spl (.bl _)⟩
theorem ok_ne : Ok2 X.K (fun x y H Q => rNe x y H Q ∨ rNeD X.K x y H Q) (fEq true) := by
  intro sp fz H H0 sto v w x y z Q B ix iy h k
  unfold fEq at h
  split at h
  · rename_i a b ea eb
    cases strOf_some ea
    cases strOf_some eb
    cases h
    cases ix
    cases iy
    exact .inl ⟨rfl, k _ fz H .refl B.spl (by rw [dec_str]; exact .bl _)⟩
  · obtain ⟨d, e, h1, h2, n1, n2, s1, s2, rfl⟩ := fEq_some h
    exact .inr ⟨d, e, ix.dp h1 n1, iy.dp h2 n2, s1, s2, k _ fz H .refl B.spl (.bl _)⟩
theorem se_eq {k : Nat} (hr : Room k X.A) (ha : SE X a ma) (hb : SE X b mb) : SE X (.Compare a [.Eq] [b] pos) (m2 (fEq false) ma mb) := se_cmp (op_eq.or (op_eqD hr.units)) ok_eq ha hb (nomark _)
theorem sb_eq {k : Nat} (hr : Room k X.A) (ha : SE X a ma) (hb : SE X b mb) : SB X (.Compare a [.Eq] [b] pos) (bT (m2 (fEq false) ma mb)) := sb_cmp (op_eq.or (op_eqD hr.units)) ok_eq ha hb (nomark _)
theorem sb_ne {k : Nat} (hr : Room k X.A) (ha : SE X a ma) (hb : SE X b mb) : SB X (.Compare a [.NotEq] [b] pos) (bT (m2 (fEq true) ma mb)) := sb_cmp (op_ne.or (op_neD hr.units)) ok_ne ha hb (nomark _)
end
/-- two comparisons of ints -/
def mChain (g1 g2 : Int → Int → Option PyData) (a b c : Mx) : Mx := bnd a fun x => bnd b fun y => bnd (fun _ => ret (fI g1 x y)) fun z => match z with
  | .d (.bool true) => bnd c fun w _ => ret (fI g2 y w)
  | .d (.bool false) => fun _ s => some (.d (.bool false), s)
  | _ => fun _ _ => none
theorem rd_chain {K : PySem.W.Frag} {r r' : R2} {g1 g2 : Int → Int → Option PyData} (h1 : Ok2 K r (fI g1)) (h2 : Ok2 K r' (fI g2)) {ma mb mc : Mx} {σ : L2.St} {H : Hp} {Q : VK} (h : rdE K (mChain g1 g2 ma mb mc) σ H Q) :
    tChain r r' (rdE K ma) (rdE K mb) (rdE K mc) σ H Q := by
  obtain ⟨C, fz, ρ, sto, z, sto', F, e, k⟩ := h
  obtain ⟨x, s1, ea, e1⟩ := bnd_some e
  obtain ⟨y, s2, eb, e2⟩ := bnd_some e1
  obtain ⟨z1, s3, ec, e3⟩ := bnd_some e2
  clear e e1 e2
  obtain ⟨ef, rfl⟩ := ret_some ec
  refine ⟨C, fz, ρ, sto, x, s1, F, ea, fun v fz1 H1 st1 l1 i1 => ?_⟩
  refine ⟨C, fz1, ρ, s1, y, s3, F.step st1 l1, eb, fun w fz2 H2 st2 l2 i2 => ?_⟩
  have B1 := F.bs.step st1 l1
  have B2 := B1.step st2 l2
  refine h1 C.sp fz2 H2 H s3 v w x y z1 _ B2 (i1.stp st2 B1) (i2.early st1) ef fun u fz3 H3 st3 l3 i3 => ?_
  have B3 := B2.step st3 l3
  split at e3
  · cases i3
    obtain ⟨y', s4, ed, e4⟩ := bnd_some e3
    obtain ⟨eg, rfl⟩ := ret_some e4
    refine ⟨true, rfl, ?_⟩
    refine ⟨C, fz3, ρ, s3, y', sto', ((F.step st1 l1).step st2 l2).step st3 l3, ed, fun w' fz4 H4 st4 l4 i4 => ?_⟩
    have B4 := B3.step st4 l4
    refine h2 C.sp fz4 H4 H sto' w w' y y' z _ B4 ((i2.early st1).stp (st3.trans st4) B2) (i4.early ((st1.trans st2).trans st3)) eg fun u fz5 H5 st5 l5 i5 => ?_
    exact k u fz5 H5 ((((st1.trans st2).trans st3).trans st4).trans st5) l5 (i5.early (((st1.trans st2).trans st3).trans st4))
  · cases i3
    cases e3
    exact ⟨false, rfl, k _ fz3 H3 ((st1.trans st2).trans st3) l3 (.bl _)⟩
  · cases e3
section
variable {X : Cx} {a b c : Expr} {ma mb mc : Mx} {pos : Pos}
theorem se_lele (ha : SE X a ma) (hb : SE X b mb) (hc : SE X c mc) (hm : lastMarks [.LtE, .LtE] [b, c] = false := by rfl) : SE X (.Compare a [.LtE, .LtE] [b, c] pos) (mChain gLe gLe ma mb mc) := PE.imp (pe_chain op_le op_le ha hb hc hm) fun _ _ _ h => rd_chain ok_le ok_le h
theorem sb_ltle (ha : SE X a ma) (hb : SE X b mb) (hc : SE X c mc) (hm : lastMarks [.Lt, .LtE] [b, c] = false := by rfl) : SB X (.Compare a [.Lt, .LtE] [b, c] pos) (bT (mChain gLt gLe ma mb mc)) := PT.imp (pt_chain op_lt op_le ha hb hc hm) fun σ H Q h => rd_chain (Q := fun x H' => ∃ k, x = .bl k ∧ Q k H') ok_lt ok_le (rd_bT h)
end
end Dh
namespace Dh
open PySem PySem.Spec L2
def mAnd (a b : Mx) : Mx := bnd a fun x => match x with
  | .d (.bool true) => b
  | .d (.bool false) => fun _ s => some (.d (.bool false), s)
  | _ => fun _ _ => none
def mOr (a b : Mx) : Mx := bnd a fun x => match x with
  | .d (.bool false) => b
  | .d (.bool true) => fun _ s => some (.d (.bool true), s)
  | _ => fun _ _ => none
def fNot : R → Option R
  | .d (.bool k) => some (.d (.bool (!k)))
  | _ => none
def tAnd2 (a b : Mt) : Mt := bnd a fun x => match x with
  | true => b
  | false => fun _ s => some (false, s)
def tOr2 (a b : Mt) : Mt := bnd a fun x => match x with
  | false => b
  | true => fun _ s => some (true, s)
def tNot2 (a : Mt) : Mt := bnd a fun x _ s => some (!x, s)
def mIf (c : Mt) (a b : Mx) : Mx := bnd c fun x => match x with
  | true => a
  | false => b
section
variable {X : Cx} {a b c : Expr} {rest : List Expr} {ma mb : Mx} {ta tb tc : Mt} {pos : Pos}
theorem rd_and {K : PySem.W.Frag} {σ : L2.St} {H : Hp} {Q : VK} (h : rdE K (mAnd ma mb) σ H Q) : tAndV (rdE K ma) (rdE K mb) σ H Q := by
  obtain ⟨C, fz, ρ, sto, z, sto', F, e, k⟩ := h
  obtain ⟨x, s1, ea, e1⟩ := bnd_some e
  clear e
  refine ⟨C, fz, ρ, sto, x, s1, F, ea, fun v fz1 H1 st1 l1 i1 => ?_⟩
  split at e1
  · cases i1
    refine ⟨true, rfl, ?_⟩
    rw [if_pos rfl]
    exact ⟨C, fz1, ρ, s1, z, sto', F.step st1 l1, e1, fun u fz2 H2 st2 l2 i2 => k u fz2 H2 (st1.trans st2) l2 (i2.early st1)⟩
  · cases i1
    cases e1
    refine ⟨false, rfl, ?_⟩
    rw [if_neg Bool.false_ne_true]
    exact k _ fz1 H1 st1 l1 (.bl _)
  · cases e1
theorem rd_or {K : PySem.W.Frag} {σ : L2.St} {H : Hp} {Q : VK} (h : rdE K (mOr ma mb) σ H Q) : tOrV (rdE K ma) (rdE K mb) σ H Q := by
  obtain ⟨C, fz, ρ, sto, z, sto', F, e, k⟩ := h
  obtain ⟨x, s1, ea, e1⟩ := bnd_some e
  clear e
  refine ⟨C, fz, ρ, sto, x, s1, F, ea, fun v fz1 H1 st1 l1 i1 => ?_⟩
  split at e1
  · cases i1
    refine ⟨false, rfl, ?_⟩
    rw [if_neg Bool.false_ne_true]
    exact ⟨C, fz1, ρ, s1, z, sto', F.step st1 l1, e1, fun u fz2 H2 st2 l2 i2 => k u fz2 H2 (st1.trans st2) l2 (i2.early st1)⟩
  · cases i1
    cases e1
    refine ⟨true, rfl, ?_⟩
    rw [if_pos rfl]
    exact k _ fz1 H1 st1 l1 (.bl _)
  · cases e1
theorem se_one {op : BoolOp} (ha : SE X a ma) : SE X (.BoolOp op [a] pos) ma := pe_one ha
theorem se_and (ha : SE X a ma) (hb : SE X (.BoolOp .And (b :: rest) pos) mb) : SE X (.BoolOp .And (a :: b :: rest) pos) (mAnd ma mb) := PE.imp (pe_and ha hb) fun _ _ _ h => rd_and h
theorem se_or (ha : SE X a ma) (hb : SE X (.BoolOp .Or (b :: rest) pos) mb) : SE X (.BoolOp .Or (a :: b :: rest) pos) (mOr ma mb) := PE.imp (pe_or ha hb) fun _ _ _ h => rd_or h
theorem rd_not {K : PySem.W.Frag} {σ : L2.St} {H : Hp} {Q : VK} (h : rdE K (m1 fNot ma) σ H Q) : tNotV (rdE K ma) σ H Q := by
  refine rd_one (r := fun x H Q => ∃ c, x = .bl c ∧ Q (.bl (!c)) H) ?_ h
  intro sp fz H H0 sto v x z Q B ix e k
  unfold fNot at e
  split at e
  · cases e
    cases ix
    exact ⟨_, rfl, k _ fz H .refl B.spl (.inl (.bl _))⟩
  · cases e
theorem se_not (ha : SE X a ma) : SE X (.UnaryOp .Not a pos) (m1 fNot ma) := PE.imp (pe_not ha) fun _ _ _ h => rd_not h
theorem rt_and {K : PySem.W.Frag} {σ : L2.St} {H : Hp} {Q : Bool → Hp → Prop} (h : rdT K (tAnd2 ta tb) σ H Q) : tAnd (rdT K ta) (rdT K tb) σ H Q := by
  obtain ⟨C, fz, ρ, sto, z, sto', F, e, k⟩ := h
  obtain ⟨x, s1, ea, e1⟩ := bnd_some e
  clear e
  refine ⟨C, fz, ρ, sto, x, s1, F, ea, fun fz1 H1 st1 l1 => ?_⟩
  cases x with
  | true =>
    rw [if_pos rfl]
    exact ⟨C, fz1, ρ, s1, z, sto', F.step st1 l1, e1, fun fz2 H2 st2 l2 => k fz2 H2 (st1.trans st2) l2⟩
  | false =>
    rw [if_neg Bool.false_ne_true]
    cases e1
    exact k fz1 H1 st1 l1
theorem rt_or {K : PySem.W.Frag} {σ : L2.St} {H : Hp} {Q : Bool → Hp → Prop} (h : rdT K (tOr2 ta tb) σ H Q) : tOr (rdT K ta) (rdT K tb) σ H Q := by
  obtain ⟨C, fz, ρ, sto, z, sto', F, e, k⟩ := h
  obtain ⟨x, s1, ea, e1⟩ := bnd_some e
  clear e
  refine ⟨C, fz, ρ, sto, x, s1, F, ea, fun fz1 H1 st1 l1 => ?_⟩
  cases x with
  | false =>
    rw [if_neg Bool.false_ne_true]
    exact ⟨C, fz1, ρ, s1, z, sto', F.step st1 l1, e1, fun fz2 H2 st2 l2 => k fz2 H2 (st1.trans st2) l2⟩
  | true =>
    rw [if_pos rfl]
    cases e1
    exact k fz1 H1 st1 l1
theorem rt_not {K : PySem.W.Frag} {σ : L2.St} {H : Hp} {Q : Bool → Hp → Prop} (h : rdT K (tNot2 ta) σ H Q) : tNot (rdT K ta) σ H Q := by
  obtain ⟨C, fz, ρ, sto, z, sto', F, e, k⟩ := h
  obtain ⟨x, s1, ea, e1⟩ := bnd_some e
  cases e1
  exact ⟨C, fz, ρ, sto, x, _, F, ea, fun fz1 H1 st1 l1 => k fz1 H1 st1 l1⟩
theorem sw_and1 (ha : SB X a ta) : SW X (.BoolOp .And [a] pos) ta := pw_and1 ha
theorem sw_or1 (ha : SB X a ta) : SW X (.BoolOp .Or [a] pos) ta := pw_or1 ha
theorem sw_and (ha : SB X a ta) (hb : SW X (.BoolOp .And (b :: rest) pos) tb) : SW X (.BoolOp .And (a :: b :: rest) pos) (tAnd2 ta tb) := PW.imp (pw_and ha hb) fun _ _ _ h => rt_and h
theorem sw_or (ha : SB X a ta) (hb : SW X (.BoolOp .Or (b :: rest) pos) tb) : SW X (.BoolOp .Or (a :: b :: rest) pos) (tOr2 ta tb) := PW.imp (pw_or ha hb) fun _ _ _ h => rt_or h
theorem sb_w {e : Expr} {t : Mt} (h : SW X e t) : SB X e t := PW.pt h
theorem sb_not (ha : SB X a ta) : SB X (.UnaryOp .Not a pos) (tNot2 ta) := PT.imp (pt_not ha) fun _ _ _ h => rt_not h
theorem rd_if {K : PySem.W.Frag} {σ : L2.St} {H : Hp} {Q : VK} (h : rdE K (mIf ta ma mb) σ H Q) : tIf (rdT K ta) (rdE K ma) (rdE K mb) σ H Q := by
  obtain ⟨C, fz, ρ, sto, z, sto', F, e, k⟩ := h
  obtain ⟨x, s1, ea, e1⟩ := bnd_some e
  clear e
  refine ⟨C, fz, ρ, sto, x, s1, F, ea, fun fz1 H1 st1 l1 => ?_⟩
  cases x with
  | true =>
    rw [if_pos rfl]
    exact ⟨C, fz1, ρ, s1, z, sto', F.step st1 l1, e1, fun u fz2 H2 st2 l2 i2 => k u fz2 H2 (st1.trans st2) l2 (i2.early st1)⟩
  | false =>
    rw [if_neg Bool.false_ne_true]
    exact ⟨C, fz1, ρ, s1, z, sto', F.step st1 l1, e1, fun u fz2 H2 st2 l2 i2 => k u fz2 H2 (st1.trans st2) l2 (i2.early st1)⟩
theorem se_if (hc : SB X c ta) (ha : SE X a ma) (hb : SE X b mb) : SE X (.IfExp c a b pos) (mIf ta ma mb) := PE.imp (pe_ifExp hc ha hb) fun _ _ _ h => rd_if h
end
/-- a datum to be kept (a list that was just made is frozen) -/
def toD : R → Option PyData
  | .d x => some x
  | .f xs => some (.list xs)
  | _ => none
def toDs : List R → Option (List PyData)
  | [] => some []
  | r :: rs => match toD r, toDs rs with
    | some x, some xs => some (x :: xs)
    | _, _ => none
section
variable {K : PySem.W.Frag} {sp : Option Addr} {fz fz1 : Fz} {H H1 : Hp} {sto : Sto}
/-- keeping one -/
theorem ImR.keep {v : V} {r : R} {x : PyData} (i : ImR K sp H fz1 H1 v r) (e : toD r = some x) (s : Stp sp fz H fz1 H1) (B : Bs sp fz1 H1 sto) :
    ∃ fz2 : Fz, Stp sp fz H fz2 H1 ∧ Bs sp fz2 H1 sto ∧ (∀ a, fz1 a → fz2 a) ∧ Im K fz2 H1 v x := by
  unfold toD at e
  split at e
  · cases e
    exact ⟨fz1, s, B, fun _ h => h, i⟩
  · cases e
    obtain ⟨a, vs, rfl, h1, h2, h3, h4, h5⟩ := i
    have s2 := s.freeze h5 h4 h1
    refine ⟨_, s2, ⟨B.spl, fun c ec q => ?_, fun b q z => ?_⟩, fun b q => .inl q, .lst (.inl ⟨h1, .inr rfl⟩) (h2.fzm fun b q => .inl q)⟩
    · rcases q with q | q
      · exact B.nsp c ec q
      · exact h4 (by subst q; exact ec.symm)
    · rcases q with q | q
      · exact B.trk b q z
      · subst q; rw [h1] at z; cases z
  · cases e
theorem ImRs.keep : ∀ {vs : List V} {rs : List R} {xs : List PyData} {fz1 : Fz}, ImRs K sp H fz1 H1 vs rs → toDs rs = some xs → Stp sp fz H fz1 H1 → Bs sp fz1 H1 sto →
    ∀ fzA : Fz, Stp sp fz H fzA H1 → Bs sp fzA H1 sto → (∀ a, fz1 a → fzA a) → ∃ fz2 : Fz, Stp sp fz H fz2 H1 ∧ Bs sp fz2 H1 sto ∧ (∀ a, fzA a → fz2 a) ∧ ImA K fz2 H1 vs xs
  | _, _, _, _, .nil, e, s, B, fzA, sA, BA, g => by
    cases e
    exact ⟨fzA, sA, BA, fun _ h => h, .nil⟩
  | _, _, _, fz1, .cons (a := v) (b := r) h t, e, s, B, fzA, sA, BA, g => by
    unfold toDs at e
    split at e
    · rename_i x xs e1 e2
      cases e
      -- the head, frozen beside what is frozen already
      have : ∃ fzB : Fz, Stp sp fz H fzB H1 ∧ Bs sp fzB H1 sto ∧ (∀ a, fzA a → fzB a) ∧ Im K fzB H1 v x := by
        unfold toD at e1
        split at e1
        · cases e1
          exact ⟨fzA, sA, BA, fun _ h => h, Im.fzm g h⟩
        · cases e1
          obtain ⟨a, vs, rfl, h1, h2, h3, h4, h5⟩ := h
          refine ⟨_, sA.freeze h5 h4 h1, ⟨BA.spl, fun c ec q => ?_, fun b q z => ?_⟩, fun b q => .inl q, .lst (.inl ⟨h1, .inr rfl⟩) (h2.fzm fun b q => .inl (g b q))⟩
          · rcases q with q | q
            · exact BA.nsp c ec q
            · exact h4 (by subst q; exact ec.symm)
          · rcases q with q | q
            · exact BA.trk b q z
            · subst q; rw [h1] at z; cases z
        · cases e1
      obtain ⟨fzB, sB, BB, gB, iB⟩ := this
      obtain ⟨fz2, s2, B2, g2, i2⟩ := ImRs.keep t e2 s B fzB sB BB fun a q => gB a (g a q)
      exact ⟨fz2, s2, B2, fun a q => g2 a (gB a q), .cons (iB.fzm g2) i2⟩
    · cases e
end
def fTup (rs : List R) : Option R := match toDs rs with
  | some xs => if xs.length ≤ sizeLine then some (.d (.tuple xs)) else none
  | none => none
def fLst (rs : List R) : Option R := match toDs rs with
  | some xs => if xs.length ≤ sizeLine then some (.f xs) else none
  | none => none
section
variable {X : Cx} {es : List Expr} {m : Ma} {pos : Pos}
theorem se_tup {x1} (h : SA X es m) : SE X (.Tuple es x1 pos) (mA fTup m) := PE.imp (pe_tupS (x1 := x1) h) fun σ H Q q => by
  refine rd_args (r := fun xs H1 Q => xs.length ≤ sizeLine ∧ TpQ H1 xs Q) ?_ q
  intro sp fz fzS H H0 sto vs xs z Q s B i e k
  unfold fTup at e
  split at e
  · rename_i ds hd
    split at e
    · rename_i hz
      cases e
      obtain ⟨fz2, s2, B2, g2, a⟩ := ImRs.keep i hd s B fz s B fun _ h => h
      refine ⟨by rw [a.length]; exact hz, fun p o hp ho => ?_⟩
      obtain ⟨s3, l3, i3⟩ := new_tup B2 a hp ho
      exact k _ fz2 _ (s2.trans s3) l3 i3
    · cases e
  · cases e
theorem se_lst (h : SA X es m) : SE X (.List es pos) (mA fLst m) := PE.imp (pe_lst h) fun σ H Q q => by
  refine rd_args (r := fun xs H1 Q => xs.length ≤ sizeLine ∧ ∀ p, H1 p = none → Q (.ref p) (upd H1 p (.lst xs))) ?_ q
  intro sp fz fzS H H0 sto vs xs z Q s B i e k
  unfold fLst at e
  split at e
  · rename_i ds hd
    split at e
    · rename_i hz
      cases e
      obtain ⟨fz2, s2, B2, g2, a⟩ := ImRs.keep i hd s B fz s B fun _ h => h
      refine ⟨by rw [a.length]; exact hz, fun p hp => ?_⟩
      obtain ⟨s3, l3, i3⟩ := new_lst B2 a hp
      exact k _ fz2 _ (s2.trans s3) l3 (i3.early s2)
    · cases e
  · cases e
end
def fIx (sto : Sto) : R → R → Option R
  | .s, .d (.int i) => (atI sto i).map fun j => .d (.int j)
  | x, .d (.int i) => match rdQ x with
    | some xs => (atI xs i).map .d
    | none => none
  | _, _ => none
/-- an item: of the spring, too -/
def mIx (a b : Mx) : Mx := bnd a fun x => bnd b fun y _ s => match fIx s x y with
  | some z => some (z, s)
  | none => none
theorem atI_some {α : Type} {xs : List α} {i : Int} {x : α} (h : atI xs i = some x) : ∃ j, ixN xs.length i = some j ∧ xs[j]? = some x := by
  unfold atI at h
  cases q : ixN xs.length i with
  | none => rw [q] at h; cases h
  | some j => rw [q] at h; exact ⟨j, rfl, h⟩
theorem atI_im {K : PySem.W.Frag} {fz : Fz} {H : Hp} {vs : List V} {xs : List PyData} {i : Int} {x : PyData} (a : ImA K fz H vs xs) (h : atI xs i = some x) : ∃ w, atI vs i = some w ∧ Im K fz H w x := by
  obtain ⟨j, h1, h2⟩ := atI_some h
  obtain ⟨w, h3, h4⟩ := a.at j x h2
  refine ⟨w, ?_, h4⟩
  unfold atI
  rw [a.length, h1]
  exact h3
theorem atI_map {i : Int} {sto : Sto} {j : Int} (h : atI sto i = some j) : atI (sto.map V.int) i = some (.int j) := by
  obtain ⟨k, h1, h2⟩ := atI_some h
  unfold atI
  rw [List.length_map, h1]
  show (sto.map V.int)[k]? = _
  rw [List.getElem?_map, h2]
  rfl
def rIxQ (K : PySem.W.Frag) : R2 := fun x y H Q => rIxL K x y H Q ∨ rIxT K x y H Q
section
variable {X : Cx} {a b : Expr} {ma mb : Mx} {pos : Pos}
theorem fIx_ok {K : PySem.W.Frag} {sp : Option Addr} {fz : Fz} {H H0 : Hp} {sto : Sto} {v w : V} {x y z : R} {Q : VK} (B : Bs sp fz H sto) (ix : ImR K sp H0 fz H v x) (iy : ImR K sp H0 fz H w y) (e : fIx sto x y = some z) (k : ∀ u, ImR K sp H fz H u z → Q u H) : rIxQ K v w H Q := by
  unfold fIx at e
  split at e
  · rename_i i
    cases iy
    cases q : atI sto i with
    | none => rw [q] at e; cases e
    | some j =>
      rw [q] at e; cases e
      obtain ⟨a, ea, rfl⟩ := (show IsS sp v from ix)
      exact .inl ⟨a, _, i, _, rfl, rfl, .inl (.inl (B.spl a ea)), atI_map q, k _ (.int j)⟩
  · rename_i i _
    cases iy
    split at e
    · rename_i xs hx
      cases q : atI xs i with
      | none => rw [q] at e; cases e
      | some d =>
        rw [q] at e; cases e
        obtain ⟨a, vs, rfl, h, im⟩ := ix.seq hx
        obtain ⟨u, hu, iu⟩ := atI_im im q
        rcases h with h | h
        · exact .inl ⟨a, vs, i, u, rfl, rfl, h, hu, k _ iu⟩
        · exact .inr ⟨a, vs, i, u, rfl, rfl, h, hu, k _ iu⟩
    · cases e
  · cases e
theorem se_ix (ha : SE X a ma) (hb : SE X b mb) (hs : PlainIx b := by exact fun _ _ => rfl) : SE X (.Subscript a b pos) (mIx ma mb) := PE.imp (pe_ix (ix_list.or ix_tup) ha hb hs) fun σ H Q h => by
  obtain ⟨C, fz, ρ, sto, z, sto', F, e, k⟩ := h
  obtain ⟨x, s1, ea, e1⟩ := bnd_some e
  obtain ⟨y, s2, eb, e2⟩ := bnd_some e1
  clear e e1
  split at e2
  · rename_i z' ez
    cases e2
    refine ⟨C, fz, ρ, sto, x, s1, F, ea, fun v fz1 H1 st1 l1 i1 => ?_⟩
    refine ⟨C, fz1, ρ, s1, y, sto', F.step st1 l1, eb, fun w fz2 H2 st2 l2 i2 => ?_⟩
    have B1 := F.bs.step st1 l1
    exact fIx_ok (B1.step st2 l2) (i1.stp st2 B1) (i2.early st1) ez fun u iu => k u fz2 H2 (st1.trans st2) l2 (iu.early (st1.trans st2))
  · cases e2
end
end Dh
namespace Dh
open PySem PySem.Spec L2
inductive Out where
  | nx | bk | ct | rt (r : R)
abbrev Ms := Ev → Sto → Option (Out × Ev × Sto)
/-- what is no list and no dict -/
def Stay (o : HO) : Prop := (∀ xs, o ≠ .lst xs) ∧ ∀ kvs, o ≠ .dK kvs
/-- through a statement: what is frozen, and all that is no list and no dict, stands -/
structure Sts (sp : Option Addr) (fz : Fz) (H : Hp) (fz' : Fz) (H' : Hp) : Prop where
  mono : ∀ a, fz a → fz' a
  kept : ∀ a o, H a = some o → some a ≠ sp → (fz a ∨ Stay o) → H' a = some o
section
variable {K : PySem.W.Frag} {sp : Option Addr} {fz fz1 fz2 : Fz} {H H1 H2 : Hp} {sto : Sto}
theorem Sts.refl : Sts sp fz H fz H := ⟨fun _ h => h, fun _ _ h _ _ => h⟩
theorem Sts.trans (s : Sts sp fz H fz1 H1) (t : Sts sp fz1 H1 fz2 H2) : Sts sp fz H fz2 H2 :=
  ⟨fun a h => t.mono a (s.mono a h), fun a o h n c => t.kept a o (s.kept a o h n c) n (c.imp (s.mono a) id)⟩
theorem Stp.sts (s : Stp sp fz H fz1 H1) : Sts sp fz H fz1 H1 := ⟨s.mono, fun a o h n _ => s.ext a o h n⟩
theorem SqT.sts {a : Addr} {xs : List V} (s : Sts sp fz H fz1 H1) (B : Bs sp fz H sto) (h : SqT K H a xs) : SqT K H1 a xs := by
  rcases h with (h | ⟨o, h⟩) | h
  · exact .inl (.inl (s.kept _ _ h (ne_spring B.spl h) (.inr ⟨(fun _ z => nomatch z), (fun _ z => nomatch z)⟩)))
  · exact .inl (.inr ⟨o, s.kept _ _ h (B.spl.ne h (by intro z; cases z)) (.inr ⟨(fun _ z => nomatch z), (fun _ z => nomatch z)⟩)⟩)
  · exact .inr h
theorem FzT.sts {a : Addr} {xs : List V} (s : Sts sp fz H fz1 H1) (B : Bs sp fz H sto) (h : FzT K H a xs) : FzT K H1 a xs := by
  rcases h with ⟨o, h, d⟩ | h
  · exact .inl ⟨o, s.kept _ _ h (B.spl.ne h (by intro z; cases z)) (.inr ⟨(fun _ z => nomatch z), (fun _ z => nomatch z)⟩), d⟩
  · exact .inr h
theorem FzL.sts {a : Addr} {xs : List V} (s : Sts sp fz H fz1 H1) (B : Bs sp fz H sto) (h : FzL K fz H a xs) : FzL K fz1 H1 a xs := by
  rcases h with ⟨h, f⟩ | ⟨o, h⟩ | h
  · exact .inl ⟨s.kept _ _ h (by intro e; exact B.nsp _ e.symm f) (.inl f), s.mono _ f⟩
  · exact .inr (.inl ⟨o, s.kept _ _ h (B.spl.ne h (by intro z; cases z)) (.inr ⟨(fun _ z => nomatch z), (fun _ z => nomatch z)⟩)⟩)
  · exact .inr (.inr h)
mutual
theorem Im.sts (s : Sts sp fz H fz1 H1) (B : Bs sp fz H sto) : ∀ {v : V} {d : PyData}, Im K fz H v d → Im K fz1 H1 v d
  | _, _, .non => .non
  | _, _, .bl b => .bl b
  | _, _, .int i => .int i
  | _, _, .str x => .str x
  | _, _, .lst h a => .lst (h.sts s B) (ImA.sts s B a)
  | _, _, .tup h a => .tup (FzT.sts s B h) (ImA.sts s B a)
  | _, _, .dct h f a b => .dct (s.kept _ _ h (by intro e; exact B.nsp _ e.symm f) (.inl f)) (s.mono _ f) (ImA.sts s B a) (ImA.sts s B b)
theorem ImA.sts (s : Sts sp fz H fz1 H1) (B : Bs sp fz H sto) : ∀ {v : List V} {d : List PyData}, ImA K fz H v d → ImA K fz1 H1 v d
  | _, _, .nil => .nil
  | _, _, .cons h t => .cons (Im.sts s B h) (ImA.sts s B t)
end
end
def Fin (K : PySem.W.Frag) (C : Cn) (D : Ends) (out : Out) (fz' : Fz) (σ' : L2.St) (H' : Hp) : Prop := match out with
  | .nx => D.nx σ' H'
  | .bk => D.bk σ' H'
  | .ct => D.ct σ' H'
  | .rt r => ∀ v, ImR K C.sp C.H0 fz' H' v r → D.rt v H'
def rdS (K : PySem.W.Frag) (m : Ms) : TS := fun D σ H => ∃ (C : Cn) (fz : Fz) (ρ : Ev) (sto : Sto) (out : Out) (ρ' : Ev) (sto' : Sto), Fm K C fz ρ sto σ H ∧ m ρ sto = some (out, ρ', sto') ∧
  ∀ fz' σ' H', Fm K C fz' ρ' sto' σ' H' → Sts C.sp fz H fz' H' → Fin K C D out fz' σ' H'
def SS (X : Cx) (st : Stmt) (m : Ms) : Prop := PS X st (rdS X.K m)
def SL (X : Cx) (st : List Stmt) (m : Ms) : Prop := PSs X st (rdS X.K m)
def mNil : Ms := fun ρ s => some (.nx, ρ, s)
def mSeq (a b : Ms) : Ms := fun ρ s => match a ρ s with
  | some (.nx, ρ1, s1) => b ρ1 s1
  | some r => some r
  | none => none
def mIfS (c : Mt) (a b : Ms) : Ms := fun ρ s => match c ρ s with
  | some (true, s1) => a ρ s1
  | some (false, s1) => b ρ s1
  | none => none
def mRet (a : Mx) : Ms := fun ρ s => match a ρ s with
  | some (.d x, s1) => some (.rt (.d x), ρ, s1)
  | some (.f xs, s1) => some (.rt (.f xs), ρ, s1)
  | _ => none
/-- return of a name -/
def mRetV (i : Nat) : Ms := fun ρ s => match ρ[i]? with
  | some (some (.d x)) => some (.rt (.d x), ρ, s)
  | some (some (.o xs)) => some (.rt (.f xs), ρ, s)
  | _ => none
def mNever : Ms := fun _ _ => none
def toCl : R → Option Cl
  | .d x => some (.d x)
  | .f xs => some (.o xs)
  | .s => some .s
  | .m acc => some (.m acc)
  | _ => none
def mSet (i : Nat) (a : Mx) : Ms := fun ρ s => match a ρ s with
  | some (r, s1) => match toCl r with
    | some c => some (.nx, ρ.set i (some c), s1)
    | none => none
  | none => none
section
variable {K : PySem.W.Frag} {C : Cn} {fz fz1 : Fz} {ρ : Ev} {sto sto' : Sto} {σ : L2.St} {H H1 : Hp}
/-- what is owned was not there at the entry -/
theorem Fm.owned (F : Fm K C fz ρ sto σ H) {i : Nat} {xs : List PyData} (h : ρ[i]? = some (some (.o xs))) : ∃ a vs, σ[i]? = some (some (.ref a)) ∧ H a = some (.lst vs) ∧ ImA K fz H vs xs ∧ ¬ fz a ∧ some a ≠ C.sp ∧ C.H0 a = none := F.vars i _ h
/-- a slot gets a value -/
theorem Fm.put (F : Fm K C fz ρ sto σ H) (i : Nat) {v : V} {c : Cl} (hi : i < σ.length) (ok : CellOk K C fz H (σ.set i (some v)) i c)
    (ap : ∀ xs a, c = .o xs → v = .ref a → ∀ j ys, j ≠ i → ρ[j]? = some (some (.o ys)) → σ[j]? ≠ some (some (.ref a))) : Fm K C fz (ρ.set i (some c)) sto (σ.set i (some v)) H where
  len := by rw [List.length_set, List.length_set, F.len]
  st := F.st
  bs := F.bs
  vars := fun j c' h => by
    by_cases e : j = i
    · subst e
      rw [List.getElem?_set_self (by rw [F.len]; exact hi)] at h
      cases h
      exact ok
    · rw [List.getElem?_set_ne (Ne.symm e)] at h
      have q := F.vars j c' h
      have ge : (σ.set i (some v))[j]? = σ[j]? := List.getElem?_set_ne (Ne.symm e)
      cases c' with
      | d x => obtain ⟨u, e1, e2⟩ := q; exact ⟨u, ge.trans e1, e2⟩
      | o xs => obtain ⟨a, vs, e1, e2⟩ := q; exact ⟨a, vs, ge.trans e1, e2⟩
      | s => obtain ⟨a, ea, q⟩ := q; exact ⟨a, ea, ge.trans q⟩
      | m acc => obtain ⟨a, vs, e1, e2⟩ := q; exact ⟨a, vs, ge.trans e1, e2⟩
  sep := fun j k xs ys a hjk h1 h2 h3 h4 => by
    by_cases e : j = i
    · subst e
      rw [List.getElem?_set_self (by rw [F.len]; exact hi)] at h1
      rw [List.getElem?_set_ne hjk] at h2 h4
      rw [List.getElem?_set_self hi] at h3
      cases h1; cases h3
      exact ap xs a rfl rfl k ys (Ne.symm hjk) h2 h4
    · by_cases e2 : k = i
      · subst e2
        rw [List.getElem?_set_self (by rw [F.len]; exact hi)] at h2
        rw [List.getElem?_set_ne (Ne.symm hjk)] at h1 h3
        rw [List.getElem?_set_self hi] at h4
        cases h2; cases h4
        exact ap ys a rfl rfl j xs hjk h1 h3
      · rw [List.getElem?_set_ne (Ne.symm e)] at h1 h3
        rw [List.getElem?_set_ne (Ne.symm e2)] at h2 h4
        exact F.sep j k xs ys a hjk h1 h2 h3 h4
/-- a slot gets what an expression gave (seen from a heap H0 where F stood) -/
theorem Fm.give (F : Fm K C fz ρ sto σ H) (s : Stp C.sp fz H fz1 H1) (l : SpL C.sp H1 sto') {v : V} {r : R} {c : Cl} (i : ImR K C.sp H fz1 H1 v r) (e : toCl r = some c) {n : Nat} (hn : n < σ.length) : Fm K C fz1 (ρ.set n (some c)) sto' (σ.set n (some v)) H1 := by
  have F1 := F.step s l
  refine F1.put n hn ?_ ?_
  · have g : (σ.set n (some v))[n]? = some (some v) := List.getElem?_set_self hn
    cases r with
    | d x => cases e; exact ⟨v, g, i⟩
    | f xs =>
      cases e
      obtain ⟨a, vs, rfl, h1, h2, h3, h4, h5⟩ := i
      exact ⟨a, vs, g, h1, h2, h3, h4, F.st.back h4 h5⟩
    | b xs => cases e
    | s => cases e; obtain ⟨a, ea, rfl⟩ := (show IsS C.sp v from i); exact ⟨a, ea, g⟩
    | m acc =>
      cases e
      obtain ⟨a, vs, rfl, h1, h2, h3, h4, h5⟩ := i
      exact ⟨a, vs, g, h1, h2, h3, h4, F.st.back h4 h5⟩
    | n acc => cases e
  · intro xs a ec ev j ys hj h1 h2
    subst ec
    cases r with
    | d x => cases e
    | f zs =>
      cases e
      obtain ⟨b, vs, eb, h3, h4, h5, h6, h7⟩ := i
      rw [ev] at eb; cases eb
      obtain ⟨b, ws, q1, q2, _⟩ := F.owned h1
      rw [h2] at q1; cases q1
      rw [h7] at q2; cases q2
    | b zs => cases e
    | s => cases e
    | m _ => cases e
    | n _ => cases e
end
section
variable {X : Cx} {st : Stmt} {rest : List Stmt} {e : Expr} {me : Mx} {ma mb : Ms} {tc : Mt} {pos : Pos}
theorem sl_nil : SL X [] mNil := PSs.imp pss_nil fun D σ H h => by
  obtain ⟨C, fz, ρ, sto, out, ρ', sto', F, e, k⟩ := h
  cases e
  exact k fz σ H F .refl
theorem rs_seq {K : PySem.W.Frag} {D : Ends} {σ : L2.St} {H : Hp} (h : rdS K (mSeq ma mb) D σ H) : tSeq (rdS K ma) (rdS K mb) D σ H := by
  obtain ⟨C, fz, ρ, sto, out, ρ', sto', F, e, k⟩ := h
  unfold mSeq at e
  split at e
  · rename_i ρ1 s1 e1
    refine ⟨C, fz, ρ, sto, .nx, ρ1, s1, F, e1, fun fz1 σ1 H1 F1 q1 => ?_⟩
    exact ⟨C, fz1, ρ1, s1, out, ρ', sto', F1, e, fun fz2 σ2 H2 F2 q2 => k fz2 σ2 H2 F2 (q1.trans q2)⟩
  · rename_i r hr e1
    cases e
    refine ⟨C, fz, ρ, sto, out, ρ', sto', F, e1, fun fz1 σ1 H1 F1 q1 => ?_⟩
    have q := k fz1 σ1 H1 F1 q1
    cases out with
    | nx => exact absurd rfl (hr ρ' sto')
    | bk => exact q
    | ct => exact q
    | rt r => exact q
  · cases e
theorem sl_cons (h1 : SS X st ma) (h2 : SL X rest mb) : SL X (st :: rest) (mSeq ma mb) := PSs.imp (pss_cons h1 h2) fun _ _ _ h => rs_seq h
theorem sl_one (h1 : SS X st ma) : SL X [st] ma := pss_one h1
theorem ss_never : SS X st mNever := PS.imp ps_never fun D σ H h => by
  obtain ⟨C, fz, ρ, sto, out, ρ', sto', F, e, k⟩ := h
  cases e
theorem ss_if {c : Expr} {a b : List Stmt} (hc : SB X c tc) (ha : SL X a ma) (hb : SL X b mb) : SS X (.If c a b pos) (mIfS tc ma mb) := PS.imp (ps_if hc ha hb) fun D σ H h => by
  obtain ⟨C, fz, ρ, sto, out, ρ', sto', F, e, k⟩ := h
  unfold mIfS at e
  split at e
  · rename_i s1 e1
    refine ⟨C, fz, ρ, sto, true, s1, F, e1, fun fz1 H1 st1 l1 => ?_⟩
    refine iteT ?_
    exact ⟨C, fz1, ρ, s1, out, ρ', sto', F.step st1 l1, e, fun fz2 σ2 H2 F2 q2 => k fz2 σ2 H2 F2 (st1.sts.trans q2)⟩
  · rename_i s1 e1
    refine ⟨C, fz, ρ, sto, false, s1, F, e1, fun fz1 H1 st1 l1 => ?_⟩
    refine iteF ?_
    exact ⟨C, fz1, ρ, s1, out, ρ', sto', F.step st1 l1, e, fun fz2 σ2 H2 F2 q2 => k fz2 σ2 H2 F2 (st1.sts.trans q2)⟩
  · cases e
theorem ss_ret (he : SE X e me) : SS X (.Return (some e) pos) (mRet me) := PS.imp (ps_ret he) fun D σ H h => by
  obtain ⟨C, fz, ρ, sto, out, ρ', sto', F, e, k⟩ := h
  unfold mRet at e
  split at e
  · rename_i x s1 e1
    cases e
    exact ⟨C, fz, ρ, sto, _, _, F, e1, fun v fz1 H1 st1 l1 i1 => k fz1 σ H1 (F.step st1 l1) st1.sts v (i1.early F.st)⟩
  · rename_i x s1 e1
    cases e
    exact ⟨C, fz, ρ, sto, _, _, F, e1, fun v fz1 H1 st1 l1 i1 => k fz1 σ H1 (F.step st1 l1) st1.sts v (i1.early F.st)⟩
  · cases e
theorem ss_retV {i : Nat} {x : Str} {p : Pos} (hN : X.N[i]? = some x := by rfl) (hv : Vis X.env.scope x := by first | exact Or.inl rfl | exact Or.inr (Or.inl rfl) | exact Or.inr (Or.inr rfl)) (hd : (x == ("__debug__" : Str)) = false := by decide)
    (hcd : (x == ("__classdict__" : Str)) = false := by decide) : SS X (.Return (some (.Name x p)) pos) (mRetV i) := PS.imp (ps_ret (pe_var hN hv hd hcd)) fun D σ H h => by
  obtain ⟨C, fz, ρ, sto, out, ρ', sto', F, e, k⟩ := h
  unfold mRetV at e
  split at e
  · rename_i x h1
    cases e
    obtain ⟨v, e1, e2⟩ := F.vars _ _ h1
    exact ⟨v, e1, k fz σ H F .refl v e2⟩
  · rename_i xs h1
    cases e
    obtain ⟨a, vs, e1, h2, h3, h4, h5, h6⟩ := F.owned h1
    exact ⟨_, e1, k fz σ H F .refl _ ⟨a, vs, rfl, h2, h3, h4, h5, h6⟩⟩
  · cases e
theorem PS.impI {X : Cx} {e : Stmt} {t t' : TS} (h : PS X e t) (q : ∀ D σ H, σ.length = X.N.length → t' D σ H → t D σ H) : PS X e t' := ⟨fun pins s σ H D I w => h.run pins s σ H D I (q _ _ _ I.len w)⟩
theorem rs_set {K : PySem.W.Frag} {i : Nat} {D : Ends} {σ : L2.St} {H : Hp} (hs : i < σ.length) (h : rdS K (mSet i me) D σ H) : tAsg (rdE K me) (gName i) D σ H := by
  obtain ⟨C, fz, ρ, sto, out, ρ', sto', F, e, k⟩ := h
  unfold mSet at e
  split at e
  · rename_i r s1 e1
    split at e
    · rename_i c ec
      cases e
      exact ⟨C, fz, ρ, sto, r, _, F, e1, fun v fz1 H1 st1 l1 i1 => k fz1 _ H1 (F.give st1 l1 i1 ec hs) st1.sts⟩
    · cases e
  · cases e
theorem lt_of_slot {i : Nat} {N : List Str} {x : Str} {σ : L2.St} (hi : N[i]? = some x) (hl : σ.length = N.length) : i < σ.length := by
  rw [hl]; exact (List.getElem?_eq_some_iff.mp hi).1
theorem ss_set {i : Nat} {x : Str} {p : Pos} (hN : X.N.Nodup) (hi : X.N[i]? = some x) (hx : Loc X.env.scope x) (he : SE X e me)
    (hs : swapsWith e (some (.Name x p)) pos.line X.env = pure false := by rfl) (hw : swappedStores [.Name x p] e X.env = pure none := by rfl)
    (hf : X.fn x = true ∨ X.env.scope.names.lookup x = some .local := by first | exact .inl rfl | exact .inr rfl) : SS X (.Assign [.Name x p] e pos) (mSet i me) :=
  PS.impI (ps_asg he (pg_name hN hi hx hf) hs hw) fun D σ H hl h => rs_set (lt_of_slot hi hl) h
def frz1 (ρ : Ev) (i : Nat) : Ev := match ρ[i]? with
  | some (some (.o xs)) => ρ.set i (some (.d (.list xs)))
  | _ => ρ
def frzs (ρ : Ev) : List Nat → Ev
  | [] => ρ
  | i :: r => frzs (frz1 ρ i) r
def mFrz (is : List Nat) (m : Ms) : Ms := fun ρ s => m (frzs ρ is) s
theorem Fm.frz1 {K : PySem.W.Frag} {C : Cn} {fz : Fz} {ρ : Ev} {sto : Sto} {σ : L2.St} {H : Hp} (F : Fm K C fz ρ sto σ H) (i : Nat) : ∃ fz2, Fm K C fz2 (Dh.frz1 ρ i) sto σ H ∧ Sts C.sp fz H fz2 H := by
  unfold Dh.frz1
  split
  · rename_i xs hx
    obtain ⟨a, vs, e1, h2, h3, h4, h5, h6⟩ := F.owned hx
    have hi : i < σ.length := (List.getElem?_eq_some_iff.mp e1).1
    refine ⟨fun b => fz b ∨ b = a, ⟨by rw [List.length_set, F.len], F.st.freeze h6 h5 h2, ⟨F.bs.spl, fun c ec q => ?_, fun b q z => ?_⟩, fun j c h => ?_, fun j k xs ys b hjk q1 q2 => ?_⟩, ⟨fun b q => .inl q, fun _ _ h _ _ => h⟩⟩
    · rcases q with q | q
      · exact F.bs.nsp c ec q
      · exact h5 (by subst q; exact ec.symm)
    · rcases q with q | q
      · exact F.bs.trk b q z
      · subst q; rw [h2] at z; cases z
    · by_cases ej : j = i
      · subst ej
        rw [List.getElem?_set_self (by rw [F.len]; exact hi)] at h
        cases h
        exact ⟨_, e1, .lst (.inl ⟨h2, .inr rfl⟩) (h3.fzm fun b q => .inl q)⟩
      · rw [List.getElem?_set_ne (Ne.symm ej)] at h
        have q := F.vars j c h
        cases c with
        | d x => obtain ⟨u, e1, e2⟩ := q; exact ⟨u, e1, e2.fzm fun b q => .inl q⟩
        | o ys =>
          obtain ⟨b, ws, g1, g2, g3, g4, g5, g6⟩ := q
          refine ⟨b, ws, g1, g2, g3.fzm fun b q => .inl q, fun z => ?_, g5, g6⟩
          rcases z with z | z
          · exact g4 z
          · subst z; exact F.sep j i ys xs _ ej h hx g1 e1
        | s => exact q
        | m acc =>
          obtain ⟨b, ws, g1, g2, g3, g4, g5, g6⟩ := q
          refine ⟨b, ws, g1, g2, ⟨g3.1, g3.2.fzm fun b q => .inl q⟩, fun z => ?_, g5, g6⟩
          rcases z with z | z
          · exact g4 z
          · subst z; rw [h2] at g2; cases g2
    · have ej : j ≠ i := fun z => by
        subst z
        rw [List.getElem?_set_self (by rw [F.len]; exact hi)] at q1
        cases q1
      have ek : k ≠ i := fun z => by
        subst z
        rw [List.getElem?_set_self (by rw [F.len]; exact hi)] at q2
        cases q2
      rw [List.getElem?_set_ne (Ne.symm ej)] at q1
      rw [List.getElem?_set_ne (Ne.symm ek)] at q2
      exact F.sep j k xs ys b hjk q1 q2
  · exact ⟨fz, F, .refl⟩
theorem Fm.frzs {K : PySem.W.Frag} {C : Cn} {sto : Sto} {σ : L2.St} {H : Hp} : ∀ (is : List Nat) {fz : Fz} {ρ : Ev}, Fm K C fz ρ sto σ H → ∃ fz2, Fm K C fz2 (Dh.frzs ρ is) sto σ H ∧ Sts C.sp fz H fz2 H
  | [], fz, ρ, F => ⟨fz, F, .refl⟩
  | i :: r, fz, ρ, F => by
    obtain ⟨fz1, F1, s1⟩ := F.frz1 i
    obtain ⟨fz2, F2, s2⟩ := Fm.frzs r F1
    exact ⟨fz2, F2, s1.trans s2⟩
theorem ss_frz (is : List Nat) (h : SS X st ma) : SS X st (mFrz is ma) := PS.imp h fun D σ H h => by
  obtain ⟨C, fz, ρ, sto, out, ρ', sto', F, e, k⟩ := h
  obtain ⟨fz2, F2, s2⟩ := F.frzs is
  exact ⟨C, fz2, _, sto, out, ρ', sto', F2, e, fun fz3 σ3 H3 F3 s3 => k fz3 σ3 H3 F3 (s2.trans s3)⟩
end
end Dh
namespace Dh
open PySem PySem.Spec L2
section
variable {K : PySem.W.Frag} {C : Cn} {fz fz1 : Fz} {ρ : Ev} {sto sto' : Sto} {σ : L2.St} {H H1 : Hp}
/-- an own list is written -/
theorem Fm.write (F : Fm K C fz ρ sto σ H) {i : Nat} {xs ys : List PyData} {a : Addr} {ws : List V} (h : ρ[i]? = some (some (.o xs))) (ha : σ[i]? = some (some (.ref a))) (im : ImA K fz H ws ys) :
    Fm K C fz (ρ.set i (some (.o ys))) sto σ (upd H a (.lst ws)) ∧ Sts C.sp fz H fz (upd H a (.lst ws)) := by
  obtain ⟨b, vs, e1, h2, h3, h4, h5, h6⟩ := F.owned h
  rw [ha] at e1; cases e1
  have hi : i < ρ.length := (List.getElem?_eq_some_iff.mp h).1
  have S : Sts C.sp fz H fz (upd H a (.lst ws)) := ⟨fun _ q => q, fun b o q n c => by
    have : b ≠ a := fun z => by
      subst z
      rcases c with c | c
      · exact h4 c
      · rw [h2] at q; cases q; exact c.1 _ rfl
    rw [upd_ne this]; exact q⟩
  refine ⟨⟨by rw [List.length_set, F.len], ⟨F.st.mono, fun b o q n => ?_, F.st.new, fun t b q z => ?_⟩, ⟨?_, F.bs.nsp, fun b q z => ?_⟩, fun j c q => ?_, fun j k us zs b hjk q1 q2 => ?_⟩, S⟩
  · have : b ≠ a := fun z => by subst z; rw [h6] at q; cases q
    rw [upd_ne this]; exact F.st.ext b o q n
  · by_cases e : b = a
    · subst e; rw [upd_same] at z; cases z
    · rw [upd_ne e] at z; exact F.st.trk t b q z
  · exact F.bs.spl.upd h5
  · by_cases e : b = a
    · subst e; rw [upd_same] at z; cases z
    · rw [upd_ne e] at z; exact F.bs.trk b q z
  · by_cases ej : j = i
    · subst ej
      rw [List.getElem?_set_self hi] at q
      cases q
      exact ⟨a, ws, ha, upd_same, im.sts S F.bs, h4, h5, h6⟩
    · rw [List.getElem?_set_ne (Ne.symm ej)] at q
      have g := F.vars j c q
      cases c with
      | d x => obtain ⟨u, g1, g2⟩ := g; exact ⟨u, g1, g2.sts S F.bs⟩
      | o us =>
        obtain ⟨b, ts, g1, g2, g3, g4, g5, g6⟩ := g
        have : b ≠ a := fun z => by subst z; exact F.sep j i us xs _ ej q h g1 ha
        exact ⟨b, ts, g1, by rw [upd_ne this]; exact g2, g3.sts S F.bs, g4, g5, g6⟩
      | s => exact g
      | m acc =>
        obtain ⟨b, ts, g1, g2, g3, g4, g5, g6⟩ := g
        have : b ≠ a := fun z => by subst z; rw [h2] at g2; cases g2
        exact ⟨b, ts, g1, by rw [upd_ne this]; exact g2, ⟨g3.1, g3.2.sts S F.bs⟩, g4, g5, g6⟩
  · by_cases ej : j = i
    · subst ej
      rw [List.getElem?_set_ne hjk] at q2
      exact F.sep j k xs zs b hjk h q2
    · rw [List.getElem?_set_ne (Ne.symm ej)] at q1
      by_cases ek : k = i
      · subst ek
        exact F.sep j k us xs b hjk q1 h
      · rw [List.getElem?_set_ne (Ne.symm ek)] at q2
        exact F.sep j k us zs b hjk q1 q2
/-- the spring is written -/
theorem Fm.spring (F : Fm K C fz ρ sto σ H) (sto' : Sto) {p : Addr} (hp : C.sp = some p) : Fm K C fz ρ sto' σ (upd H p (.lst (sto'.map V.int))) ∧ Sts C.sp fz H fz (upd H p (.lst (sto'.map V.int))) := by
  have ne : ∀ b, some b ≠ C.sp → b ≠ p := fun b n e => n (by rw [e, hp])
  have S : Sts C.sp fz H fz (upd H p (.lst (sto'.map V.int))) := ⟨fun _ q => q, fun b o q n _ => by rw [upd_ne (ne b n)]; exact q⟩
  refine ⟨⟨F.len, ⟨F.st.mono, fun b o q n => by rw [upd_ne (ne b n)]; exact F.st.ext b o q n, F.st.new, fun t b q z => ?_⟩, ⟨fun b eb => ?_, F.bs.nsp, fun b q z => ?_⟩, fun j c q => ?_, F.sep⟩, S⟩
  · by_cases e : b = p
    · subst e; rw [upd_same] at z; cases z
    · rw [upd_ne e] at z; exact F.st.trk t b q z
  · rw [hp] at eb; cases eb; exact upd_same
  · by_cases e : b = p
    · subst e; rw [upd_same] at z; cases z
    · rw [upd_ne e] at z; exact F.bs.trk b q z
  · have g := F.vars j c q
    cases c with
    | d x => obtain ⟨u, g1, g2⟩ := g; exact ⟨u, g1, g2.sts S F.bs⟩
    | o us =>
      obtain ⟨b, ts, g1, g2, g3, g4, g5, g6⟩ := g
      exact ⟨b, ts, g1, by rw [upd_ne (ne b g5)]; exact g2, g3.sts S F.bs, g4, g5, g6⟩
    | s => exact g
    | m acc =>
      obtain ⟨b, ts, g1, g2, g3, g4, g5, g6⟩ := g
      exact ⟨b, ts, g1, by rw [upd_ne (ne b g5)]; exact g2, ⟨g3.1, g3.2.sts S F.bs⟩, g4, g5, g6⟩
/-- what was given is kept: the frame, with more frozen -/
theorem Fm.keep (F : Fm K C fz ρ sto σ H) (s : Stp C.sp fz H fz1 H1) (l : SpL C.sp H1 sto') {v : V} {r : R} {x : PyData} (i : ImR K C.sp H fz1 H1 v r) (e : toD r = some x) : ∃ fz2, Fm K C fz2 ρ sto' σ H1 ∧ Stp C.sp fz H fz2 H1 ∧ Im K fz2 H1 v x := by
  obtain ⟨fz2, s2, B2, g, im⟩ := i.keep e s (F.bs.step s l)
  exact ⟨fz2, F.step s2 l, s2, im⟩
end
def mApp (i : Nat) (a : Mx) : Ms := fun ρ s => match a ρ s with
  | some (r, s1) => match toD r, ρ[i]? with
    | some x, some (some (.o xs)) => if xs.length < sizeLine then some (.nx, ρ.set i (some (.o (xs ++ [x]))), s1) else none
    | _, _ => none
  | none => none
def mPut (i : Nat) (ix a : Mx) : Ms := fun ρ s => match a ρ s with
  | some (r, s1) => match ix ρ s1 with
    | some (.d (.int k), s2) => match ρ[i]? with
      | some (some (.o xs)) => match toD r, ixN xs.length k with
        | some x, some j => some (.nx, ρ.set i (some (.o (xs.set j x))), s2)
        | _, _ => none
      | some (some .s) => match r, ixN s2.length k with
        | .d (.int v), some j => some (.nx, ρ, s2.set j v)
        | _, _ => none
      | _ => none
    | _ => none
  | none => none
section
variable {X : Cx} {st : Stmt} {rest : List Stmt} {e : Expr} {me mi : Mx} {ma mb : Ms} {tc : Mt} {pos : Pos}
theorem ss_append {i : Nat} {x : Str} {p apos cpos : Pos} (he : SE X e me) (hN : X.N[i]? = some x := by rfl) (hv : Vis X.env.scope x := by first | exact Or.inl rfl | exact Or.inr (Or.inl rfl) | exact Or.inr (Or.inr rfl))
    (hse : starEach [e] X.env = (false, eval e X.env) :: starEach [] X.env := by rfl)
    (hfew : ((backTo cpos (starEach [e] X.env)).all (fun x => !x.1) && (backToKw cpos (keywordEach [] X.env)).all (fun x => x.1.isSome)
      && decide (([e] : List Expr).length + ([] : List Keyword).length + (if ([] : List Keyword).isEmpty then 0 else 1) < 30)) = true := by rfl)
    (hline : (apos.endLine == cpos.line) = true := by rfl)
    (hd : (x == ("__debug__" : Str)) = false := by decide) (hcd : (x == ("__classdict__" : Str)) = false := by decide) (hbase : attributeBase (.Name x p) "append" X.env (eval (.Name x p) X.env) = eval (.Name x p) X.env := by rfl)
    (hs : swapsWith (.Call (.Attribute (.Name x p) "append" apos) [e] [] cpos) none pos.line X.env = pure false := by rfl) : SS X (.Expr (.Call (.Attribute (.Name x p) "append" apos) [e] [] cpos) pos) (mApp i me) :=
  PS.imp (ps_expr (pe_bm PySem.F.plainAttrs_list PySem.F.slot_list_append PySem.F.type_list_append mt_append (pe_var hN hv hd hcd) (pa_cons he pa_nil hse) hbase hfew hline hse) hs) fun D σ H h => by
  obtain ⟨C, fz, ρ, sto, out, ρ', sto', F, e, k⟩ := h
  unfold mApp at e
  split at e
  · rename_i r s1 e1
    split at e
    · rename_i x xs er ex
      split at e
      · rename_i hz
        cases e
        obtain ⟨a, vs, ha, h2, h3, h4, h5, h6⟩ := F.owned ex
        refine ⟨_, ha, .inl ⟨rfl, vs, .inl (.inl h2)⟩, C, fz, ρ, sto, r, _, F, e1, fun v fz1 H1 st1 l1 i1 => ?_⟩
        obtain ⟨fz2, F2, st2, im⟩ := F.keep st1 l1 i1 er
        obtain ⟨a', vs', ha', q2, q3, q4, q5, q6⟩ := F2.owned ex
        rw [ha] at ha'; cases ha'
        refine ⟨a, vs', v, rfl, rfl, q2, by rw [q3.length]; exact hz, ?_⟩
        obtain ⟨F3, S3⟩ := F2.write (ys := xs ++ [x]) ex ha (q3.append (.cons im .nil))
        exact k fz2 σ _ F3 (st2.sts.trans S3)
      · cases e
    · cases e
  · cases e
/-- x[i] = e; hg is pg_sub (pv i) hix set_list -/
theorem ss_put {i : Nat} {tg : Expr} (he : SE X e me) (hg : PG X tg (gSub (tVar i) (rdE X.K mi) rSetL))
    (hs : swapsWithSole [tg] e pos.line X.env = pure false := by rfl) (hw : swappedStores [tg] e X.env = pure none := by rfl) (h1 : (assignEach [tg] X.env).map (·.2) = [assign tg X.env] := by rfl) : SS X (.Assign [tg] e pos) (mPut i mi me) :=
  PS.imp (ps_asg he hg hs hw h1) fun D σ H h => by
  obtain ⟨C, fz, ρ, sto, out, ρ', sto', F, e, k⟩ := h
  unfold mPut at e
  split at e
  · rename_i r s1 e1
    split at e
    · rename_i kk s2 e2
      refine ⟨C, fz, ρ, sto, r, s1, F, e1, fun v fz1 H1 st1 l1 i1 => ?_⟩
      have F1 := F.step st1 l1
      split at e
      · rename_i xs ex
        split at e
        · rename_i x j er ej
          cases e
          obtain ⟨a, vs, ha, h2, h3, h4, h5, h6⟩ := F.owned ex
          refine ⟨_, ha, C, fz1, ρ, s1, _, _, F1, e2, fun w fz2 H2 st2 l2 i2 => ?_⟩
          cases i2
          obtain ⟨fz3, F3, st3, im⟩ := F.keep (st1.trans st2) l2 (i1.stp st2 F1.bs) er
          obtain ⟨a', vs', ha', q2, q3, q4, q5, q6⟩ := F3.owned ex
          rw [ha] at ha'; cases ha'
          refine ⟨a, vs', kk, j, rfl, rfl, q2, by rw [q3.length]; exact ej, ?_⟩
          obtain ⟨F4, S4⟩ := F3.write (ys := xs.set j x) ex ha (q3.set j im)
          exact k fz3 σ _ F4 (st3.sts.trans S4)
        · cases e
      · rename_i ex
        split at e
        · rename_i v' j ej
          cases e
          obtain ⟨p, hp, hs⟩ := F.vars _ _ ex
          refine ⟨_, hs, C, fz1, ρ, s1, _, _, F1, e2, fun w fz2 H2 st2 l2 i2 => ?_⟩
          cases i2
          cases i1
          refine ⟨p, _, kk, j, rfl, rfl, l2 p hp, by rw [List.length_map]; exact ej, ?_⟩
          obtain ⟨F4, S4⟩ := (F1.step st2 l2).spring (s2.set j v') hp
          rw [← List.map_set]
          exact k fz2 σ _ F4 ((st1.trans st2).sts.trans S4)
        · cases e
      · cases e
    · cases e
  · cases e
end
abbrev Gx := PyData → Ev → Option Ev
def rdG (K : PySem.W.Frag) (is : List Nat) (g : Gx) : TG := fun v σ H Q => ∃ (C : Cn) (fz : Fz) (ρ : Ev) (sto : Sto) (x : PyData) (ρ' : Ev), Fm K C fz ρ sto σ H ∧ Im K fz H v x ∧ g x ρ = some ρ' ∧
  ∀ σ', σ'.length = σ.length → (∀ i, i ∉ is → σ'[i]? = σ[i]?) → Fm K C fz ρ' sto σ' H → Q σ' H
theorem PG.impI {X : Cx} {e : Expr} {t t' : TG} (h : PG X e t) (q : ∀ v σ H Q, σ.length = X.N.length → t' v σ H Q → t v σ H Q) : PG X e t' := ⟨fun pins s σ H v u Q I r w => h.run pins s σ H v u Q I r (q _ _ _ _ I.len w)⟩
theorem PGs.impI {X : Cx} {e : List Expr} {t t' : TGs} (h : PGs X e t) (q : ∀ v σ H Q, σ.length = X.N.length → t' v σ H Q → t v σ H Q) : PGs X e t' := ⟨fun pins s σ H v u Q I r w => h.run pins s σ H v u Q I r (q _ _ _ _ I.len w)⟩
def SG (X : Cx) (tg : Expr) (is : List Nat) (g : Gx) : Prop := PG X tg (rdG X.K is g)
abbrev Gxs := List PyData → Ev → Option Ev
def rdGs (K : PySem.W.Frag) (is : List Nat) (g : Gxs) : TGs := fun vs σ H Q => ∃ (C : Cn) (fz : Fz) (ρ : Ev) (sto : Sto) (xs : List PyData) (ρ' : Ev), Fm K C fz ρ sto σ H ∧ ImA K fz H vs xs ∧ g xs ρ = some ρ' ∧
  ∀ σ', σ'.length = σ.length → (∀ i, i ∉ is → σ'[i]? = σ[i]?) → Fm K C fz ρ' sto σ' H → Q σ' H
def SGs (X : Cx) (tg : List Expr) (is : List Nat) (g : Gxs) : Prop := PGs X tg (rdGs X.K is g)
def gN (i : Nat) : Gx := fun x ρ => some (ρ.set i (some (.d x)))
def gT (n : Nat) (g : Gxs) : Gx := fun x ρ => match x with
  | .tuple xs => if xs.length = n then g xs ρ else none
  | _ => none
def gsNil : Gxs := fun xs ρ => match xs with | [] => some ρ | _ => none
def gsCons (g : Gx) (r : Gxs) : Gxs := fun xs ρ => match xs with
  | x :: ys => match g x ρ with | some ρ1 => r ys ρ1 | none => none
  | [] => none
theorem Fm.name {K : PySem.W.Frag} {C : Cn} {fz : Fz} {ρ : Ev} {sto : Sto} {σ : L2.St} {H : Hp} (F : Fm K C fz ρ sto σ H) {v : V} {x : PyData} (im : Im K fz H v x) {i : Nat} (hi : i < σ.length) : Fm K C fz (ρ.set i (some (.d x))) sto (σ.set i (some v)) H :=
  F.put i hi ⟨v, List.getElem?_set_self hi, im⟩ fun xs a e => nomatch e
section
variable {X : Cx} {tg : Expr} {tgs : List Expr} {is js : List Nat} {g : Gx} {gs : Gxs} {pos : Pos}
theorem sg_name {i : Nat} {x : Str} (hN : X.N.Nodup) (hi : X.N[i]? = some x := by rfl) (hx : Loc X.env.scope x := by first | exact Or.inl rfl | exact Or.inr rfl)
    (hf : X.fn x = true ∨ X.env.scope.names.lookup x = some .local := by first | exact .inl rfl | exact .inr rfl) : SG X (.Name x pos) [i] (gN i) := PG.impI (pg_name hN hi hx hf) fun v σ H Q hl h => by
  obtain ⟨C, fz, ρ, sto, x, ρ', F, im, e, k⟩ := h
  cases e
  exact k _ (by rw [List.length_set]) (fun j hj => List.getElem?_set_ne fun z => hj (by rw [z]; exact List.mem_singleton.mpr rfl)) (F.name im (lt_of_slot hi hl))
theorem sgs_nil : SGs X [] [] gsNil := PGs.impI pgs_nil fun v σ H Q hl h => by
  obtain ⟨C, fz, ρ, sto, x, ρ', F, im, e, k⟩ := h
  cases im with
  | nil => cases e; exact ⟨rfl, k σ rfl (fun _ _ => rfl) F⟩
  | cons _ _ => cases e
theorem sgs_cons (h1 : SG X tg is g) (h2 : SGs X tgs js gs) (hs : (assignEach (tg :: tgs) X.env).map (·.2) = assign tg X.env :: (assignEach tgs X.env).map (·.2) := by rfl) : SGs X (tg :: tgs) (is ++ js) (gsCons g gs) := PGs.impI (pgs_cons h1 h2 hs) fun v σ H Q hl h => by
  obtain ⟨C, fz, ρ, sto, x, ρ', F, im, e, k⟩ := h
  cases im with
  | nil => cases e
  | cons a b =>
    unfold gsCons at e
    simp only at e
    split at e
    · rename_i ρ1 e1
      refine ⟨_, _, rfl, C, fz, ρ, sto, _, ρ1, F, a, e1, fun σ1 l1 o1 F1 => ?_⟩
      refine ⟨C, fz, ρ1, sto, _, ρ', F1, b, e, fun σ2 l2 o2 F2 => ?_⟩
      refine k σ2 (l2.trans l1) (fun i hi => ?_) F2
      rw [List.mem_append, not_or] at hi
      exact (o2 i hi.2).trans (o1 i hi.1)
    · cases e
theorem sg_tup {n k : Nat} (hc : X.calm = true) (h : SGs X tgs is gs) (hn : (assignEach tgs X.env).length = n := by rfl) (hst : (assignEach tgs X.env).findIdx? (·.1) = none := by rfl) : SG X (.Tuple tgs k pos) is (gT n gs) := PG.impI (pg_tup hc h hn hst) fun v σ H Q hl h => by
  obtain ⟨C, fz, ρ, sto, x, ρ', F, im, e, k⟩ := h
  unfold gT at e
  split at e
  · rename_i xs
    split at e
    · rename_i hz
      cases im with
      | tup hs ha => exact ⟨_, _, rfl, hs.sq, by rw [ha.length]; exact hz, C, fz, ρ, sto, xs, ρ', F, ha, e, k⟩
    · cases e
  · cases e
/-- target = value -/
def mAsg (g : Gx) (a : Mx) : Ms := fun ρ s => match a ρ s with
  | some (r, s1) => match toD r with
    | some x => match g x ρ with
      | some ρ1 => some (.nx, ρ1, s1)
      | none => none
    | none => none
  | none => none
theorem ss_asg {e : Expr} {me : Mx} (he : SE X e me) (hg : SG X tg is g) (hs : swapsWithSole [tg] e pos.line X.env = pure false := by rfl) (hw : swappedStores [tg] e X.env = pure none := by rfl) (h1 : (assignEach [tg] X.env).map (·.2) = [assign tg X.env] := by rfl) : SS X (.Assign [tg] e pos) (mAsg g me) := PS.imp (ps_asg he hg hs hw h1) fun D σ H h => by
  obtain ⟨C, fz, ρ, sto, out, ρ', sto', F, e, k⟩ := h
  unfold mAsg at e
  split at e
  · rename_i r s1 e1
    split at e
    · rename_i x ex
      split at e
      · rename_i ρ1 eg
        cases e
        refine ⟨C, fz, ρ, sto, r, _, F, e1, fun v fz1 H1 st1 l1 i1 => ?_⟩
        obtain ⟨fz2, F2, st2, im⟩ := F.keep st1 l1 i1 ex
        exact ⟨C, fz2, ρ, _, x, ρ', F2, im, eg, fun σ1 _ _ F3 => k fz2 σ1 H1 F3 st2.sts⟩
      · cases e
    · cases e
  · cases e
/-- a, b = e1, e2 (two names of the def) -/
def mPar (i j : Nat) (a : Ma) : Ms := fun ρ s => match a ρ s with
  | some ([r, q], s1) => match toCl r, toCl q with
    | some c, some d => match c, d with
      | .o _, .o _ => none
      | c, d => some (.nx, (ρ.set i (some c)).set j (some d), s1)
    | _, _ => none
  | _ => none
theorem ss_par {i j : Nat} {x y : Str} {a b : Expr} {m : Ma} {px py pt : Pos} {kt k2 pt2} (hc : X.calm = true) (hN : X.N.Nodup) (ha : SA X [a, b] m) (hi : X.N[i]? = some x := by rfl) (hj : X.N[j]? = some y := by rfl) (hij : i ≠ j := by decide)
    (hx : X.env.scope.names.lookup x = some .local := by rfl) (hy : X.env.scope.names.lookup y = some .local := by rfl)
    (hw : swappedStores [.Tuple [.Name x px, .Name y py] kt pt] (.Tuple [a, b] k2 pt2) X.env = pure (some [x, y]) := by rfl)
    (hs : swapsWithSole [.Tuple [.Name x px, .Name y py] kt pt] (.Tuple [a, b] k2 pt2) pos.line X.env = pure false := by rfl) :
    SS X (.Assign [.Tuple [.Name x px, .Name y py] kt pt] (.Tuple [a, b] k2 pt2) pos) (mPar i j m) := PS.impI (ps_par hc hN hi hj hij hx hy ha hw hs) fun D σ H hl h => by
  obtain ⟨C, fz, ρ, sto, out, ρ', sto', F, e, k⟩ := h
  unfold mPar at e
  split at e
  · rename_i r q s1 e1
    split at e
    · rename_i c d ec ed
      split at e
      · cases e
      · rename_i no
        cases e
        refine ⟨C, fz, ρ, sto, _, _, F, e1, fun vs fz1 H1 st1 l1 i1 => ?_⟩
        cases i1 with
        | cons iv t =>
          cases t with
          | cons iw t =>
            cases t
            rename_i v w
            refine ⟨v, w, rfl, ?_⟩
            have hi' := lt_of_slot hi hl
            have hj' := lt_of_slot hj hl
            have F1 := F.give st1 l1 iv ec hi'
            -- the second one, its address apart from the first one's
            refine k fz1 _ H1 (F1.put j (by rw [List.length_set]; exact hj') ?_ ?_) st1.sts
            · have g : ((σ.set i (some v)).set j (some w))[j]? = some (some w) := List.getElem?_set_self (by rw [List.length_set]; exact hj')
              cases q with
              | d x => cases ed; exact ⟨w, g, iw⟩
              | f xs =>
                cases ed
                obtain ⟨a, vs, rfl, h1, h2, h3, h4, h5⟩ := iw
                exact ⟨a, vs, g, h1, h2, h3, h4, F.st.back h4 h5⟩
              | b xs => cases ed
              | s => cases ed; obtain ⟨a, ea, rfl⟩ := (show IsS C.sp w from iw); exact ⟨a, ea, g⟩
              | m acc =>
                cases ed
                obtain ⟨a, vs, rfl, h1, h2, h3, h4, h5⟩ := iw
                exact ⟨a, vs, g, h1, h2, h3, h4, F.st.back h4 h5⟩
              | n acc => cases ed
            · intro xs a edx ew n ys hn h1 h2
              subst edx
              cases q with
              | d x => cases ed
              | b x => cases ed
              | s => cases ed
              | m _ => cases ed
              | n _ => cases ed
              | f zs =>
                cases ed
                obtain ⟨b, vs, eb, h3, h4, h5, h6, h7⟩ := iw
                rw [ew] at eb; cases eb
                by_cases en : n = i
                · subst en
                  rw [List.getElem?_set_self (by rw [F.len]; exact hi')] at h1
                  cases h1
                  exact no ys _ rfl rfl
                · rw [List.getElem?_set_ne (Ne.symm en)] at h1 h2
                  obtain ⟨b, ws, q1, q2, _⟩ := F.owned h1
                  rw [h2] at q1; cases q1
                  rw [h7] at q2; cases q2
    · cases e
  · cases e
end
end Dh
namespace Dh
open PySem PySem.Spec L2
abbrev Mi := Ev → Sto → Option (List PyData × Sto)
/-- J goes through the data xs, for as long as what is frozen stands -/
structure Goes (K : PySem.W.Frag) (sp : Option Addr) (fz : Fz) (H : Hp) (J : It) (xs : List PyData) : Prop where
  go : ∀ (i : Nat) fz1 H1 sto, i < xs.length → Sts sp fz H fz1 H1 → Bs sp fz1 H1 sto → J.go i H1
  stop : ∀ fz1 H1 sto, Sts sp fz H fz1 H1 → Bs sp fz1 H1 sto → J.stop xs.length H1
  yld : ∀ (i : Nat) (x : PyData) fz1 H1 sto v H2, xs[i]? = some x → Sts sp fz H fz1 H1 → Bs sp fz1 H1 sto → J.yld i H1 v H2 → Stp sp fz1 H1 fz1 H2 ∧ SpL sp H2 sto ∧ Im K fz1 H2 v x
def rdI (K : PySem.W.Frag) (m : Mi) : TI := fun σ H R => ∃ (C : Cn) (fz : Fz) (ρ : Ev) (sto : Sto) (xs : List PyData) (sto' : Sto), Fm K C fz ρ sto σ H ∧ m ρ sto = some (xs, sto') ∧
  ∀ J fz' H', Stp C.sp fz H fz' H' → SpL C.sp H' sto' → Goes K C.sp fz' H' J xs → R J H'
def SI (X : Cx) (tg iter : Expr) (m : Mi) : Prop := PI X tg iter (rdI X.K m)
theorem PI.imp {X : Cx} {tg e : Expr} {t t' : TI} (h : PI X tg e t) (q : ∀ σ H R, t' σ H R → t σ H R) : PI X tg e t' := ⟨fun pins s σ H R I w => h.run pins s σ H R I (q _ _ _ w)⟩
def forRun (g : Gx) (body : Ms) : List PyData → Ms
  | [] => fun ρ s => some (.nx, ρ, s)
  | x :: xs => fun ρ s => match g x ρ with
    | none => none
    | some ρ1 => match body ρ1 s with
      | some (.nx, ρ2, s2) => forRun g body xs ρ2 s2
      | some (.ct, ρ2, s2) => forRun g body xs ρ2 s2
      | some (.bk, ρ2, s2) => some (.nx, ρ2, s2)
      | some (.rt r, ρ2, s2) => some (.rt r, ρ2, s2)
      | none => none
def mFor (it : Mi) (g : Gx) (body : Ms) : Ms := fun ρ s => match it ρ s with
  | some (xs, s1) => forRun g body xs ρ s1
  | none => none
section
variable {X : Cx} {tg iter : Expr} {is : List Nat} {g : Gx} {mi : Mi} {body : List Stmt} {mb : Ms} {pos : Pos}
theorem rs_for {K : PySem.W.Frag} {D : Ends} {σ : L2.St} {H : Hp} (h : rdS K (mFor mi g mb) D σ H) : tFor (rdI K mi) (rdG K is g) (rdS K mb) D σ H := by
  obtain ⟨C, fz, ρ, sto, out, ρ', sto', F, e, k⟩ := h
  unfold mFor at e
  split at e
  · rename_i xs s1 e1
    refine ⟨C, fz, ρ, sto, xs, s1, F, e1, fun J fz1 H1 st1 l1 G => ?_⟩
    have F1 := F.step st1 l1
    let W : Nat → Nat → L2.St → Hp → Prop := fun i m σ' H' => m = xs.length - i ∧ i ≤ xs.length ∧ ∃ fz2 ρ2 s2, Fm K C fz2 ρ2 s2 σ' H' ∧ Sts C.sp fz1 H1 fz2 H' ∧ forRun g mb (xs.drop i) ρ2 s2 = some (out, ρ', sto')
    refine ⟨W, ⟨xs.length, by simp, Nat.zero_le _, fz1, ρ, s1, F1, .refl, e⟩, ?_⟩
    rintro i m σ2 H2 ⟨rfl, hi, fz2, ρ2, s2, F2, S2, e2⟩
    by_cases hlt : i < xs.length
    · have hx : xs[i]? = some xs[i] := List.getElem?_eq_getElem hlt
      rw [List.drop_eq_getElem_cons hlt] at e2
      unfold forRun at e2
      split at e2
      · cases e2
      · rename_i ρ3 e3
        refine .inr ⟨G.go i fz2 H2 s2 hlt S2 F2.bs, fun σ' H' => W (i + 1) (xs.length - (i + 1)) σ' H', fun σ' H' w => ⟨xs.length - (i + 1), by omega, w⟩, fun v H3 y => ?_⟩
        obtain ⟨st3, l3, im⟩ := G.yld i _ fz2 H2 s2 v H3 hx S2 F2.bs y
        refine ⟨C, fz2, ρ2, s2, xs[i], ρ3, F2.step st3 l3, im, e3, fun σ4 hl4 ho4 F4 => ?_⟩
        have S3 := S2.trans st3.sts
        split at e2
        · rename_i ρ5 s5 e5
          refine ⟨C, fz2, ρ3, s2, .nx, ρ5, s5, F4, e5, fun fz6 σ6 H6 F6 S6 => ?_⟩
          exact ⟨rfl, hlt, fz6, ρ5, s5, F6, S3.trans S6, e2⟩
        · rename_i ρ5 s5 e5
          refine ⟨C, fz2, ρ3, s2, .ct, ρ5, s5, F4, e5, fun fz6 σ6 H6 F6 S6 => ?_⟩
          exact ⟨rfl, hlt, fz6, ρ5, s5, F6, S3.trans S6, e2⟩
        · rename_i ρ5 s5 e5
          cases e2
          refine ⟨C, fz2, ρ3, s2, .bk, ρ', sto', F4, e5, fun fz6 σ6 H6 F6 S6 => ?_⟩
          exact k fz6 σ6 H6 F6 (st1.sts.trans (S3.trans S6))
        · rename_i r ρ5 s5 e5
          cases e2
          refine ⟨C, fz2, ρ3, s2, .rt r, ρ', sto', F4, e5, fun fz6 σ6 H6 F6 S6 => ?_⟩
          exact k fz6 σ6 H6 F6 (st1.sts.trans (S3.trans S6))
        · cases e2
    · have ei : i = xs.length := by omega
      subst ei
      rw [List.drop_length] at e2
      cases e2
      exact .inl ⟨G.stop fz2 H2 _ S2 F2.bs, k fz2 σ2 H2 F2 (st1.sts.trans S2)⟩
  · cases e
theorem ss_for (hp : PassesOwn (model X.prog X.w) X.A X.env X.xe) (hc : X.calm = true) (hi : SI X tg iter mi) (hg : SG X tg is g) (hb : SL X body mb) (hs : ∀ x, foldedSetIterable iter X.env x = pure x := by intro _; rfl) :
    SS X (.For tg iter body [] pos) (mFor mi g mb) := PS.imp (ps_for hp hc hi hg hb hs) fun _ _ _ h => rs_for h
end
def whRun (c : Mt) (body : Ms) : Nat → Ms
  | 0 => fun _ _ => none
  | n + 1 => fun ρ s => match c ρ s with
    | none => none
    | some (false, s1) => some (.nx, ρ, s1)
    | some (true, s1) => match body ρ s1 with
      | some (.nx, ρ2, s2) => whRun c body n ρ2 s2
      | some (.ct, ρ2, s2) => whRun c body n ρ2 s2
      | some (.bk, ρ2, s2) => some (.nx, ρ2, s2)
      | some (.rt r, ρ2, s2) => some (.rt r, ρ2, s2)
      | none => none
theorem whRun_eq {c : Mt} {body : Ms} {n : Nat} {ρ : Ev} {s : Sto} : whRun c body (n + 1) ρ s = (match c ρ s with
    | none => none
    | some (false, s1) => some (.nx, ρ, s1)
    | some (true, s1) => match body ρ s1 with
      | some (.nx, ρ2, s2) => whRun c body n ρ2 s2
      | some (.ct, ρ2, s2) => whRun c body n ρ2 s2
      | some (.bk, ρ2, s2) => some (.nx, ρ2, s2)
      | some (.rt r, ρ2, s2) => some (.rt r, ρ2, s2)
      | none => none) := rfl
theorem whRun_succ {c : Mt} {body : Ms} : ∀ {n : Nat} {ρ : Ev} {s : Sto} {r : Out × Ev × Sto}, whRun c body n ρ s = some r → whRun c body (n + 1) ρ s = some r
  | 0, _, _, _, h => by cases h
  | n + 1, ρ, s, r, h => by
    rw [whRun_eq] at h
    rw [whRun_eq]
    cases hc : c ρ s with
    | none => rw [hc] at h; cases h
    | some p =>
      obtain ⟨k, s1⟩ := p
      rw [hc] at h
      cases k with
      | false => exact h
      | true =>
        cases hb : body ρ s1 with
        | none => simp only [hb] at h; cases h
        | some q =>
          obtain ⟨out, ρ2, s2⟩ := q
          simp only [hb] at h ⊢
          cases out with
          | nx => exact whRun_succ h
          | ct => exact whRun_succ h
          | bk => exact h
          | rt r' => exact h
theorem whRun_le {c : Mt} {body : Ms} {n m : Nat} (h : n ≤ m) {ρ : Ev} {s : Sto} {r : Out × Ev × Sto} (e : whRun c body n ρ s = some r) : whRun c body m ρ s = some r := by
  induction h with
  | refl => exact e
  | step _ ih => exact whRun_succ ih
open Classical in
noncomputable def mWhile (c : Mt) (body : Ms) : Ms := fun ρ s => if h : ∃ (n : Nat) (r : Out × Ev × Sto), whRun c body n ρ s = some r then some (choose (choose_spec h)) else none
theorem mWhile_of {c : Mt} {body : Ms} {n : Nat} {ρ : Ev} {s : Sto} {r : Out × Ev × Sto} (e : whRun c body n ρ s = some r) : mWhile c body ρ s = some r := by
  have h : ∃ (n : Nat) (r : Out × Ev × Sto), whRun c body n ρ s = some r := ⟨n, r, e⟩
  unfold mWhile
  rw [dif_pos h]
  have q := Classical.choose_spec (Classical.choose_spec h)
  have a := whRun_le (Nat.le_max_left n (Classical.choose h)) e
  have b := whRun_le (Nat.le_max_right n (Classical.choose h)) q
  rw [a] at b
  exact b.symm
theorem mWhile_some {c : Mt} {body : Ms} {ρ : Ev} {s : Sto} {r : Out × Ev × Sto} (h : mWhile c body ρ s = some r) : ∃ n, whRun c body n ρ s = some r := by
  unfold mWhile at h
  split at h
  · rename_i q
    have p := Classical.choose_spec (Classical.choose_spec q)
    cases h
    exact ⟨_, p⟩
  · cases h
section
variable {X : Cx} {c : Expr} {tc : Mt} {body : List Stmt} {mb : Ms} {pos : Pos}
theorem rs_while {K : PySem.W.Frag} {D : Ends} {σ : L2.St} {H : Hp} (h : rdS K (mWhile tc mb) D σ H) : tWhile (rdT K tc) (rdS K mb) D σ H := by
  obtain ⟨C, fz, ρ, sto, out, ρ', sto', F, e, k⟩ := h
  obtain ⟨n, e⟩ := mWhile_some e
  let W : Nat → L2.St → Hp → Prop := fun m σ' H' => ∃ fz2 ρ2 s2, Fm K C fz2 ρ2 s2 σ' H' ∧ Sts C.sp fz H fz2 H' ∧ whRun tc mb m ρ2 s2 = some (out, ρ', sto')
  refine ⟨W, ⟨n, fz, ρ, sto, F, .refl, e⟩, ?_⟩
  rintro m σ2 H2 ⟨fz2, ρ2, s2, F2, S2, e2⟩
  cases m with
  | zero => cases e2
  | succ m =>
    unfold whRun at e2
    split at e2
    · cases e2
    · rename_i s3 e3
      cases e2
      exact ⟨C, fz2, ρ', s2, false, _, F2, e3, fun fz4 H4 st4 l4 => k fz4 σ2 H4 (F2.step st4 l4) (S2.trans st4.sts)⟩
    · rename_i s3 e3
      refine ⟨C, fz2, ρ2, s2, true, s3, F2, e3, fun fz4 H4 st4 l4 => ?_⟩
      have F4 := F2.step st4 l4
      have S4 := S2.trans st4.sts
      show ∃ N : L2.St → Hp → Prop, (∀ σ' H', N σ' H' → ∃ m', m' < m + 1 ∧ W m' σ' H') ∧ _
      refine ⟨fun σ' H' => W m σ' H', fun σ' H' w => ⟨m, Nat.lt_succ_self m, w⟩, ?_⟩
      split at e2
      · rename_i ρ5 s5 e5
        exact ⟨C, fz4, ρ2, s3, .nx, ρ5, s5, F4, e5, fun fz6 σ6 H6 F6 S6 => ⟨fz6, ρ5, s5, F6, S4.trans S6, e2⟩⟩
      · rename_i ρ5 s5 e5
        exact ⟨C, fz4, ρ2, s3, .ct, ρ5, s5, F4, e5, fun fz6 σ6 H6 F6 S6 => ⟨fz6, ρ5, s5, F6, S4.trans S6, e2⟩⟩
      · rename_i ρ5 s5 e5
        cases e2
        exact ⟨C, fz4, ρ2, s3, .bk, ρ', sto', F4, e5, fun fz6 σ6 H6 F6 S6 => k fz6 σ6 H6 F6 (S4.trans S6)⟩
      · rename_i r ρ5 s5 e5
        cases e2
        exact ⟨C, fz4, ρ2, s3, .rt r, ρ', sto', F4, e5, fun fz6 σ6 H6 F6 S6 => k fz6 σ6 H6 F6 (S4.trans S6)⟩
      · cases e2
theorem ss_while (hp : PassesOwn (model X.prog X.w) X.A X.env X.xe) (hc : SB X c tc) (hb : SL X body mb) : SS X (.While c body [] pos) (mWhile tc mb) := PS.imp (ps_while hp hc hb) fun _ _ _ h => rs_while h
end
def wipeE (ρ : Ev) : List Nat → Ev
  | [] => ρ
  | v :: vs => (wipeE ρ vs).set v none
theorem wipeE_length (ρ : Ev) : ∀ vs : List Nat, (wipeE ρ vs).length = ρ.length
  | [] => rfl
  | v :: vs => by unfold wipeE; rw [List.length_set, wipeE_length ρ vs]
theorem wipeE_some {ρ : Ev} {i : Nat} {c : Cl} : ∀ {vs : List Nat}, (wipeE ρ vs)[i]? = some (some c) → ρ[i]? = some (some c) ∧ i ∉ vs
  | [], h => ⟨h, by simp⟩
  | v :: vs, h => by
    unfold wipeE at h
    by_cases e : i = v
    · subst e
      by_cases hi : i < (wipeE ρ vs).length
      · rw [List.getElem?_set_self hi] at h; cases h
      · rw [List.getElem?_eq_none (by rw [List.length_set]; omega)] at h; cases h
    · rw [List.getElem?_set_ne (Ne.symm e)] at h
      obtain ⟨h1, h2⟩ := wipeE_some h
      exact ⟨h1, by simp [e, h2]⟩
section
variable {K : PySem.W.Frag} {C : Cn} {fz fz1 : Fz} {ρ : Ev} {sto sto' : Sto} {σ : L2.St} {H H1 : Hp}
theorem Fm.wipe (F : Fm K C fz ρ sto σ H) (vs : List Nat) : Fm K C fz (wipeE ρ vs) sto (L2.wipe σ vs) H where
  len := by rw [wipeE_length, wipe_length, F.len]
  st := F.st
  bs := F.bs
  vars := fun i c h => by
    obtain ⟨h1, h2⟩ := wipeE_some h
    have q := F.vars i c h1
    cases c with
    | d x => obtain ⟨u, e1, e2⟩ := q; exact ⟨u, (wipe_out h2).trans e1, e2⟩
    | o xs => obtain ⟨a, vs, e1, e2⟩ := q; exact ⟨a, vs, (wipe_out h2).trans e1, e2⟩
    | s => obtain ⟨a, ea, q⟩ := q; exact ⟨a, ea, (wipe_out h2).trans q⟩
    | m acc => obtain ⟨a, vs, e1, e2⟩ := q; exact ⟨a, vs, (wipe_out h2).trans e1, e2⟩
  sep := fun i j xs ys a hij h1 h2 h3 h4 => by
    obtain ⟨g1, n1⟩ := wipeE_some h1
    obtain ⟨g2, n2⟩ := wipeE_some h2
    rw [wipe_out n1] at h3
    rw [wipe_out n2] at h4
    exact F.sep i j xs ys a hij g1 g2 h3 h4
/-- a list that nobody owns is written -/
theorem Fm.side (F : Fm K C fz ρ sto σ H) {D : Addr} {ws : List V} (hD : ∃ us, H D = some (.lst us)) (nf : ¬ fz D) (ns : some D ≠ C.sp) (n0 : C.H0 D = none) (no : ∀ (i : Nat) (xs : List PyData), ρ[i]? = some (some (Cl.o xs)) → σ[i]? ≠ some (some (V.ref D))) :
    Fm K C fz ρ sto σ (upd H D (.lst ws)) ∧ Sts C.sp fz H fz (upd H D (.lst ws)) := by
  obtain ⟨us, hD⟩ := hD
  have S : Sts C.sp fz H fz (upd H D (.lst ws)) := ⟨fun _ q => q, fun b o q n c => by
    have : b ≠ D := fun z => by
      subst z
      rcases c with c | c
      · exact nf c
      · rw [hD] at q; cases q; exact c.1 _ rfl
    rw [upd_ne this]; exact q⟩
  refine ⟨⟨F.len, ⟨F.st.mono, fun b o q n => ?_, F.st.new, fun t b q z => ?_⟩, ⟨?_, F.bs.nsp, fun b q z => ?_⟩, fun j c q => ?_, F.sep⟩, S⟩
  · have : b ≠ D := fun z => by subst z; rw [n0] at q; cases q
    rw [upd_ne this]; exact F.st.ext b o q n
  · by_cases e : b = D
    · subst e; rw [upd_same] at z; cases z
    · rw [upd_ne e] at z; exact F.st.trk t b q z
  · exact F.bs.spl.upd ns
  · by_cases e : b = D
    · subst e; rw [upd_same] at z; cases z
    · rw [upd_ne e] at z; exact F.bs.trk b q z
  · have g := F.vars j c q
    cases c with
    | d x => obtain ⟨u, g1, g2⟩ := g; exact ⟨u, g1, g2.sts S F.bs⟩
    | o us =>
      obtain ⟨b, ts, g1, g2, g3, g4, g5, g6⟩ := g
      have : b ≠ D := fun z => by subst z; exact no j us q g1
      exact ⟨b, ts, g1, by rw [upd_ne this]; exact g2, g3.sts S F.bs, g4, g5, g6⟩
    | s => exact g
    | m acc =>
      obtain ⟨b, ts, g1, g2, g3, g4, g5, g6⟩ := g
      have : b ≠ D := fun z => by subst z; rw [hD] at g2; cases g2
      exact ⟨b, ts, g1, by rw [upd_ne this]; exact g2, ⟨g3.1, g3.2.sts S F.bs⟩, g4, g5, g6⟩
end
def lcRun (vs : List Nat) (g : Gx) (t : Mt) (e : Mx) : List PyData → Ev → Sto → Option (List PyData × Sto)
  | [] => fun _ s => some ([], s)
  | x :: xs => fun ρ s => match g x (wipeE ρ vs) with
    | none => none
    | some ρ1 => match t ρ1 s with
      | none => none
      | some (false, s1) => lcRun vs g t e xs ρ s1
      | some (true, s1) => match e ρ1 s1 with
        | none => none
        | some (r, s2) => match toD r, lcRun vs g t e xs ρ s2 with
          | some y, some (ys, s3) => some (y :: ys, s3)
          | _, _ => none
def mLc (it : Mi) (vs : List Nat) (g : Gx) (t : Mt) (e : Mx) : Mx := fun ρ s => match it ρ s with
  | some (xs, s1) => match lcRun vs g t e xs ρ s1 with
    | some (ys, s2) => if ys.length ≤ sizeLine then some (.f ys, s2) else none
    | none => none
  | none => none
def mYes : Mt := fun _ s => some (true, s)
theorem wipe_agree {σ σ2 : L2.St} {vs is : List Nat} (hl : σ2.length = (wipe σ vs).length) (ho : ∀ i, i ∉ is → σ2[i]? = (wipe σ vs)[i]?) (hs : ∀ i, i ∈ is → i ∈ vs) : wipe σ2 vs = wipe σ vs := by
  have key : ∀ (τ : L2.St) (ws : List Nat) (i : Nat), (wipe τ ws)[i]? = if i ∈ ws then (if i < τ.length then some none else none) else τ[i]? := by
    intro τ ws
    induction ws with
    | nil => intro i; simp [wipe]
    | cons w ws ih =>
      intro i
      unfold wipe
      by_cases e : i = w
      · subst e
        by_cases hi : i < τ.length
        · rw [List.getElem?_set_self (by rw [wipe_length]; exact hi)]; simp [hi]
        · rw [List.getElem?_eq_none (by rw [List.length_set, wipe_length]; omega)]; simp [hi]
      · rw [List.getElem?_set_ne (Ne.symm e), ih i]
        simp [e]
  have hl' : σ2.length = σ.length := by rw [hl, wipe_length]
  apply List.ext_getElem?
  intro i
  rw [key σ2 vs i, key σ vs i, hl']
  by_cases hi : i ∈ vs
  · simp [hi]
  · simp only [hi, if_false]
    rw [ho i fun z => hi (hs i z), key σ vs i]
    simp [hi]
section
variable {K : PySem.W.Frag} {mi : Mi} {g : Gx} {is vs : List Nat} {mt : Mt} {me : Mx}
theorem rd_lc (hs : ∀ i, i ∈ is → i ∈ vs) {σ : L2.St} {H : Hp} {Q : VK} (h : rdE K (mLc mi vs g mt me) σ H Q) : tLc (rdI K mi) (rdG K is g) (rdT K mt) (rdE K me) vs σ H Q := by
  obtain ⟨C, fz, ρ, sto, z, sto', F, e, k⟩ := h
  unfold mLc at e
  split at e
  · rename_i xs s1 e1
    split at e
    · rename_i ys s2 e2
      split at e
      · rename_i hz
        cases e
        refine ⟨C, fz, ρ, sto, xs, s1, F, e1, fun J fz1 H1 st1 l1 G => ?_⟩
        have F1 := F.step st1 l1
        intro D hD
        have nD : some D ≠ C.sp := l1.ne hD (by intro z; cases z)
        have n0 : C.H0 D = none := F1.st.back nD hD
        have nfz : ¬ fz1 D := fun z => F1.bs.trk D z hD
        have noD : ∀ (i : Nat) (us : List PyData), ρ[i]? = some (some (Cl.o us)) → σ[i]? ≠ some (some (V.ref D)) := fun i us q1 q2 => by
          obtain ⟨a, ws, g1, g2, _⟩ := F1.owned q1
          rw [q2] at g1; cases g1
          rw [hD] at g2; cases g2
        let W : Nat → Nat → Hp → Prop := fun i m H' => m = xs.length - i ∧ i ≤ xs.length ∧ ∃ (fz2 : Fz) (s3 : Sto) (acc : List V) (ya yb : List PyData), Fm K C fz2 ρ s3 σ H' ∧ Stp C.sp fz1 H1 fz2 H' ∧ H' D = some (.lst acc) ∧ ImA K fz2 H' acc ya ∧ ¬ fz2 D ∧
          lcRun vs g mt me (xs.drop i) ρ s3 = some (yb, sto') ∧ ys = ya ++ yb
        have st2 : Stp C.sp fz1 H1 fz1 (upd H1 D (.lst [])) := .laid hD
        have l2 : SpL C.sp (upd H1 D (.lst [])) s1 := l1.upd nD
        refine ⟨W, ⟨xs.length, by simp, Nat.zero_le _, fz1, s1, [], [], ys, F1.step st2 l2, st2, upd_same, .nil, nfz, e2, rfl⟩, ?_⟩
        rintro i m H2 ⟨rfl, hi, fz2, s3, acc, ya, yb, F2, S2, hD2, im2, nf2, e3, ey⟩
        by_cases hlt : i < xs.length
        · have hx : xs[i]? = some xs[i] := List.getElem?_eq_getElem hlt
          rw [List.drop_eq_getElem_cons hlt] at e3
          unfold lcRun at e3
          split at e3
          · cases e3
          · rename_i ρ4 e4
            refine .inr ⟨G.go i fz2 H2 s3 hlt S2.sts F2.bs, fun H' => W (i + 1) (xs.length - (i + 1)) H', fun H' w => ⟨xs.length - (i + 1), by omega, w⟩, fun v H3 y => ?_⟩
            obtain ⟨st3, l3, im⟩ := G.yld i _ fz2 H2 s3 v H3 hx S2.sts F2.bs y
            have F3 := F2.step st3 l3
            refine ⟨C, fz2, wipeE ρ vs, s3, xs[i], ρ4, F3.wipe vs, im, e4, fun σ4 hl4 ho4 F4 => ?_⟩
            refine ⟨wipe_agree hl4 ho4 hs, ?_⟩
            have hD3 : H3 D = some (.lst acc) := st3.ext _ _ hD2 nD
            split at e3
            · cases e3
            · rename_i s5 e5
              refine ⟨C, fz2, ρ4, s3, false, s5, F4, e5, fun fz6 H6 st6 l6 => ?_⟩
              refine iteF ?_
              have F6 := F3.step st6 l6
              refine ⟨rfl, hlt, fz6, s5, acc, ya, yb, F6, (S2.trans st3).trans st6, st6.ext _ _ hD3 nD, (im2.stp st3 F2.bs).stp st6 F3.bs, fun z => ?_, e3, ey⟩
              rcases st6.new D z with z | ⟨_, z⟩
              · exact nf2 z
              · rw [hD3] at z; cases z
            · rename_i s5 e5
              refine ⟨C, fz2, ρ4, s3, true, s5, F4, e5, fun fz6 H6 st6 l6 => ?_⟩
              refine iteT ?_
              have F6 := F3.step st6 l6
              have F46 := F4.step st6 l6
              have hD6 : H6 D = some (.lst acc) := st6.ext _ _ hD3 nD
              split at e3
              · cases e3
              · rename_i r s7 e7
                split at e3
                · rename_i y ys' s8 ey' e8
                  cases e3
                  refine ⟨C, fz6, ρ4, s5, r, s7, F46, e7, fun w fz8 H8 st8 l8 i8 => ?_⟩
                  obtain ⟨fz9, F9, st9, im9⟩ := F6.keep st8 l8 i8 ey'
                  have hD8 : H8 D = some (.lst acc) := st8.ext _ _ hD6 nD
                  have nf9 : ¬ fz9 D := fun z => by
                    rcases st9.new D z with z | ⟨_, z⟩
                    · rcases st6.new D z with z | ⟨_, z⟩
                      · exact nf2 z
                      · rw [hD3] at z; cases z
                    · rw [hD6] at z; cases z
                  have ia : ImA K fz9 H8 acc ya := ((im2.stp st3 F2.bs).stp st6 F3.bs).stp st9 F6.bs
                  have il : acc.length = ya.length := ia.length
                  refine ⟨acc, hD8, ?_, rfl, hlt, fz9, s7, acc ++ [w], ya ++ [y], ys', ?_⟩
                  · rw [il]
                    have := congrArg List.length ey
                    rw [List.length_append, List.length_cons] at this
                    omega
                  · obtain ⟨F10, S10⟩ := F9.side (ws := acc ++ [w]) ⟨acc, hD8⟩ nf9 nD n0 noD
                    have st10 : Stp C.sp fz1 H1 fz9 (upd H8 D (.lst (acc ++ [w]))) := by
                      have q := (((S2.trans st3).trans st6).trans st9)
                      refine ⟨q.mono, fun b o qb n => ?_, q.new, fun t b qb z => ?_⟩
                      · have : b ≠ D := fun z => by subst z; rw [hD] at qb; cases qb
                        rw [upd_ne this]; exact q.ext b o qb n
                      · by_cases eb : b = D
                        · subst eb; rw [upd_same] at z; cases z
                        · rw [upd_ne eb] at z; exact q.trk t b qb z
                    exact ⟨F10, st10, upd_same, (ia.append (.cons im9 .nil)).sts S10 F9.bs, nf9, e8, by rw [ey, List.append_assoc]; rfl⟩
                · cases e3
        · have ei : i = xs.length := by omega
          subst ei
          rw [List.drop_length] at e3
          cases e3
          refine .inl ⟨G.stop fz2 H2 _ S2.sts F2.bs, ?_⟩
          refine k _ fz2 H2 (st1.trans S2) F2.bs.spl ⟨D, acc, rfl, hD2, ?_, nf2, nD, st1.back nD hD⟩
          rw [ey, List.append_nil]
          exact im2
      · cases e
    · cases e
  · cases e
end
section
variable {X : Cx} {elt tg iter : Expr} {ifs : List Expr} {scope : Scope} {own : List (Str × Nat)} {pos : Pos} {is : List Nat} {mi : Mi} {g : Gx} {mt : Mt} {me : Mx}
def STs (X : Cx) (ifs : List Expr) (t : Mt) : Prop := PTs X ifs (rdT X.K t)
theorem sts_nil : STs X [] mYes := ⟨fun pins s σ H Q I w => pts_nil.run pins s σ H Q I (by
  obtain ⟨C, fz, ρ, sto, r, sto', F, e, k⟩ := w
  cases e
  exact k fz H .refl F.bs.spl)⟩
theorem sts_one {c : Expr} {t : Mt} (h : SB X c t) : STs X [c] t := pts_one h
theorem se_lc (hc : X.calm = true) (hN : X.N.Nodup) (hi : SI X tg iter mi) (ok : BlkOk X.N X.env.scope scope own) (hs : ∀ i, i ∈ is → i ∈ own.map (·.2))
    (hg : ∀ (s : Shared) (H : Hp) (C : Addr) (cl : List (Str × Addr)) (fp : List Addr), SG (X.blk s H scope (compEnvC scope cl C X.env) fp) tg is g) (ht : ∀ (s : Shared) (H : Hp) (C : Addr) (cl : List (Str × Addr)) (fp : List Addr), STs (X.blk s H scope (compEnvC scope cl C X.env) fp) ifs mt)
    (he : ∀ (s : Shared) (H : Hp) (C : Addr) (cl : List (Str × Addr)) (fp : List Addr), SE (X.blk s H scope (compEnvC scope cl C X.env) fp) elt me) (hf : ∀ x, foldedSetIterable iter X.env x = pure x := by intro _; rfl) :
    SE X (.ListComp elt [⟨tg, iter, ifs, 0⟩] scope pos) (mLc mi (own.map (·.2)) g mt me) := PE.imp (pe_lc (g := rdG X.K is g) (tt := rdT X.K mt) (te := rdE X.K me) hc hN hi ok hg ht he hf) fun _ _ _ h => rd_lc hs h
/-- name = [..] -/
theorem ss_setLc {i : Nat} {y : Str} {py spos : Pos} (hc : X.calm = true) (hN : X.N.Nodup) (hy : X.N[i]? = some y) (hyl : X.env.scope.names.lookup y = some .local)
    (hsw : swapsWith (.ListComp elt [⟨tg, iter, ifs, 0⟩] scope pos) (some (.Name y py)) spos.line X.env = pure true) (hi : SI X tg iter mi) (ok : BlkOk X.N X.env.scope scope own) (hs : ∀ i, i ∈ is → i ∈ own.map (·.2))
    (hg : ∀ (s : Shared) (H : Hp) (C : Addr) (cl : List (Str × Addr)) (fp : List Addr), SG (X.blk s H scope (compEnvC scope cl C X.env) fp) tg is g) (ht : ∀ (s : Shared) (H : Hp) (C : Addr) (cl : List (Str × Addr)) (fp : List Addr), STs (X.blk s H scope (compEnvC scope cl C X.env) fp) ifs mt)
    (he : ∀ (s : Shared) (H : Hp) (C : Addr) (cl : List (Str × Addr)) (fp : List Addr), SE (X.blk s H scope (compEnvC scope cl C X.env) fp) elt me) (hf : ∀ x, foldedSetIterable iter X.env x = pure x := by intro _; rfl) :
    SS X (.Assign [.Name y py] (.ListComp elt [⟨tg, iter, ifs, 0⟩] scope pos) spos) (mSet i (mLc mi (own.map (·.2)) g mt me)) :=
  PS.impI (ps_setLc (g := rdG X.K is g) (tt := rdT X.K mt) (te := rdE X.K me) hc hN hy hyl hsw hi ok hg ht he hf) fun D σ H hl h => by
    obtain ⟨C, fz, ρ, sto, out, ρ', sto', F, e, k⟩ := h
    have : rdE X.K (mLc mi (own.map (·.2)) g mt me) σ H (fun x H1 => gName i x σ H1 D.nx) := by
      unfold mSet at e
      split at e
      · rename_i r s1 e1
        split at e
        · rename_i c ec
          cases e
          exact ⟨C, fz, ρ, sto, r, _, F, e1, fun v fz1 H1 st1 l1 i1 => k fz1 _ H1 (F.give st1 l1 i1 ec (lt_of_slot hy hl)) st1.sts⟩
        · cases e
      · cases e
    exact rd_lc hs this
end
end Dh
namespace Dh
open PySem PySem.Spec L2 RZ
section
variable {K : PySem.W.Frag} {sp : Option Addr} {fz fz1 : Fz} {H H1 : Hp} {sto : Sto}
theorem Goes.of {J : It} {n : Nat} {G : Hp → Prop} {Y : Nat → Hp → V → Hp → Prop} {xs : List PyData} (w : Walk J n G Y) (hn : xs.length = n) (hg : ∀ fz1 H1 sto, Sts sp fz H fz1 H1 → Bs sp fz1 H1 sto → G H1)
    (hy : ∀ (i : Nat) (x : PyData) fz1 H1 sto v H2, xs[i]? = some x → Sts sp fz H fz1 H1 → Bs sp fz1 H1 sto → Y i H1 v H2 → Stp sp fz1 H1 fz1 H2 ∧ SpL sp H2 sto ∧ Im K fz1 H2 v x) : Goes K sp fz H J xs where
  go := fun i fz1 H1 sto hi s B => w.goes i H1 (by rw [← hn]; exact hi) (hg fz1 H1 sto s B)
  stop := fun fz1 H1 sto s B => by rw [hn]; exact w.stops H1 (hg fz1 H1 sto s B)
  yld := fun i x fz1 H1 sto v H2 hx s B y => hy i x fz1 H1 sto v H2 hx s B (w.yields i H1 v H2 (by rw [← hn]; exact (List.getElem?_eq_some_iff.mp hx).1) (hg fz1 H1 sto s B) y)
theorem goes_list {a : Addr} {vs : List V} {xs : List PyData} (h : FzL K fz H a vs) (im : ImA K fz H vs xs) (B0 : Bs sp fz H sto) : Goes K sp fz H (Itl K a) xs :=
  .of (walk_list (xs := vs)) im.length.symm (fun fz1 H1 sto s B => (h.sts s B0).sq) fun i x fz1 H1 sto v H2 hx s B y => by
    obtain ⟨rfl, e⟩ := y
    obtain ⟨w, hw, iw⟩ := im.at i x hx
    rw [e] at hw; cases hw
    exact ⟨.refl, B.spl, iw.sts s B0⟩
theorem goes_tup {a : Addr} {vs : List V} {xs : List PyData} (h : SqT K H a vs) (im : ImA K fz H vs xs) (B0 : Bs sp fz H sto) : Goes K sp fz H (Itt K a) xs :=
  .of (walk_tup (xs := vs)) im.length.symm (fun fz1 H1 sto s B => SqT.sts s B0 h) fun i x fz1 H1 sto v H2 hx s B y => by
    obtain ⟨rfl, e⟩ := y
    obtain ⟨w, hw, iw⟩ := im.at i x hx
    rw [e] at hw; cases hw
    exact ⟨.refl, B.spl, iw.sts s B0⟩
def rangeL (lo : Int) (n : Nat) : List PyData := (List.range n).map fun i => PyData.int (lo + (i : Nat))
theorem goes_range {lo : Int} {n : Nat} : Goes K sp fz H (Itr lo n) (rangeL lo n) :=
  .of walk_range (by unfold rangeL; rw [List.length_map, List.length_range]) (fun _ _ _ _ _ => trivial) fun i x fz1 H1 sto v H2 hx s B y => by
    obtain ⟨rfl, rfl⟩ := y
    unfold rangeL at hx
    rw [List.getElem?_map] at hx
    cases q : (List.range n)[i]? with
    | none => rw [q] at hx; cases hx
    | some j =>
      rw [q] at hx
      cases hx
      have : j = i := by
        obtain ⟨h1, h2⟩ := List.getElem?_eq_some_iff.mp q
        rw [List.getElem_range] at h2
        exact h2.symm
      subst this
      exact ⟨.refl, B.spl, .int _⟩
def pairs (xs ys : List PyData) : List PyData := (xs.zip ys).map fun p => PyData.tuple [p.1, p.2]
theorem pairs_at {xs ys : List PyData} {i : Nat} {z : PyData} (h : (pairs xs ys)[i]? = some z) : ∃ x y, xs[i]? = some x ∧ ys[i]? = some y ∧ z = .tuple [x, y] := by
  unfold pairs at h
  rw [List.getElem?_map] at h
  cases q : (xs.zip ys)[i]? with
  | none => rw [q] at h; cases h
  | some p =>
    rw [q] at h; cases h
    rw [List.getElem?_zip_eq_some] at q
    exact ⟨p.1, p.2, q.1, q.2, rfl⟩
/-- a new pair -/
theorem pair_new {H2 : Hp} {v w : V} {x y : PyData} {T : Addr} {o : Obj} (B : Bs sp fz H sto) (i1 : Im K fz H v x) (i2 : Im K fz H w y) (hT : H T = none) (hd : o.dict = none) (e : H2 = upd H T (.frz o (.tup [v, w]))) : Stp sp fz H fz H2 ∧ SpL sp H2 sto ∧ Im K fz H2 (.ref T) (.tuple [x, y]) := by
  subst e
  exact new_tup B (.cons i1 (.cons i2 .nil)) hT hd
end
section
variable {X : Cx} {tg l : Expr} {ml : Mx} {pos : Pos}
theorem pi_seq {tl : TE} (hl : PE X l tl) : PI X tg l (fun σ H R => tl σ H fun x H1 => ∃ a, x = .ref a ∧ (((∃ xs, SqL X.K H1 a xs) ∧ R (Itl X.K a) H1) ∨ ((∃ xs, SqT X.K H1 a xs) ∧ R (Itt X.K a) H1))) := ⟨fun pins s σ H R I h => by
  refine thn (hl.run pins s σ H _ I h) ?_
  rintro v s1 ⟨x, H1, I1, r1, a, rfl, q⟩
  cases r1
  have fr : ∀ b ∈ [s1.heap.objs.size], FpOk X pins H1 b := fun b hb => by
    rw [List.mem_singleton] at hb
    subst hb
    exact I1.fpOk (Nat.le_refl _) (I1.hok.fresh (Nat.le_refl _))
  rcases q with ⟨⟨xs, hq⟩, q⟩ | ⟨⟨xs, hq⟩, q⟩
  · obtain ⟨its, _, p, _⟩ := I1.list hq
    exact wpAny_pyIter_list p.isList ⟨_, _, _, _, H1, rfl, I1.kept (t' := s1.toks) (fun b o e => Heap.get?_push_of_some _ e), turn_list a _, ⟨_, Heap.get?_push_size _ rfl, rfl, rfl⟩, fr, q⟩
  · obtain ⟨its, _, p, _⟩ := I1.tuple hq
    exact wpAny_pyIter_tuple (show s1.heap.IsTuple a its.toArray from p) ⟨_, _, _, _, H1, rfl, I1.kept (t' := s1.toks) (fun b o e => Heap.get?_push_of_some _ e), turn_tuple a _, ⟨_, Heap.get?_push_size _ rfl, rfl, rfl⟩, fr, q⟩⟩
/-- the items of a list that stays, of one just made, of a tuple -/
def itemsOf : R → Option (List PyData)
  | .d (.list xs) => some xs
  | .d (.tuple xs) => some xs
  | .f xs => some xs
  | _ => none
def mSeqI (a : Mx) : Mi := bnd a fun x _ => ret (itemsOf x)
theorem si_seq (hl : SE X l ml) : SI X tg l (mSeqI ml) := PI.imp (pi_seq hl) fun σ H R h => by
  obtain ⟨C, fz, ρ, sto, xs, sto', F, e, k⟩ := h
  obtain ⟨x, s1, ea, e1⟩ := bnd_some e
  obtain ⟨ef, rfl⟩ := ret_some e1
  clear e e1
  refine ⟨C, fz, ρ, sto, x, _, F, ea, fun v fz1 H1 st1 l1 i1 => ?_⟩
  have B1 := F.bs.step st1 l1
  unfold itemsOf at ef
  split at ef
  · cases ef
    cases i1 with
    | lst h im => exact ⟨_, rfl, .inl ⟨⟨_, h.sq⟩, k _ fz1 H1 st1 l1 (goes_list h im B1)⟩⟩
  · cases ef
    cases i1 with
    | tup h im => exact ⟨_, rfl, .inr ⟨⟨_, h.sq⟩, k _ fz1 H1 st1 l1 (goes_tup h.sq im B1)⟩⟩
  · cases ef
    obtain ⟨a, vs, rfl, h1, h2, h3, h4, h5⟩ := i1
    have st2 := st1.freeze h5 h4 h1
    exact ⟨a, rfl, .inl ⟨⟨vs, .inl (.inl h1)⟩, k _ _ H1 st2 l1 (goes_list (.inl ⟨h1, .inr rfl⟩) (h2.fzm fun b q => .inl q) (F.bs.step st2 l1))⟩⟩
  · cases ef
def range1 : List R → Option (List PyData)
  | [.d (.int j)] => if -(2 ^ 62) ≤ j ∧ j < 2 ^ 62 then some (rangeL 0 j.toNat) else none
  | _ => none
def mArgI (f : List R → Option (List PyData)) (a : Ma) : Mi := bnd a fun x _ => ret (f x)
variable {a b : Expr} {m : Ma} {p : Pos}
theorem si_range1 (ha : SA X [a] m) (hm : X.mg "range" = none) (hg : Gl X "range" := by rfl) (hs : starEach [a] X.env = [(false, eval a X.env)] := by rfl) : SI X tg (.Call (.Name "range" p) [a] [] pos) (mArgI range1 m) := PI.imp (pi_range1 hg hm ha hs) fun σ H R h => by
  obtain ⟨C, fz, ρ, sto, xs, sto', F, e, k⟩ := h
  obtain ⟨x, s1, ea, e1⟩ := bnd_some e
  obtain ⟨ef, rfl⟩ := ret_some e1
  clear e e1
  refine ⟨C, fz, ρ, sto, x, _, F, ea, fun v fz1 H1 st1 l1 i1 => ?_⟩
  unfold range1 at ef
  split at ef
  · split at ef
    · rename_i hz
      cases ef
      cases i1 with
      | cons i1 t =>
        cases t; cases i1
        exact ⟨_, rfl, hz.1, hz.2, k _ fz1 H1 st1 l1 goes_range⟩
    · cases ef
  · cases ef
end
end Dh
namespace Dh
open PySem PySem.Spec L2 PySem.W
/-- a def's promise, called where no repr is under way -/
structure FnG (P : Program) (w : World) (K : PySem.W.Frag) (mg : Str → Option Value) (base : Heap) (k : Nat) (f : Addr) (fd : FuncData) (ps : List Str) (sp : Sp) : Prop where
  len : ∀ vs H Q E, sp vs H Q E → vs.length = ps.length
  run : ∀ (A : Around) (outer : List Env) (s : Shared) (H : Hp) (args : Args) (us : List Value) (vs : List V) (Q : VK), Room k A → A.guards = some [] → Env0 P w K mg base A outer s H → BindsTo s fd args (ps.zip us) → Vals vs us → sp vs H Q E0 →
    codeAny (model P w) A (.call (.ref f) args) (CR CX0 outer P w H s Q E0) s
theorem FnG.mono {P : Program} {w : World} {K : PySem.W.Frag} {mg : Str → Option Value} {base : Heap} {j k : Nat} {f : Addr} {fd : FuncData} {ps : List Str} {sp : Sp} (F : FnG P w K mg base j f fd ps sp) (h : j ≤ k) : FnG P w K mg base k f fd ps sp :=
  ⟨F.len, fun A outer s H args us vs Q hr => F.run A outer s H args us vs Q (hr.mono h)⟩
def ArgOk (K : PySem.W.Frag) (fz : Fz) (sp : Option Addr) (H : Hp) (v : V) : Cl → Prop
  | .d x => Im K fz H v x
  | .s => IsS sp v
  | .o _ => False
  | .m _ => False
abbrev Fx := List Cl → Sto → Option (R × Sto)
/-- the promise of a def that computes g -/
def spOf (K : PySem.W.Frag) (n : Nat) (g : Fx) : Sp := fun vs H Q _ => ∃ (sp : Option Addr) (fz : Fz) (cs : List Cl) (sto : Sto) (r : R) (sto' : Sto), cs.length = n ∧ Paired (ArgOk K fz sp H) vs cs ∧ Bs sp fz H sto ∧ g cs sto = some (r, sto') ∧
  ∀ v fz' H', Stp sp fz H fz' H' → SpL sp H' sto' → ImR K sp H fz' H' v r → Q v H'
/-- a body as a function of its arguments; n slots -/
def run (n : Nat) (m : Ms) : Fx := fun cs s => match m (cs.map some ++ List.replicate (n - cs.length) none) s with
  | some (.rt r, _, s') => some (r, s')
  | some (.nx, _, s') => some (.d .none, s')
  | _ => none
theorem start_cells (N : List Str) (cs : List Cl) (vs : List V) (h : vs.length = cs.length) : (cs.map some ++ List.replicate (N.length - cs.length) (none : Option Cl)).length = (L2.start N vs).length := by
  unfold L2.start
  simp only [List.length_append, List.length_map, List.length_replicate, h]
theorem pLen {α β : Type} {R : α → β → Prop} : ∀ {l₁ : List α} {l₂ : List β}, Paired R l₁ l₂ → l₁.length = l₂.length
  | _, _, .nil => rfl
  | _, _, .cons _ t => by rw [List.length_cons, List.length_cons, pLen t]
theorem pAt {α β : Type} {R : α → β → Prop} : ∀ {l₁ : List α} {l₂ : List β}, Paired R l₁ l₂ → ∀ (i : Nat) (b : β), l₂[i]? = some b → ∃ a, l₁[i]? = some a ∧ R a b
  | _, _, .nil, i, b, h => by simp at h
  | _, _, .cons r t, 0, b, h => by simp at h; subst h; exact ⟨_, rfl, r⟩
  | _, _, .cons r t, i + 1, b, h => by
    simp only [List.getElem?_cons_succ] at h ⊢
    exact pAt t i b h
section
variable {P : Program} {w : World} {K : PySem.W.Frag} {mg : Str → Option Value} {base : Heap}
/-- the frame at a def's entry -/
theorem fm_start {N : List Str} {sp : Option Addr} {fz : Fz} {cs : List Cl} {sto : Sto} {vs : List V} {H : Hp} (a : Paired (ArgOk K fz sp H) vs cs) (B : Bs sp fz H sto) : Fm K ⟨sp, fz, H⟩ fz (cs.map some ++ List.replicate (N.length - cs.length) none) sto (L2.start N vs) H := by
  have key : ∀ (i : Nat) (c : Cl), (cs.map some ++ List.replicate (N.length - cs.length) (none : Option Cl))[i]? = some (some c) → cs[i]? = some c ∧ ∃ v, (L2.start N vs)[i]? = some (some v) ∧ ArgOk K fz sp H v c := by
    intro i c h
    by_cases hi : i < cs.length
    · rw [List.getElem?_append_left (by rw [List.length_map]; exact hi), List.getElem?_map] at h
      cases q : cs[i]? with
      | none => rw [q] at h; cases h
      | some d =>
        rw [q] at h
        cases h
        obtain ⟨v, hv, r⟩ := pAt a i c q
        refine ⟨rfl, v, ?_, r⟩
        unfold L2.start
        rw [List.getElem?_append_left (by rw [List.length_map, (pLen a)]; exact hi), List.getElem?_map, hv]
        rfl
    · rw [List.getElem?_append_right (by rw [List.length_map]; omega), List.getElem?_replicate] at h
      split at h <;> cases h
  refine ⟨start_cells N cs vs (pLen a), .refl, B, fun i c h => ?_, fun i j xs ys b hij h1 h2 => ?_⟩
  · obtain ⟨_, v, hv, r⟩ := key i c h
    cases c with
    | d x => exact ⟨v, hv, r⟩
    | o xs => exact False.elim r
    | s => obtain ⟨a, ea, rfl⟩ := (show IsS sp v from r); exact ⟨a, ea, hv⟩
    | m acc => exact False.elim r
  · obtain ⟨_, v, hv, r⟩ := key i _ h1
    exact False.elim r
/-- A DEF: its body as the function m -/
theorem fnG_of {x qual : Str} {st : Stmt} {f : Addr} {fd : FuncData} {N ps : List Str} {k : Nat} {m : Ms} (F : Fun K x qual st f fd) (S : FnScope N ps (defScope st))
    (hb : ∀ (cdv : Value) (A : Around) (outer : List Env) (s : Shared) (H : Hp) (E : XK), Room k (A.deeper (PyProof.Rows.envOfC qual (defScope st) s.heap.objs.size f cdv)) → A.guards = some [] → SL (cxOf CX0 P w K mg base N qual (defScope st) f cdv A outer s H E).nox (defBody st) m) :
    FnG P w K mg base (k + 1) f fd ps (spOf K ps.length (run N.length m)) := by
  obtain ⟨oc, od, kV, doc, pm, an, cdv, ct, osl, rfl, lk, hcd⟩ := F.ex
  have hlen : ∀ vs H Q E, spOf K ps.length (run N.length m) vs H Q E → vs.length = ps.length := by
    rintro vs H Q E ⟨sp, fz, cs, sto, r, sto', hl, a, _⟩
    rw [(pLen a), hl]
  refine ⟨hlen, fun A outer s H args us vs Q hr hg e0 bd rv hsp => ?_⟩
  have hl : vs.length = ps.length := hlen vs H Q E0 hsp
  have hK : K.In s.heap := e0.mod.kin.keeps fun b o q => (e0.bs b o q).1
  have hkind : ∀ y ∈ ps.zip us, (defScope st).names.lookup y.1 = some .local ∨ ((defScope st).names.lookup y.1 = some .cell ∧ ((cellsFrom (s.heap.objs.size + 1) (defScope st).names []).lookup y.1).isSome = true) := by
    rintro ⟨n, v⟩ hy
    rcases S.par n (List.of_mem_zip hy).1 with q | q
    · left; exact q
    · right; exact ⟨q, PySem.W.cellsFrom_some _ _ _ (.inl q)⟩
  have lim := e0.mod.nolimit.keeps fun b o q => (e0.bs b o q).1
  refine codeAny_call_function hr.depth (hK _ _ lk) rfl S.co S.gen rfl (PySem.W.codeRec_of hK hcd) (bd _ _ _ _ (wpAny_newFunctionEnv_cells S.kind hkind ?_))
  rintro env rfl s1 hx
  refine ⟨lim.keeps hx.toInCall.keep, codeAny_func ?_⟩
  obtain ⟨sp, fz, cs, sto, r, sto', hc, a, B, e, q⟩ := hsp
  have I0 := inv_start (CX := CX0) (P := P) (K := K) (mg := mg) (base := base) (E := E0) S hr.hd e0 hl rv hx
  have hbody := (hb cdv A outer s H E0 (hr.deeper _) hg).nox
  have F0 : Fm K ⟨sp, fz, H⟩ fz (cs.map some ++ List.replicate (N.length - cs.length) none) sto (L2.start N vs) H := fm_start a B
  have hrd : rdS K m { nx := fun _ H' => Q .non H', rt := Q } (L2.start N vs) H := by
    unfold run at e
    split at e
    · rename_i r' ρ' s' em
      cases e
      exact ⟨⟨sp, fz, H⟩, fz, _, sto, .rt r, ρ', sto', F0, em, fun fz' σ' H' F' S' v i => q v fz' H' F'.st F'.bs.spl i⟩
    · rename_i ρ' s' em
      cases e
      exact ⟨⟨sp, fz, H⟩, fz, _, sto, .nx, ρ', sto', F0, em, fun fz' σ' H' F' S' => q .non fz' H' F'.st F'.bs.spl .non⟩
    · cases e
  refine wpAny_mono (hbody.run [] s1 (L2.start N vs) H _ I0 hrd) (fun fl s' hs => ?_) fun _ _ z => z
  cases fl with
  | ret u =>
    obtain ⟨v, σ', H', J, rv', qv⟩ := hs
    exact ⟨v, H', J.os, J.bare, J.base, J.hok, rv', qv⟩
  | next =>
    obtain ⟨σ', H', J, qv⟩ := hs
    exact ⟨.non, H', J.os, J.bare, J.base, J.hok, rfl, qv⟩
  | brk => obtain ⟨_, _, _, z⟩ := hs; exact z.elim
  | cont => obtain ⟨_, _, _, z⟩ := hs; exact z.elim
end
def toArg : R → Option Cl
  | .d x => some (.d x)
  | .f xs => some (.d (.list xs))
  | .s => some .s
  | _ => none
def toArgs : List R → Option (List Cl)
  | [] => some []
  | r :: rs => match toArg r, toArgs rs with
    | some x, some xs => some (x :: xs)
    | _, _ => none
/-- a call; π: where each parameter's value stands among the written ones -/
def mCall (g : Fx) (a : Ma) : Mx := bnd a fun rs _ s => match toArgs rs with
  | some cs => g cs s
  | none => none
section
variable {K : PySem.W.Frag} {sp : Option Addr} {fz fz1 : Fz} {H H1 : Hp} {sto : Sto}
theorem ArgOk.fzm {v : V} {c : Cl} (h : ArgOk K fz sp H v c) (g : ∀ a, fz a → fz1 a) : ArgOk K fz1 sp H v c := by
  cases c with
  | d x => exact Im.fzm g h
  | o x => exact h
  | s => exact h
  | m x => exact h
theorem ImRs.args : ∀ {vs : List V} {rs : List R} {cs : List Cl} {fz1 : Fz}, ImRs K sp H fz1 H1 vs rs → toArgs rs = some cs → ∀ fzA : Fz, Stp sp fz H fzA H1 → Bs sp fzA H1 sto → (∀ a, fz1 a → fzA a) →
    ∃ fz2 : Fz, Stp sp fz H fz2 H1 ∧ Bs sp fz2 H1 sto ∧ (∀ a, fzA a → fz2 a) ∧ Paired (ArgOk K fz2 sp H1) vs cs
  | _, _, _, _, .nil, e, fzA, sA, BA, g => by
    cases e
    exact ⟨fzA, sA, BA, fun _ h => h, .nil⟩
  | _, _, _, fz1, .cons (a := v) (b := r) h t, e, fzA, sA, BA, g => by
    unfold toArgs at e
    split at e
    · rename_i x xs e1 e2
      cases e
      have : ∃ fzB : Fz, Stp sp fz H fzB H1 ∧ Bs sp fzB H1 sto ∧ (∀ a, fzA a → fzB a) ∧ ArgOk K fzB sp H1 v x := by
        unfold toArg at e1
        split at e1
        · cases e1
          exact ⟨fzA, sA, BA, fun _ h => h, Im.fzm g h⟩
        · cases e1
          obtain ⟨a, vs, rfl, h1, h2, h3, h4, h5⟩ := h
          refine ⟨_, sA.freeze h5 h4 h1, ⟨BA.spl, fun c ec q => ?_, fun b q z => ?_⟩, fun b q => .inl q, .lst (.inl ⟨h1, .inr rfl⟩) (h2.fzm fun b q => .inl (g b q))⟩
          · rcases q with q | q
            · exact BA.nsp c ec q
            · exact h4 (by subst q; exact ec.symm)
          · rcases q with q | q
            · exact BA.trk b q z
            · subst q; rw [h1] at z; cases z
        · cases e1
          exact ⟨fzA, sA, BA, fun _ h => h, h⟩
        · cases e1
      obtain ⟨fzB, sB, BB, gB, iB⟩ := this
      obtain ⟨fz2, s2, B2, g2, i2⟩ := ImRs.args t e2 fzB sB BB fun a q => gB a (g a q)
      exact ⟨fz2, s2, B2, fun a q => g2 a (gB a q), .cons (iB.fzm g2) i2⟩
    · cases e
end
section
variable {X : Cx} {k : Nat} {f : Addr} {fd : FuncData} {ps : List Str} {x : Str} {p pos : Pos} {e : Expr} {es : List Expr} {m : Ma} {g : Fx}
theorem run_fnG {sp : Sp} {pins : List (Addr × Obj)} {σ : L2.St} {H : Hp} {s : Shared} {Q : VK} {us : List Value} {vs : List V} {args : Args} (F : FnG X.prog X.w X.K X.mg X.base k f fd ps sp) (hr : Room k X.A) (hg : X.A.guards = some [])
    (I : Inv X pins σ H s) (hb : BindsTo s fd args (ps.zip us)) (r : Vals vs us) (h : sp vs H Q E0) : codeAny (model X.prog X.w) X.A (.call (.ref f) args) (fun r s' => match r with | .ok (.ret u) => EP X pins σ Q u s' | .ok _ => False | .error e => X.xe e s') s := by
  refine codeAny_mono (F.run X.A X.stack s H args us vs Q hr hg I.env0 hb r h) fun res s' hq => ?_
  match res, hq with
  | .error e, hq => exact False.elim hq
  | .ok (.ret u), hq => exact I.after hq
  | .ok .next, hq => exact False.elim hq
  | .ok .brk, hq => exact False.elim hq
  | .ok .cont, hq => exact False.elim hq
def tCallG (sp : Sp) (t : TA) : TE := fun σ H Q => t σ H fun vs H1 => sp vs H1 Q E0
theorem pe_callG {sp : Sp} {t : TA} (F : FnG X.prog X.w X.K X.mg X.base k f fd ps sp) (hr : Room k X.A) (hgd : X.A.guards = some []) (hm : X.mg x = some (.ref f)) (hk : PySem.W.keepIn X.K (.ref f) = true) (hb : Binds X.K fd ps []) (ha : PA X (e :: es) t) (hg : Gl X x)
    (hdb : (x == ("__debug__" : Str)) = false := by decide) (he : starEach (e :: es) X.env = (false, eval e X.env) :: starEach es X.env := by rfl) (hpl : (backTo pos (starEach es X.env)).any (·.1) = false := by rfl) :
    PE X (.Call (.Name x p) (e :: es) [] pos) (tCallG sp t) := ⟨fun pins s σ H Q I h => by
  refine wpAny_Call_Name_kw (ld_glob I hg hm (PySem.W.callWith_K (h₀ := X.base) I.ok.mod.kin hk (thn (ha.run pos pins s σ H _ I h) ?_) he hpl) hdb)
  rintro us s1 ⟨vs, H1, I1, r, q⟩
  have hl : (us ++ []).length = ps.length := by rw [List.append_nil, ← r.length]; exact F.len _ _ _ _ q
  have b := hb s1 us I1.kIn hl
  rw [List.append_nil] at b
  refine ⟨I1.kIn, wpAny_call (codeAny_mono (run_fnG F hr hgd I1 b r q) fun res s' hq => ?_)⟩
  match res, hq with
  | .error e, hq => exact hq
  | .ok (.ret u), hq => exact hq
  | .ok .next, hq => exact False.elim hq
  | .ok .brk, hq => exact False.elim hq
  | .ok .cont, hq => exact False.elim hq⟩
theorem rd_call {K : PySem.W.Frag} {n : Nat} {σ : L2.St} {H : Hp} {Q : VK} (hn : ∀ cs s r, g cs s = some r → cs.length = n) (h : rdE K (mCall g m) σ H Q) : tCallG (spOf K n g) (rdA K m) σ H Q := by
  obtain ⟨C, fz, ρ, sto, z, sto', F, e, k⟩ := h
  obtain ⟨rs, s1, ea, e1⟩ := bnd_some e
  clear e
  split at e1
  · rename_i cs ec
    refine ⟨C, fz, ρ, sto, rs, s1, F, ea, fun vs fz1 H1 st1 l1 i1 => ?_⟩
    obtain ⟨fz2, st2, B2, _, a⟩ := ImRs.args i1 ec fz1 st1 (F.bs.step st1 l1) fun _ h => h
    exact ⟨C.sp, fz2, cs, s1, z, sto', hn cs s1 _ e1, a, B2, e1, fun v fz3 H3 st3 l3 i3 => k v fz3 H3 (st2.trans st3) l3 (i3.early st2)⟩
  · cases e1
/-- a def of n parameters -/
def run' (n l : Nat) (m : Ms) : Fx := fun cs s => if cs.length = n then run l m cs s else none
theorem run'_len {n l : Nat} {m : Ms} : ∀ cs s r, run' n l m cs s = some r → cs.length = n := fun cs s r h => by
  unfold run' at h
  split at h
  · assumption
  · cases h
theorem spOf_run' {K : PySem.W.Frag} {n l : Nat} {m : Ms} {vs : List V} {H : Hp} {Q : VK} {E : XK} (h : spOf K n (run' n l m) vs H Q E) : spOf K n (run l m) vs H Q E := by
  obtain ⟨sp, fz, cs, sto, r, sto', hl, a, B, e, q⟩ := h
  unfold run' at e
  rw [if_pos hl] at e
  exact ⟨sp, fz, cs, sto, r, sto', hl, a, B, e, q⟩
theorem FnG.imp {P : Program} {w : World} {K : PySem.W.Frag} {mg : Str → Option Value} {base : Heap} {j : Nat} {f : Addr} {fd : FuncData} {ps : List Str} {sp sp' : Sp} (F : FnG P w K mg base j f fd ps sp) (h : ∀ vs H Q E, sp' vs H Q E → sp vs H Q E) : FnG P w K mg base j f fd ps sp' :=
  ⟨fun vs H Q E q => F.len vs H Q E (h _ _ _ _ q), fun A outer s H args us vs Q hr hg e0 bd rv q => F.run A outer s H args us vs Q hr hg e0 bd rv (h _ _ _ _ q)⟩
theorem se_call {n l : Nat} {mb : Ms} (F : FnG X.prog X.w X.K X.mg X.base k f fd ps (spOf X.K n (run' n l mb))) (hr : Room k X.A) (hgd : X.A.guards = some []) (hm : X.mg x = some (.ref f)) (hk : PySem.W.keepIn X.K (.ref f) = true) (hb : Binds X.K fd ps []) (ha : SA X (e :: es) m) (hg : Gl X x := by rfl)
    (hdb : (x == ("__debug__" : Str)) = false := by decide) (he : starEach (e :: es) X.env = (false, eval e X.env) :: starEach es X.env := by rfl) (hpl : (backTo pos (starEach es X.env)).any (·.1) = false := by rfl) :
    SE X (.Call (.Name x p) (e :: es) [] pos) (mCall (run' n l mb) m) := PE.imp (pe_callG F hr hgd hm hk hb ha hg hdb he hpl) fun _ _ _ h => rd_call run'_len h
end
end Dh
namespace Dh
open PySem PySem.Spec L2
section
variable {X : Cx} {x : Str} {p pos : Pos} {e : Expr} {es : List Expr} {m : Ma} {id T : String} {r : List V → Hp → VK → Prop} {f : List R → Option R}
theorem se_bi (hc : CallR X (.builtin id) r) (hf : OkA X.K r f) (ha : SA X (e :: es) m) (hm : X.mg x = none) (hv : bootBuiltins x = some (.builtin id)) (hg : Gl X x := by rfl) (hn : x ≠ "__name__" := by decide) (hdb : (x == ("__debug__" : Str)) = false := by decide)
    (he : starEach (e :: es) X.env = (false, eval e X.env) :: starEach es X.env := by rfl) (hpl : (backTo pos (starEach es X.env)).any (·.1) = false := by rfl) : SE X (.Call (.Name x p) (e :: es) [] pos) (mA f m) :=
  PE.imp (pe_callB hc hg hm hv ha hn hdb he hpl) fun _ _ _ h => rd_args hf h
theorem se_ty (hc : CallR X (.type T) r) (hf : OkA X.K r f) (ha : SA X (e :: es) m) (hm : X.mg x = none) (hv : bootBuiltins x = some (.type T)) (hg : Gl X x := by rfl) (hn : x ≠ "__name__" := by decide) (hdb : (x == ("__debug__" : Str)) = false := by decide)
    (he : starEach (e :: es) X.env = (false, eval e X.env) :: starEach es X.env := by rfl) (hpl : (backTo pos (starEach es X.env)).any (·.1) = false := by rfl) : SE X (.Call (.Name x p) (e :: es) [] pos) (mA f m) :=
  PE.imp (pe_callTy hc hg hm hv ha hn hdb he hpl) fun _ _ _ h => rd_args hf h
theorem se_bf (hc : CallR X (.builtin id) r) (hf : OkA X.K r f) (ha : SA X (e :: es) m) (hm : X.mg x = some (.builtin id)) (hg : Gl X x := by rfl) (hdb : (x == ("__debug__" : Str)) = false := by decide)
    (he : starEach (e :: es) X.env = (false, eval e X.env) :: starEach es X.env := by rfl) (hpl : (backTo pos (starEach es X.env)).any (·.1) = false := by rfl) : SE X (.Call (.Name x p) (e :: es) [] pos) (mA f m) :=
  PE.imp (pe_callBfun hc hg hm ha hdb he hpl) fun _ _ _ h => rd_args hf h
end
def fLen : List R → Option R
  | [x] => (rdQ x).map fun xs => .d (.int xs.length)
  | _ => none
def fTupOf : List R → Option R
  | [.d (.tuple xs)] => some (.d (.tuple xs))
  | [x] => (rdL x).map fun xs => .d (.tuple xs)
  | _ => none
def fLstOf : List R → Option R
  | [x] => (rdQ x).map fun xs => .f xs
  | _ => none
def boolsOf : List PyData → Option (List Bool)
  | [] => some []
  | .bool b :: r => (boolsOf r).map (b :: ·)
  | _ => none
def intsOf : List PyData → Option (List Int)
  | [] => some []
  | .int b :: r => (intsOf r).map (b :: ·)
  | _ => none
def fAll : List R → Option R
  | [x] => match rdL x with | some xs => (boolsOf xs).map fun bs => .d (.bool (bs.all id)) | none => none
  | _ => none
def fSum : List R → Option R
  | [x] => match rdL x with | some xs => (intsOf xs).map fun ns => .d (.int ns.sum) | none => none
  | _ => none
def fAbs : List R → Option R
  | [.d (.int i)] => some (.d (.int (if i < 0 then -i else i)))
  | _ => none
def fInt : List R → Option R
  | [.d (.int i)] => some (.d (.int i))
  | [.d (.bool k)] => some (.d (.int (if k then 1 else 0)))
  | _ => none
def fGcd : List R → Option R
  | [.d (.int i), .d (.int j)] => some (.d (.int ((Nat.gcd i.natAbs j.natAbs : Nat) : Int)))
  | _ => none
def fDivmod : List R → Option R
  | [.d (.int i), .d (.int j)] => if 0 < j ∧ Builtin.divisionGoesByPylong i j = false then some (.d (.tuple [.int (i / j), .int (i % j)])) else none
  | _ => none
def fMax2 : List R → Option R
  | [.d (.int m), .d (.int n)] => some (.d (.int (if n > m then n else m)))
  | _ => none
def fMin2 : List R → Option R
  | [.d (.int m), .d (.int n)] => some (.d (.int (if n < m then n else m)))
  | _ => none
section
variable {K : PySem.W.Frag} {fz : Fz} {H : Hp}
theorem boolsOf_im : ∀ {vs : List V} {xs : List PyData} {bs : List Bool}, ImA K fz H vs xs → boolsOf xs = some bs → vs = bs.map V.bl
  | _, _, _, .nil, e => by cases e; rfl
  | _, d :: ds, _, .cons h t, e => by
    cases d with
    | bool b =>
      simp only [boolsOf] at e
      cases q2 : boolsOf ds with
      | none => rw [q2] at e; cases e
      | some bs => rw [q2] at e; cases e; cases h; rw [boolsOf_im t q2]; rfl
    | _ => simp [boolsOf] at e
theorem intsOf_im : ∀ {vs : List V} {xs : List PyData} {bs : List Int}, ImA K fz H vs xs → intsOf xs = some bs → vs = bs.map V.int
  | _, _, _, .nil, e => by cases e; rfl
  | _, d :: ds, _, .cons h t, e => by
    cases d with
    | int b =>
      simp only [intsOf] at e
      cases q2 : intsOf ds with
      | none => rw [q2] at e; cases e
      | some bs => rw [q2] at e; cases e; cases h; rw [intsOf_im t q2]; rfl
    | _ => simp [intsOf] at e
end
section
variable {X : Cx} {x : Str} {p pos : Pos} {e : Expr} {es : List Expr} {m : Ma}
theorem ok_len : OkA X.K (fun xs H Q => ∃ p ys, xs = [.ref p] ∧ (SqL X.K H p ys ∨ SqT X.K H p ys) ∧ Q (.int ys.length) H) fLen := by
  intro sp fz fzS H H0 sto vs xs z Q s B i e k
  unfold fLen at e
  split at e
  · rename_i r
    cases q : rdQ r with
    | none => rw [q] at e; cases e
    | some ds =>
      rw [q] at e; cases e
      cases i with
      | cons i t =>
        cases t
        obtain ⟨a, ws, rfl, h, im⟩ := i.seq q
        refine ⟨a, ws, rfl, h, k _ fz H s B.spl ?_⟩
        rw [im.length]
        exact .int _
  · cases e
theorem ok_tupOf : OkA X.K (fun xs H Q => ∃ p ys, xs = [.ref p] ∧ ((SqL X.K H p ys ∧ TpQ H ys Q) ∨ (SqT X.K H p ys ∧ Q (.ref p) H))) fTupOf := by
  intro sp fz fzS H H0 sto vs xs z Q s B i e k
  unfold fTupOf at e
  split at e
  · cases e
    cases i with
    | cons i t =>
      cases t
      cases i with
      | tup h im => exact ⟨_, _, rfl, .inr ⟨h.sq, k _ fz H s B.spl (show Im _ _ _ _ _ from .tup h im)⟩⟩
  · rename_i r _
    cases q : rdL r with
    | none => rw [q] at e; cases e
    | some ds =>
      rw [q] at e; cases e
      cases i with
      | cons i t =>
        cases t
        obtain ⟨a, ws, rfl, h, im⟩ := i.list q
        refine ⟨a, ws, rfl, .inl ⟨h, fun l o hl ho => ?_⟩⟩
        obtain ⟨s3, l3, i3⟩ := new_tup B im hl ho
        exact k _ fz _ (s.trans s3) l3 i3
  · cases e
theorem ok_lstOf : OkA X.K (fun xs H Q => ∃ p ys, xs = [.ref p] ∧ (SqL X.K H p ys ∨ SqT X.K H p ys) ∧ ∀ l, H l = none → Q (.ref l) (upd H l (.lst ys))) fLstOf := by
  intro sp fz fzS H H0 sto vs xs z Q s B i e k
  unfold fLstOf at e
  split at e
  · rename_i r
    cases q : rdQ r with
    | none => rw [q] at e; cases e
    | some ds =>
      rw [q] at e; cases e
      cases i with
      | cons i t =>
        cases t
        obtain ⟨a, ws, rfl, h, im⟩ := i.seq q
        refine ⟨a, ws, rfl, h, fun l hl => ?_⟩
        obtain ⟨s3, l3, i3⟩ := new_lst B im hl
        exact k _ fz _ (s.trans s3) l3 (i3.early s)
  · cases e
theorem ok_all : OkA X.K (rAll X.K) fAll := by
  intro sp fz fzS H H0 sto vs xs z Q s B i e k
  unfold fAll at e
  split at e
  · rename_i r
    split at e
    · rename_i ds q
      cases q2 : boolsOf ds with
      | none => rw [q2] at e; cases e
      | some bs =>
        rw [q2] at e; cases e
        cases i with
        | cons i t =>
          cases t
          obtain ⟨a, ws, rfl, h, im⟩ := i.list q
          rw [boolsOf_im im q2] at h
          exact ⟨a, bs, rfl, h, k _ fz H s B.spl (.bl _)⟩
    · cases e
  · cases e
theorem ok_sum : OkA X.K (rSum X.K) fSum := by
  intro sp fz fzS H H0 sto vs xs z Q s B i e k
  unfold fSum at e
  split at e
  · rename_i r
    split at e
    · rename_i ds q
      cases q2 : intsOf ds with
      | none => rw [q2] at e; cases e
      | some bs =>
        rw [q2] at e; cases e
        cases i with
        | cons i t =>
          cases t
          obtain ⟨a, ws, rfl, h, im⟩ := i.list q
          rw [intsOf_im im q2] at h
          exact ⟨a, bs, rfl, h, k _ fz H s B.spl (.int _)⟩
    · cases e
  · cases e
theorem ok_abs : OkA X.K (fun xs H Q => ∃ i, xs = [.int i] ∧ Q (.int (if i < 0 then -i else i)) H) fAbs := by
  intro sp fz fzS H H0 sto vs xs z Q s B i e k
  unfold fAbs at e
  split at e
  · cases e
    cases i with
    | cons i t => cases t; cases i; exact ⟨_, rfl, k _ fz H s B.spl (.int _)⟩
  · cases e
theorem ok_int : OkA X.K (fun xs H Q => (∃ i, xs = [.int i] ∧ Q (.int i) H) ∨ ∃ k, xs = [.bl k] ∧ Q (.int (if k then 1 else 0)) H) fInt := by
  intro sp fz fzS H H0 sto vs xs z Q s B i e k
  unfold fInt at e
  split at e
  · cases e
    cases i with
    | cons i t => cases t; cases i; exact .inl ⟨_, rfl, k _ fz H s B.spl (.int _)⟩
  · cases e
    cases i with
    | cons i t => cases t; cases i; exact .inr ⟨_, rfl, k _ fz H s B.spl (.int _)⟩
  · cases e
theorem ok_gcd : OkA X.K rGcd fGcd := by
  intro sp fz fzS H H0 sto vs xs z Q s B i e k
  unfold fGcd at e
  split at e
  · cases e
    cases i with
    | cons i t =>
      cases t with
      | cons j t => cases t; cases i; cases j; exact ⟨_, _, rfl, k _ fz H s B.spl (.int _)⟩
  · cases e
theorem ok_max2 : OkA X.K (fun xs H Q => ∃ i j, xs = [.int i, .int j] ∧ Q (.int (if j > i then j else i)) H) fMax2 := by
  intro sp fz fzS H H0 sto vs xs z Q s B i e k
  unfold fMax2 at e
  split at e
  · cases e
    cases i with
    | cons i t =>
      cases t with
      | cons j t => cases t; cases i; cases j; exact ⟨_, _, rfl, k _ fz H s B.spl (.int _)⟩
  · cases e
theorem ok_min2 : OkA X.K (fun xs H Q => ∃ i j, xs = [.int i, .int j] ∧ Q (.int (if j < i then j else i)) H) fMin2 := by
  intro sp fz fzS H H0 sto vs xs z Q s B i e k
  unfold fMin2 at e
  split at e
  · cases e
    cases i with
    | cons i t =>
      cases t with
      | cons j t => cases t; cases i; cases j; exact ⟨_, _, rfl, k _ fz H s B.spl (.int _)⟩
  · cases e
theorem ok_divmod : OkA X.K (fun xs H Q => ∃ i j, xs = [.int i, .int j] ∧ CDivP i j ∧ TpQ H [.int (i / j), .int (i % j)] Q) fDivmod := by
  intro sp fz fzS H H0 sto vs xs z Q s B i e k
  unfold fDivmod at e
  split at e
  · split at e
    · rename_i hz
      cases e
      cases i with
      | cons i t =>
        cases t with
        | cons j t =>
          cases t; cases i; cases j
          refine ⟨_, _, rfl, hz, fun q o hq ho => ?_⟩
          obtain ⟨s3, l3, i3⟩ := new_tup (K := X.K) B (.cons (.int _) (.cons (.int _) .nil)) hq ho
          exact k _ fz _ (s.trans s3) l3 i3
    · cases e
  · cases e
theorem se_len (ha : SA X (e :: es) m) (hm : X.mg "len" = none) (hg : Gl X "len" := by rfl) (he : starEach (e :: es) X.env = (false, eval e X.env) :: starEach es X.env := by rfl) (hpl : (backTo pos (starEach es X.env)).any (·.1) = false := by rfl) : SE X (.Call (.Name "len" p) (e :: es) [] pos) (mA fLen m) :=
  se_bi call_len_seq ok_len ha hm PySem.boot_len hg (by decide) (by decide) he hpl
theorem se_all (hc : X.calm = true) (ha : SA X (e :: es) m) (hm : X.mg "all" = none) (hg : Gl X "all" := by rfl) (he : starEach (e :: es) X.env = (false, eval e X.env) :: starEach es X.env := by rfl) (hpl : (backTo pos (starEach es X.env)).any (·.1) = false := by rfl) : SE X (.Call (.Name "all" p) (e :: es) [] pos) (mA fAll m) :=
  se_bi (cr_all hc) ok_all ha hm (by decide +kernel) hg (by decide) (by decide) he hpl
theorem se_sum (hc : X.calm = true) (ha : SA X (e :: es) m) (hm : X.mg "sum" = none) (hg : Gl X "sum" := by rfl) (he : starEach (e :: es) X.env = (false, eval e X.env) :: starEach es X.env := by rfl) (hpl : (backTo pos (starEach es X.env)).any (·.1) = false := by rfl) : SE X (.Call (.Name "sum" p) (e :: es) [] pos) (mA fSum m) :=
  se_bi (cr_sum hc) ok_sum ha hm (by decide +kernel) hg (by decide) (by decide) he hpl
theorem se_abs (ha : SA X (e :: es) m) (hm : X.mg "abs" = none) (hg : Gl X "abs" := by rfl) (he : starEach (e :: es) X.env = (false, eval e X.env) :: starEach es X.env := by rfl) (hpl : (backTo pos (starEach es X.env)).any (·.1) = false := by rfl) : SE X (.Call (.Name "abs" p) (e :: es) [] pos) (mA fAbs m) :=
  se_bi call_abs ok_abs ha hm (by decide +kernel) hg (by decide) (by decide) he hpl
theorem se_divmod (ha : SA X (e :: es) m) (hm : X.mg "divmod" = none) (hg : Gl X "divmod" := by rfl) (he : starEach (e :: es) X.env = (false, eval e X.env) :: starEach es X.env := by rfl) (hpl : (backTo pos (starEach es X.env)).any (·.1) = false := by rfl) : SE X (.Call (.Name "divmod" p) (e :: es) [] pos) (mA fDivmod m) :=
  se_bi call_divmodS ok_divmod ha hm (by decide +kernel) hg (by decide) (by decide) he hpl
theorem se_max2 (hc : X.calm = true) (ha : SA X (e :: es) m) (hm : X.mg "max" = none) (hg : Gl X "max" := by rfl) (he : starEach (e :: es) X.env = (false, eval e X.env) :: starEach es X.env := by rfl) (hpl : (backTo pos (starEach es X.env)).any (·.1) = false := by rfl) : SE X (.Call (.Name "max" p) (e :: es) [] pos) (mA fMax2 m) :=
  se_bi (call_max2 hc) ok_max2 ha hm (by decide +kernel) hg (by decide) (by decide) he hpl
theorem se_min2 (hc : X.calm = true) (ha : SA X (e :: es) m) (hm : X.mg "min" = none) (hg : Gl X "min" := by rfl) (he : starEach (e :: es) X.env = (false, eval e X.env) :: starEach es X.env := by rfl) (hpl : (backTo pos (starEach es X.env)).any (·.1) = false := by rfl) : SE X (.Call (.Name "min" p) (e :: es) [] pos) (mA fMin2 m) :=
  se_bi (call_min2 hc) ok_min2 ha hm (by decide +kernel) hg (by decide) (by decide) he hpl
theorem se_tuple (ha : SA X (e :: es) m) (hm : X.mg "tuple" = none) (hg : Gl X "tuple" := by rfl) (he : starEach (e :: es) X.env = (false, eval e X.env) :: starEach es X.env := by rfl) (hpl : (backTo pos (starEach es X.env)).any (·.1) = false := by rfl) : SE X (.Call (.Name "tuple" p) (e :: es) [] pos) (mA fTupOf m) :=
  se_ty call_tuple_ofS ok_tupOf ha hm (by decide +kernel) hg (by decide) (by decide) he hpl
theorem se_list (ha : SA X (e :: es) m) (hm : X.mg "list" = none) (hg : Gl X "list" := by rfl) (he : starEach (e :: es) X.env = (false, eval e X.env) :: starEach es X.env := by rfl) (hpl : (backTo pos (starEach es X.env)).any (·.1) = false := by rfl) : SE X (.Call (.Name "list" p) (e :: es) [] pos) (mA fLstOf m) :=
  se_ty call_list_of ok_lstOf ha hm (by decide +kernel) hg (by decide) (by decide) he hpl
theorem se_toint (ha : SA X (e :: es) m) (hm : X.mg "int" = none) (hg : Gl X "int" := by rfl) (he : starEach (e :: es) X.env = (false, eval e X.env) :: starEach es X.env := by rfl) (hpl : (backTo pos (starEach es X.env)).any (·.1) = false := by rfl) : SE X (.Call (.Name "int" p) (e :: es) [] pos) (mA fInt m) :=
  se_ty call_int1 ok_int ha hm (by decide +kernel) hg (by decide) (by decide) he hpl
theorem se_gcd (ha : SA X (e :: es) m) (hm : X.mg "gcd" = some (.builtin "math.gcd")) (hg : Gl X "gcd" := by rfl) (he : starEach (e :: es) X.env = (false, eval e X.env) :: starEach es X.env := by rfl) (hpl : (backTo pos (starEach es X.env)).any (·.1) = false := by rfl) : SE X (.Call (.Name "gcd" p) (e :: es) [] pos) (mA fGcd m) :=
  se_bf cr_gcd ok_gcd ha hm hg (by decide) he hpl
end
mutual
theorem noDict_has : ∀ d : PyData, noDict d = true → d.hasDict = false
  | .none, _ => rfl
  | .bool _, _ => rfl
  | .int _, _ => rfl
  | .str _, _ => rfl
  | .list xs, h => by simp only [PyData.hasDict]; exact noDicts_has xs (by simpa [noDict] using h)
  | .tuple xs, h => by simp only [PyData.hasDict]; exact noDicts_has xs (by simpa [noDict] using h)
  | .dict _, h => by simp [noDict] at h
theorem noDicts_has : ∀ d : List PyData, noDicts d = true → PyData.hasDictAll d = false
  | [], _ => by simp [PyData.hasDictAll]
  | x :: xs, h => by
    simp only [noDicts, Bool.and_eq_true] at h
    simp only [PyData.hasDictAll, noDict_has x h.1, noDicts_has xs h.2, Bool.or_self]
end
def isSeq : PyData → Bool
  | .list _ => true
  | .tuple _ => true
  | _ => false
def reprOk (d : PyData) : Bool := isSeq d && noDict d && d.showable && decide (d.depth ≤ 60) && decide (d.shown.length ≤ sizeLine)
def fRepr : List R → Option R
  | [x] => match rdD x with
    | some d => if reprOk d = true then some (.d (.str d.shown)) else none
    | none => none
  | _ => none
section
variable {X : Cx} {p pos : Pos} {e : Expr} {es : List Expr} {m : Ma} {k : Nat}
def rRepr (K : PySem.W.Frag) : List V → Hp → VK → Prop := fun xs H Q => ∃ a d, xs = [.ref a] ∧ Dp K H (.ref a) d ∧ reprOk d = true ∧ Q (.str d.shown) H
theorem call_reprD (hr : Room k X.A) (hg : X.A.guards = some []) : CallR X (.builtin "repr") (rRepr X.K) := by
  intro pins s σ H vs us Q I r h
  obtain ⟨a, d, rfl, hd, ok, q⟩ := h
  simp only [reprOk, Bool.and_eq_true, decide_eq_true_eq] at ok
  obtain ⟨⟨⟨⟨_, nd⟩, sh⟩, dp⟩, sz⟩ := ok
  cases r with
  | cons r t =>
    cases t
    cases r
    obtain ⟨as, rd⟩ := Dp.reads I d _ _ hd rfl
    have hu := hr.units
    exact repr_of_reads' rd sh (PyData.noDict_hsm (noDict_has d nd)) hg (by omega) (fun b o e => e) (fun h' u tk kk => ⟨.str d.shown, H, I.kept (t' := tk) kk, ⟨_, rfl⟩, q⟩) sz
theorem ok_repr : OkA X.K (rRepr X.K) fRepr := by
  intro sp fz fzS H H0 sto vs xs z Q s B i e k
  unfold fRepr at e
  split at e
  · rename_i r
    split at e
    · rename_i d q
      split at e
      · rename_i ok
        cases e
        cases i with
        | cons i t =>
          cases t
          have ok2 := ok
          simp only [reprOk, Bool.and_eq_true, decide_eq_true_eq] at ok2
          obtain ⟨⟨⟨⟨sq, nd⟩, _⟩, _⟩, _⟩ := ok2
          have dp := i.dp q nd
          have : ∃ a, ‹V› = .ref a := by
            cases dp <;> first | exact ⟨_, rfl⟩ | (simp [isSeq] at sq)
          obtain ⟨a, rfl⟩ := this
          exact ⟨a, d, rfl, dp, ok, k _ fz H s B.spl (.str _)⟩
      · cases e
    · cases e
  · cases e
theorem se_repr (hr : Room k X.A) (hgd : X.A.guards = some []) (ha : SA X (e :: es) m) (hm : X.mg "repr" = none) (hg : Gl X "repr" := by rfl) (he : starEach (e :: es) X.env = (false, eval e X.env) :: starEach es X.env := by rfl) (hpl : (backTo pos (starEach es X.env)).any (·.1) = false := by rfl) : SE X (.Call (.Name "repr" p) (e :: es) [] pos) (mA fRepr m) :=
  se_bi (call_reprD hr hgd) ok_repr ha hm (by decide +kernel) hg (by decide) (by decide) he hpl
end
def tyName : PyData → String
  | .none => "NoneType"
  | .bool _ => "bool"
  | .int _ => "int"
  | .str _ => "str"
  | .list _ => "list"
  | .tuple _ => "tuple"
  | .dict _ => "dict"
def isN (T S : String) : Bool := S == T || (T == "int" && S == "bool")
def isA (T : String) (d : PyData) : Bool := isN T (tyName d)
def fIsi (T : String) (x : R) : Option R := (rdD x).map fun d => .d (.bool (isA T d))
section
variable {K : PySem.W.Frag} {sp : Option Addr} {fz : Fz} {H H0 : Hp} {v : V} {x : R} {d : PyData}
theorem ImR.ty (i : ImR K sp H0 fz H v x) (e : rdD x = some d) : TyX K H v (.type (tyName d)) := by
  cases x with
  | d y =>
    cases e
    cases i with
    | non => exact .base .non
    | bl b => exact .base (.bl b)
    | int b => exact .base (.int b)
    | str b => exact .base (.str b)
    | lst h _ =>
      rcases h with ⟨h, _⟩ | ⟨o, h⟩ | ⟨o, its, n, h, c, _⟩
      · exact .base (.lst h)
      · exact .base (.frz h)
      · exact .kList h c
    | tup h _ =>
      rcases h with ⟨o, h, _⟩ | ⟨o, its, n, h, c, _⟩
      · exact .fTuple h
      · exact .kTuple h c
    | dct h _ _ _ => exact .base (.dK h)
  | f xs => cases e; obtain ⟨a, vs, rfl, h, _⟩ := i; exact .base (.lst h)
  | b xs => cases e; obtain ⟨a, vs, rfl, h, _⟩ := i; exact .base (.lst h)
  | s => cases e
  | m _ => cases e
  | n _ => cases e
end
/-- the built-in classes that are asked for -/
def known (T : String) : Bool := ["int", "bool", "tuple", "str", "list", "dict"].contains T
theorem kit_names : ∀ S ∈ ["NoneType", "bool", "int", "str", "list", "tuple", "dict"], ∀ T ∈ ["int", "bool", "tuple", "str", "list", "dict"], kitB S T = some (isN T S) := by decide +kernel
theorem tyName_mem (d : PyData) : tyName d ∈ ["NoneType", "bool", "int", "str", "list", "tuple", "dict"] := by cases d <;> simp [tyName]
theorem kit_known {K : PySem.W.Frag} {T : String} (h : known T = true) (d : PyData) : PySem.W.kitOne K (.type (tyName d)) (.type T) = some (isA T d) :=
  kit_ty (kit_names _ (tyName_mem d) T (by simpa [known] using h))
section
variable {X : Cx} {p p2 pos : Pos} {e : Expr} {T : String} {x : Str} {me : Mx}
theorem se_isi (hT : known T = true) (he : SE X e me) (hm : X.mg "isinstance" = none) (hm2 : X.mg x = none) (hv : bootBuiltins x = some (.type T)) (hg : Gl X "isinstance" := by rfl) (hg2 : Gl X x := by rfl) (hn2 : x ≠ "__name__" := by decide) (hd2 : (x == ("__debug__" : Str)) = false := by decide)
    (h1 : starEach [e, .Name x p2] X.env = (false, eval e X.env) :: starEach [.Name x p2] X.env := by rfl) (hpl : (backTo pos (starEach [.Name x p2] X.env)).any (·.1) = false := by rfl) : SE X (.Call (.Name "isinstance" p) [e, .Name x p2] [] pos) (m1 (fIsi T) me) :=
  PE.imp (pe_callB call_isi hg hm (by decide +kernel) (pa_cons he (pa_cons (pe_bltn (v := .ty T) hg2 hm2 hv rfl hn2 hd2) pa_nil) h1) (by decide) (by decide) h1 hpl) fun σ H Q h => by
    refine rd_one (r := fun v H Q => rIsi X.K [v, .ty T] H Q) ?_ h
    intro sp fz H H0 sto v x z Q B ix e k
    unfold fIsi at e
    cases q : rdD x with
    | none => rw [q] at e; cases e
    | some d =>
      rw [q] at e; cases e
      exact ⟨v, .ty T, _, _, _, rfl, .ty T, ix.ty q, kit_known hT d, k _ fz H .refl B.spl (.inl (.bl _))⟩
end
abbrev Mo := Ev → Sto → Option (Option Int × Sto)
def rdO (K : PySem.W.Frag) (m : Mo) : TO := fun σ H Q => ∃ (C : Cn) (fz : Fz) (ρ : Ev) (sto : Sto) (r : Option Int) (sto' : Sto), Fm K C fz ρ sto σ H ∧ m ρ sto = some (r, sto') ∧ ∀ fz' H', Stp C.sp fz H fz' H' → SpL C.sp H' sto' → Q r H'
def SO (X : Cx) (e : Option Expr) (m : Mo) : Prop := PO X e (rdO X.K m)
def moNone : Mo := fun _ s => some (none, s)
def moSome (a : Mx) : Mo := bnd a fun x _ => ret (match x with | .d (.int i) => some (some i) | _ => none)
theorem PO.imp {X : Cx} {e : Option Expr} {t t' : TO} (h : PO X e t) (q : ∀ σ H Q, t' σ H Q → t σ H Q) : PO X e t' := ⟨fun pins s σ H Q I w => h.run pins s σ H Q I (q _ _ _ w)⟩
def cutD (xs : List PyData) (lo hi : Option Int) : List PyData := (xs.drop (HT.sIx xs.length 0 lo)).take (HT.sIx xs.length xs.length hi - HT.sIx xs.length 0 lo)
theorem ImA.cut {K : PySem.W.Frag} {fz : Fz} {H : Hp} {vs : List V} {xs : List PyData} (h : ImA K fz H vs xs) (lo hi : Option Int) : ImA K fz H (cutV vs lo hi) (cutD xs lo hi) := by
  unfold cutV cutD
  rw [h.length]
  exact (h.drop _).take _
def fSl (x : R) (lo hi : Option Int) : Option R := match x with
  | .d (.tuple xs) => some (.d (.tuple (cutD xs lo hi)))
  | x => (rdL x).map fun xs => .f (cutD xs lo hi)
def mSl (a : Mx) (l h : Mo) : Mx := bnd a fun x => bnd l fun lo => bnd h fun hi _ => ret (fSl x lo hi)
section
variable {X : Cx} {e : Expr} {a b : Option Expr} {me : Mx} {ma mb : Mo} {p2 pos : Pos}
theorem so_none : SO X none moNone := PO.imp po_none fun σ H Q h => by
  obtain ⟨C, fz, ρ, sto, r, sto', F, e, k⟩ := h
  cases e
  exact k fz H .refl F.bs.spl
theorem so_some (he : SE X e me) : SO X (some e) (moSome me) := PO.imp (po_some he) fun σ H Q h => by
  obtain ⟨C, fz, ρ, sto, r, sto', F, e, k⟩ := h
  obtain ⟨x, s1, ea, e1⟩ := bnd_some e
  obtain ⟨ef, rfl⟩ := ret_some e1
  clear e e1
  refine ⟨C, fz, ρ, sto, x, _, F, ea, fun v fz1 H1 st1 l1 i1 => ?_⟩
  split at ef
  · cases ef; cases i1
    exact ⟨_, rfl, k fz1 H1 st1 l1⟩
  · cases ef
theorem cut_whole {xs : List PyData} {lo hi : Option Int} (h : HT.sIx xs.length 0 lo = 0 ∧ HT.sIx xs.length xs.length hi = xs.length) : cutD xs lo hi = xs := by
  unfold cutD
  rw [h.1, h.2, List.drop_zero, Nat.sub_zero, List.take_length]
theorem se_sl (he : SE X e me) (ha : SO X a ma) (hb : SO X b mb) : SE X (.Subscript e (.Slice a b none p2) pos) (mSl me ma mb) := PE.imp (pe_slice (sl_list.or sl_tupS) he ha hb) fun σ H Q h => by
  obtain ⟨C, fz, ρ, sto, z, sto', F, e, k⟩ := h
  obtain ⟨x, s1, ea, e1⟩ := bnd_some e
  obtain ⟨lo, s2, eb, e2⟩ := bnd_some e1
  obtain ⟨hi, s3, ec, e3⟩ := bnd_some e2
  obtain ⟨ef, rfl⟩ := ret_some e3
  clear e e1 e2 e3
  refine ⟨C, fz, ρ, sto, x, s1, F, ea, fun v fz1 H1 st1 l1 i1 => ?_⟩
  have F1 := F.step st1 l1
  refine ⟨C, fz1, ρ, s1, lo, s2, F1, eb, fun fz2 H2 st2 l2 => ?_⟩
  have F2 := F1.step st2 l2
  refine ⟨C, fz2, ρ, s2, hi, _, F2, ec, fun fz3 H3 st3 l3 => ?_⟩
  have F3 := F2.step st3 l3
  have st := (st1.trans st2).trans st3
  have i3 := (i1.stp st2 F1.bs).stp st3 F2.bs
  unfold fSl at ef
  split at ef
  · cases ef
    obtain ⟨q, vs, rfl, h1, h2⟩ := i3.tup
    refine .inr ⟨q, vs, rfl, h1, fun hw => ?_, fun _ p o hp ho => ?_⟩
    · rw [h2.length] at hw
      refine k _ fz3 H3 st l3 ?_
      rw [cut_whole hw]
      exact i3
    · obtain ⟨s4, l4, i4⟩ := new_tup F3.bs (h2.cut lo hi) hp ho
      exact k _ fz3 _ (st.trans s4) l4 i4
  · rename_i x' _
    cases q : rdL x with
    | none => rw [q] at ef; cases ef
    | some xs =>
      rw [q] at ef; cases ef
      obtain ⟨q, vs, rfl, h1, h2⟩ := i3.list q
      refine .inl ⟨q, vs, rfl, h1, fun p hp => ?_⟩
      obtain ⟨s4, l4, i4⟩ := new_lst F3.bs (h2.cut lo hi) hp
      exact k _ fz3 _ (st.trans s4) l4 (i4.early st)
end
end Dh
namespace Dh
open PySem PySem.Spec L2 PySem.W
/-- the values of the parameters, by the places of the keywords -/
def perm {α : Type} (d : α) (π : List Nat) (xs : List α) : List α := π.map fun i => xs.getD i d
def KB0 (K : PySem.W.Frag) (fd : FuncData) (ps ks : List Str) (π : List Nat) : Prop := ∀ (s : Shared) (ws : List Value), K.In s.heap → ws.length = ks.length → BindsTo s fd ⟨[], ks.zip ws⟩ (ps.zip (perm Value.none π ws))
def mCallK (g : Fx) (π : List Nat) (n : Nat) (a : Ma) : Mx := bnd a fun rs _ s => match toArgs rs with
  | some cs => if cs.length = n then g (perm (.d .none) π cs) s else none
  | none => none
theorem perm_vals {π : List Nat} {vs : List V} {us : List Value} (r : Vals vs us) : Vals (perm V.non π vs) (perm Value.none π us) := by
  induction π with
  | nil => exact .nil
  | cons i π ih =>
    refine .cons ?_ ih
    show RelV (vs.getD i V.non) (us.getD i Value.none)
    rw [List.getD_eq_getElem?_getD, List.getD_eq_getElem?_getD]
    cases q : vs[i]? with
    | none =>
      have h1 := Vals.none_of r q
      rw [h1]
      rfl
    | some v =>
      obtain ⟨u, hu, ru⟩ := r.get q
      rw [hu]
      exact ru
theorem perm_args {K : PySem.W.Frag} {fz : Fz} {sp : Option Addr} {H : Hp} {π : List Nat} {vs : List V} {cs : List Cl} (r : Paired (ArgOk K fz sp H) vs cs) : Paired (ArgOk K fz sp H) (perm V.non π vs) (perm (.d .none) π cs) := by
  induction π with
  | nil => exact .nil
  | cons i π ih =>
    refine .cons ?_ ih
    show ArgOk K fz sp H (vs.getD i V.non) (cs.getD i (.d .none))
    rw [List.getD_eq_getElem?_getD, List.getD_eq_getElem?_getD]
    cases q : cs[i]? with
    | none =>
      have : vs[i]? = none := List.getElem?_eq_none_iff.mpr (by rw [pLen r]; exact List.getElem?_eq_none_iff.mp q)
      rw [this]
      exact .non
    | some c =>
      obtain ⟨v, hv, rv⟩ := pAt r i c q
      rw [hv]
      exact rv
def SK (X : Cx) (kws : List Keyword) (m : Ma) : Prop := PK X kws (rdA X.K m)
theorem PK.imp {X : Cx} {e : List Keyword} {t t' : TA} (h : PK X e t) (q : ∀ σ H Q, t' σ H Q → t σ H Q) : PK X e t' := ⟨fun p pins s σ H Q I w => h.run p pins s σ H Q I (q _ _ _ w)⟩
section
variable {X : Cx} {k : Nat} {f : Addr} {fd : FuncData} {ps ks : List Str} {π : List Nat} {x : Str} {p pos kpos : Pos} {e : Expr} {kws : List Keyword} {m mr : Ma} {me : Mx} {g : Fx} {nm : Option Str}
theorem sk_nil : SK X [] maNil := PK.imp pk_nil fun σ H Q h => by
  obtain ⟨C, fz, ρ, sto, r, sto', F, e, k⟩ := h
  cases e
  exact k [] fz H .refl F.bs.spl .nil
theorem sk_cons (he : SE X e me) (hr : SK X kws mr) : SK X (⟨nm, e, kpos⟩ :: kws) (maCons me mr) := PK.imp (pk_cons he hr) fun σ H Q h => by
  obtain ⟨C, fz, ρ, sto, r, sto', F, e, k⟩ := h
  obtain ⟨x, s1, ea, e1⟩ := bnd_some e
  obtain ⟨xs, s2, eb, e2⟩ := bnd_some e1
  clear e e1
  cases e2
  refine ⟨C, fz, ρ, sto, x, s1, F, ea, fun v fz1 H1 st1 l1 i1 => ?_⟩
  refine ⟨C, fz1, ρ, s1, xs, sto', F.step st1 l1, eb, fun vs fz2 H2 st2 l2 i2 => ?_⟩
  exact k (v :: vs) fz2 H2 (st1.trans st2) l2 (.cons (i1.stp st2 (F.bs.step st1 l1)) (i2.early st1))
def tCallK0 (sp : Sp) (π : List Nat) (n : Nat) (t : TA) : TE := fun σ H Q => t σ H fun vs H1 => vs.length = n ∧ sp (perm V.non π vs) H1 Q E0
theorem pe_callK0 {sp : Sp} {t : TA} (F : FnG X.prog X.w X.K X.mg X.base k f fd ps sp) (hr : Room k X.A) (hgd : X.A.guards = some []) (hm : X.mg x = some (.ref f)) (hk : PySem.W.keepIn X.K (.ref f) = true) (hb : KB0 X.K fd ps ks π) (ha : PK X kws t) (hg : Gl X x)
    (hall : (backToKw pos (keywordEach kws X.env)).all (·.1.isSome) = true := by rfl) (hks : (backToKw pos (keywordEach kws X.env)).filterMap (·.1) = ks := by rfl)
    (hdb : (x == ("__debug__" : Str)) = false := by decide) (hpl : ((backTo pos (starEach [] X.env)).any (·.1) || (backToKw pos (keywordEach kws X.env)).any (·.1.isNone)) = false := by rfl) :
    PE X (.Call (.Name x p) [] kws pos) (tCallK0 sp π ks.length t) := ⟨fun pins s σ H Q I h => by
  refine wpAny_Call_Name_kw (ld_glob I hg hm (PySem.W.callWith_KW0 (h₀ := X.base) I.ok.mod.kin hk hall (thn (ha.run pos pins s σ H _ I h) ?_) hpl) hdb)
  rintro us s1 ⟨vs, H1, I1, r, hl, q⟩
  rw [hks]
  have b := hb s1 us I1.kIn (by rw [← r.length]; exact hl)
  refine ⟨I1.kIn, wpAny_call (codeAny_mono (run_fnG F hr hgd I1 b (perm_vals r) q) fun res s' hq => ?_)⟩
  match res, hq with
  | .error e, hq => exact hq
  | .ok (.ret u), hq => exact hq
  | .ok .next, hq => exact False.elim hq
  | .ok .brk, hq => exact False.elim hq
  | .ok .cont, hq => exact False.elim hq⟩
theorem se_callK {n l : Nat} {mb : Ms} (F : FnG X.prog X.w X.K X.mg X.base k f fd ps (spOf X.K n (run' n l mb))) (hr : Room k X.A) (hgd : X.A.guards = some []) (hm : X.mg x = some (.ref f)) (hk : PySem.W.keepIn X.K (.ref f) = true) (hb : KB0 X.K fd ps ks π) (ha : SK X kws m) (hg : Gl X x := by rfl)
    (hall : (backToKw pos (keywordEach kws X.env)).all (·.1.isSome) = true := by rfl) (hks : (backToKw pos (keywordEach kws X.env)).filterMap (·.1) = ks := by rfl)
    (hdb : (x == ("__debug__" : Str)) = false := by decide) (hpl : ((backTo pos (starEach [] X.env)).any (·.1) || (backToKw pos (keywordEach kws X.env)).any (·.1.isNone)) = false := by rfl) :
    SE X (.Call (.Name x p) [] kws pos) (mCallK (run' n l mb) π ks.length m) := PE.imp (pe_callK0 F hr hgd hm hk hb ha hg hall hks hdb hpl) fun σ H Q h => by
  obtain ⟨C, fz, ρ, sto, z, sto', F, e, k⟩ := h
  obtain ⟨rs, s1, ea, e1⟩ := bnd_some e
  clear e
  split at e1
  · rename_i cs ec
    split at e1
    · rename_i hn
      refine ⟨C, fz, ρ, sto, rs, s1, F, ea, fun vs fz1 H1 st1 l1 i1 => ?_⟩
      obtain ⟨fz2, st2, B2, _, a⟩ := ImRs.args i1 ec fz1 st1 (F.bs.step st1 l1) fun _ h => h
      exact ⟨(pLen a).trans hn, C.sp, fz2, _, s1, z, sto', run'_len _ s1 _ e1, perm_args a, B2, e1, fun v fz3 H3 st3 l3 i3 => k v fz3 H3 (st2.trans st3) l3 (i3.early st2)⟩
    · cases e1
  · cases e1
end
def mPair (i : Nat) (ix : Mx) (j : Nat) (a : Mx) : Ms := fun ρ s => match a ρ s with
  | some (.d (.tuple [.int q, y]), s1) => match ix ρ s1, ρ[i]? with
    | some (.d (.int k), s2), some (some .s) => match ixN s2.length k with
      | some n => some (.nx, ρ.set j (some (.d y)), s2.set n q)
      | none => none
    | _, _ => none
  | _ => none
section
variable {X : Cx} {i j : Nat} {y : Str} {e : Expr} {tgs : Expr} {me mi : Mx} {py pos tpos : Pos} {kk : Nat}
/-- hg is pg_sub (pv i) hix set_list -/
theorem ss_pair (hc : X.calm = true) (hN : X.N.Nodup) (he : SE X e me) (hg : PG X tgs (gSub (tVar i) (rdE X.K mi) rSetL)) (hj : X.N[j]? = some y := by rfl) (hy : Loc X.env.scope y := by first | exact Or.inl rfl | exact Or.inr rfl)
    (hf : X.fn y = true ∨ X.env.scope.names.lookup y = some .local := by first | exact .inl rfl | exact .inr rfl)
    (h1 : (assignEach (tgs :: [.Name y py]) X.env).map (·.2) = assign tgs X.env :: (assignEach [.Name y py] X.env).map (·.2) := by rfl) (h2 : (assignEach (.Name y py :: []) X.env).map (·.2) = assign (.Name y py) X.env :: (assignEach [] X.env).map (·.2) := by rfl)
    (hn : (assignEach [tgs, .Name y py] X.env).length = 2 := by rfl) (hst : (assignEach [tgs, .Name y py] X.env).findIdx? (·.1) = none := by rfl)
    (hs : swapsWithSole [.Tuple [tgs, .Name y py] kk tpos] e pos.line X.env = pure false := by rfl) (hw : swappedStores [.Tuple [tgs, .Name y py] kk tpos] e X.env = pure none := by rfl)
    (h3 : (assignEach [.Tuple [tgs, .Name y py] kk tpos] X.env).map (·.2) = [assign (.Tuple [tgs, .Name y py] kk tpos) X.env] := by rfl) :
    SS X (.Assign [.Tuple [tgs, .Name y py] kk tpos] e pos) (mPair i mi j me) :=
  PS.impI (ps_asg he (pg_tup hc (pgs_cons hg (pgs_cons (pg_name hN hj hy hf) pgs_nil h2) h1) hn hst) hs hw h3) fun D σ H hl h => by
    obtain ⟨C, fz, ρ, sto, out, ρ', sto', F, e, k⟩ := h
    unfold mPair at e
    split at e
    · rename_i q yy s1 e1
      split at e
      · rename_i kk' s2 e2 ei
        split at e
        · rename_i n en
          cases e
          refine ⟨C, fz, ρ, sto, _, s1, F, e1, fun v fz1 H1 st1 l1 i1 => ?_⟩
          cases i1 with
          | tup ht ha =>
            rename_i a xs
            cases ha with
            | cons hq ha =>
              cases ha with
              | cons hyv ha =>
                cases ha
                cases hq
                have F1 := F.step st1 l1
                refine ⟨a, _, rfl, ht.sq, rfl, _, _, rfl, ?_⟩
                obtain ⟨p, hp, hs⟩ := F1.vars _ _ ei
                refine ⟨_, hs, C, fz1, ρ, s1, _, _, F1, e2, fun w fz2 H2 st2 l2 i2 => ?_⟩
                cases i2
                refine ⟨p, _, kk', n, rfl, rfl, l2 p hp, by rw [List.length_map]; exact en, ?_⟩
                have F2 := F1.step st2 l2
                obtain ⟨F4, S4⟩ := F2.spring (s2.set n q) hp
                refine ⟨_, _, rfl, rfl, ?_⟩
                rw [← List.map_set]
                exact k fz2 _ _ (F4.name ((hyv.stp st2 F1.bs).sts S4 F2.bs) (lt_of_slot hj hl)) ((st1.trans st2).sts.trans S4)
        · cases e
      · cases e
    · cases e
end
end Dh
namespace Dh
open PySem PySem.Spec L2
/-- the tuple at a, each item with its place in a new pair -/
def IteT (K : PySem.W.Frag) (a : Addr) : It where
  go := fun i H => ∃ (xs : List V) (x : V), SqT K H a xs ∧ xs[i]? = some x
  yld := fun i H v H' => ∃ T o x, v = .ref T ∧ H T = none ∧ o.dict = none ∧ H' = upd H T (.frz o (.tup [.int (i : Nat), x])) ∧ ∀ xs, SqT K H a xs → xs[i]? = some x
  stop := fun i H => ∃ xs : List V, SqT K H a xs ∧ xs.length = i
theorem turn_enumT {P : Program} {w : World} {K : PySem.W.Frag} {elts : List Expr} {kk : Nat} {tpos : Pos} (a e it : Addr) (hai : a ≠ it) :
    Turn P w K (.Tuple elts kk tpos) (IteT K a) [e, it] e (fun i h => (∃ old, IsEnum h e it ((i : Nat) : Int) old) ∧ h.IsTupleIter it a i ∧ e ≠ it ∧ a ≠ e) where
  mem := List.mem_cons_self
  obj := by
    rintro i h ⟨⟨old, he⟩, ⟨o, ho, hc, hd⟩, _⟩ b hb
    simp only [List.mem_cons, List.not_mem_nil, or_false] at hb
    rcases hb with rfl | rfl
    · exact ⟨_, he, fun v q => nomatch q⟩
    · exact ⟨o, ho, fun v q => by rw [hd] at q; cases q⟩
  keep := by
    rintro i h h' ⟨⟨old, he⟩, hi, hne⟩ k
    exact ⟨⟨old, k e (by simp) _ he⟩, hi.at fun o q => k it (by simp) o q, hne⟩
  item := by
    rintro X rfl rfl rfl hc i pins s σ H E I hf ⟨⟨old, he⟩, hit, hne, hae⟩ ⟨xs, x, hq, hx⟩
    obtain ⟨its, rv, p, hz⟩ := I.tuple hq
    obtain ⟨u, hu, ru⟩ := rv.get hx
    have hlt : i < its.toArray.size := by simpa using (List.getElem?_eq_some_iff.mp hu).1
    have hel : e < s.heap.objs.size := Heap.lt_size he
    have hil : it < s.heap.objs.size := by obtain ⟨_, q, _⟩ := hit; exact Heap.lt_size q
    have D := Draws.tuple (prog := X.prog) (w := X.w) (A := X.A.in1) (I.ok.hd hc) it a hai its.toArray
    refine wpAny_pyNext_enum_itemC D he ⟨hit, p⟩ hlt hne (by simp [hne, Ne.symm hae]) fun x' h' tk hP ho hs' hT hsz hk => ?_
    have ex : x' = u := by
      have q : its.toArray[i]? = some u := by simpa using hu
      rw [show its.toArray[i]? = some x' from hP] at q
      exact Option.some.inj q
    subst ex
    refine ⟨_, rfl, wpAny_letOwnedTupleGo_enum (s := { s with heap := h', toks := tk + 1 }) ho fun h2 he' sb => ?_⟩
    have hT2 : h2.get? s.heap.objs.size = some { cls := .type "tuple", data := .seq #[.int i tk, x'] } := (sb.2 _ (Nat.ne_of_gt hel)).trans hT
    have I1 : Inv X pins σ (upd H s.heap.objs.size (.frz { cls := .type "tuple", data := .seq #[.int i tk, x'] } (.tup [.int (i : Nat), x]))) { s with heap := h2, toks := tk + 1 } := by
      refine I.turnedNew (ch := [e, it]) (fun b ob hb q => ?_) hf (Nat.le_refl _) (obj_tup (its := [.int i tk, x']) hT2 (by show 2 ≤ sizeLine; decide) (.cons ⟨_, rfl⟩ (.cons ru .nil)))
      simp only [List.mem_cons, List.not_mem_nil, or_false, not_or] at hb
      exact (sb.2 b hb.1).trans (hk b ob hb.1 hb.2 q)
    refine ⟨.ref s.heap.objs.size, _, I1, rfl, ⟨_, _, x, rfl, I.hok.fresh (Nat.le_refl _), rfl, rfl, fun ys hy => ?_⟩, ⟨⟨x', ?_⟩, hs'.1.at fun o q => (sb.2 it (Ne.symm hne)).trans q, hne, hae⟩, fun b hb => ?_⟩
    · rw [I.tuple_inj hy hq]; exact hx
    · rw [show ((i + 1 : Nat) : Int) = (i : Int) + 1 from by omega]; exact he'
    · have hb' : b < s.heap.objs.size := by
        simp only [List.mem_cons, List.not_mem_nil, or_false] at hb
        rcases hb with rfl | rfl
        · exact hel
        · exact hil
      rw [upd_ne (Nat.ne_of_lt hb')]
      exact (hf b hb).1
  done := by
    rintro X rfl rfl rfl hc i pins s σ H E I hf ⟨⟨old, he⟩, hit, hne, hae⟩ ⟨xs, hq, hx⟩
    obtain ⟨its, rv, p, hz⟩ := I.tuple hq
    obtain ⟨f0, f1, f2, f3, f4, f5⟩ := hf it (by simp)
    have hl := rv.length
    have hz : i = its.toArray.size := by simp; omega
    subst hz
    exact wpAny_pyNext_enum_endD (Draws.tuple (prog := X.prog) (w := X.w) (A := X.A.in1) (I.ok.hd hc) it a hai its.toArray) he ⟨hit, p⟩ fun h' eb => ⟨rfl, I.turned (t' := s.toks) (fun b o hb q => eb b o hb q) f0 f1 f3 f4 f5⟩
  self := by
    rintro A i s Q E ⟨⟨old, he⟩, _⟩ h
    exact wpAny_pyIter_enum he h
set_option maxHeartbeats 4000000 in
theorem meets_enum1 {v : Value} {o : Obj} {H : Heap → Prop} (B : Begins v o H) : Meets (Builtin.«enumerate.__new__» ⟨[.type "enumerate", v], []⟩) (fun _ R s => H s.heap ∧
    R (.ok (.ret (.ref (s.heap.push o).objs.size))) { s with heap := (s.heap.push o).push { cls := .type "enumerate", data := .fields #[.none, .bool false, .ref s.heap.objs.size, rawInt 0, .none, .none] } }) := .of_wp fun prog w A R s h => by
  obtain ⟨hp, g, d, tk, os⟩ := s
  obtain ⟨h1, h⟩ := h
  have hsub := sub_enumerate
  have q1 : ∀ {A' : Around} {E : Value → Shared → Prop} {Q : Value → Shared → Prop}, Q (.ref hp.objs.size) ⟨hp.push o, g, d, tk, os⟩ → wpAny (model prog w) A' (pyIter v) Q E ⟨hp, g, d, tk, os⟩ := fun q => B.iter prog w _ _ ⟨hp, g, d, tk, os⟩ _ h1 q
  wp_walk using q1
  refine wpAny_stack_any fun st => wpAny_pure ?_
  split
  · rename_i c _ _ _ _ _
    cases (c == Value.type "enumerate") <;> (wp_walk using q1; exact ⟨_, rfl, h⟩)
  · wp_walk using q1
    exact ⟨_, rfl, h⟩
theorem call_enum1 {prog : Program} {w : World} {A : Around} {E : Value → Shared → Prop} {s : Shared} {v : Value} {o : Obj} {H : Heap → Prop} {Q : Value → Shared → Prop} (B : Begins v o H) (h1 : H s.heap)
    (h : ∀ h', IsEnum h' (s.heap.objs.size + 1) s.heap.objs.size 0 .none → h'.get? s.heap.objs.size = some o → (∀ b o, s.heap.get? b = some o → h'.get? b = some o) → Q (.ref (s.heap.objs.size + 1)) { s with heap := h' }) : wpAny (model prog w) A (call (.type "enumerate") [v]) Q E s := by
  refine callType_new F.called_enumerate (by decide) (F.typeCall_enumerate_1 _) (F.newCall_enumerate_1 _) (fun obj => F.args_object_init_2 obj _) F.entry_enumerate_new (meets_enum1 B) ⟨h1, ?_⟩
  have hz : (s.heap.push o).objs.size = s.heap.objs.size + 1 := Heap.size_push ..
  show _ ∧ _
  rw [hz]
  have he : IsEnum ((s.heap.push o).push { cls := .type "enumerate", data := .fields #[.none, .bool false, .ref s.heap.objs.size, rawInt 0, .none, .none] }) (s.heap.objs.size + 1) s.heap.objs.size 0 .none := by
    have q := Heap.get?_push_size (s.heap.push o) (o := { cls := .type "enumerate", data := .fields #[.none, .bool false, .ref s.heap.objs.size, rawInt 0, .none, .none] }) rfl
    rw [hz] at q
    exact q
  exact ⟨⟨_, he, rfl⟩, h _ he (Heap.get?_push_of_some _ (Heap.get?_push_size _ B.free)) fun b o q => Heap.get?_push_of_some _ (Heap.get?_push_of_some _ q)⟩
def iEnumA (K : PySem.W.Frag) (ta : TA) : TI := fun σ H R => ta σ H fun vs H1 => ∃ a xs, vs = [.ref a] ∧ ((SqL K H1 a xs ∧ R (IteS K a) H1) ∨ (SqT K H1 a xs ∧ R (IteT K a) H1))
theorem pi_enumA {X : Cx} {e : Expr} {ta : TA} {p pos tpos : Pos} {elts : List Expr} {kk : Nat} (hg : Gl X "enumerate") (hm : X.mg "enumerate" = none) (ha : PA X [e] ta) (hs : starEach [e] X.env = [(false, eval e X.env)] := by rfl) :
    PI X (.Tuple elts kk tpos) (.Call (.Name "enumerate" p) [e] [] pos) (iEnumA X.K ta) := ⟨fun pins s σ H R I h => by
  refine PyProof.Rows.Call_ (ld_blt I hg hm PyProof.Rows.boot_enumerate (PyProof.Rows.callWith_type1 (thn (ha.run pos pins s σ H _ I h) ?_) hs rfl))
  rintro us s1 ⟨vs, H1, I1, r1, a, xs, rfl, q⟩
  cases r1 with
  | cons r t =>
    cases t
    cases r
    have fr : ∀ b ∈ [s1.heap.objs.size + 1, s1.heap.objs.size], FpOk X pins H1 b := fun b hb => by
      have hle : s1.heap.objs.size ≤ b := by
        simp only [List.mem_cons, List.not_mem_nil, or_false] at hb
        rcases hb with rfl | rfl
        · exact Nat.le_add_right _ _
        · exact Nat.le_refl _
      exact I1.fpOk hle (I1.hok.fresh hle)
    rcases q with ⟨hq, q⟩ | ⟨hq, q⟩
    · obtain ⟨its, rv, p', _⟩ := I1.list hq
      refine call_enumerate_list p'.isList fun h' he hit hsz hk => wpAny_pyIter_enum he ?_
      exact ⟨_, _, _, _, H1, rfl, I1.kept (t' := s1.toks) hk, turn_enumS a (s1.heap.objs.size + 1) s1.heap.objs.size, ⟨⟨.none, he⟩, hit, Nat.succ_ne_self _⟩, fr, q⟩
    · obtain ⟨its, rv, p', _⟩ := I1.tuple hq
      have hlt : a < s1.heap.objs.size := by obtain ⟨o, ho, _⟩ := id p'; exact Heap.lt_size ho
      refine call_enum1 (begins_tuple a its.toArray) (show s1.heap.IsTuple a its.toArray from p') fun h' he hit hk => wpAny_pyIter_enum he ?_
      exact ⟨_, _, _, _, H1, rfl, I1.kept (t' := s1.toks) hk, turn_enumT a (s1.heap.objs.size + 1) s1.heap.objs.size (Nat.ne_of_lt hlt), ⟨⟨.none, he⟩, ⟨_, hit, rfl, rfl⟩, Nat.succ_ne_self _, Nat.ne_of_lt (Nat.lt_succ_of_lt hlt)⟩, fr, q⟩⟩
section
variable {K : PySem.W.Frag} {sp : Option Addr} {fz fz1 : Fz} {H H1 : Hp} {sto : Sto}
def numbered (xs : List PyData) : List PyData := xs.zipIdx.map fun p => PyData.tuple [.int (p.2 : Nat), p.1]
theorem numbered_at {xs : List PyData} {i : Nat} {z : PyData} (h : (numbered xs)[i]? = some z) : ∃ x, xs[i]? = some x ∧ z = .tuple [.int (i : Nat), x] := by
  unfold numbered at h
  rw [List.getElem?_map, List.getElem?_zipIdx] at h
  cases q : xs[i]? with
  | none => rw [q] at h; cases h
  | some x => rw [q] at h; simp at h; exact ⟨x, rfl, h.symm⟩
theorem numbered_length (xs : List PyData) : (numbered xs).length = xs.length := by unfold numbered; simp
theorem goes_enumL {a : Addr} {vs : List V} {xs : List PyData} (h : FzL K fz H a vs) (im : ImA K fz H vs xs) (B0 : Bs sp fz H sto) : Goes K sp fz H (IteS K a) (numbered xs) := by
  refine ⟨fun i fz1 H1 sto hi s B => ?_, fun fz1 H1 sto s B => ?_, fun i x fz1 H1 sto v H2 hx s B y => ?_⟩
  · rw [numbered_length, ← im.length] at hi
    exact ⟨vs, vs[i], (h.sts s B0).sq, List.getElem?_eq_getElem hi⟩
  · exact ⟨vs, (h.sts s B0).sq, by rw [numbered_length, im.length]⟩
  · obtain ⟨T, o, v2, rfl, hT, hd, e, g2⟩ := y
    obtain ⟨x', hx', rfl⟩ := numbered_at hx
    obtain ⟨w, hw, iw⟩ := im.at i x' hx'
    rw [g2 vs (h.sts s B0).sq] at hw; cases hw
    exact pair_new B (.int _) (iw.sts s B0) hT hd e
theorem goes_enumT {a : Addr} {vs : List V} {xs : List PyData} (h : SqT K H a vs) (im : ImA K fz H vs xs) (B0 : Bs sp fz H sto) : Goes K sp fz H (IteT K a) (numbered xs) := by
  refine ⟨fun i fz1 H1 sto hi s B => ?_, fun fz1 H1 sto s B => ?_, fun i x fz1 H1 sto v H2 hx s B y => ?_⟩
  · rw [numbered_length, ← im.length] at hi
    exact ⟨vs, vs[i], SqT.sts s B0 h, List.getElem?_eq_getElem hi⟩
  · exact ⟨vs, SqT.sts s B0 h, by rw [numbered_length, im.length]⟩
  · obtain ⟨T, o, v2, rfl, hT, hd, e, g2⟩ := y
    obtain ⟨x', hx', rfl⟩ := numbered_at hx
    obtain ⟨w, hw, iw⟩ := im.at i x' hx'
    rw [g2 vs (SqT.sts s B0 h)] at hw; cases hw
    exact pair_new B (.int _) (iw.sts s B0) hT hd e
end
def enum1 : List R → Option (List PyData)
  | [x] => (itemsOf x).map numbered
  | _ => none
section
variable {X : Cx} {e : Expr} {m : Ma} {p pos tpos : Pos} {elts : List Expr} {kk : Nat}
theorem si_enum (ha : SA X [e] m) (hm : X.mg "enumerate" = none) (hg : Gl X "enumerate" := by rfl) (hs : starEach [e] X.env = [(false, eval e X.env)] := by rfl) : SI X (.Tuple elts kk tpos) (.Call (.Name "enumerate" p) [e] [] pos) (mArgI enum1 m) := PI.imp (pi_enumA hg hm ha hs) fun σ H R h => by
  obtain ⟨C, fz, ρ, sto, xs, sto', F, e, k⟩ := h
  obtain ⟨x, s1, ea, e1⟩ := bnd_some e
  obtain ⟨ef, rfl⟩ := ret_some e1
  clear e e1
  refine ⟨C, fz, ρ, sto, x, _, F, ea, fun vs fz1 H1 st1 l1 i1 => ?_⟩
  have B1 := F.bs.step st1 l1
  unfold enum1 at ef
  split at ef
  · rename_i r
    cases q : itemsOf r with
    | none => rw [q] at ef; cases ef
    | some ys =>
      rw [q] at ef
      cases ef
      cases i1 with
      | cons i1 t =>
        cases t
        unfold itemsOf at q
        split at q
        · cases q
          cases i1 with
          | lst h im => exact ⟨_, _, rfl, .inl ⟨h.sq, k _ fz1 H1 st1 l1 (goes_enumL h im B1)⟩⟩
        · cases q
          cases i1 with
          | tup h im => exact ⟨_, _, rfl, .inr ⟨h.sq, k _ fz1 H1 st1 l1 (goes_enumT h.sq im B1)⟩⟩
        · cases q
          obtain ⟨a, ws, rfl, h1, h2, h3, h4, h5⟩ := i1
          have st2 := st1.freeze h5 h4 h1
          exact ⟨a, ws, rfl, .inl ⟨.inl (.inl h1), k _ _ H1 st2 l1 (goes_enumL (.inl ⟨h1, .inr rfl⟩) (h2.fzm fun b q => .inl q) (F.bs.step st2 l1))⟩⟩
        · cases q
  · cases ef
end
end Dh
namespace Dh
open PySem PySem.Spec PyProof.Rows L2 PySem.W
def mBrk : Ms := fun ρ s => some (.bk, ρ, s)
def mCnt : Ms := fun ρ s => some (.ct, ρ, s)
def mRetN : Ms := fun ρ s => some (.rt (.d .none), ρ, s)
/-- an expression for what it does alone -/
def mDrop (a : Mx) : Ms := fun ρ s => match a ρ s with
  | some (_, s1) => some (.nx, ρ, s1)
  | none => none
section
variable {X : Cx} {e : Expr} {me : Mx} {pos : Pos}
theorem ss_drop (he : SE X e me) (hs : swapsWith e none pos.line X.env = pure false := by rfl) : SS X (.Expr e pos) (mDrop me) := PS.imp (ps_expr he hs) fun D σ H h => by
  obtain ⟨C, fz, ρ, sto, out, ρ', sto', F, e, k⟩ := h
  unfold mDrop at e
  split at e
  · rename_i r s1 e1
    cases e
    exact ⟨C, fz, ρ, sto, r, _, F, e1, fun v fz1 H1 st1 l1 i1 => k fz1 σ H1 (F.step st1 l1) st1.sts⟩
  · cases e
/-- x, y, z = a, b, c -/
def mPar3 (i j l : Nat) (a : Ma) : Ms := fun ρ s => match a ρ s with
  | some ([r, q, u], s1) => match toCl r, toCl q, toCl u with
    | some (.d c), some (.d d), some f => some (.nx, ((ρ.set i (some (.d c))).set j (some (.d d))).set l (some f), s1)
    | some (.d c), some (.o d), some (.d f) => some (.nx, ((ρ.set i (some (.d c))).set j (some (.o d))).set l (some (.d f)), s1)
    | _, _, _ => none
  | _ => none
end
end Dh
namespace Dh
open PySem PySem.Spec L2 PySem.W PyProof.Rows
def stoOf : List PyData → Option Sto
  | [] => some []
  | .int i :: r => (stoOf r).map (i :: ·)
  | _ :: _ => none
def onlyD : List R → Option (List Cl)
  | [] => some []
  | .d x :: r => (onlyD r).map (.d x :: ·)
  | _ :: _ => none
/-- g(new list, data..): the list is g's spring -/
def mCallN (g : Fx) (a : Ma) : Mx := bnd a fun rs _ s => match rs with
  | .f xs :: r => match stoOf xs, onlyD r with
    | some s0, some cs => match g (.s :: cs) s0 with
      | some (.d x, _) => some (.d x, s)
      | some (.f x, _) => some (.f x, s)
      | _ => none
    | _, _ => none
  | _ => none
section
variable {K : PySem.W.Frag} {sp : Option Addr} {fz fz1 : Fz} {H H1 : Hp} {sto : Sto}
theorem ints_vals : ∀ {vs : List V} {xs : List PyData} {s0 : Sto}, ImA K fz H vs xs → stoOf xs = some s0 → vs = s0.map V.int
  | _, _, _, .nil, e => by cases e; rfl
  | _, _, _, .cons (d := d) h t, e => by
    cases d with
    | int i =>
      cases h
      unfold stoOf at e
      obtain ⟨s1, e1, rfl⟩ := Option.map_eq_some_iff.mp e
      rw [List.map_cons, ints_vals t e1]
    | none => cases e
    | bool _ => cases e
    | str _ => cases e
    | list _ => cases e
    | tuple _ => cases e
    | dict _ => cases e
theorem onlyD_args {q : Option Addr} : ∀ {vs : List V} {rs : List R} {cs : List Cl}, ImRs K sp H fz1 H1 vs rs → onlyD rs = some cs → Paired (ArgOk K fz1 q H1) vs cs
  | _, _, _, .nil, e => by cases e; exact .nil
  | _, _, _, .cons (b := r) h t, e => by
    cases r with
    | d x =>
      unfold onlyD at e
      obtain ⟨c1, e1, rfl⟩ := Option.map_eq_some_iff.mp e
      exact .cons h (onlyD_args t e1)
    | f _ => cases e
    | b _ => cases e
    | s => cases e
    | m _ => cases e
    | n _ => cases e
end
theorem rd_callN {K : PySem.W.Frag} {n : Nat} {g : Fx} {m : Ma} {σ : L2.St} {H : Hp} {Q : VK} (hn : ∀ cs s r, g cs s = some r → cs.length = n) (h : rdE K (mCallN g m) σ H Q) : tCallG (spOf K n g) (rdA K m) σ H Q := by
  obtain ⟨C, fz, ρ, sto, z, sto', F, e, k⟩ := h
  obtain ⟨rs, s1, ea, e1⟩ := bnd_some e
  clear e
  refine ⟨C, fz, ρ, sto, rs, s1, F, ea, fun vs fz1 H1 st1 l1 i1 => ?_⟩
  have B1 : Bs C.sp fz1 H1 s1 := F.bs.step st1 l1
  cases i1 with
  | nil => cases e1
  | @cons v r0 ws rs h t =>
    cases r0 with
    | f xs =>
      dsimp only at e1
      split at e1
      · rename_i s0 cs e2 e3
        obtain ⟨p, us, rfl, h1, h2, h3, h4, h5⟩ := h
        have eus := ints_vals h2 e2
        subst eus
        have args : Paired (ArgOk K fz1 (some p) H1) (V.ref p :: ws) (Cl.s :: cs) := .cons ⟨p, rfl, rfl⟩ (onlyD_args t e3)
        have B2 : Bs (some p) fz1 H1 s0 := ⟨fun a ea => by cases ea; exact h1, fun a ea => by cases ea; exact h3, B1.trk⟩
        have back : ∀ {fz2 : Fz} {H2 : Hp}, Stp (some p) fz1 H1 fz2 H2 → Stp C.sp fz1 H1 fz2 H2 → True := fun _ _ => trivial
        have st2 : ∀ {fz2 : Fz} {H2 : Hp}, Stp (some p) fz1 H1 fz2 H2 → Stp C.sp fz H fz2 H2 ∧ SpL C.sp H2 s1 := fun {fz2 H2} t2 => by
          have np : ∀ a, a ≠ p → some a ≠ some p := fun a n z => n (Option.some.inj z)
          refine ⟨⟨fun a q => t2.mono a (st1.mono a q), fun a o q n => ?_, fun a q => ?_, fun t a q => t2.trk (st1.trk t) a q⟩, fun a ea => ?_⟩
          · exact t2.ext a o (st1.ext a o q n) (np a (ne_of_none q h5))
          · rcases t2.new a q with q | ⟨_, q⟩
            · exact st1.new a q
            · have n : some a ≠ C.sp := l1.ne q (by intro z; cases z)
              exact .inr ⟨n, st1.back n q⟩
          · refine t2.ext a _ (l1 a ea) (np a fun z => h4 ?_)
            rw [← z, ea]
        split at e1
        · rename_i x s2 eg
          cases e1
          exact ⟨some p, fz1, _, s0, .d x, s2, hn _ _ _ eg, args, B2, eg, fun v fz3 H3 st3 l3 i3 => k v fz3 H3 (st2 st3).1 (st2 st3).2 i3⟩
        · rename_i x s2 eg
          cases e1
          refine ⟨some p, fz1, _, s0, .f x, s2, hn _ _ _ eg, args, B2, eg, fun v fz3 H3 st3 l3 i3 => k v fz3 H3 (st2 st3).1 (st2 st3).2 ?_⟩
          obtain ⟨a, us, rfl, g1, g2, g3, g4, g5⟩ := i3
          have n : some a ≠ C.sp := l1.ne g5 (by intro z; cases z)
          exact ⟨a, us, rfl, g1, g2, g3, n, st1.back n g5⟩
        · cases e1
      · cases e1
    | d _ => cases e1
    | b _ => cases e1
    | s => cases e1
    | m _ => cases e1
    | n _ => cases e1
section
variable {X : Cx} {k k2 : Nat} {f : Addr} {fd : FuncData} {ps : List Str} {x : Str} {p pos : Pos} {e : Expr} {es : List Expr} {m : Ma} {n : Nat} {g : Fx}
theorem se_callN (F : FnG X.prog X.w X.K X.mg X.base k f fd ps (spOf X.K n g)) (hr : Room k2 X.A) (hgd : X.A.guards = some []) (hm : X.mg x = some (.ref f)) (hk : PySem.W.keepIn X.K (.ref f) = true) (hb : Binds X.K fd ps []) (ha : SA X (e :: es) m)
    (hkk : k ≤ k2 := by omega) (hn : ∀ cs s r, g cs s = some r → cs.length = n := by first | exact run'_len | assumption) (hg : Gl X x := by rfl)
    (hdb : (x == ("__debug__" : Str)) = false := by decide) (he : starEach (e :: es) X.env = (false, eval e X.env) :: starEach es X.env := by rfl) (hpl : (backTo pos (starEach es X.env)).any (·.1) = false := by rfl) :
    SE X (.Call (.Name x p) (e :: es) [] pos) (mCallN g m) := PE.imp (pe_callG F (hr.mono hkk) hgd hm hk hb ha hg hdb he hpl) fun _ _ _ h => rd_callN hn h
end
/-- one entry of the heap -/
def oneH (a : Addr) (u : HO) : Hp := fun c => if c = a then some u else none
theorem oneH_self {a : Addr} {u : HO} : oneH a u a = some u := by unfold oneH; rw [if_pos rfl]
theorem oneH_some {a c : Addr} {u x : HO} (h : oneH a u c = some x) : c = a ∧ x = u := by
  unfold oneH at h
  split at h
  · cases h; exact ⟨by assumption, rfl⟩
  · cases h
section
variable {P : Program} {w : World} {K : PySem.W.Frag} {mg mb : Str → Option Value} {k : Nat} {fa a : Addr} {fd : FuncData} {x : Str} {g : Fx} {s₁ : Shared} {vs : List Value} {ns : List Int}
/-- what stands behind a tracked heap of frozen things alone -/
structure Und (K : PySem.W.Frag) (mg : Str → Option Value) (h : Heap) (H : Hp) : Prop where
  kin : K.In (hidT h H)
  main : (hidT h H).Ns mainGlobals mg
  mod : Mod K mg (hidT h H)
theorem und_of (KX : K.In s₁.heap) (hns : s₁.heap.Ns mainGlobals mg) (hb : s₁.heap.Ns builtinsNs mb) (hbb : ∀ x : Str, x ≠ "__name__" → mb x = bootBuiltins x) (hlim : s₁.heap.NoLimit) {H : Hp}
    (off : ∀ c o, s₁.heap.get? c = some o → H c ≠ none → K.lookup c = none ∧ ∀ es ep, o.data ≠ .dict es ep) : Und K mg s₁.heap H := by
  have dict : ∀ {c : Addr} {o : Obj} {es : Array DictEntry} {ep : Nat}, s₁.heap.get? c = some o → o.data = .dict es ep → (hidT s₁.heap H).get? c = some o := fun {c o es ep} e d =>
    hidT_get e (Classical.byContradiction fun z => (off c o e z).2 es ep d)
  have names : ∀ {c : Addr} {m : Str → Option Value}, s₁.heap.Ns c m → (hidT s₁.heap H).Ns c m := by
    rintro c m ⟨o, es, ep, e, d, r⟩
    exact ⟨o, es, ep, dict e d, d, r⟩
  have kin : K.In (hidT s₁.heap H) := fun c o e => hidT_get (KX c o e) (Classical.byContradiction fun z => by
    have q := (off c o (KX c o e) z).1
    rw [e] at q
    cases q)
  obtain ⟨mc, n1, n2⟩ := hlim
  exact ⟨kin, names hns, kin, names hns, ⟨mb, names hb, hbb⟩, ⟨mc, names n1, n2⟩⟩
/-- the law from its def's promise, from a tracked heap of frozen things alone -/
theorem law_at (U : Und K mg s₁.heap H) (hg : s₁.gens = #[]) (hr : Room k callerA)
    (F : ∀ base : Heap, K.In base → base.Ns mainGlobals mg → FnG P w K mg base k fa fd [x] (spOf K 1 g)) (hbind : ∀ (s : Shared) (u : Value), BindsTo s fd ⟨[u], []⟩ [(x, u)])
    (hok : HOk P w H s₁.heap) (hO : ∀ c u, H c = some u → ∃ o xs, u = .frz o (.lst xs)) (hS : FzL K (fun _ => False) H a (ns.map V.int)) (hl : ∃ s', g [.d (.list (ns.map .int))] [] = some (.d (.bool true), s')) :
    codeAny (model P w) callerA (.call (.ref fa) ⟨[.ref a], []⟩) (fun r s' => r = .ok (.ret (.bool true)) ∧ OldK s₁.heap s'.heap ∧ s'.os = s₁.os ∧ AllBare s'.gens) s₁ := by
  obtain ⟨sto', hgv⟩ := hl
  have env : Env0 P w K mg (hidT s₁.heap H) callerA [] s₁ H :=
    { frames := rfl, mod := U.mod, bs := fun _ _ e => of_hidT e, bsz := Nat.le_of_eq (hidT_size _ _), funs := trivial, frf := fun c hc => absurd (show c ∈ ([] : List Addr) from hc) List.not_mem_nil, hok := hok, bare := .of_eq hg }
  have call := (F _ U.kin U.main).run callerA [] s₁ H ⟨[.ref a], []⟩ [.ref a] [.ref a] (fun v _ => v = .bl true) hr rfl env (hbind s₁ (.ref a)) (.cons rfl .nil)
    ⟨none, fun _ => False, [.d (.list (ns.map .int))], [], .d (.bool true), sto', rfl, .cons (.lst hS (ImA.ints ns)) .nil, ⟨fun _ e => (nomatch e), fun _ e => (nomatch e), fun _ z => False.elim z⟩, hgv, fun v _ _ _ _ i => by cases i; rfl⟩
  refine codeAny_mono call fun r s' h => ?_
  match r, h with
  | .ok (.ret u), ⟨v, H', os, bare, un, hok', rv, q⟩ =>
    subst q
    refine ⟨by cases rv; rfl, .of_keep fun c o e => ?_, os, bare⟩
    cases hc : H c with
    | none => exact un.keep c o e hc (fun z => absurd (show c ∈ ([] : List Addr) from z) List.not_mem_nil) (by simp)
    | some u =>
      obtain ⟨ob, ys, rfl⟩ := hO c u hc
      have e1 := (hok c _ hc).1
      have e2 := (hok' c _ (un.frzs c ob _ hc)).1
      rw [e] at e1
      cases e1
      exact e2
end
end Dh
namespace Dh
open PySem PySem.Spec L2 PySem.W PyProof.Rows
end Dh
namespace Dh
open PySem PySem.Spec L2 PySem.W PyProof.Rows
theorem law_endH {l : PySem.W.OpenLaw} {n k : Nat} {q : Program} {loose : List Str} {XP : (Str → Option Value) → Heap → Prop} {YP : World → Heap → Prop} {d : DefRec} {x : Str} {g : Fx}
    (hn : l.most = some n) (small : n ≤ sizeLine) (nodef : d.params.defaults = []) (room : Room k callerA)
    (plain : ∀ ns : List Int, ns.length ≤ n → (∀ z ∈ ns, Builtin.Int.intBits z ≤ 1048576) → ∃ s', g [.d (.list (ns.map .int))] [] = some (.d (.bool true), s'))
    (F : ∀ (w : World) (mg : Str → Option Value) (fa : Addr) (h : Heap), YP w h → h.Ns mainGlobals mg → mg d.name = some (.ref fa) →
      ∃ (K : PySem.W.Frag) (fd : FuncData), K.In h ∧ (∀ (s : Shared) (u : Value), BindsTo s fd ⟨[u], []⟩ [(x, u)]) ∧ ∀ base : Heap, K.In base → base.Ns mainGlobals mg → FnG l.prog w K mg base k fa fd [x] (spOf K 1 g)) :
    PySem.W.WalkO q loose XP YP l.row.toRowW d [] (fun f vs => PySem.call f vs) := by
  refine Att.attach_callB hn nodef ?_
  intro w s₀ s mg mb fa o pm cd doc a vs ns G Y ho hd hcd hmg hobj hints hlen hbits hg
  obtain ⟨K, fd, KX, hb, hF⟩ := F w mg fa s.heap Y G.T.g hmg
  have vals := vals_ints hints
  have hl := plain ns hlen hbits
  cases hk : K.lookup a with
  | some ob =>
    have eo := KX a ob hk
    rw [hobj] at eo
    cases eo
    have U : Und K mg s.heap (fun _ => none) := und_of KX G.T.g G.T.b G.T.builtins G.T.nolimit fun c o _ z => absurd rfl z
    refine law_at U hg room hF hb (fun c u z => ?_) (fun c u z => ?_) (.inr (.inr ⟨_, vs.toArray, _, hk, rfl, rfl, rfl, ?_, ?_⟩)) hl
    · cases (show (none : Option HO) = some u from z)
    · cases (show (none : Option HO) = some u from z)
    · rw [List.size_toArray, hints.length]
      exact Nat.le_trans hlen small
    · simpa using vals
  | none =>
    have U : Und K mg s.heap (oneH a (.frz { cls := .type "list", data := .seq vs.toArray } (.lst (ns.map V.int)))) := by
      refine und_of KX G.T.g G.T.b G.T.builtins G.T.nolimit fun c o e z => ?_
      cases hc : oneH a (.frz { cls := .type "list", data := .seq vs.toArray } (.lst (ns.map V.int))) c with
      | none => exact absurd hc z
      | some u =>
        obtain ⟨rfl, _⟩ := oneH_some hc
        rw [hobj] at e
        cases e
        exact ⟨hk, fun es ep z => nomatch z⟩
    refine law_at U hg room hF hb (fun c u z => ?_) (fun c u z => ?_) (.inr (.inl ⟨_, oneH_self⟩)) hl
    · obtain ⟨rfl, rfl⟩ := oneH_some z
      exact ⟨hobj, by rw [List.length_map]; exact Nat.le_trans hlen small, vs, _, vals, hobj⟩
    · obtain ⟨_, rfl⟩ := oneH_some z
      exact ⟨_, _, rfl⟩
/-- a scalar, as the text has it -/
def scaB (u : Value) (d : PyData) : Bool := match d, u with
  | .int i, .int j _ => decide (i = j)
  | .str x, .str y _ => decide (x = y)
  | .bool a, .bool b => a == b
  | .none, .none => true
  | _, _ => false
def scaV : PyData → V
  | .int i => .int i
  | .str x => .str x
  | .bool a => .bl a
  | _ => .non
theorem scaB_ok {u : Value} {d : PyData} (h : scaB u d = true) : RelV (scaV d) u ∧ ∀ (K : PySem.W.Frag) (fz : Fz) (H : Hp), Im K fz H (scaV d) d := by
  unfold scaB at h
  split at h
  · have := of_decide_eq_true h; subst this; exact ⟨⟨_, rfl⟩, fun _ _ _ => .int _⟩
  · have := of_decide_eq_true h; subst this; exact ⟨⟨_, rfl⟩, fun _ _ _ => .str _⟩
  · have := eq_of_beq h; subst this; exact ⟨rfl, fun _ _ _ => .bl _⟩
  · exact ⟨rfl, fun _ _ _ => .non⟩
  · cases h
def scasB : List Value → List PyData → Bool
  | [], [] => true
  | u :: us, d :: ds => scaB u d && scasB us ds
  | _, _ => false
theorem scasB_ok : ∀ {us : List Value} {ds : List PyData}, scasB us ds = true → Vals (ds.map scaV) us ∧ ∀ (K : PySem.W.Frag) (fz : Fz) (H : Hp), ImA K fz H (ds.map scaV) ds
  | [], [], _ => ⟨.nil, fun _ _ _ => .nil⟩
  | [], _ :: _, h => by cases h
  | _ :: _, [], h => by cases h
  | u :: us, d :: ds, h => by
    obtain ⟨h1, h2⟩ := Bool.and_eq_true_iff.mp (show (scaB u d && scasB us ds) = true from h)
    obtain ⟨a1, a2⟩ := scaB_ok h1
    obtain ⟨b1, b2⟩ := scasB_ok h2
    exact ⟨.cons a1 b1, fun K fz H => .cons (a2 K fz H) (b2 K fz H)⟩
/-- a constant of the text: a scalar, or a tuple of scalars -/
def conB (K : PySem.W.Frag) (x : Str) (d : PyData) : Bool := match PySem.W.nsIn K mainGlobals x with
  | some (some u) => (match d, u with
    | .tuple ds, .ref a => (match K.lookup a with
      | some ⟨.type c, none, .seq its _, _⟩ => decide (c = "tuple") && (decide (its.size ≤ sizeLine) && scasB its.toList ds)
      | _ => false)
    | d, u => scaB u d)
  | _ => false
theorem conB_ok {K : PySem.W.Frag} {h : Heap} {mg : Str → Option Value} (X : K.In h) (G : h.Ns mainGlobals mg) {x : Str} {d : PyData} (c : conB K x d = true) : GlK K mg x d := by
  unfold conB at c
  cases e : PySem.W.nsIn K mainGlobals x with
  | none => rw [e] at c; cases c
  | some o =>
    rw [e] at c
    cases o with
    | none => cases c
    | some u =>
      have hm := PySem.W.mg_of X G e
      dsimp only at c
      split at c
      · rename_i ds a
        cases q : K.lookup a with
        | none => rw [q] at c; cases c
        | some o =>
          obtain ⟨oc, od, dt, osl⟩ := o
          rw [q] at c
          cases oc with
          | type t =>
            cases od with
            | none =>
              cases dt with
              | seq its n =>
                obtain ⟨h1, h2⟩ := Bool.and_eq_true_iff.mp (show (decide (t = "tuple") && (decide (its.size ≤ sizeLine) && scasB its.toList ds)) = true from c)
                obtain ⟨h3, h4⟩ := Bool.and_eq_true_iff.mp h2
                obtain ⟨b1, b2⟩ := scasB_ok h4
                exact ⟨⟨.ref a, _, hm, rfl, fun fz H => .tup (.inr ⟨_, its, n, q, congrArg Value.type (of_decide_eq_true h1), rfl, rfl, of_decide_eq_true h3, b1⟩) (b2 K fz H)⟩⟩
              | _ => cases c
            | some _ => cases dt <;> cases c
          | _ => cases od <;> cases dt <;> cases c
      · obtain ⟨a1, a2⟩ := scaB_ok c
        exact ⟨⟨scaV d, _, hm, a1, fun fz H => a2 K fz H⟩⟩
/-- a name that stands for a built-in -/
def bltB (K : PySem.W.Frag) (x : Str) (b : String) : Bool := He.eqO (PySem.W.nsIn K mainGlobals x) (some (some (.builtin b)))
theorem bltB_ok {K : PySem.W.Frag} {h : Heap} {mg : Str → Option Value} (X : K.In h) (G : h.Ns mainGlobals mg) {x : Str} {b : String} (c : bltB K x b = true) : mg x = some (.builtin b) := PySem.W.mg_of X G (He.eqO_ok c)
/-- sys has no limit of its own for texts of numbers -/
def digB (K : PySem.W.Frag) : Bool := He.eqO (PySem.W.nsIn K cStatics "sys.int_max_str_digits") (some none)
/-- the constants and the built-ins under other names -/
def cksB (K : PySem.W.Frag) (cs : List (Str × PyData)) (bs : List (Str × String)) : Bool := ((cs.all fun c => conB K c.1 c.2) && bs.all fun b => bltB K b.1 b.2) && digB K
/-- the head's look: functions, facts, constants -/
abbrev AlM : Type := Bool × He.Al
def obsM (cs : List (Str × PyData)) (bs : List (Str × String)) (fa : List He.Fa) (fn : List He.FnD) (K : PySem.W.Frag) : AlM := (cksB K cs bs, He.obsE fa fn K)
def obsMG (n : Nat) (cs : List (Str × PyData)) (bs : List (Str × String)) (fa : List He.Fa) (fn : List He.FnD) (g : Addr → Option Obj) : AlM := obsM cs bs fa fn (He.frG g (cStatics :: He.asG g n))
structure SaysM (cs : List (Str × PyData)) (bs : List (Str × String)) (fa : List He.Fa) (fn : List He.FnD) (K : PySem.W.Frag) : Prop where
  ck : cksB K cs bs = true
  sy : He.SaysE fa fn K
def hookM (n : Nat) (cs : List (Str × PyData)) (bs : List (Str × String)) (fa : List He.Fa) (fn : List He.FnD) : PySem.W.Hook where
  α := AlM
  obs := fun s => obsMG n cs bs fa fn s.heap.get?
  val := fun _ => (true, He.valE fn)
  says := fun _ h => ∃ K : PySem.W.Frag, K.In h ∧ SaysM cs bs fa fn K
  of := fun _ _ e => ⟨_, He.frG_in, ⟨congrArg Prod.fst e, congrArg Prod.snd e⟩⟩
  keeps := fun _ _ _ ⟨K, hK, c⟩ k => ⟨K, PySem.W.Frag.In.keeps hK k, c⟩
theorem obsMG_eq {n : Nat} {cs : List (Str × PyData)} {bs : List (Str × String)} {fa : List He.Fa} {fn : List He.FnD} {g : Addr → Option Obj} {s : Shared} (h : ∀ a, g a = s.heap.get? a) : obsMG n cs bs fa fn g = (hookM n cs bs fa fn).obs s := by
  have e : g = s.heap.get? := funext h
  rw [e]
  rfl
section
variable {cs : List (Str × PyData)} {bs : List (Str × String)} {fa : List He.Fa} {fn : List He.FnD} {K : PySem.W.Frag} {h : Heap} {mg : Str → Option Value}
theorem SaysM.con (c : SaysM cs bs fa fn K) (X : K.In h) (G : h.Ns mainGlobals mg) (i : Nat) {x : Str} {d : PyData} (e : cs[i]? = some (x, d) := by rfl) : GlK K mg x d :=
  conB_ok X G (List.all_eq_true.mp (Bool.and_eq_true_iff.mp (Bool.and_eq_true_iff.mp (show (((cs.all fun c => conB K c.1 c.2) && bs.all fun b => bltB K b.1 b.2) && digB K) = true from c.ck)).1).1 _ (List.mem_of_getElem? e))
theorem SaysM.blt (c : SaysM cs bs fa fn K) (X : K.In h) (G : h.Ns mainGlobals mg) (i : Nat) {x : Str} {b : String} (e : bs[i]? = some (x, b) := by rfl) : mg x = some (.builtin b) :=
  bltB_ok X G (List.all_eq_true.mp (Bool.and_eq_true_iff.mp (Bool.and_eq_true_iff.mp (show (((cs.all fun c => conB K c.1 c.2) && bs.all fun b => bltB K b.1 b.2) && digB K) = true from c.ck)).1).2 _ (List.mem_of_getElem? e))
/-- the function that stands at a name -/
def fdAt (K : PySem.W.Frag) (x : Str) : FuncData := match K.lookup (He.ga K x) with
  | some ⟨_, _, .func fd, _⟩ => fd
  | _ => PySem.W.fnOf x x ⟨[], [], none, [], [], none, []⟩ [] ⟨.function, [], false, false, []⟩ .none .none .none .none none .none .none
def fnD (x : Str) (st : Stmt) : He.FnD := ⟨(x, none), x, x, defArgs st, defBody st, defScope st⟩
theorem SaysM.func (c : SaysM cs bs fa fn K) (i j : Nat) {x : Str} {st : Stmt} (e : fn[i]? = some (fnD x st) := by rfl) (ek : fa[j]? = some (.keep x) := by rfl) : Fun K x x st (He.ga K x) (fdAt K x) := by
  obtain ⟨oc, od, osl, kV, doc, pm, an, cdv, ct, h1, h2⟩ := c.sy.def_ i e
  have kp := He.keep_ok (c.sy.fact j ek)
  have h3 : K.lookup (He.ga K x) = some ⟨oc, od, .func (PySem.W.fnOf x x (defArgs st) (defBody st) (defScope st) .none kV doc pm an cdv ct), osl⟩ := h1
  have e2 : fdAt K x = PySem.W.fnOf x x (defArgs st) (defBody st) (defScope st) .none kV doc pm an cdv ct := by
    unfold fdAt
    rw [h3]
  rw [e2]
  exact fun_mk h3 h2 kp
end
end Dh
namespace Dh
open PySem PySem.Spec L2 PySem.W
section
variable {α β : Type} {ρ : Ev} {s : Sto} {i j k : Nat} {a b : Mx} {ta tb : Mt} {as : Ma} {x y : R} {d e : PyData} {ma mb : Ms}
@[simp] theorem ev_bnd {a : Ev → Sto → Option (α × Sto)} {f : α → Ev → Sto → Option (β × Sto)} : bnd a f ρ s = (match a ρ s with | some (x, s1) => f x ρ s1 | none => none) := rfl
@[simp] theorem ev_ret {x : Option α} : ret x s = (match x with | some y => some (y, s) | none => none) := rfl
@[simp] theorem ev_m1 {f : R → Option R} : m1 f a ρ s = (match a ρ s with | some (x, s1) => ret (f x) s1 | none => none) := by
  unfold m1 bnd
  rcases a ρ s with _ | ⟨_, _⟩ <;> rfl
@[simp] theorem ev_m2 {f : R → R → Option R} : m2 f a b ρ s = (match a ρ s with | some (x, s1) => (match b ρ s1 with | some (y, s2) => ret (f x y) s2 | none => none) | none => none) := by
  unfold m2 bnd
  rcases a ρ s with _ | ⟨_, s1⟩
  · rfl
  · dsimp only
    rcases b ρ s1 with _ | ⟨_, _⟩ <;> rfl
@[simp] theorem ev_mA {f : List R → Option R} : mA f as ρ s = (match as ρ s with | some (x, s1) => ret (f x) s1 | none => none) := by
  unfold mA bnd
  rcases as ρ s with _ | ⟨_, _⟩ <;> rfl
@[simp] theorem ev_maNil : maNil ρ s = some ([], s) := rfl
@[simp] theorem ev_maCons : maCons a as ρ s = (match a ρ s with | some (x, s1) => (match as ρ s1 with | some (xs, s2) => some (x :: xs, s2) | none => none) | none => none) := by
  unfold maCons bnd
  rcases a ρ s with _ | ⟨_, s1⟩
  · rfl
  · dsimp only
    rcases as ρ s1 with _ | ⟨_, _⟩ <;> rfl
@[simp] theorem ev_mVar : mVar i ρ s = (match ρ[i]? with | some (some c) => some (rdCl c, s) | _ => none) := rfl
@[simp] theorem ev_mKon : mKon d ρ s = some (.d d, s) := rfl
@[simp] theorem ev_rdCl_d : rdCl (.d d) = .d d := rfl
@[simp] theorem ev_rdCl_s : rdCl .s = .s := rfl
@[simp] theorem ev_rdCl_o {xs : List PyData} : rdCl (.o xs) = .b xs := rfl
@[simp] theorem ev_bT : bT a ρ s = (match a ρ s with | some (.d (.bool k), s1) => some (k, s1) | _ => none) := by
  unfold bT bnd
  cases a ρ s with
  | none => rfl
  | some p =>
    obtain ⟨x, s1⟩ := p
    cases x with
    | d z => cases z <;> rfl
    | f _ => rfl
    | b _ => rfl
    | s => rfl
    | m _ => rfl
    | n _ => rfl
@[simp] theorem ev_fI {g : Int → Int → Option PyData} {i j : Int} : fI g (.d (.int i)) (.d (.int j)) = (g i j).map .d := rfl
@[simp] theorem ev_gMns {i j : Int} : gMns i j = some (.int (i - j)) := rfl
@[simp] theorem ev_gLt {i j : Int} : gLt i j = some (.bool (decide (i < j))) := rfl
@[simp] theorem ev_gLe {i j : Int} : gLe i j = some (.bool (decide (i ≤ j))) := rfl
@[simp] theorem ev_gGt {i j : Int} : gGt i j = some (.bool (decide (j < i))) := rfl
@[simp] theorem ev_gGe {i j : Int} : gGe i j = some (.bool (decide (j ≤ i))) := rfl
@[simp] theorem ev_fNeg {i : Int} : fNeg (.d (.int i)) = some (.d (.int (-i))) := rfl
@[simp] theorem ev_fNot {k : Bool} : fNot (.d (.bool k)) = some (.d (.bool (!k))) := rfl
@[simp] theorem ev_rdL1 {xs : List PyData} : rdL (.d (.list xs)) = some xs := rfl
@[simp] theorem ev_rdL2 {xs : List PyData} : rdL (.f xs) = some xs := rfl
@[simp] theorem ev_rdL3 {xs : List PyData} : rdL (.b xs) = some xs := rfl
@[simp] theorem ev_rdQ1 {xs : List PyData} : rdQ (.d (.list xs)) = some xs := rfl
@[simp] theorem ev_rdQ2 {xs : List PyData} : rdQ (.f xs) = some xs := rfl
@[simp] theorem ev_rdQ3 {xs : List PyData} : rdQ (.b xs) = some xs := rfl
@[simp] theorem ev_rdQ4 {xs : List PyData} : rdQ (.d (.tuple xs)) = some xs := rfl
@[simp] theorem ev_rdD1 : rdD (.d d) = some d := rfl
@[simp] theorem ev_rdD2 {xs : List PyData} : rdD (.f xs) = some (.list xs) := rfl
@[simp] theorem ev_rdD3 {xs : List PyData} : rdD (.b xs) = some (.list xs) := rfl
@[simp] theorem ev_toD1 : toD (.d d) = some d := rfl
@[simp] theorem ev_toD2 {xs : List PyData} : toD (.f xs) = some (.list xs) := rfl
@[simp] theorem ev_toDs0 : toDs [] = some [] := rfl
@[simp] theorem ev_toDs1 {rs : List R} : toDs (x :: rs) = (match toD x, toDs rs with | some x, some xs => some (x :: xs) | _, _ => none) := rfl
@[simp] theorem ev_toCl1 : toCl (.d d) = some (.d d) := rfl
@[simp] theorem ev_toCl2 {xs : List PyData} : toCl (.f xs) = some (.o xs) := rfl
@[simp] theorem ev_toCl3 : toCl .s = some .s := rfl
@[simp] theorem ev_toArg1 : toArg (.d d) = some (.d d) := rfl
@[simp] theorem ev_toArg2 {xs : List PyData} : toArg (.f xs) = some (.d (.list xs)) := rfl
@[simp] theorem ev_toArg3 : toArg .s = some .s := rfl
@[simp] theorem ev_toArgs0 : toArgs [] = some [] := rfl
@[simp] theorem ev_toArgs1 {rs : List R} : toArgs (x :: rs) = (match toArg x, toArgs rs with | some x, some xs => some (x :: xs) | _, _ => none) := rfl
@[simp] theorem ev_mCall {g : Fx} : mCall g as ρ s = (match as ρ s with | some (rs, s1) => (match toArgs rs with | some cs => g cs s1 | none => none) | none => none) := by
  unfold mCall bnd
  rcases as ρ s with _ | ⟨_, _⟩ <;> rfl
@[simp] theorem ev_tAnd2 : tAnd2 ta tb ρ s = (match ta ρ s with | some (true, s1) => tb ρ s1 | some (false, s1) => some (false, s1) | none => none) := by
  unfold tAnd2 bnd
  rcases ta ρ s with _ | ⟨_ | _, _⟩ <;> rfl
@[simp] theorem ev_tOr2 : tOr2 ta tb ρ s = (match ta ρ s with | some (false, s1) => tb ρ s1 | some (true, s1) => some (true, s1) | none => none) := by
  unfold tOr2 bnd
  rcases ta ρ s with _ | ⟨_ | _, _⟩ <;> rfl
@[simp] theorem ev_tNot2 : tNot2 ta ρ s = (match ta ρ s with | some (k, s1) => some (!k, s1) | none => none) := by
  unfold tNot2 bnd
  rcases ta ρ s with _ | ⟨_, _⟩ <;> rfl
@[simp] theorem ev_mIf : mIf ta a b ρ s = (match ta ρ s with | some (true, s1) => a ρ s1 | some (false, s1) => b ρ s1 | none => none) := by
  unfold mIf bnd
  rcases ta ρ s with _ | ⟨_ | _, _⟩ <;> rfl
@[simp] theorem ev_mAnd : mAnd a b ρ s = (match a ρ s with | some (.d (.bool true), s1) => b ρ s1 | some (.d (.bool false), s1) => some (.d (.bool false), s1) | _ => none) := by
  unfold mAnd bnd
  cases a ρ s with
  | none => rfl
  | some p =>
    obtain ⟨x, s1⟩ := p
    cases x with
    | d z =>
      cases z with
      | bool k => cases k <;> rfl
      | _ => rfl
    | f _ => rfl
    | b _ => rfl
    | s => rfl
    | m _ => rfl
    | n _ => rfl
@[simp] theorem ev_mOr : mOr a b ρ s = (match a ρ s with | some (.d (.bool false), s1) => b ρ s1 | some (.d (.bool true), s1) => some (.d (.bool true), s1) | _ => none) := by
  unfold mOr bnd
  cases a ρ s with
  | none => rfl
  | some p =>
    obtain ⟨x, s1⟩ := p
    cases x with
    | d z =>
      cases z with
      | bool k => cases k <;> rfl
      | _ => rfl
    | f _ => rfl
    | b _ => rfl
    | s => rfl
    | m _ => rfl
    | n _ => rfl
@[simp] theorem ev_mSeq : mSeq ma mb ρ s = (match ma ρ s with | some (.nx, ρ1, s1) => mb ρ1 s1 | some r => some r | none => none) := rfl
@[simp] theorem ev_mNil : mNil ρ s = some (.nx, ρ, s) := rfl
@[simp] theorem ev_mIfS : mIfS ta ma mb ρ s = (match ta ρ s with | some (true, s1) => ma ρ s1 | some (false, s1) => mb ρ s1 | none => none) := rfl
@[simp] theorem ev_mRet : mRet a ρ s = (match a ρ s with | some (.d x, s1) => some (.rt (.d x), ρ, s1) | some (.f xs, s1) => some (.rt (.f xs), ρ, s1) | _ => none) := rfl
@[simp] theorem ev_mRetV : mRetV i ρ s = (match ρ[i]? with | some (some (.d x)) => some (.rt (.d x), ρ, s) | some (some (.o xs)) => some (.rt (.f xs), ρ, s) | _ => none) := rfl
@[simp] theorem ev_mSet : mSet i a ρ s = (match a ρ s with | some (r, s1) => (match toCl r with | some c => some (.nx, ρ.set i (some c), s1) | none => none) | none => none) := rfl
@[simp] theorem ev_mYes : mYes ρ s = some (true, s) := rfl
@[simp] theorem ev_mFor {it : Mi} {g : Gx} : mFor it g ma ρ s = (match it ρ s with | some (xs, s1) => forRun g ma xs ρ s1 | none => none) := rfl
@[simp] theorem ev_mSeqI : mSeqI a ρ s = (match a ρ s with | some (x, s1) => ret (itemsOf x) s1 | none => none) := by
  unfold mSeqI bnd
  rcases a ρ s with _ | ⟨_, _⟩ <;> rfl
@[simp] theorem ev_mArgI {f : List R → Option (List PyData)} : mArgI f as ρ s = (match as ρ s with | some (x, s1) => ret (f x) s1 | none => none) := by
  unfold mArgI bnd
  rcases as ρ s with _ | ⟨_, _⟩ <;> rfl
@[simp] theorem ev_items1 {xs : List PyData} : itemsOf (.d (.list xs)) = some xs := rfl
@[simp] theorem ev_items2 {xs : List PyData} : itemsOf (.d (.tuple xs)) = some xs := rfl
@[simp] theorem ev_items3 {xs : List PyData} : itemsOf (.f xs) = some xs := rfl
@[simp] theorem ev_gN : gN i d ρ = some (ρ.set i (some (.d d))) := rfl
@[simp] theorem ev_gT {n : Nat} {g : Gxs} {xs : List PyData} : gT n g (.tuple xs) ρ = if xs.length = n then g xs ρ else none := rfl
@[simp] theorem ev_gsNil : gsNil [] ρ = some ρ := rfl
@[simp] theorem ev_gsCons {g : Gx} {r : Gxs} {xs : List PyData} : gsCons g r (d :: xs) ρ = (match g d ρ with | some ρ1 => r xs ρ1 | none => none) := rfl
@[simp] theorem ev_mIx : mIx a b ρ s = (match a ρ s with | some (x, s1) => (match b ρ s1 with | some (y, s2) => (match fIx s2 x y with | some z => some (z, s2) | none => none) | none => none) | none => none) := by
  unfold mIx bnd
  rcases a ρ s with _ | ⟨_, s1⟩
  · rfl
  · dsimp only
    rcases b ρ s1 with _ | ⟨_, _⟩ <;> rfl
@[simp] theorem ev_fIxT {xs : List PyData} {i : Int} : fIx s (.d (.tuple xs)) (.d (.int i)) = (atI xs i).map R.d := by
  show (match rdQ (.d (.tuple xs)) with | some xs => (atI xs i).map R.d | none => none) = _
  rfl
@[simp] theorem ev_fIxL {xs : List PyData} {i : Int} : fIx s (.d (.list xs)) (.d (.int i)) = (atI xs i).map R.d := rfl
@[simp] theorem ev_fIxB {xs : List PyData} {i : Int} : fIx s (.b xs) (.d (.int i)) = (atI xs i).map R.d := rfl
@[simp] theorem ev_fIxF {xs : List PyData} {i : Int} : fIx s (.f xs) (.d (.int i)) = (atI xs i).map R.d := rfl
@[simp] theorem ev_fIxS {i : Int} : fIx s .s (.d (.int i)) = (atI s i).map fun j => .d (.int j) := rfl
@[simp] theorem ev_atI0 {x : α} {xs : List α} : atI (x :: xs) 0 = some x := by
  unfold atI ixN
  simp
@[simp] theorem ev_atI1 {x y : α} {xs : List α} : atI (x :: y :: xs) 1 = some y := by
  have h : (1 : Int) < (xs.length : Int) + 1 + 1 := by omega
  unfold atI ixN
  simp [h]
@[simp] theorem ev_atI2 {x y z : α} {xs : List α} : atI (x :: y :: z :: xs) 2 = some z := by
  have h : (2 : Int) < (xs.length : Int) + 1 + 1 + 1 := by omega
  unfold atI ixN
  simp [h]
@[simp] theorem ev_fLen : fLen [x] = (rdQ x).map fun xs => .d (.int xs.length) := rfl
@[simp] theorem ev_fIsi {T : String} : fIsi T x = (rdD x).map fun d => .d (.bool (isA T d)) := rfl
@[simp] theorem ev_fTup {rs : List R} : fTup rs = (match toDs rs with | some xs => if xs.length ≤ sizeLine then some (.d (.tuple xs)) else none | none => none) := rfl
@[simp] theorem ev_fLst {rs : List R} : fLst rs = (match toDs rs with | some xs => if xs.length ≤ sizeLine then some (.f xs) else none | none => none) := rfl
@[simp] theorem ev_fGcd {i j : Int} : fGcd [.d (.int i), .d (.int j)] = some (.d (.int ((Nat.gcd i.natAbs j.natAbs : Nat) : Int))) := rfl
@[simp] theorem ev_fAbs {i : Int} : fAbs [.d (.int i)] = some (.d (.int (if i < 0 then -i else i))) := rfl
@[simp] theorem ev_fInt {i : Int} : fInt [.d (.int i)] = some (.d (.int i)) := rfl
@[simp] theorem ev_fTupOf1 {xs : List PyData} : fTupOf [.f xs] = some (.d (.tuple xs)) := rfl
@[simp] theorem ev_fTupOf2 {xs : List PyData} : fTupOf [.b xs] = some (.d (.tuple xs)) := rfl
@[simp] theorem ev_fTupOf3 {xs : List PyData} : fTupOf [.d (.list xs)] = some (.d (.tuple xs)) := rfl
@[simp] theorem ev_fTupOf4 {xs : List PyData} : fTupOf [.d (.tuple xs)] = some (.d (.tuple xs)) := rfl
@[simp] theorem ev_fAddI {i j : Int} : fAdd (.d (.int i)) (.d (.int j)) = some (.d (.int (i + j))) := rfl
@[simp] theorem ev_fAddT {xs ys : List PyData} : fAdd (.d (.tuple xs)) (.d (.tuple ys)) = if xs.length + ys.length ≤ sizeLine then some (.d (.tuple (xs ++ ys))) else none := rfl
@[simp] theorem ev_fMulI {i j : Int} : fMul (.d (.int i)) (.d (.int j)) = if mulOk i j = true then some (.d (.int (i * j))) else none := rfl
@[simp] theorem ev_mCnt : mCnt ρ s = some (.ct, ρ, s) := rfl
@[simp] theorem ev_mRetN : mRetN ρ s = some (.rt (.d .none), ρ, s) := rfl
@[simp] theorem ev_forNil {g : Gx} : forRun g ma [] ρ s = some (.nx, ρ, s) := rfl
@[simp] theorem ev_lcNil {vs : List Nat} {g : Gx} : lcRun vs g ta a [] ρ s = some ([], s) := rfl
@[simp] theorem ev_mFrz {is : List Nat} : mFrz is ma ρ s = ma (frzs ρ is) s := rfl
@[simp] theorem ev_wipe0 : wipeE ρ [] = ρ := rfl
@[simp] theorem ev_wipe1 {v : Nat} {vs : List Nat} : wipeE ρ (v :: vs) = (wipeE ρ vs).set v none := rfl
@[simp] theorem ev_isA_int_int {i : Int} : isA "int" (.int i) = true := rfl
@[simp] theorem ev_isA_int_bool {k : Bool} : isA "int" (.bool k) = true := rfl
@[simp] theorem ev_isA_int_none : isA "int" .none = false := rfl
@[simp] theorem ev_isA_int_str {x : Str} : isA "int" (.str x) = false := rfl
@[simp] theorem ev_isA_int_list {xs : List PyData} : isA "int" (.list xs) = false := rfl
@[simp] theorem ev_isA_int_tuple {xs : List PyData} : isA "int" (.tuple xs) = false := rfl
@[simp] theorem ev_isA_int_dict {xs : List (PyData × PyData)} : isA "int" (.dict xs) = false := rfl
@[simp] theorem ev_isA_bool_int {i : Int} : isA "bool" (.int i) = false := rfl
@[simp] theorem ev_isA_bool_bool {k : Bool} : isA "bool" (.bool k) = true := rfl
@[simp] theorem ev_isA_bool_none : isA "bool" .none = false := rfl
@[simp] theorem ev_isA_bool_str {x : Str} : isA "bool" (.str x) = false := rfl
@[simp] theorem ev_isA_bool_list {xs : List PyData} : isA "bool" (.list xs) = false := rfl
@[simp] theorem ev_isA_bool_tuple {xs : List PyData} : isA "bool" (.tuple xs) = false := rfl
@[simp] theorem ev_isA_bool_dict {xs : List (PyData × PyData)} : isA "bool" (.dict xs) = false := rfl
@[simp] theorem ev_isA_tuple_int {i : Int} : isA "tuple" (.int i) = false := rfl
@[simp] theorem ev_isA_tuple_bool {k : Bool} : isA "tuple" (.bool k) = false := rfl
@[simp] theorem ev_isA_tuple_none : isA "tuple" .none = false := rfl
@[simp] theorem ev_isA_tuple_str {x : Str} : isA "tuple" (.str x) = false := rfl
@[simp] theorem ev_isA_tuple_list {xs : List PyData} : isA "tuple" (.list xs) = false := rfl
@[simp] theorem ev_isA_tuple_tuple {xs : List PyData} : isA "tuple" (.tuple xs) = true := rfl
@[simp] theorem ev_isA_tuple_dict {xs : List (PyData × PyData)} : isA "tuple" (.dict xs) = false := rfl
end
end Dh
namespace Dh
open PySem PySem.Spec L2
end Dh
namespace Dh
open PySem PySem.Spec L2
/-- a target stores data alone -/
def Gok (is : List Nat) (g : Gx) : Prop := ∀ x ρ ρ' (i : Nat) us, g x ρ = some ρ' → ρ'[i]? = some (some (Cl.o us)) → ρ[i]? = some (some (Cl.o us)) ∧ i ∉ is
theorem gok_name (k : Nat) : Gok [k] (gN k) := fun x ρ ρ' i us h q => by
  cases h
  by_cases e : i = k
  · subst e
    by_cases hi : i < ρ.length
    · rw [List.getElem?_set_self hi] at q; cases q
    · rw [List.getElem?_eq_none (by rw [List.length_set]; omega)] at q; cases q
  · rw [List.getElem?_set_ne (Ne.symm e)] at q
    exact ⟨q, by simp [e]⟩
def lcRun2 (vs vs1 : List Nat) (g : Gx) (t : Mt) (it1 : Mi) (g1 : Gx) (t1 : Mt) (e : Mx) : List PyData → Ev → Sto → Option (List PyData × Sto)
  | [] => fun _ s => some ([], s)
  | x :: xs => fun ρ s => match g x (wipeE ρ vs) with
    | none => none
    | some ρ1 => match t ρ1 s with
      | none => none
      | some (false, s1) => lcRun2 vs vs1 g t it1 g1 t1 e xs ρ s1
      | some (true, s1) => match it1 ρ1 s1 with
        | none => none
        | some (zs, s2) => match lcRun vs1 g1 t1 e zs ρ1 s2 with
          | none => none
          | some (ys, s3) => match lcRun2 vs vs1 g t it1 g1 t1 e xs ρ s3 with
            | none => none
            | some (ys', s4) => some (ys ++ ys', s4)
def mLc2 (it : Mi) (vs : List Nat) (g : Gx) (t : Mt) (it1 : Mi) (vs1 : List Nat) (g1 : Gx) (t1 : Mt) (e : Mx) : Mx := fun ρ s => match it ρ s with
  | some (xs, s1) => match lcRun2 vs vs1 g t it1 g1 t1 e xs ρ s1 with
    | some (ys, s2) => if ys.length ≤ sizeLine then some (.f ys, s2) else none
    | none => none
  | none => none
section
variable {K : PySem.W.Frag} {mi mi1 : Mi} {g g1 : Gx} {is vs is1 vs1 : List Nat} {mt mt1 : Mt} {me : Mx}
theorem rd_lc2 (hs : ∀ i, i ∈ is → i ∈ vs) (hs1 : ∀ i, i ∈ is1 → i ∈ vs1) (gok : Gok is g) {σ : L2.St} {H : Hp} {Q : VK} (h : rdE K (mLc2 mi vs g mt mi1 vs1 g1 mt1 me) σ H Q) :
    tLc2 (rdI K mi) (rdG K is g) (rdT K mt) (rdI K mi1) (rdG K is1 g1) (rdT K mt1) (rdE K me) vs vs1 σ H Q := by
  obtain ⟨C, fz, ρ, sto, z, sto', F, e, k⟩ := h
  unfold mLc2 at e
  split at e
  · rename_i xs s1 e1
    split at e
    · rename_i ys s2 e2
      split at e
      · rename_i hz
        cases e
        refine ⟨C, fz, ρ, sto, xs, s1, F, e1, fun J fz1 H1 st1 l1 G => ?_⟩
        have F1 := F.step st1 l1
        intro D hD
        have nD : some D ≠ C.sp := l1.ne hD (by intro z; cases z)
        have n0 : C.H0 D = none := F1.st.back nD hD
        have nfz : ¬ fz1 D := fun z => F1.bs.trk D z hD
        have noD : ∀ (i : Nat) (us : List PyData), ρ[i]? = some (some (Cl.o us)) → σ[i]? ≠ some (some (V.ref D)) := fun i us q1 q2 => by
          obtain ⟨a, ws, g1, g2, _⟩ := F1.owned q1
          rw [q2] at g1; cases g1
          rw [hD] at g2; cases g2
        let W : Nat → Nat → Hp → Prop := fun i m H' => m = xs.length - i ∧ i ≤ xs.length ∧ ∃ (fz2 : Fz) (s3 : Sto) (acc : List V) (ya yb : List PyData), Fm K C fz2 ρ s3 σ H' ∧ Stp C.sp fz1 H1 fz2 H' ∧ H' D = some (.lst acc) ∧ ImA K fz2 H' acc ya ∧ ¬ fz2 D ∧
          lcRun2 vs vs1 g mt mi1 g1 mt1 me (xs.drop i) ρ s3 = some (yb, sto') ∧ ys = ya ++ yb
        have st2 : Stp C.sp fz1 H1 fz1 (upd H1 D (.lst [])) := .laid hD
        have l2 : SpL C.sp (upd H1 D (.lst [])) s1 := l1.upd nD
        refine ⟨W, ⟨xs.length, by simp, Nat.zero_le _, fz1, s1, [], [], ys, F1.step st2 l2, st2, upd_same, .nil, nfz, e2, rfl⟩, ?_⟩
        rintro i m H2 ⟨rfl, hi, fz2, s3, acc, ya, yb, F2, S2, hD2, im2, nf2, e3, ey⟩
        by_cases hlt : i < xs.length
        · have hx : xs[i]? = some xs[i] := List.getElem?_eq_getElem hlt
          rw [List.drop_eq_getElem_cons hlt] at e3
          unfold lcRun2 at e3
          split at e3
          · cases e3
          · rename_i ρ4 e4
            refine .inr ⟨G.go i fz2 H2 s3 hlt S2.sts F2.bs, fun H' => W (i + 1) (xs.length - (i + 1)) H', fun H' w => ⟨xs.length - (i + 1), by omega, w⟩, fun v H3 y => ?_⟩
            obtain ⟨st3, l3, im⟩ := G.yld i _ fz2 H2 s3 v H3 hx S2.sts F2.bs y
            have F3 := F2.step st3 l3
            refine ⟨C, fz2, wipeE ρ vs, s3, xs[i], ρ4, F3.wipe vs, im, e4, fun σ4 hl4 ho4 F4 => ?_⟩
            refine ⟨wipe_agree hl4 ho4 hs, ?_⟩
            have hD3 : H3 D = some (.lst acc) := st3.ext _ _ hD2 nD
            have noD4 : ∀ (i : Nat) (us : List PyData), ρ4[i]? = some (some (Cl.o us)) → σ4[i]? ≠ some (some (V.ref D)) := fun i us q1 => by
              obtain ⟨a1, a2⟩ := gok _ _ _ i us e4 q1
              obtain ⟨b1, b2⟩ := wipeE_some a1
              rw [ho4 i a2, wipe_out b2]
              exact noD i us b1
            split at e3
            · cases e3
            · rename_i s5 e5
              refine ⟨C, fz2, ρ4, s3, false, s5, F4, e5, fun fz6 H6 st6 l6 => ?_⟩
              refine iteF ?_
              have F6 := F3.step st6 l6
              refine ⟨rfl, hlt, fz6, s5, acc, ya, yb, F6, (S2.trans st3).trans st6, st6.ext _ _ hD3 nD, (im2.stp st3 F2.bs).stp st6 F3.bs, fun z => ?_, e3, ey⟩
              rcases st6.new D z with z | ⟨_, z⟩
              · exact nf2 z
              · rw [hD3] at z; cases z
            · rename_i s5 e5
              refine ⟨C, fz2, ρ4, s3, true, s5, F4, e5, fun fz6 H6 st6 l6 => ?_⟩
              refine iteT ?_
              have F6 := F3.step st6 l6
              have F46 := F4.step st6 l6
              have hD6 : H6 D = some (.lst acc) := st6.ext _ _ hD3 nD
              have nf6 : ¬ fz6 D := fun z => by
                rcases st6.new D z with z | ⟨_, z⟩
                · exact nf2 z
                · rw [hD3] at z; cases z
              split at e3
              · cases e3
              · rename_i zs s7 e7
                split at e3
                · cases e3
                · rename_i yi s9 e9
                  split at e3
                  · cases e3
                  · rename_i yr s10 e10
                    cases e3
                    refine ⟨C, fz6, ρ4, s5, zs, s7, F46, e7, fun J1 fz8 H8 st8 l8 G1 => ?_⟩
                    have F8 := F6.step st8 l8
                    have F48 := F46.step st8 l8
                    have hD8 : H8 D = some (.lst acc) := st8.ext _ _ hD6 nD
                    have nf8 : ¬ fz8 D := fun z => by
                      rcases st8.new D z with z | ⟨_, z⟩
                      · exact nf6 z
                      · rw [hD6] at z; cases z
                    have im8 : ImA K fz8 H8 acc ya := ((im2.stp st3 F2.bs).stp st6 F3.bs).stp st8 F6.bs
                    have S8 : Stp C.sp fz1 H1 fz8 H8 := ((S2.trans st3).trans st6).trans st8
                    let W1 : Nat → Nat → Hp → Prop := fun j k H' => k = zs.length - j ∧ j ≤ zs.length ∧ ∃ (fzj : Fz) (sj : Sto) (ac : List V) (yc yd : List PyData), Fm K C fzj ρ sj σ H' ∧ Fm K C fzj ρ4 sj σ4 H' ∧ Stp C.sp fz1 H1 fzj H' ∧ Sts C.sp fz8 H8 fzj H' ∧ H' D = some (.lst ac) ∧ ImA K fzj H' ac yc ∧ ¬ fzj D ∧
                      lcRun vs1 g1 mt1 me (zs.drop j) ρ4 sj = some (yd, s9) ∧ ys = yc ++ (yd ++ yr)
                    refine ⟨W1, ⟨zs.length, by simp, Nat.zero_le _, fz8, s7, acc, ya, yi, F8, F48, S8, .refl, hD8, im8, nf8, e9, ey⟩, ?_⟩
                    rintro j kk Hj ⟨rfl, hj, fzj, sj, ac, yc, yd, Fj, F4j, Sj, Tj, hDj, imj, nfj, ej, eyj⟩
                    by_cases hltj : j < zs.length
                    · have hxj : zs[j]? = some zs[j] := List.getElem?_eq_getElem hltj
                      rw [List.drop_eq_getElem_cons hltj] at ej
                      unfold lcRun at ej
                      split at ej
                      · cases ej
                      · rename_i ρ5 e5b
                        refine .inr ⟨G1.go j fzj Hj sj hltj Tj Fj.bs, fun H' => W1 (j + 1) (zs.length - (j + 1)) H', fun H' w => ⟨zs.length - (j + 1), by omega, w⟩, fun v H9 y => ?_⟩
                        obtain ⟨stA, lA, imA⟩ := G1.yld j _ fzj Hj sj v H9 hxj Tj Fj.bs y
                        have FA := Fj.step stA lA
                        have F4A := F4j.step stA lA
                        refine ⟨C, fzj, wipeE ρ4 vs1, sj, zs[j], ρ5, F4A.wipe vs1, imA, e5b, fun σ5 hl5 ho5 F5 => ?_⟩
                        refine ⟨wipe_agree hl5 ho5 hs1, ?_⟩
                        have hDA : H9 D = some (.lst ac) := stA.ext _ _ hDj nD
                        split at ej
                        · cases ej
                        · rename_i s11 e11
                          refine ⟨C, fzj, ρ5, sj, false, s11, F5, e11, fun fzB HB stB lB => ?_⟩
                          refine iteF ?_
                          have FB := FA.step stB lB
                          refine ⟨rfl, hltj, fzB, s11, ac, yc, yd, FB, F4A.step stB lB, (Sj.trans stA).trans stB, Tj.trans (stA.trans stB).sts, stB.ext _ _ hDA nD, (imj.stp stA Fj.bs).stp stB FA.bs, fun z => ?_, ej, eyj⟩
                          rcases stB.new D z with z | ⟨_, z⟩
                          · exact nfj z
                          · rw [hDA] at z; cases z
                        · rename_i s11 e11
                          refine ⟨C, fzj, ρ5, sj, true, s11, F5, e11, fun fzB HB stB lB => ?_⟩
                          refine iteT ?_
                          have FB := FA.step stB lB
                          have F4B := F4A.step stB lB
                          have F5B := F5.step stB lB
                          have hDB : HB D = some (.lst ac) := stB.ext _ _ hDA nD
                          split at ej
                          · cases ej
                          · rename_i r s12 e12
                            split at ej
                            · rename_i y1 y2 s13 ey1 e13
                              cases ej
                              refine ⟨C, fzB, ρ5, s11, r, s12, F5B, e12, fun w HC' HC stC lC iC => ?_⟩
                              obtain ⟨fzD, F4D, stD, imD⟩ := F4B.keep stC lC iC ey1
                              have FD := FB.step stD F4D.bs.spl
                              have hDC : HC D = some (.lst ac) := stC.ext _ _ hDB nD
                              have nfD : ¬ fzD D := fun z => by
                                rcases stD.new D z with z | ⟨_, z⟩
                                · rcases stB.new D z with z | ⟨_, z⟩
                                  · exact nfj z
                                  · rw [hDA] at z; cases z
                                · rw [hDB] at z; cases z
                              have ia : ImA K fzD HC ac yc := ((imj.stp stA Fj.bs).stp stB FA.bs).stp stD FB.bs
                              have il : ac.length = yc.length := ia.length
                              obtain ⟨FE, SE⟩ := FD.side (ws := ac ++ [w]) ⟨ac, hDC⟩ nfD nD n0 noD
                              obtain ⟨F4E, _⟩ := F4D.side (ws := ac ++ [w]) ⟨ac, hDC⟩ nfD nD n0 noD4
                              have stE : Stp C.sp fz1 H1 fzD (upd HC D (.lst (ac ++ [w]))) := by
                                have q := ((Sj.trans stA).trans stB).trans stD
                                refine ⟨q.mono, fun b o qb n => ?_, q.new, fun t b qb z => ?_⟩
                                · have : b ≠ D := fun z => by subst z; rw [hD] at qb; cases qb
                                  rw [upd_ne this]; exact q.ext b o qb n
                                · by_cases eb : b = D
                                  · subst eb; rw [upd_same] at z; cases z
                                  · rw [upd_ne eb] at z; exact q.trk t b qb z
                              refine ⟨ac, hDC, ?_, rfl, hltj, fzD, s12, ac ++ [w], yc ++ [y1], y2, FE, F4E, stE, (Tj.trans ((stA.trans stB).trans stD).sts).trans SE, upd_same, (ia.append (.cons imD .nil)).sts SE FD.bs, nfD, e13, by rw [eyj, List.append_assoc]; rfl⟩
                              rw [il]
                              have := congrArg List.length eyj
                              rw [List.length_append, List.length_append, List.length_cons] at this
                              omega
                            · cases ej
                    · have ei : j = zs.length := by omega
                      subst ei
                      rw [List.drop_length] at ej
                      cases ej
                      refine .inl ⟨G1.stop fzj Hj _ Tj Fj.bs, rfl, hlt, fzj, _, ac, yc, yr, Fj, Sj, hDj, imj, nfj, e10, ?_⟩
                      rw [eyj, List.nil_append]
        · have ei : i = xs.length := by omega
          subst ei
          rw [List.drop_length] at e3
          cases e3
          refine .inl ⟨G.stop fz2 H2 _ S2.sts F2.bs, ?_⟩
          refine k _ fz2 H2 (st1.trans S2) F2.bs.spl ⟨D, acc, rfl, hD2, ?_, nf2, nD, st1.back nD hD⟩
          rw [ey, List.append_nil]
          exact im2
      · cases e
    · cases e
  · cases e
end
end Dh
namespace Dh
open PySem PySem.Spec L2
def fIn (neg : Bool) : R → R → Option R := fun x y => match rdD x, y with
  | some d, .d (.tuple ds) => if eqOk d = true ∧ eqOk (.tuple ds) = true then some (.d (.bool (if neg then !(ds.any fun z => PyData.eqv z d) else ds.any fun z => PyData.eqv z d))) else none
  | some d, y => match rdL y with
    | some ds => if eqOk d = true ∧ eqOk (.list ds) = true then some (.d (.bool (if neg then !(ds.any fun z => PyData.eqv z d) else ds.any fun z => PyData.eqv z d))) else none
    | none => none
  | _, _ => none
def rInT (K : PySem.W.Frag) (neg : Bool) : R2 := fun x y H Q => ∃ d ds, Dp K H x d ∧ Dp K H y (.tuple ds) ∧ SeqAt.shaped d = true ∧ SeqAt.shaped (.tuple ds) = true ∧ Q (.bl (if neg then !(ds.any fun z => PyData.eqv z d) else ds.any fun z => PyData.eqv z d)) H
section
variable {X : Cx}
theorem op_notInT (hu : X.A.units + 65 < cLine) : OpR X (compareOp .NotIn) (rInT X.K true) := by
  intro pins s σ H x y v u Q I rx ry h
  obtain ⟨d, ds, hd, he, sd, se, q⟩ := h
  obtain ⟨as, r1⟩ := Dp.reads I d x v hd rx
  obtain ⟨bs, r2⟩ := Dp.reads I (.tuple ds) y u he ry
  exact SeqAt.notIn_tuple_reads r2 r1 (SeqAt.canLay_of_shaped se) (SeqAt.canLay_of_shaped sd) (by have h1 := SeqAt.depth_of_shaped sd; have h2 := Nat.min_le_right (PyData.depthAll ds) d.depth; omega) ⟨.bl _, H, I, rfl, q⟩
def rInB (K : PySem.W.Frag) (neg : Bool) : R2 := fun x y H Q => (if neg then rNotInD K x y H Q else rInD K x y H Q) ∨ rInT K neg x y H Q
theorem op_notInB (hu : X.A.units + 65 < cLine) : OpR X (compareOp .NotIn) (rInB X.K true) := (op_notInD hu).or (op_notInT hu)
theorem eqOk_of2 {d : PyData} (h : eqOk d = true) : noDict d = true ∧ SeqAt.shaped d = true := by
  simpa [eqOk] using h
theorem rdL_rdD {y : R} {ds : List PyData} (h : rdL y = some ds) : rdD y = some (.list ds) := by
  unfold rdL at h
  split at h <;> first | (cases h; rfl) | cases h
theorem ok_in (neg : Bool) : Ok2 X.K (rInB X.K neg) (fIn neg) := by
  intro sp fz H H0 sto v w x y z Q B ix iy h k
  unfold fIn at h
  split at h
  · rename_i d ds hd
    split at h
    · rename_i hz
      cases h
      have a := eqOk_of2 hz.1
      have b := eqOk_of2 hz.2
      exact .inr ⟨d, ds, ix.dp hd a.1, iy.dp rfl b.1, a.2, b.2, k _ fz H .refl B.spl (.bl _)⟩
    · cases h
  · rename_i d hd _
    split at h
    · rename_i ds hl
      split at h
      · rename_i hz
        cases h
        have a := eqOk_of2 hz.1
        have b := eqOk_of2 hz.2
        cases neg with
        | true => exact .inl ⟨d, ds, ix.dp hd a.1, iy.dp (rdL_rdD hl) b.1, a.2, b.2, k _ fz H .refl B.spl (.bl _)⟩
        | false => exact .inl ⟨d, ds, ix.dp hd a.1, iy.dp (rdL_rdD hl) b.1, a.2, b.2, k _ fz H .refl B.spl (.bl _)⟩
      · cases h
    · cases h
  · cases h
theorem units65 {A : Around} {k : Nat} (hr : Room k A) : A.units + 65 < cLine := by
  have := hr.un
  omega
variable {a b : Expr} {ma mb : Mx} {pos : Pos}
theorem sb_notin {k : Nat} (hr : Room k X.A) (ha : SE X a ma) (hb : SE X b mb) (hm : behindInMarks .NotIn b = false := by rfl) : SB X (.Compare a [.NotIn] [b] pos) (bT (m2 (fIn true) ma mb)) := sb_cmp (op_notInB (units65 hr)) (ok_in true) ha hb hm
end
end Dh
namespace Dh
open PySem PySem.Spec L2
def putP (acc : List (Key × PyData)) (k : Key) (d : PyData) : List (Key × PyData) :=
  if (acc.any fun p => decide (p.1 = k)) = true then acc.map (fun p => if p.1 = k then (p.1, d) else p) else acc ++ [(k, d)]
def valP (acc : List (Key × PyData)) (k : Key) : Option PyData := (acc.find? fun p => decide (p.1 = k)).map (·.2)
def keyP : R → Option Key
  | .d (.int i) => some (.inl i)
  | .d (.str x) => some (.inr x)
  | _ => none
def kP : Key → PyData
  | .inl i => .int i
  | .inr x => .str x
def dOf (acc : List (Key × PyData)) : PyData := .dict (acc.map fun p => (kP p.1, p.2))
section
variable {K : PySem.W.Frag} {C : Cn} {sp : Option Addr} {fz fz1 : Fz} {ρ : Ev} {sto sto' : Sto} {σ : L2.St} {H H0 H1 : Hp}
theorem ImK.cons_inv {p : Key × V} {kvs : List (Key × V)} {acc : List (Key × PyData)} (h : ImK K fz H (p :: kvs) acc) : ∃ d acc', acc = (p.1, d) :: acc' ∧ Im K fz H p.2 d ∧ ImK K fz H kvs acc' := by
  obtain ⟨h1, h2⟩ := h
  cases acc with
  | nil => cases h1
  | cons q acc =>
    rw [List.map_cons, List.map_cons] at h1 h2
    cases h2 with
    | cons a b =>
      have e := List.cons.inj h1
      exact ⟨q.2, acc, by rw [e.1], a, e.2, b⟩
theorem ImK.any {k : Key} : ∀ {kvs : List (Key × V)} {acc : List (Key × PyData)}, ImK K fz H kvs acc → (kvs.any fun p => decide (p.1 = k)) = acc.any fun p => decide (p.1 = k)
  | [], acc, h => by
    have : acc = [] := List.map_eq_nil_iff.mp h.1.symm
    subst this; rfl
  | p :: kvs, acc, h => by
    obtain ⟨d, acc', rfl, _, h2⟩ := h.cons_inv
    rw [List.any_cons, List.any_cons, h2.any]
theorem ImK.over {k : Key} {v : V} {d : PyData} (i : Im K fz H v d) : ∀ {kvs : List (Key × V)} {acc : List (Key × PyData)}, ImK K fz H kvs acc → ImK K fz H (kvs.map fun kv => if kv.1 = k then (kv.1, v) else kv) (acc.map fun p => if p.1 = k then (p.1, d) else p)
  | [], acc, h => by
    have : acc = [] := List.map_eq_nil_iff.mp h.1.symm
    subst this; exact ⟨rfl, .nil⟩
  | p :: kvs, acc, h => by
    obtain ⟨e, acc', rfl, h1, h2⟩ := h.cons_inv
    obtain ⟨g1, g2⟩ := ImK.over i h2
    by_cases q : p.1 = k
    · refine ⟨?_, ?_⟩
      · simp only [List.map_cons, if_pos q]
        rw [g1]
      · simp only [List.map_cons, if_pos q]
        exact .cons i g2
    · refine ⟨?_, ?_⟩
      · simp only [List.map_cons, if_neg q]
        rw [g1]
      · simp only [List.map_cons, if_neg q]
        exact .cons h1 g2
theorem ImK.put {k : Key} {v : V} {d : PyData} {kvs : List (Key × V)} {acc : List (Key × PyData)} (h : ImK K fz H kvs acc) (i : Im K fz H v d) : ImK K fz H (putK kvs k v) (putP acc k d) := by
  unfold putK putP
  rw [h.any]
  split
  · exact ImK.over i h
  · refine ⟨?_, ?_⟩
    · rw [List.map_append, List.map_append, h.1]; rfl
    · rw [List.map_append, List.map_append]
      exact h.2.append (.cons i .nil)
theorem ImK.val {k : Key} : ∀ {kvs : List (Key × V)} {acc : List (Key × PyData)}, ImK K fz H kvs acc → (∀ v, valV kvs k = some v → ∃ d, valP acc k = some d ∧ Im K fz H v d) ∧ (valV kvs k = none → valP acc k = none)
  | [], acc, h => by
    have : acc = [] := List.map_eq_nil_iff.mp h.1.symm
    subst this; exact ⟨(fun v e => by cases e), fun _ => rfl⟩
  | p :: kvs, acc, h => by
    obtain ⟨d, acc', rfl, i, h2⟩ := h.cons_inv
    obtain ⟨g1, g2⟩ := h2.val (k := k)
    by_cases q : p.1 = k
    · refine ⟨fun v e => ?_, fun e => ?_⟩
      · rw [valV_pos q] at e
        cases e
        exact ⟨d, by simp [valP, q], i⟩
      · rw [valV_pos q] at e; cases e
    · refine ⟨fun v e => ?_, fun e => ?_⟩
      · rw [valV_neg q] at e
        obtain ⟨d', e1, e2⟩ := g1 v e
        exact ⟨d', by rw [← e1]; simp [valP, q], e2⟩
      · rw [valV_neg q] at e
        rw [← g2 e]
        simp [valP, q]
theorem ImK.stp (s : Stp sp fz H fz1 H1) (B : Bs sp fz H sto) {kvs : List (Key × V)} {acc : List (Key × PyData)} (h : ImK K fz H kvs acc) : ImK K fz1 H1 kvs acc := ⟨h.1, h.2.stp s B⟩
theorem ImK.sts (s : Sts sp fz H fz1 H1) (B : Bs sp fz H sto) {kvs : List (Key × V)} {acc : List (Key × PyData)} (h : ImK K fz H kvs acc) : ImK K fz1 H1 kvs acc := ⟨h.1, h.2.sts s B⟩
theorem ImK.len {kvs : List (Key × V)} {acc : List (Key × PyData)} (h : ImK K fz H kvs acc) : kvs.length = acc.length := by
  have := congrArg List.length h.1
  rwa [List.length_map, List.length_map] at this
end
def dcRun (vs : List Nat) (g : Gx) (t : Mt) (ek ev : Mx) : List PyData → List (Key × PyData) → Ev → Sto → Option (List (Key × PyData) × Sto)
  | [], acc => fun _ s => some (acc, s)
  | x :: xs, acc => fun ρ s => match g x (wipeE ρ vs) with
    | none => none
    | some ρ1 => match t ρ1 s with
      | none => none
      | some (false, s1) => dcRun vs g t ek ev xs acc ρ s1
      | some (true, s1) => match ek ρ1 s1 with
        | none => none
        | some (rk, s2) => match ev ρ1 s2 with
          | none => none
          | some (rv, s3) => match keyP rk, toD rv with
            | some k, some y => if acc.length < sizeLine then dcRun vs g t ek ev xs (putP acc k y) ρ s3 else none
            | _, _ => none
def mDc (it : Mi) (vs : List Nat) (g : Gx) (t : Mt) (ek ev : Mx) : Mx := fun ρ s => match it ρ s with
  | some (xs, s1) => match dcRun vs g t ek ev xs [] ρ s1 with
    | some (acc, s2) => some (.d (dOf acc), s2)
    | none => none
  | none => none
theorem keyP_im {K : PySem.W.Frag} {sp : Option Addr} {fz : Fz} {H H0 : Hp} {v : V} {r : R} {k : Key} (i : ImR K sp H0 fz H v r) (e : keyP r = some k) : v = kV k := by
  unfold keyP at e
  split at e
  · cases e; cases i; rfl
  · cases e; cases i; rfl
  · cases e
def kEq (q : PyData) (k : Key) : Bool := match q, k with
  | .int i, .inl j => decide (i = j)
  | .str i, .inr j => decide (i = j)
  | _, _ => false
def m3 (f : R → R → R → Option R) (a b c : Mx) : Mx := bnd a fun x => bnd b fun y => bnd c fun z _ => ret (f x y z)
/-- what a tracked dict has under a key, as data -/
theorem dct_val {K : PySem.W.Frag} {fz : Fz} {H : Hp} {k : Key} : ∀ {kvs : List (Key × V)} {ds : List (PyData × PyData)}, ImA K fz H (kvs.map fun p => kV p.1) (ds.map (·.1)) → ImA K fz H (kvs.map (·.2)) (ds.map (·.2)) →
    (∀ v, valV kvs k = some v → ∃ d, (ds.find? fun p => kEq p.1 k).map (·.2) = some d ∧ Im K fz H v d) ∧
    (valV kvs k = none → (ds.find? fun p => kEq p.1 k).map (·.2) = none)
  | [], ds, a, b => by
    cases ds with
    | nil => exact ⟨(fun v e => by cases e), fun _ => rfl⟩
    | cons q ds => cases a
  | p :: kvs, ds, a, b => by
    cases ds with
    | nil => cases a
    | cons q ds =>
      rw [List.map_cons, List.map_cons] at a b
      cases a with
      | cons a1 a2 =>
        cases b with
        | cons b1 b2 =>
          obtain ⟨g1, g2⟩ := dct_val (k := k) a2 b2
          obtain ⟨p1, p2⟩ := p
          obtain ⟨q1, q2⟩ := q
          have key : kEq q1 k = decide (p1 = k) := by
            cases p1 with
            | inl i =>
              dsimp only [kV] at a1
              cases a1
              cases k with
              | inl j => simp [kEq]
              | inr j => simp [kEq]
            | inr i =>
              dsimp only [kV] at a1
              cases a1
              cases k with
              | inl j => simp [kEq]
              | inr j => simp [kEq]
          by_cases e : p1 = k
          · rw [decide_eq_true e] at key
            refine ⟨fun v h => ?_, fun h => ?_⟩
            · rw [valV_pos (p := (p1, p2)) e] at h
              cases h
              exact ⟨q2, by rw [List.find?_cons]; simp only [key]; rfl, b1⟩
            · rw [valV_pos (p := (p1, p2)) e] at h; cases h
          · rw [decide_eq_false e] at key
            refine ⟨fun v h => ?_, fun h => ?_⟩
            · rw [valV_neg (p := (p1, p2)) e] at h
              obtain ⟨d, e1, e2⟩ := g1 v h
              exact ⟨d, by rw [List.find?_cons]; simp only [key]; exact e1, e2⟩
            · rw [valV_neg (p := (p1, p2)) e] at h
              rw [List.find?_cons]
              simp only [key]
              exact g2 h
def mSwap (i : Nat) (ix1 ix2 : Mx) (a : Mx) : Ms := fun ρ s => match a ρ s with
  | some (.d (.tuple [x, y]), s1) => match ix1 ρ s1, ρ[i]? with
    | some (.d (.int k1), s2), some (some (.o xs)) => match ixN xs.length k1 with
      | some j1 => match ix2 (ρ.set i (some (.o (xs.set j1 x)))) s2 with
        | some (.d (.int k2), s3) => match ixN xs.length k2 with
          | some j2 => some (.nx, (ρ.set i (some (.o (xs.set j1 x)))).set i (some (.o ((xs.set j1 x).set j2 y))), s3)
          | none => none
        | _ => none
      | none => none
    | _, _ => none
  | _ => none
end Dh
namespace Dh
open PySem PySem.Spec L2 PySem.W PyProof.Rows
/-- a list, a tuple -/
inductive Sk where
  | l | t
def Sk.Sq (k : Sk) (K : PySem.W.Frag) (H : Hp) (a : Addr) (xs : List V) : Prop := match k with
  | .l => SqL K H a xs
  | .t => SqT K H a xs
def Sk.Is (k : Sk) (h : Heap) (a : Addr) (its : Array Value) : Prop := match k with
  | .l => h.IsList a its
  | .t => h.IsTuple a its
def Sk.Ir (k : Sk) (h : Heap) (it a : Addr) (i : Nat) : Prop := match k with
  | .l => h.IsListIter it a i
  | .t => h.IsTupleIter it a i
def Sk.ob (k : Sk) (a : Addr) : Obj := match k with
  | .l => { cls := .type "list_iterator", data := .fields #[.ref a, .int 0 0] }
  | .t => { cls := .type "tuple_iterator", data := .fields #[.ref a, .int 0 0] }
section
variable {X : Cx} {pins : List (Addr × Obj)} {σ : L2.St} {H : Hp} {s : Shared} {k : Sk} {a : Addr} {xs ys : List V}
theorem Sk.read (I : Inv X pins σ H s) (h : k.Sq X.K H a xs) : ∃ its : List Value, Vals xs its ∧ k.Is s.heap a its.toArray := by
  cases k with
  | l => obtain ⟨its, rv, p, _⟩ := I.list h; exact ⟨its, rv, p.isList⟩
  | t => obtain ⟨its, rv, p, _⟩ := I.tuple h; exact ⟨its, rv, (show s.heap.IsTuple a its.toArray from p)⟩
theorem Sk.inj (I : Inv X pins σ H s) (h : k.Sq X.K H a xs) (h2 : k.Sq X.K H a ys) : xs = ys := by
  cases k with
  | l => exact I.list_inj h h2
  | t => exact I.tuple_inj h h2
theorem Sk.lt {h : Heap} {its : Array Value} (p : k.Is h a its) : a < h.objs.size := by
  cases k with
  | l => obtain ⟨o, ho, _⟩ := id p; exact Heap.lt_size ho
  | t => obtain ⟨o, ho, _⟩ := id p; exact Heap.lt_size ho
theorem Sk.ir0 {h : Heap} {it : Addr} (e : h.get? it = some (k.ob a)) : k.Ir h it a 0 := by
  cases k with
  | l => exact ⟨_, e, rfl, rfl⟩
  | t => exact ⟨_, e, rfl, rfl⟩
theorem Sk.ir_obj {h : Heap} {it : Addr} {i : Nat} (e : k.Ir h it a i) : ∃ o, h.get? it = some o ∧ ∀ v, o.data ≠ .cell v := by
  cases k with
  | l => obtain ⟨o, e1, _, d⟩ := e; exact ⟨o, e1, fun v q => by rw [d] at q; cases q⟩
  | t => obtain ⟨o, e1, _, d⟩ := e; exact ⟨o, e1, fun v q => by rw [d] at q; cases q⟩
theorem Sk.ir_at {h h' : Heap} {it : Addr} {i : Nat} (e : k.Ir h it a i) (q : ∀ o, h.get? it = some o → h'.get? it = some o) : k.Ir h' it a i := by
  cases k with
  | l => exact Heap.IsListIter.at e fun o => q o
  | t => exact Heap.IsTupleIter.at e fun o => q o
theorem Sk.ir_lt {h : Heap} {it : Addr} {i : Nat} (e : k.Ir h it a i) : it < h.objs.size := by
  obtain ⟨o, e1, _⟩ := k.ir_obj e
  exact Heap.lt_size e1
theorem Sk.ne {h : Heap} {it : Addr} {i : Nat} {its : Array Value} (e : k.Ir h it a i) (p : k.Is h a its) : a ≠ it := fun q => by
  subst q
  cases k with
  | l => obtain ⟨o1, g1, c1, _⟩ := e; obtain ⟨o2, g2, c2, _⟩ := p; rw [g1] at g2; cases g2; rw [c1] at c2; simp at c2
  | t => obtain ⟨o1, g1, c1, _⟩ := e; obtain ⟨o2, g2, c2, _⟩ := p; rw [g1] at g2; cases g2; rw [c1] at c2; simp at c2
theorem Sk.begins (k : Sk) (a : Addr) (its : Array Value) : Begins (.ref a) (k.ob a) fun h => k.Is h a its := by
  cases k with
  | l => exact begins_list a its
  | t => exact begins_tuple a its
theorem Sk.draws {prog : Program} {w : World} {A : Around} (hh : A.handled = none) (k : Sk) (it : Addr) (hne : a ≠ it) (its : Array Value) :
    Draws prog w A it [it, a] its.size (fun i v => its[i]? = some v) (fun i h => k.Ir h it a i ∧ k.Is h a its) := by
  cases k with
  | l => exact Draws.list hh it a hne its
  | t => exact Draws.tuple hh it a hne its
end
/-- both as they stand at each turn, the items in new pairs -/
def Iz2 (K : PySem.W.Frag) (k1 k2 : Sk) (a b : Addr) : It :=
  ⟨fun i H => ∃ (xs ys : List V) (x y : V), k1.Sq K H a xs ∧ k2.Sq K H b ys ∧ xs[i]? = some x ∧ ys[i]? = some y,
    fun i H v H' => ∃ T o x y, v = .ref T ∧ H T = none ∧ o.dict = none ∧ H' = upd H T (.frz o (.tup [x, y])) ∧ (∀ xs, k1.Sq K H a xs → xs[i]? = some x) ∧ ∀ ys, k2.Sq K H b ys → ys[i]? = some y,
    fun i H => ∃ xs ys : List V, k1.Sq K H a xs ∧ k2.Sq K H b ys ∧ i ≤ xs.length ∧ i ≤ ys.length ∧ (xs.length = i ∨ ys.length = i)⟩
theorem turn_z2 {P : Program} {w : World} {K : PySem.W.Frag} {elts : List Expr} {kk : Nat} {tpos : Pos} {k1 k2 : Sk} {a b z TI TO i1 i2 : Addr} (S : ZipSep2 z TI TO i1 i2 [i1, a] [i2, b]) :
    Turn P w K (.Tuple elts kk tpos) (Iz2 K k1 k2 a b) [z, TI, TO, i1, i2] z (fun i h => IsZip h z TI TO .none ∧ IsTupOf2 h TI (.ref i1) (.ref i2) ∧ (∃ x y, IsTupOf2 h TO x y) ∧ k1.Ir h i1 a i ∧ k2.Ir h i2 b i) where
  mem := by simp
  obj := fun i h st c hc => by
    obtain ⟨hz, hTI, ⟨x, y, hTO⟩, h1, h2⟩ := st
    have e' : c = z ∨ c = TI ∨ c = TO ∨ c = i1 ∨ c = i2 := by simpa using hc
    rcases e' with q | q | q | q | q
    · rw [q]; exact ⟨_, hz, fun v q => nomatch q⟩
    · rw [q]; exact ⟨_, hTI, fun v q => nomatch q⟩
    · rw [q]; exact ⟨_, hTO, fun v q => nomatch q⟩
    · rw [q]; exact k1.ir_obj h1
    · rw [q]; exact k2.ir_obj h2
  keep := fun i h h' st k => by
    obtain ⟨hz, hTI, ⟨x, y, hTO⟩, h1, h2⟩ := st
    exact ⟨k z (by simp) _ hz, k TI (by simp) _ hTI, ⟨x, y, k TO (by simp) _ hTO⟩, k1.ir_at h1 fun o q => k i1 (by simp) o q, k2.ir_at h2 fun o q => k i2 (by simp) o q⟩
  item := by
    intro X hP hw hK hc i pins s σ H E I hf st hg
    subst hP hw hK
    obtain ⟨hz, hTI, ⟨x0, y0, hTO⟩, h1, h2⟩ := st
    obtain ⟨xs, ys, x, y, hqx, hqy, hx, hy⟩ := hg
    obtain ⟨its, rv, p⟩ := k1.read I hqx
    obtain ⟨its2, rv2, p2⟩ := k2.read I hqy
    obtain ⟨u, hu, ru⟩ := rv.get hx
    obtain ⟨u2, hu2, ru2⟩ := rv2.get hy
    have hzl : z < s.heap.objs.size := Heap.lt_size hz
    have hh := I.ok.hd hc
    have na := k1.ne h1 p
    have nb := k2.ne h2 p2
    have l1 : i < its.toArray.size := by have := (List.getElem?_eq_some_iff.mp hu).1; simpa using this
    have l2 : i < its2.toArray.size := by have := (List.getElem?_eq_some_iff.mp hu2).1; simpa using this
    refine wpAny_pyNext_zipD2_item S (k1.draws (A := X.A.in1) hh i1 na its.toArray) (k2.draws (A := X.A.in1) hh i2 nb its2.toArray) hz hTI hTO ⟨h1, p⟩ ⟨h2, p2⟩ l1 l2 fun x1 x2 h' tk e1 e2 z' TO' h1' h2' hT hsz hk => ?_
    have eu : x1 = u := by
      have q : its[i]? = some x1 := by simpa using e1
      rw [hu] at q; cases q; rfl
    have eu2 : x2 = u2 := by
      have q : its2[i]? = some x2 := by simpa using e2
      rw [hu2] at q; cases q; rfl
    subst eu eu2
    refine ⟨_, rfl, wpAny_letOwnedTupleGo_zip (s := { s with heap := h', toks := tk }) z' fun h'' z'' sb => ?_⟩
    have hT2 : h''.get? s.heap.objs.size = some { cls := .type "tuple", data := .seq #[x1, x2] } := (sb.2 _ (Nat.ne_of_gt hzl)).trans hT
    have new : ObjOk X.prog X.w (upd H s.heap.objs.size (.frz { cls := .type "tuple", data := .seq #[x1, x2] } (.tup [x, y]))) h'' s.heap.objs.size (.frz { cls := .type "tuple", data := .seq #[x1, x2] } (.tup [x, y])) :=
      obj_tup (its := [x1, x2]) hT2 (by show 2 ≤ sizeLine; decide) (.cons ru (.cons ru2 .nil))
    have I1 : Inv X pins σ (upd H s.heap.objs.size (.frz { cls := .type "tuple", data := .seq #[x1, x2] } (.tup [x, y]))) { s with heap := h'', toks := tk } :=
      I.turnedNew (t' := tk) (ch := [z, TI, TO, i1, i2]) (fun c o hb q => (sb.2 c (fun q' => hb (by simp [q']))).trans (hk c o (fun q' => hb (by simp [q'])) (fun q' => hb (by simp [q'])) (fun q' => hb (by simp [q'])) (fun q' => hb (by simp [q'])) q)) hf (Nat.le_refl _) new
    refine ⟨.ref s.heap.objs.size, _, I1, rfl, ⟨_, _, x, y, rfl, I.hok.fresh (Nat.le_refl _), rfl, rfl, fun l hl => by rw [k1.inj I hl hqx]; exact hx, fun l hl => by rw [k2.inj I hl hqy]; exact hy⟩, ⟨z'', ?_, ⟨x1, x2, ?_⟩, ?_, ?_⟩, fun c hcm => ?_⟩
    · exact (sb.2 _ S.TIz).trans (hk _ _ S.TIz S.TITO S.TIi1 S.TIi2 hTI)
    · exact (sb.2 _ S.TOz).trans TO'
    · exact k1.ir_at h1'.1 fun o q => (sb.2 _ S.zi1.symm).trans q
    · exact k2.ir_at h2'.1 fun o q => (sb.2 _ S.zi2.symm).trans q
    · have hlt : c < s.heap.objs.size := by
        have e' : c = z ∨ c = TI ∨ c = TO ∨ c = i1 ∨ c = i2 := by simpa using hcm
        rcases e' with q | q | q | q | q
        · rw [q]; exact hzl
        · rw [q]; exact Heap.lt_size hTI
        · rw [q]; exact Heap.lt_size hTO
        · rw [q]; exact k1.ir_lt h1
        · rw [q]; exact k2.ir_lt h2
      rw [upd_ne (Nat.ne_of_lt hlt)]
      exact (hf c hcm).1
  done := by
    intro X hP hw hK hc i pins s σ H E I hf st hg
    subst hP hw hK
    obtain ⟨hz, hTI, ⟨x0, y0, hTO⟩, h1, h2⟩ := st
    obtain ⟨xs, ys, hqx, hqy, le1, le2, hend⟩ := hg
    obtain ⟨its, rv, p⟩ := k1.read I hqx
    obtain ⟨its2, rv2, p2⟩ := k2.read I hqy
    have l1 := rv.length
    have l2 := rv2.length
    have hh := I.ok.hd hc
    have na := k1.ne h1 p
    have nb := k2.ne h2 p2
    refine wpAny_pyNext_zipD2_end S (k1.draws (A := X.A.in1) hh i1 na its.toArray) (k2.draws (A := X.A.in1) hh i2 nb its2.toArray) hz hTI hTO ⟨h1, p⟩ ⟨h2, p2⟩ (by simp; omega) (by simp; omega) (by simp; omega) fun h' tk hk => ⟨rfl, I.turnedL (t' := tk) (ch := [z, TI, TO, i1, i2]) (fun c o hb q =>
      hk c o (fun q' => hb (by simp [q'])) (fun q' => hb (by simp [q'])) (fun q' => hb (by simp [q'])) (fun q' => hb (by simp [q'])) q) hf⟩
  self := fun A i s Q E st h => wpAny_pyIter_zip st.1 h
def iZ2 (K : PySem.W.Frag) (ta : TA) : TI := fun σ H R => ta σ H fun vs H1 => ∃ k1 k2 a b xs ys, vs = [.ref a, .ref b] ∧ Sk.Sq k1 K H1 a xs ∧ Sk.Sq k2 K H1 b ys ∧ R (Iz2 K k1 k2 a b) H1
section
variable {X : Cx} {e e2 e3 : Expr} {ta : TA} {p pos tpos : Pos} {elts : List Expr} {kk : Nat}
theorem pi_z2 (hg : Gl X "zip") (hm : X.mg "zip" = none) (ha : PA X [e, e2] ta)
    (hs : starEach [e, e2] X.env = (false, eval e X.env) :: starEach [e2] X.env := by rfl) (hpl : (backTo pos (starEach [e2] X.env)).any (·.1) = false := by rfl) :
    PI X (.Tuple elts kk tpos) (.Call (.Name "zip" p) [e, e2] [] pos) (iZ2 X.K ta) := by
  refine ⟨fun pins s σ H R I h => ?_⟩
  refine Call_ (ld_blt I hg hm PyProof.Rows.boot_zip (PyProof.Rows.callWith_type1 (thn (ha.run pos pins s σ H _ I h) fun us s1 ⟨vs, H1, I1, r1, q1⟩ => ?_) hs hpl))
  obtain ⟨k1, k2, a, b, xs, ys, ex, hqx, hqy, q⟩ := q1
  subst ex
  cases r1 with
  | cons r rr =>
    cases rr with
    | cons r' rr =>
      cases rr
      cases r
      cases r'
      obtain ⟨its, rv, p1⟩ := k1.read I1 hqx
      obtain ⟨its2, rv2, p2⟩ := k2.read I1 hqy
      refine zip_begins2 (k1.begins a its.toArray) (k2.begins b its2.toArray) p1 p2 fun h' hz hTI hTO g1 g2 hsz hk => wpAny_pyIter_zip hz ?_
      have I2 : Inv X pins σ H1 { s1 with heap := h' } := I1.kept (t' := s1.toks) hk
      refine ⟨s1.heap.objs.size + 4, [s1.heap.objs.size + 4, s1.heap.objs.size + 2, s1.heap.objs.size + 3, s1.heap.objs.size, s1.heap.objs.size + 1], _, _, H1, rfl, I2,
        turn_z2 (zip_sep2 (fp1 := [a]) (fp2 := [b]) (by simp; exact k1.lt p1) (by simp; exact k2.lt p2)), ⟨hz, hTI, ⟨_, _, hTO⟩, k1.ir0 g1, k2.ir0 g2⟩, fun c hcm => ?_, q⟩
      have e' : c = s1.heap.objs.size + 4 ∨ c = s1.heap.objs.size + 2 ∨ c = s1.heap.objs.size + 3 ∨ c = s1.heap.objs.size ∨ c = s1.heap.objs.size + 1 := by simpa using hcm
      have hle : s1.heap.objs.size ≤ c := by rcases e' with z | z | z | z | z <;> (rw [z]; first | exact Nat.le_refl _ | exact Nat.le_add_right _ _)
      exact I1.fpOk hle (I1.hok.fresh hle)
end
def seqOf : PyData → Option (List PyData)
  | .list xs => some xs
  | .tuple xs => some xs
  | _ => none
def trip (xs ys zs : List PyData) : List PyData := (xs.zip (ys.zip zs)).map fun p => PyData.tuple [p.1, p.2.1, p.2.2]
def zipQ2 (rs : List R) : Option (List PyData) := match toDs rs with
  | some [x, y] => match seqOf x, seqOf y with
    | some xs, some ys => some (pairs xs ys)
    | _, _ => none
  | _ => none
def zipQ3 (rs : List R) : Option (List PyData) := match toDs rs with
  | some [x, y, z] => match seqOf x, seqOf y, seqOf z with
    | some xs, some ys, some zs => some (trip xs ys zs)
    | _, _, _ => none
  | _ => none
section
variable {K : PySem.W.Frag} {sp : Option Addr} {fz : Fz} {H : Hp} {sto : Sto}
/-- a list or a tuple that stays -/
inductive FzQ (K : PySem.W.Frag) (fz : Fz) (H : Hp) : Sk → Addr → List V → Prop
  | l {a xs} : FzL K fz H a xs → FzQ K fz H .l a xs
  | t {a xs} : FzT K H a xs → FzQ K fz H .t a xs
theorem FzQ.sq {k : Sk} {a : Addr} {xs : List V} (h : FzQ K fz H k a xs) : k.Sq K H a xs := by
  cases h with
  | l h => exact h.sq
  | t h => exact h.sq
theorem FzQ.sts {fz1 : Fz} {H1 : Hp} {k : Sk} {a : Addr} {xs : List V} (s : Sts sp fz H fz1 H1) (B : Bs sp fz H sto) (h : FzQ K fz H k a xs) : FzQ K fz1 H1 k a xs := by
  cases h with
  | l h => exact .l (FzL.sts s B h)
  | t h => exact .t (FzT.sts s B h)
theorem Im.seqOf {v : V} {x : PyData} {xs : List PyData} (i : Im K fz H v x) (e : Dh.seqOf x = some xs) : ∃ k a vs, v = .ref a ∧ FzQ K fz H k a vs ∧ ImA K fz H vs xs := by
  unfold Dh.seqOf at e
  split at e
  · cases e
    cases i with
    | lst h a => exact ⟨.l, _, _, rfl, .l h, a⟩
  · cases e
    cases i with
    | tup h a => exact ⟨.t, _, _, rfl, .t h, a⟩
  · cases e
theorem goes_z2 {k1 k2 : Sk} {a b : Addr} {vs ws : List V} {xs ys : List PyData} (h1 : FzQ K fz H k1 a vs) (h2 : FzQ K fz H k2 b ws) (m1 : ImA K fz H vs xs) (m2 : ImA K fz H ws ys) (B0 : Bs sp fz H sto) : Goes K sp fz H (Iz2 K k1 k2 a b) (pairs xs ys) := by
  have len : (pairs xs ys).length = min vs.length ws.length := by unfold pairs; rw [List.length_map, List.length_zip, m1.length, m2.length]
  refine ⟨fun i fz1 H1 sto hi s B => ?_, fun fz1 H1 sto s B => ?_, fun i x fz1 H1 sto v H2 hx s B y => ?_⟩
  · rw [len] at hi
    have a1 : i < vs.length := by omega
    have a2 : i < ws.length := by omega
    exact ⟨vs, ws, vs[i], ws[i], (h1.sts s B0).sq, (h2.sts s B0).sq, List.getElem?_eq_getElem a1, List.getElem?_eq_getElem a2⟩
  · exact ⟨vs, ws, (h1.sts s B0).sq, (h2.sts s B0).sq, by rw [len]; omega, by rw [len]; omega, by rw [len]; omega⟩
  · obtain ⟨T, o, v1, v2, rfl, hT, hd, e, g1, g2⟩ := y
    obtain ⟨x1, x2, q1, q2, rfl⟩ := pairs_at hx
    obtain ⟨u1, p1, i1⟩ := m1.at i x1 q1
    obtain ⟨u2, p2, i2⟩ := m2.at i x2 q2
    rw [g1 vs (h1.sts s B0).sq] at p1; cases p1
    rw [g2 ws (h2.sts s B0).sq] at p2; cases p2
    exact pair_new B (i1.sts s B0) (i2.sts s B0) hT hd e
end
section
variable {X : Cx} {a b c : Expr} {m : Ma} {p pos tpos : Pos} {elts : List Expr} {kk : Nat}
theorem si_z2 (ha : SA X [a, b] m) (hm : X.mg "zip" = none) (hg : Gl X "zip" := by rfl) (hs : starEach [a, b] X.env = (false, eval a X.env) :: starEach [b] X.env := by rfl) (hpl : (backTo pos (starEach [b] X.env)).any (·.1) = false := by rfl) :
    SI X (.Tuple elts kk tpos) (.Call (.Name "zip" p) [a, b] [] pos) (mArgI zipQ2 m) := PI.imp (pi_z2 hg hm ha hs hpl) fun σ H R h => by
  obtain ⟨C, fz, ρ, sto, xs, sto', F, e, k⟩ := h
  obtain ⟨x, s1, ea, e1⟩ := bnd_some e
  obtain ⟨ef, rfl⟩ := ret_some e1
  clear e e1
  refine ⟨C, fz, ρ, sto, x, _, F, ea, fun v fz1 H1 st1 l1 i1 => ?_⟩
  have B1 := F.bs.step st1 l1
  unfold zipQ2 at ef
  split at ef
  · rename_i y1 y2 hds
    obtain ⟨fz2, st2, B2, g, im⟩ := ImRs.keep i1 hds st1 B1 fz1 st1 B1 fun _ h => h
    split at ef
    · rename_i q1 q2
      cases ef
      cases im with
      | cons j1 t1 =>
        cases t1 with
        | cons j2 t2 =>
          cases t2
          obtain ⟨k1, a1, v1, rfl, f1, m1⟩ := j1.seqOf q1
          obtain ⟨k2, a2, v2, rfl, f2, m2⟩ := j2.seqOf q2
          exact ⟨k1, k2, a1, a2, v1, v2, rfl, f1.sq, f2.sq, k _ fz2 H1 st2 l1 (goes_z2 f1 f2 m1 m2 B2)⟩
    · cases ef
  · cases ef
end
end Dh
namespace Dh
open PySem PySem.Spec PyProof.Rows L2 PySem.W
/-- fresh lists are not one another -/
def Dst (vs : List V) (rs : List R) : Prop := ∀ (i j : Nat) (a : Addr) (xs ys : List PyData), i < j → vs[i]? = some (.ref a) → rs[i]? = some (.f xs) → rs[j]? = some (.f ys) → vs[j]? ≠ some (.ref a)
def rdA2 (K : PySem.W.Frag) (m : Ma) : TA := fun σ H Q => ∃ (C : Cn) (fz : Fz) (ρ : Ev) (sto : Sto) (r : List R) (sto' : Sto), Fm K C fz ρ sto σ H ∧ m ρ sto = some (r, sto') ∧
  ∀ vs fz' H', Stp C.sp fz H fz' H' → SpL C.sp H' sto' → ImRs K C.sp H fz' H' vs r → Dst vs r → Q vs H'
def SA2 (X : Cx) (es : List Expr) (m : Ma) : Prop := PA X es (rdA2 X.K m)
theorem ImRs.at {K : PySem.W.Frag} {sp : Option Addr} {fz1 : Fz} {H H1 : Hp} : ∀ {vs : List V} {rs : List R}, ImRs K sp H fz1 H1 vs rs → ∀ (i : Nat) (r : R), rs[i]? = some r → ∃ v, vs[i]? = some v ∧ ImR K sp H fz1 H1 v r
  | _, _, .nil, i, x, h => by simp at h
  | _, _, .cons h t, 0, x, e => by
    simp only [List.getElem?_cons_zero, Option.some.injEq] at e
    subst e
    exact ⟨_, rfl, h⟩
  | _, _, .cons h t, i + 1, x, e => by
    simp only [List.getElem?_cons_succ] at e ⊢
    exact ImRs.at t i x e
section
variable {X : Cx} {e : Expr} {es : List Expr} {me : Mx} {mr : Ma}
theorem sa2_nil : SA2 X [] maNil := PA.imp pa_nil fun σ H Q h => by
  obtain ⟨C, fz, ρ, sto, r, sto', F, e, k⟩ := h
  cases e
  exact k [] fz H .refl F.bs.spl .nil fun i j a xs ys _ h => by simp at h
theorem sa2_cons (he : SE X e me) (hr : SA2 X es mr) (hs : starEach (e :: es) X.env = (false, eval e X.env) :: starEach es X.env := by rfl) : SA2 X (e :: es) (maCons me mr) := PA.imp (pa_cons he hr hs) fun σ H Q h => by
  obtain ⟨C, fz, ρ, sto, r, sto', F, e, k⟩ := h
  obtain ⟨x, s1, ea, e⟩ := bnd_some e
  obtain ⟨xs, s2, eb, e⟩ := bnd_some e
  cases e
  refine ⟨C, fz, ρ, sto, x, s1, F, ea, fun v fz1 H1 st1 l1 i1 => ?_⟩
  refine ⟨C, fz1, ρ, s1, xs, sto', F.step st1 l1, eb, fun vs fz2 H2 st2 l2 i2 d2 => ?_⟩
  refine k (v :: vs) fz2 H2 (st1.trans st2) l2 (.cons (i1.stp st2 (F.bs.step st1 l1)) (i2.early st1)) fun i j a ys zs hij h1 h2 h3 h4 => ?_
  cases j with
  | zero => omega
  | succ j =>
    rw [List.getElem?_cons_succ] at h3 h4
    cases i with
    | zero =>
      rw [List.getElem?_cons_zero] at h1 h2
      cases h1
      cases h2
      obtain ⟨b, ws, eb, g1, _⟩ := i1
      cases eb
      obtain ⟨w, g2, g3⟩ := i2.at j _ h3
      rw [g2] at h4
      cases h4
      obtain ⟨b, ws, eb, _, _, _, _, g4⟩ := g3
      cases eb
      rw [g1] at g4
      cases g4
    | succ i =>
      rw [List.getElem?_cons_succ] at h1 h2
      exact d2 i j a ys zs (by omega) h1 h2 h3 h4
end
end Dh
namespace Dh
open PySem PySem.Spec PyProof.Rows L2 PySem.W
def mPar2f (i j : Nat) (a : Ma) : Ms := fun ρ s => match a ρ s with
  | some ([.f c, .f d], s1) => some (.nx, (ρ.set i (some (.o c))).set j (some (.o d)), s1)
  | _ => none
section
variable {X : Cx} {i j : Nat} {x y : Str} {a b : Expr} {m : Ma} {px py pt pos : Pos} {kt k2 pt2}
theorem ss_par2f (hc : X.calm = true) (hN : X.N.Nodup) (ha : SA2 X [a, b] m) (hi : X.N[i]? = some x := by rfl) (hj : X.N[j]? = some y := by rfl) (hij : i ≠ j := by decide)
    (hx : X.env.scope.names.lookup x = some .local := by rfl) (hy : X.env.scope.names.lookup y = some .local := by rfl)
    (hw : swappedStores [.Tuple [.Name x px, .Name y py] kt pt] (.Tuple [a, b] k2 pt2) X.env = pure (some [x, y]) := by rfl)
    (hs : swapsWithSole [.Tuple [.Name x px, .Name y py] kt pt] (.Tuple [a, b] k2 pt2) pos.line X.env = pure false := by rfl) :
    SS X (.Assign [.Tuple [.Name x px, .Name y py] kt pt] (.Tuple [a, b] k2 pt2) pos) (mPar2f i j m) := PS.impI (ps_par hc hN hi hj hij hx hy ha hw hs) fun D σ H hl h => by
  obtain ⟨C, fz, ρ, sto, out, ρ', sto', F, e, k⟩ := h
  have hi' := lt_of_slot hi hl
  have hj' := lt_of_slot hj hl
  unfold mPar2f at e
  split at e
  · rename_i c1 d1 s1 e1
    cases e
    refine ⟨C, fz, ρ, sto, _, _, F, e1, fun vs fz1 H1 st1 l1 i1 dd => ?_⟩
    cases i1 with
    | cons iv t =>
      cases t with
      | cons iw t =>
        cases t
        rename_i v w
        refine ⟨v, w, rfl, ?_⟩
        have F1 := F.give st1 l1 iv (c := .o c1) rfl hi'
        obtain ⟨p, vs1, rfl, a1, a2, a3, a4, a5⟩ := iv
        obtain ⟨q, vs2, rfl, b1, b2, b3, b4, b5⟩ := iw
        have npq : q ≠ p := fun e => dd 0 1 p c1 d1 (by decide) rfl rfl rfl (by rw [e]; rfl)
        refine k fz1 _ H1 (F1.put j (by rw [List.length_set]; exact hj') ⟨q, vs2, List.getElem?_set_self (by rw [List.length_set]; exact hj'), b1, b2, b3, b4, F.st.back b4 b5⟩ ?_) st1.sts
        intro xs a ec ev n ys hn g1 g2
        cases ev
        by_cases en : n = i
        · subst en
          rw [List.getElem?_set_self hi'] at g2
          cases g2
          exact npq rfl
        · rw [List.getElem?_set_ne (Ne.symm en)] at g1 g2
          obtain ⟨b, ws, q1, q2, _⟩ := F.owned g1
          rw [g2] at q1; cases q1
          rw [b5] at q2; cases q2
  · cases e
end
end Dh
namespace Dh
open PySem PySem.Spec PyProof.Rows L2 PySem.W
/-- three values given at once: data, fresh lists -/
def mPar3g (i j l : Nat) (a : Ma) : Ms := fun ρ s => match a ρ s with
  | some ([r, q, u], s1) => match toCl r, toCl q, toCl u with
    | some c, some d, some f => some (.nx, ((ρ.set i (some c)).set j (some d)).set l (some f), s1)
    | _, _, _ => none
  | _ => none
section
variable {K : PySem.W.Frag} {C : Cn} {fz fz1 : Fz} {ρ ρ1 : Ev} {sto sto' : Sto} {σ σ1 : L2.St} {H H1 : Hp}
/-- one more value put, new lists apart from those put before -/
theorem Fm.more (F : Fm K C fz ρ sto σ H) (F1 : Fm K C fz1 ρ1 sto' σ1 H1) {w : V} {q : R} {d : Cl} (iw : ImR K C.sp H fz1 H1 w q) (ed : toCl q = some d) {j : Nat} (hj : j < σ1.length)
    (old : ∀ n ys a, n ≠ j → ρ1[n]? = some (some (.o ys)) → σ1[n]? = some (some (.ref a)) → (ρ[n]? = some (some (.o ys)) ∧ σ[n]? = some (some (.ref a))) ∨ ∀ xs, q = .f xs → w ≠ .ref a) :
    Fm K C fz1 (ρ1.set j (some d)) sto' (σ1.set j (some w)) H1 := by
  refine F1.put j hj ?_ ?_
  · have g : (σ1.set j (some w))[j]? = some (some w) := List.getElem?_set_self hj
    cases q with
    | d x => cases ed; exact ⟨w, g, iw⟩
    | f xs =>
      cases ed
      obtain ⟨a, vs, rfl, h1, h2, h3, h4, h5⟩ := iw
      exact ⟨a, vs, g, h1, h2, h3, h4, F.st.back h4 h5⟩
    | b xs => cases ed
    | s => cases ed; obtain ⟨a, ea, rfl⟩ := (show IsS C.sp w from iw); exact ⟨a, ea, g⟩
    | m acc =>
      cases ed
      obtain ⟨a, vs, rfl, h1, h2, h3, h4, h5⟩ := iw
      exact ⟨a, vs, g, h1, h2, h3, h4, F.st.back h4 h5⟩
    | n acc => cases ed
  · intro xs a ec ev n ys hn h1 h2
    subst ec
    cases q with
    | d x => cases ed
    | b zs => cases ed
    | s => cases ed
    | m _ => cases ed
    | n _ => cases ed
    | f zs =>
      cases ed
      rcases old n ys a hn h1 h2 with ⟨g1, g2⟩ | g
      · obtain ⟨b, vs, eb, h3, h4, h5, h6, h7⟩ := iw
        rw [ev] at eb; cases eb
        obtain ⟨b, ws, q1, q2, _⟩ := F.owned g1
        rw [g2] at q1; cases q1
        rw [h7] at q2; cases q2
      · exact g _ rfl ev
end
section
variable {X : Cx} {i j l : Nat} {x y z : Str} {a b c : Expr} {m : Ma} {px py pz pt pos : Pos} {kt k2 pt2}
theorem ss_par3g (hc : X.calm = true) (hN : X.N.Nodup) (ha : SA2 X [a, b, c] m) (hi : X.N[i]? = some x := by rfl) (hj : X.N[j]? = some y := by rfl) (hl : X.N[l]? = some z := by rfl) (hij : i ≠ j := by decide) (hil : i ≠ l := by decide) (hjl : j ≠ l := by decide)
    (hx : X.env.scope.names.lookup x = some .local := by rfl) (hy : X.env.scope.names.lookup y = some .local := by rfl) (hz : X.env.scope.names.lookup z = some .local := by rfl)
    (hw : swappedStores [.Tuple [.Name x px, .Name y py, .Name z pz] kt pt] (.Tuple [a, b, c] k2 pt2) X.env = pure (some [x, y, z]) := by rfl)
    (hs : swapsWithSole [.Tuple [.Name x px, .Name y py, .Name z pz] kt pt] (.Tuple [a, b, c] k2 pt2) pos.line X.env = pure false := by rfl) :
    SS X (.Assign [.Tuple [.Name x px, .Name y py, .Name z pz] kt pt] (.Tuple [a, b, c] k2 pt2) pos) (mPar3g i j l m) := PS.impI (ps_par3 hc hN hi hj hl hij hil hjl hx hy hz ha hw hs) fun D σ H hlen h => by
  obtain ⟨C, fz, ρ, sto, out, ρ', sto', F, e, k⟩ := h
  have hi' := lt_of_slot hi hlen
  have hj' := lt_of_slot hj hlen
  have hl' := lt_of_slot hl hlen
  unfold mPar3g at e
  split at e
  · rename_i r q u s1 e1
    split at e
    · rename_i c1 d1 f1 ec ed ef
      cases e
      refine ⟨C, fz, ρ, sto, _, _, F, e1, fun vs fz1 H1 st1 l1 i1 dd => ?_⟩
      cases i1 with
      | cons iv t =>
        cases t with
        | cons iw t =>
          cases t with
          | cons iu t =>
            cases t
            rename_i v w uu
            refine ⟨v, w, uu, rfl, ?_⟩
            have fr : ∀ {r' : R} {ys : List PyData}, toCl r' = some (.o ys) → r' = .f ys := fun {r'} {ys} e => by
              cases r' with
              | d x => cases e
              | f zs => cases e; rfl
              | b zs => cases e
              | s => cases e
              | m _ => cases e
              | n _ => cases e
            have hρ : ρ.length = σ.length := F.len
            have F1 := F.give st1 l1 iv ec hi'
            have F2 := F.more F1 iw ed (j := j) (by rw [List.length_set]; exact hj') fun n ys a hn g1 g2 => by
              by_cases en : n = i
              · subst en
                right
                intro xs eq ew
                rw [List.getElem?_set_self (by rw [hρ]; exact hi')] at g1
                rw [List.getElem?_set_self hi'] at g2
                cases g1
                cases g2
                exact dd 0 1 a ys xs (by decide) rfl (by rw [fr ec]; rfl) (by rw [eq]; rfl) (by rw [ew]; rfl)
              · rw [List.getElem?_set_ne (Ne.symm en)] at g1 g2
                exact .inl ⟨g1, g2⟩
            have F3 := F.more F2 iu ef (j := l) (by rw [List.length_set, List.length_set]; exact hl') fun n ys a hn g1 g2 => by
              by_cases ej : n = j
              · subst ej
                right
                intro xs eq ew
                rw [List.getElem?_set_self (by rw [List.length_set, hρ]; exact hj')] at g1
                rw [List.getElem?_set_self (by rw [List.length_set]; exact hj')] at g2
                cases g1
                cases g2
                exact dd 1 2 a ys xs (by decide) rfl (by rw [fr ed]; rfl) (by rw [eq]; rfl) (by rw [ew]; rfl)
              · rw [List.getElem?_set_ne (Ne.symm ej)] at g1 g2
                by_cases en : n = i
                · subst en
                  right
                  intro xs eq ew
                  rw [List.getElem?_set_self (by rw [hρ]; exact hi')] at g1
                  rw [List.getElem?_set_self hi'] at g2
                  cases g1
                  cases g2
                  exact dd 0 2 a ys xs (by decide) rfl (by rw [fr ec]; rfl) (by rw [eq]; rfl) (by rw [ew]; rfl)
                · rw [List.getElem?_set_ne (Ne.symm en)] at g1 g2
                  exact .inl ⟨g1, g2⟩
            exact k fz1 _ H1 F3 st1.sts
    · cases e
  · cases e
end
end Dh
namespace Dh
open PySem PySem.Spec PyProof.Rows L2 PySem.W
def mPar2g (i j : Nat) (a : Ma) : Ms := fun ρ s => match a ρ s with
  | some ([r, q], s1) => match toCl r, toCl q with
    | some c, some d => some (.nx, (ρ.set i (some c)).set j (some d), s1)
    | _, _ => none
  | _ => none
end Dh
namespace Dh
open PySem PySem.Spec PyProof.Rows L2
end Dh
namespace Dh
open PySem PySem.Spec PyProof.Rows L2
def fEqN (neg : Bool) : R → R → Option R := fun x y => match rdL x, rdL y with
  | some xs, some [] => some (.d (.bool (if neg then !xs.isEmpty else xs.isEmpty)))
  | _, _ => none
def rEqN (K : PySem.W.Frag) (neg : Bool) : R2 := fun x y H Q => ∃ (a b : Addr) (xs : List V), x = .ref a ∧ y = .ref b ∧ SqL K H a xs ∧ SqL K H b [] ∧ Q (.bl (if neg then !xs.isEmpty else xs.isEmpty)) H
section
variable {X : Cx} {pos : Pos} {a b : Expr} {ma mb : Mx}
theorem op_neN (hu : X.A.units < cLine) : OpR X (compareOp .NotEq) (rEqN X.K true) := by
  intro pins s σ H x y v u Q I rx ry h
  obtain ⟨a, b, xs, rfl, rfl, ha, hb, q⟩ := h
  cases (show v = Value.ref a from rx)
  cases (show u = Value.ref b from ry)
  obtain ⟨us, r1, p1, _⟩ := I.list ha
  obtain ⟨ws, r2, p2, _⟩ := I.list hb
  cases r2
  cases r1 with
  | nil =>
    refine SeqAt.RcNeAt.lists (e := fun _ => true) p1.isList p2.isList rfl hu (fun j h1 _ => absurd h1 (Nat.not_lt_zero j)) _ _ _ _ ?_
    exact ⟨.bl false, H, I, rfl, q⟩
  | cons r t =>
    refine SeqAt.RcNeAt.lists_lengths p1.isList p2.isList (by simp) hu _ _ _ _ ?_
    exact ⟨.bl true, H, I, rfl, q⟩
theorem ok_eqN (neg : Bool) : Ok2 X.K (rEqN X.K neg) (fEqN neg) := by
  intro sp fz H H0 sto v w x y z Q B ix iy h k
  unfold fEqN at h
  split at h
  · rename_i ds e1 e2
    cases h
    obtain ⟨a, xs, rfl, h1, a1⟩ := ix.list e1
    obtain ⟨b, ys, rfl, h2, a2⟩ := iy.list e2
    cases a2
    have e : xs.isEmpty = ds.isEmpty := by cases a1 <;> rfl
    refine ⟨a, b, xs, rfl, rfl, h1, h2, ?_⟩
    rw [e]
    exact k _ fz H .refl B.spl (.bl _)
  · cases h
theorem sb_neN {k : Nat} (hr : Room k X.A) (ha : SE X a ma) (hb : SE X b mb) : SB X (.Compare a [.NotEq] [b] pos) (bT (m2 (fEqN true) ma mb)) := sb_cmp (op_neN (by have := hr.units; omega)) (ok_eqN true) ha hb (nomark _)
end
@[simp] theorem fEqN_ff {xs : List PyData} {neg : Bool} : fEqN neg (.f xs) (.f []) = some (.d (.bool (if neg then !xs.isEmpty else xs.isEmpty))) := rfl
@[simp] theorem fEqN_bf {xs : List PyData} {neg : Bool} : fEqN neg (.b xs) (.f []) = some (.d (.bool (if neg then !xs.isEmpty else xs.isEmpty))) := rfl
@[simp] theorem fEqN_df {xs : List PyData} {neg : Bool} : fEqN neg (.d (.list xs)) (.f []) = some (.d (.bool (if neg then !xs.isEmpty else xs.isEmpty))) := rfl
end Dh
namespace Dh
open PySem PySem.Spec PyProof.Rows L2
def mTIf (c : Mt) (a b : Mt) : Mt := bnd c fun x => match x with
  | true => a
  | false => b
def tIfT (t : TT) (ta tb : TT) : TT := fun σ H Q => t σ H fun c H1 => if c = true then ta σ H1 Q else tb σ H1 Q
section
variable {X : Cx} {pos : Pos} {c a b : Expr} {tc ta tb : Mt}
theorem pt_ifT {xc xa xb : TT} (hc : PT X c xc) (ha : PT X a xa) (hb : PT X b xb) : PT X (.IfExp c a b pos) (tIfT xc xa xb) := by
  refine ⟨fun pins s σ H Q I h => ?_⟩
  refine isTrue_IfExp (thn (hc.run pins s σ H _ I h) fun d s1 ⟨H1, I1, q1⟩ => ?_)
  cases d with
  | true =>
    rw [if_pos rfl]
    exact ha.run pins s1 σ H1 Q I1 q1
  | false =>
    rw [if_neg Bool.false_ne_true]
    exact hb.run pins s1 σ H1 Q I1 q1
theorem rt_if {K : PySem.W.Frag} {σ : L2.St} {H : Hp} {Q : Bool → Hp → Prop} (h : rdT K (mTIf tc ta tb) σ H Q) : tIfT (rdT K tc) (rdT K ta) (rdT K tb) σ H Q := by
  obtain ⟨C, fz, ρ, sto, z, sto', F, e, k⟩ := h
  obtain ⟨x, s1, ea, e1⟩ := bnd_some e
  clear e
  refine ⟨C, fz, ρ, sto, x, s1, F, ea, fun fz1 H1 st1 l1 => ?_⟩
  cases x with
  | true =>
    rw [if_pos rfl]
    exact ⟨C, fz1, ρ, s1, z, sto', F.step st1 l1, e1, fun fz2 H2 st2 l2 => k fz2 H2 (st1.trans st2) l2⟩
  | false =>
    rw [if_neg Bool.false_ne_true]
    exact ⟨C, fz1, ρ, s1, z, sto', F.step st1 l1, e1, fun fz2 H2 st2 l2 => k fz2 H2 (st1.trans st2) l2⟩
theorem sb_if (hc : SB X c tc) (ha : SB X a ta) (hb : SB X b tb) : SB X (.IfExp c a b pos) (mTIf tc ta tb) := PT.imp (pt_ifT hc ha hb) fun _ _ _ h => rt_if h
end
end Dh
namespace Dh
open PySem PySem.Spec PyProof.Rows L2
end Dh
namespace Dh
open PySem PySem.Spec L2
section
variable {K : PySem.W.Frag} {C : Cn} {sp : Option Addr} {fz fz1 : Fz} {ρ : Ev} {sto sto' : Sto} {σ : L2.St} {H H0 H1 : Hp}
/-- all dicts but the one in slot i are forgotten -/
def frgM (ρ : Ev) : Ev := ρ.map fun c => match c with
  | some (.m _) => none
  | c => c
theorem frgM_some {ρ : Ev} {j : Nat} {c : Cl} (h : (frgM ρ)[j]? = some (some c)) : ρ[j]? = some (some c) ∧ ∀ acc, c ≠ .m acc := by
  unfold frgM at h
  rw [List.getElem?_map] at h
  cases q : ρ[j]? with
  | none => rw [q] at h; cases h
  | some o =>
    rw [q] at h
    cases o with
    | none => cases h
    | some c' =>
      cases c' with
      | m acc => cases h
      | d x => cases h; exact ⟨rfl, fun acc z => nomatch z⟩
      | o x => cases h; exact ⟨rfl, fun acc z => nomatch z⟩
      | s => cases h; exact ⟨rfl, fun acc z => nomatch z⟩
theorem frgM_len {ρ : Ev} : (frgM ρ).length = ρ.length := by unfold frgM; rw [List.length_map]
/-- an own dict is written -/
theorem Fm.writeM (F : Fm K C fz ρ sto σ H) {i : Nat} {acc acc' : List (Key × PyData)} {a : Addr} {ws : List (Key × V)} (h : ρ[i]? = some (some (.m acc))) (ha : σ[i]? = some (some (.ref a))) (im : ImK K fz H ws acc') :
    Fm K C fz ((frgM ρ).set i (some (.m acc'))) sto σ (upd H a (.dK ws)) ∧ Sts C.sp fz H fz (upd H a (.dK ws)) := by
  obtain ⟨b, vs, e1, h2, h3, h4, h5, h6⟩ := F.vars i _ h
  rw [ha] at e1; cases e1
  have hi : i < ρ.length := (List.getElem?_eq_some_iff.mp h).1
  have S : Sts C.sp fz H fz (upd H a (.dK ws)) := ⟨fun _ q => q, fun b o q n c => by
    have : b ≠ a := fun z => by
      subst z
      rcases c with c | c
      · exact h4 c
      · rw [h2] at q; cases q; exact c.2 _ rfl
    rw [upd_ne this]; exact q⟩
  refine ⟨⟨by rw [List.length_set, frgM_len, F.len], ⟨F.st.mono, fun b o q n => ?_, F.st.new, fun t b q z => ?_⟩, ⟨?_, F.bs.nsp, fun b q z => ?_⟩, fun j c q => ?_, fun j k us zs b hjk q1 q2 => ?_⟩, S⟩
  · have : b ≠ a := fun z => by subst z; rw [h6] at q; cases q
    rw [upd_ne this]; exact F.st.ext b o q n
  · by_cases e : b = a
    · subst e; rw [upd_same] at z; cases z
    · rw [upd_ne e] at z; exact F.st.trk t b q z
  · exact F.bs.spl.upd h5
  · by_cases e : b = a
    · subst e; rw [upd_same] at z; cases z
    · rw [upd_ne e] at z; exact F.bs.trk b q z
  · by_cases ej : j = i
    · subst ej
      rw [List.getElem?_set_self (by rw [frgM_len]; exact hi)] at q
      cases q
      exact ⟨a, ws, ha, upd_same, ⟨im.1, im.2.sts S F.bs⟩, h4, h5, h6⟩
    · rw [List.getElem?_set_ne (Ne.symm ej)] at q
      obtain ⟨q, nm⟩ := frgM_some q
      have g := F.vars j c q
      cases c with
      | d x => obtain ⟨u, g1, g2⟩ := g; exact ⟨u, g1, g2.sts S F.bs⟩
      | o us =>
        obtain ⟨b, ts, g1, g2, g3, g4, g5, g6⟩ := g
        have : b ≠ a := fun z => by subst z; rw [h2] at g2; cases g2
        exact ⟨b, ts, g1, by rw [upd_ne this]; exact g2, g3.sts S F.bs, g4, g5, g6⟩
      | s => exact g
      | m acc2 => exact absurd rfl (nm acc2)
  · have ej : j ≠ i := fun z => by
      subst z
      rw [List.getElem?_set_self (by rw [frgM_len]; exact hi)] at q1
      cases q1
    have ek : k ≠ i := fun z => by
      subst z
      rw [List.getElem?_set_self (by rw [frgM_len]; exact hi)] at q2
      cases q2
    rw [List.getElem?_set_ne (Ne.symm ej)] at q1
    rw [List.getElem?_set_ne (Ne.symm ek)] at q2
    exact F.sep j k us zs b hjk (frgM_some q1).1 (frgM_some q2).1
end
def mSetDc (i : Nat) (it : Mi) (vs : List Nat) (g : Gx) (t : Mt) (ek ev : Mx) : Ms := fun ρ s => match it ρ s with
  | some (xs, s1) => match dcRun vs g t ek ev xs [] ρ s1 with
    | some (acc, s2) => some (.nx, ρ.set i (some (.m acc)), s2)
    | none => none
  | none => none
def fInM (neg : Bool) : R → R → Option R := fun x y => match keyP x, y with
  | some k, .n acc => some (.d (.bool (if neg then !(valP acc k).isSome else (valP acc k).isSome)))
  | some k, .d (.dict ds) => some (.d (.bool (if neg then !((ds.find? fun p => kEq p.1 k).map (·.2)).isSome else ((ds.find? fun p => kEq p.1 k).map (·.2)).isSome)))
  | _, _ => none
theorem ImK.isSome {K : PySem.W.Frag} {fz : Fz} {H : Hp} {kvs : List (Key × V)} {acc : List (Key × PyData)} {k : Key} (im : ImK K fz H kvs acc) : (valV kvs k).isSome = (valP acc k).isSome := by
  obtain ⟨g1, g2⟩ := im.val (k := k)
  cases q : valV kvs k with
  | none => rw [g2 q]; rfl
  | some v =>
    obtain ⟨d, e, _⟩ := g1 v q
    rw [e]; rfl
theorem unitsM {A : Around} {k : Nat} (hr : Room k A) : A.units + 1 < cLine := by
  have := hr.un
  omega
section
variable {X : Cx} {a b e : Expr} {ma mb m : Mx} {pos p : Pos} {kk : Nat}
def fIxM : R → R → Option R := fun x y => match x, keyP y with
  | .n acc, some k => (valP acc k).map .d
  | .d (.dict ds), some k => ((ds.find? fun p => kEq p.1 k).map (·.2)).map .d
  | _, _ => none
theorem se_ixM (hr : Room kk X.A) (ha : SE X a ma) (hb : SE X b mb) (hs : NoSl b := by exact fun _ _ => rfl) : SE X (.Subscript a b pos) (m2 fIxM ma mb) := PE.imp (pe_dget (unitsM hr) ha hb hs) fun σ H Q h => by
  obtain ⟨C, fz, ρ, sto, z, sto', F, e, k⟩ := h
  obtain ⟨x, s1, ea, e1⟩ := bnd_some e
  obtain ⟨y, s2, eb, e2⟩ := bnd_some e1
  obtain ⟨ef, rfl⟩ := ret_some e2
  clear e e1 e2
  refine ⟨C, fz, ρ, sto, x, s1, F, ea, fun v fz1 H1 st1 l1 i1 => ⟨C, fz1, ρ, s1, y, _, F.step st1 l1, eb, fun w fz2 H2 st2 l2 i2 => ?_⟩⟩
  have B1 := (F.step st1 l1).bs
  have i3 := i1.stp st2 B1
  unfold fIxM at ef
  split at ef
  · rename_i acc kx ek
    obtain ⟨d, ed, rfl⟩ := Option.map_eq_some_iff.mp ef
    obtain ⟨a, kvs, rfl, hd, im, ns⟩ := i3
    have ev := keyP_im i2 ek
    subst ev
    obtain ⟨g1, g2⟩ := im.val (k := kx)
    cases q : valV kvs kx with
    | none => rw [g2 q] at ed; cases ed
    | some u =>
      obtain ⟨d', e', iu⟩ := g1 u q
      rw [ed] at e'; cases e'
      exact ⟨a, u, rfl, q ▸ DGet.k hd, k _ fz2 H2 (st1.trans st2) l2 iu⟩
  · rename_i ds kx ek
    obtain ⟨d, ed, rfl⟩ := Option.map_eq_some_iff.mp ef
    have ev := keyP_im i2 ek
    subst ev
    cases i3 with
    | dct hd hf hk hv =>
      rename_i a kvs
      obtain ⟨g1, g2⟩ := dct_val (k := kx) hk hv
      cases q : valV kvs kx with
      | none => rw [g2 q] at ed; cases ed
      | some u =>
        obtain ⟨d', e', iu⟩ := g1 u q
        rw [ed] at e'; cases e'
        exact ⟨a, u, rfl, q ▸ DGet.k hd, k _ fz2 H2 (st1.trans st2) l2 iu⟩
  · cases ef
end
def fLenM : List R → Option R
  | [.n acc] => some (.d (.int acc.length))
  | [.d (.dict ds)] => some (.d (.int ds.length))
  | _ => none
def mPutM (i : Nat) (ix a : Mx) : Ms := fun ρ s => match a ρ s with
  | some (r, s1) => match ix ρ s1 with
    | some (rk, s2) => match ρ[i]?, keyP rk, toD r with
      | some (some (.m acc)), some k, some x => if acc.length < sizeLine then some (.nx, (frgM ρ).set i (some (.m (putP acc k x))), s2) else none
      | _, _, _ => none
    | none => none
  | none => none
section
variable {X : Cx} {e : Expr} {me mi : Mx} {pos : Pos} {kk : Nat}
/-- hg is pg_sub (pv i) hix (set_dict ..) -/
theorem ss_putM {i : Nat} {tg : Expr} (he : SE X e me) (hg : PG X tg (gSub (tVar i) (rdE X.K mi) rSetD))
    (hs : swapsWithSole [tg] e pos.line X.env = pure false := by rfl) (hw : swappedStores [tg] e X.env = pure none := by rfl) (h1 : (assignEach [tg] X.env).map (·.2) = [assign tg X.env] := by rfl) : SS X (.Assign [tg] e pos) (mPutM i mi me) :=
  PS.imp (ps_asg he hg hs hw h1) fun D σ H h => by
  obtain ⟨C, fz, ρ, sto, out, ρ', sto', F, e, k⟩ := h
  unfold mPutM at e
  split at e
  · rename_i r s1 e1
    split at e
    · rename_i rk s2 e2
      split at e
      · rename_i acc kx x ex ek er
        split at e
        · rename_i hz
          cases e
          refine ⟨C, fz, ρ, sto, r, s1, F, e1, fun v fz1 H1 st1 l1 i1 => ?_⟩
          have F1 := F.step st1 l1
          obtain ⟨a, vs, ha, h2, h3, h4, h5, h6⟩ := F.vars _ _ ex
          refine ⟨_, ha, C, fz1, ρ, s1, _, _, F1, e2, fun w fz2 H2 st2 l2 i2 => ?_⟩
          have ew := keyP_im i2 ek
          subst ew
          obtain ⟨fz3, F3, st3, im⟩ := F.keep (st1.trans st2) l2 (i1.stp st2 F1.bs) er
          obtain ⟨a', vs', ha', q2, q3, q4, q5, q6⟩ := F3.vars _ _ ex
          rw [ha] at ha'; cases ha'
          obtain ⟨F4, S4⟩ := F3.writeM ex ha (q3.put (k := kx) im)
          exact ⟨a, _, rfl, DPut.k q2 (by rw [q3.len]; exact hz), k fz3 σ _ F4 (st3.sts.trans S4)⟩
        · cases e
      · cases e
    · cases e
  · cases e
end
def toArgD : R → Option Cl
  | .n acc => some (.d (dOf acc))
  | r => toArg r
def toArgDs : List R → Option (List Cl)
  | [] => some []
  | r :: rs => match toArgD r, toArgDs rs with
    | some x, some xs => some (x :: xs)
    | _, _ => none
def flatD : PyData → Bool
  | .int _ => true
  | .bool _ => true
  | .none => true
  | .str _ => true
  | _ => false
def mCallD (g : Fx) (a : Ma) : Mx := bnd a fun rs _ s => match toArgDs rs with
  | some cs => match g cs s with
    | some (.d x, s') => if flatD x = true then some (.d x, s') else none
    | _ => none
  | none => none
section
variable {K : PySem.W.Frag} {sp : Option Addr} {fz fz1 : Fz} {H H1 H2 : Hp} {sto : Sto}
theorem bs_more {a : Addr} {o : HO} (B : Bs sp fz H1 sto) (h1 : H1 a = some o) (n : some a ≠ sp) : Bs sp (fun b => fz b ∨ b = a) H1 sto := ⟨B.spl, fun c ec q => by
  rcases q with q | q
  · exact B.nsp c ec q
  · exact n (by subst q; exact ec.symm), fun b q z => by
  rcases q with q | q
  · exact B.trk b q z
  · subst q; rw [h1] at z; cases z⟩
end
end Dh
namespace Dh
open PySem PySem.Spec PyProof.Rows L2 PySem.W
def mNewM : Mx := fun _ s => some (.m [], s)
section
variable {X : Cx} {i j l : Nat} {x y z : Str} {a b c : Expr} {m : Ma} {px py pz pt pos : Pos} {kt k2 pt2}
theorem se_dictM : SE X (.Dict [] [] pos) mNewM := PE.imp pe_dnewK fun σ H Q h => by
  obtain ⟨C, fz, ρ, sto, r, sto', F, e, k⟩ := h
  cases e
  intro p hp
  have n : some p ≠ C.sp := F.bs.spl.ne hp (by intro z; cases z)
  have nf : ¬ fz p := fun q => F.bs.trk p q hp
  exact k _ fz _ (.laid hp) (F.bs.spl.upd n) ⟨p, [], rfl, upd_same, ⟨rfl, .nil⟩, nf, n, hp⟩
theorem ss_par3t (hc : X.calm = true) (hN : X.N.Nodup) (ha : SA2 X [a, b, c] m) (hi : X.N[i]? = some x := by rfl) (hj : X.N[j]? = some y := by rfl) (hl : X.N[l]? = some z := by rfl) (hij : i ≠ j := by decide) (hil : i ≠ l := by decide) (hjl : j ≠ l := by decide)
    (hx : Loc X.env.scope x := by first | exact Or.inl rfl | exact Or.inr rfl) (hy : Loc X.env.scope y := by first | exact Or.inl rfl | exact Or.inr rfl) (hz : Loc X.env.scope z := by first | exact Or.inl rfl | exact Or.inr rfl)
    (fx : X.fn x = true ∨ X.env.scope.names.lookup x = some .local := by first | exact .inl rfl | exact .inr rfl) (fy : X.fn y = true ∨ X.env.scope.names.lookup y = some .local := by first | exact .inl rfl | exact .inr rfl) (fz' : X.fn z = true ∨ X.env.scope.names.lookup z = some .local := by first | exact .inl rfl | exact .inr rfl)
    (hs : swapsWithSole [.Tuple [.Name x px, .Name y py, .Name z pz] kt pt] (.Tuple [a, b, c] k2 pt2) pos.line X.env = pure false := by rfl)
    (hw : swappedStores [.Tuple [.Name x px, .Name y py, .Name z pz] kt pt] (.Tuple [a, b, c] k2 pt2) X.env = pure none := by rfl)
    (h1 : (assignEach [.Tuple [.Name x px, .Name y py, .Name z pz] kt pt] X.env).map (·.2) = [assign (.Tuple [.Name x px, .Name y py, .Name z pz] kt pt) X.env] := by rfl)
    (hn : (assignEach [.Name x px, .Name y py, .Name z pz] X.env).length = 3 := by rfl) (hst : (assignEach [.Name x px, .Name y py, .Name z pz] X.env).findIdx? (·.1) = none := by rfl)
    (s1 : (assignEach [.Name x px, .Name y py, .Name z pz] X.env).map (·.2) = assign (.Name x px) X.env :: (assignEach [.Name y py, .Name z pz] X.env).map (·.2) := by rfl)
    (s2 : (assignEach [.Name y py, .Name z pz] X.env).map (·.2) = assign (.Name y py) X.env :: (assignEach [.Name z pz] X.env).map (·.2) := by rfl)
    (s3 : (assignEach [.Name z pz] X.env).map (·.2) = assign (.Name z pz) X.env :: (assignEach [] X.env).map (·.2) := by rfl) :
    SS X (.Assign [.Tuple [.Name x px, .Name y py, .Name z pz] kt pt] (.Tuple [a, b, c] k2 pt2) pos) (mPar3g i j l m) :=
  PS.impI (ps_asg (pe_tup ha) (pg_tup hc (pgs_cons (pg_name hN hi hx fx) (pgs_cons (pg_name hN hj hy fy) (pgs_cons (pg_name hN hl hz fz') pgs_nil s3) s2) s1) hn hst) hs hw h1) fun D σ H hlen h => by
  obtain ⟨C, fz, ρ, sto, out, ρ', sto', F, e, k⟩ := h
  have hi' := lt_of_slot hi hlen
  have hj' := lt_of_slot hj hlen
  have hl' := lt_of_slot hl hlen
  unfold mPar3g at e
  split at e
  · rename_i r q u s1 e1
    split at e
    · rename_i c1 d1 f1 ec ed ef
      cases e
      refine ⟨C, fz, ρ, sto, _, _, F, e1, fun vs fz1 H1 st1 l1 i1 dd => ?_⟩
      cases i1 with
      | cons iv t =>
        cases t with
        | cons iw t =>
          cases t with
          | cons iu t =>
            cases t
            rename_i v w uu
            refine ⟨(show 3 ≤ sizeLine by decide), fun p hp => ⟨p, [v, w, uu], rfl, .inl (.inl upd_same), rfl, v, [w, uu], rfl, w, [uu], rfl, uu, [], rfl, rfl, ?_⟩⟩
            have B1 := F.bs.step st1 l1
            have lay : Stp C.sp fz1 H1 fz1 (upd H1 p (.tup [v, w, uu])) := .laid hp
            have ep : some p ≠ C.sp := l1.ne hp (by intro z; cases z)
            have l2 := (SpL.upd (o := .tup [v, w, uu]) l1 ep)
            have st2 := st1.trans lay
            have iv2 := iv.stp lay B1
            have iw2 := iw.stp lay B1
            have iu2 := iu.stp lay B1
            have fr : ∀ {r' : R} {ys : List PyData}, toCl r' = some (.o ys) → r' = .f ys := fun {r'} {ys} e => by
              cases r' with
              | d x => cases e
              | f zs => cases e; rfl
              | b zs => cases e
              | s => cases e
              | m _ => cases e
              | n _ => cases e
            have hρ : ρ.length = σ.length := F.len
            have F1 := F.give st2 l2 iv2 ec hi'
            have F2 := F.more F1 iw2 ed (j := j) (by rw [List.length_set]; exact hj') fun n ys a hn g1 g2 => by
              by_cases en : n = i
              · subst en
                right
                intro xs eq ew
                rw [List.getElem?_set_self (by rw [hρ]; exact hi')] at g1
                rw [List.getElem?_set_self hi'] at g2
                cases g1
                cases g2
                exact dd 0 1 a ys xs (by decide) rfl (by rw [fr ec]; rfl) (by rw [eq]; rfl) (by rw [ew]; rfl)
              · rw [List.getElem?_set_ne (Ne.symm en)] at g1 g2
                exact .inl ⟨g1, g2⟩
            have F3 := F.more F2 iu2 ef (j := l) (by rw [List.length_set, List.length_set]; exact hl') fun n ys a hn g1 g2 => by
              by_cases ej : n = j
              · subst ej
                right
                intro xs eq ew
                rw [List.getElem?_set_self (by rw [List.length_set, hρ]; exact hj')] at g1
                rw [List.getElem?_set_self (by rw [List.length_set]; exact hj')] at g2
                cases g1
                cases g2
                exact dd 1 2 a ys xs (by decide) rfl (by rw [fr ed]; rfl) (by rw [eq]; rfl) (by rw [ew]; rfl)
              · rw [List.getElem?_set_ne (Ne.symm ej)] at g1 g2
                by_cases en : n = i
                · subst en
                  right
                  intro xs eq ew
                  rw [List.getElem?_set_self (by rw [hρ]; exact hi')] at g1
                  rw [List.getElem?_set_self hi'] at g2
                  cases g1
                  cases g2
                  exact dd 0 2 a ys xs (by decide) rfl (by rw [fr ec]; rfl) (by rw [eq]; rfl) (by rw [ew]; rfl)
                · rw [List.getElem?_set_ne (Ne.symm en)] at g1 g2
                  exact .inl ⟨g1, g2⟩
            exact k fz1 _ _ F3 st2.sts
    · cases e
  · cases e
end
end Dh
namespace Dh
open PySem PySem.Spec L2 RZ PyProof.Rows
/-- J goes through the data xs, for as long as expressions run -/
structure GoesE (K : PySem.W.Frag) (sp : Option Addr) (fz : Fz) (H : Hp) (J : It) (xs : List PyData) : Prop where
  go : ∀ (i : Nat) fz1 H1 sto, i < xs.length → Stp sp fz H fz1 H1 → Bs sp fz1 H1 sto → J.go i H1
  stop : ∀ fz1 H1 sto, Stp sp fz H fz1 H1 → Bs sp fz1 H1 sto → J.stop xs.length H1
  yld : ∀ (i : Nat) (x : PyData) fz1 H1 sto v H2, xs[i]? = some x → Stp sp fz H fz1 H1 → Bs sp fz1 H1 sto → J.yld i H1 v H2 → Stp sp fz1 H1 fz1 H2 ∧ SpL sp H2 sto ∧ Im K fz1 H2 v x
def rdIE (K : PySem.W.Frag) (m : Mi) : TI := fun σ H R => ∃ (C : Cn) (fz : Fz) (ρ : Ev) (sto : Sto) (xs : List PyData) (sto' : Sto), Fm K C fz ρ sto σ H ∧ m ρ sto = some (xs, sto') ∧
  ∀ J fz' H', Stp C.sp fz H fz' H' → SpL C.sp H' sto' → GoesE K C.sp fz' H' J xs → R J H'
def SIE (X : Cx) (tg iter : Expr) (m : Mi) : Prop := PI X tg iter (rdIE X.K m)
section
variable {K : PySem.W.Frag} {sp : Option Addr} {fz fz1 : Fz} {H H1 : Hp} {sto : Sto}
theorem goes_own {a : Addr} {vs : List V} {xs : List PyData} (h : H a = some (.lst vs)) (n : some a ≠ sp) (im : ImA K fz H vs xs) (B0 : Bs sp fz H sto) : GoesE K sp fz H (Itl K a) xs where
  go := fun i fz1 H1 sto hi s B => (walk_list (xs := vs)).goes i H1 (by rw [im.length]; exact hi) (.inl (.inl (s.ext _ _ h n)))
  stop := fun fz1 H1 sto s B => by rw [← im.length]; exact (walk_list (xs := vs)).stops H1 (.inl (.inl (s.ext _ _ h n)))
  yld := fun i x fz1 H1 sto v H2 hx s B y => by
    have y2 := (walk_list (K := K) (a := a) (xs := vs)).yields i H1 v H2 (by rw [im.length]; exact (List.getElem?_eq_some_iff.mp hx).1) (.inl (.inl (s.ext _ _ h n))) y
    obtain ⟨rfl, e⟩ := y2
    obtain ⟨w, hw, iw⟩ := im.at i x hx
    rw [e] at hw; cases hw
    exact ⟨.refl, B.spl, iw.sts s.sts B0⟩
end
/-- the items of an own list that is looked at -/
def itemsB : R → Option (List PyData)
  | .b xs => some xs
  | _ => none
def mSeqB (a : Mx) : Mi := bnd a fun x _ => ret (itemsB x)
theorem sie_own {X : Cx} {tg l : Expr} {ml : Mx} (hl : SE X l ml) : SIE X tg l (mSeqB ml) := PI.imp (pi_seq hl) fun σ H R h => by
  obtain ⟨C, fz, ρ, sto, xs, sto', F, e, k⟩ := h
  obtain ⟨x, s1, ea, e1⟩ := bnd_some e
  obtain ⟨ef, rfl⟩ := ret_some e1
  clear e e1
  refine ⟨C, fz, ρ, sto, x, _, F, ea, fun v fz1 H1 st1 l1 i1 => ?_⟩
  have B1 := F.bs.step st1 l1
  unfold itemsB at ef
  split at ef
  · cases ef
    obtain ⟨a, vs, rfl, h1, h2, h3⟩ := i1
    exact ⟨a, rfl, .inl ⟨⟨vs, .inl (.inl h1)⟩, k _ fz1 H1 st1 l1 (goes_own h1 h3 h2 B1)⟩⟩
  · cases ef
section
variable {K : PySem.W.Frag} {mi : Mi} {g : Gx} {is vs : List Nat} {mt : Mt} {me : Mx}
theorem rd_lcE (hs : ∀ i, i ∈ is → i ∈ vs) {σ : L2.St} {H : Hp} {Q : VK} (h : rdE K (mLc mi vs g mt me) σ H Q) : tLc (rdIE K mi) (rdG K is g) (rdT K mt) (rdE K me) vs σ H Q := by
  obtain ⟨C, fz, ρ, sto, z, sto', F, e, k⟩ := h
  unfold mLc at e
  split at e
  · rename_i xs s1 e1
    split at e
    · rename_i ys s2 e2
      split at e
      · rename_i hz
        cases e
        refine ⟨C, fz, ρ, sto, xs, s1, F, e1, fun J fz1 H1 st1 l1 G => ?_⟩
        have F1 := F.step st1 l1
        intro D hD
        have nD : some D ≠ C.sp := l1.ne hD (by intro z; cases z)
        have n0 : C.H0 D = none := F1.st.back nD hD
        have nfz : ¬ fz1 D := fun z => F1.bs.trk D z hD
        have noD : ∀ (i : Nat) (us : List PyData), ρ[i]? = some (some (Cl.o us)) → σ[i]? ≠ some (some (V.ref D)) := fun i us q1 q2 => by
          obtain ⟨a, ws, g1, g2, _⟩ := F1.owned q1
          rw [q2] at g1; cases g1
          rw [hD] at g2; cases g2
        let W : Nat → Nat → Hp → Prop := fun i m H' => m = xs.length - i ∧ i ≤ xs.length ∧ ∃ (fz2 : Fz) (s3 : Sto) (acc : List V) (ya yb : List PyData), Fm K C fz2 ρ s3 σ H' ∧ Stp C.sp fz1 H1 fz2 H' ∧ H' D = some (.lst acc) ∧ ImA K fz2 H' acc ya ∧ ¬ fz2 D ∧
          lcRun vs g mt me (xs.drop i) ρ s3 = some (yb, sto') ∧ ys = ya ++ yb
        have st2 : Stp C.sp fz1 H1 fz1 (upd H1 D (.lst [])) := .laid hD
        have l2 : SpL C.sp (upd H1 D (.lst [])) s1 := l1.upd nD
        refine ⟨W, ⟨xs.length, by simp, Nat.zero_le _, fz1, s1, [], [], ys, F1.step st2 l2, st2, upd_same, .nil, nfz, e2, rfl⟩, ?_⟩
        rintro i m H2 ⟨rfl, hi, fz2, s3, acc, ya, yb, F2, S2, hD2, im2, nf2, e3, ey⟩
        by_cases hlt : i < xs.length
        · have hx : xs[i]? = some xs[i] := List.getElem?_eq_getElem hlt
          rw [List.drop_eq_getElem_cons hlt] at e3
          unfold lcRun at e3
          split at e3
          · cases e3
          · rename_i ρ4 e4
            refine .inr ⟨G.go i fz2 H2 s3 hlt S2 F2.bs, fun H' => W (i + 1) (xs.length - (i + 1)) H', fun H' w => ⟨xs.length - (i + 1), by omega, w⟩, fun v H3 y => ?_⟩
            obtain ⟨st3, l3, im⟩ := G.yld i _ fz2 H2 s3 v H3 hx S2 F2.bs y
            have F3 := F2.step st3 l3
            refine ⟨C, fz2, wipeE ρ vs, s3, xs[i], ρ4, F3.wipe vs, im, e4, fun σ4 hl4 ho4 F4 => ?_⟩
            refine ⟨wipe_agree hl4 ho4 hs, ?_⟩
            have hD3 : H3 D = some (.lst acc) := st3.ext _ _ hD2 nD
            split at e3
            · cases e3
            · rename_i s5 e5
              refine ⟨C, fz2, ρ4, s3, false, s5, F4, e5, fun fz6 H6 st6 l6 => ?_⟩
              refine iteF ?_
              have F6 := F3.step st6 l6
              refine ⟨rfl, hlt, fz6, s5, acc, ya, yb, F6, (S2.trans st3).trans st6, st6.ext _ _ hD3 nD, (im2.stp st3 F2.bs).stp st6 F3.bs, fun z => ?_, e3, ey⟩
              rcases st6.new D z with z | ⟨_, z⟩
              · exact nf2 z
              · rw [hD3] at z; cases z
            · rename_i s5 e5
              refine ⟨C, fz2, ρ4, s3, true, s5, F4, e5, fun fz6 H6 st6 l6 => ?_⟩
              refine iteT ?_
              have F6 := F3.step st6 l6
              have F46 := F4.step st6 l6
              have hD6 : H6 D = some (.lst acc) := st6.ext _ _ hD3 nD
              split at e3
              · cases e3
              · rename_i r s7 e7
                split at e3
                · rename_i y ys' s8 ey' e8
                  cases e3
                  refine ⟨C, fz6, ρ4, s5, r, s7, F46, e7, fun w fz8 H8 st8 l8 i8 => ?_⟩
                  obtain ⟨fz9, F9, st9, im9⟩ := F6.keep st8 l8 i8 ey'
                  have hD8 : H8 D = some (.lst acc) := st8.ext _ _ hD6 nD
                  have nf9 : ¬ fz9 D := fun z => by
                    rcases st9.new D z with z | ⟨_, z⟩
                    · rcases st6.new D z with z | ⟨_, z⟩
                      · exact nf2 z
                      · rw [hD3] at z; cases z
                    · rw [hD6] at z; cases z
                  have ia : ImA K fz9 H8 acc ya := ((im2.stp st3 F2.bs).stp st6 F3.bs).stp st9 F6.bs
                  have il : acc.length = ya.length := ia.length
                  refine ⟨acc, hD8, ?_, rfl, hlt, fz9, s7, acc ++ [w], ya ++ [y], ys', ?_⟩
                  · rw [il]
                    have := congrArg List.length ey
                    rw [List.length_append, List.length_cons] at this
                    omega
                  · obtain ⟨F10, S10⟩ := F9.side (ws := acc ++ [w]) ⟨acc, hD8⟩ nf9 nD n0 noD
                    have st10 : Stp C.sp fz1 H1 fz9 (upd H8 D (.lst (acc ++ [w]))) := by
                      have q := (((S2.trans st3).trans st6).trans st9)
                      refine ⟨q.mono, fun b o qb n => ?_, q.new, fun t b qb z => ?_⟩
                      · have : b ≠ D := fun z => by subst z; rw [hD] at qb; cases qb
                        rw [upd_ne this]; exact q.ext b o qb n
                      · by_cases eb : b = D
                        · subst eb; rw [upd_same] at z; cases z
                        · rw [upd_ne eb] at z; exact q.trk t b qb z
                    exact ⟨F10, st10, upd_same, (ia.append (.cons im9 .nil)).sts S10 F9.bs, nf9, e8, by rw [ey, List.append_assoc]; rfl⟩
                · cases e3
        · have ei : i = xs.length := by omega
          subst ei
          rw [List.drop_length] at e3
          cases e3
          refine .inl ⟨G.stop fz2 H2 _ S2 F2.bs, ?_⟩
          refine k _ fz2 H2 (st1.trans S2) F2.bs.spl ⟨D, acc, rfl, hD2, ?_, nf2, nD, st1.back nD hD⟩
          rw [ey, List.append_nil]
          exact im2
      · cases e
    · cases e
  · cases e
end
section
variable {X : Cx} {elt tg iter : Expr} {ifs : List Expr} {scope : Scope} {own : List (Str × Nat)} {pos : Pos} {is : List Nat} {mi : Mi} {g : Gx} {mt : Mt} {me : Mx}
theorem se_lcE (hc : X.calm = true) (hN : X.N.Nodup) (hi : SIE X tg iter mi) (ok : BlkOk X.N X.env.scope scope own) (hs : ∀ i, i ∈ is → i ∈ own.map (·.2))
    (hg : ∀ (s : Shared) (H : Hp) (C : Addr) (cl : List (Str × Addr)) (fp : List Addr), SG (X.blk s H scope (compEnvC scope cl C X.env) fp) tg is g) (ht : ∀ (s : Shared) (H : Hp) (C : Addr) (cl : List (Str × Addr)) (fp : List Addr), STs (X.blk s H scope (compEnvC scope cl C X.env) fp) ifs mt)
    (he : ∀ (s : Shared) (H : Hp) (C : Addr) (cl : List (Str × Addr)) (fp : List Addr), SE (X.blk s H scope (compEnvC scope cl C X.env) fp) elt me) (hf : ∀ x, foldedSetIterable iter X.env x = pure x := by intro _; rfl) :
    SE X (.ListComp elt [⟨tg, iter, ifs, 0⟩] scope pos) (mLc mi (own.map (·.2)) g mt me) := PE.imp (pe_lc (g := rdG X.K is g) (tt := rdT X.K mt) (te := rdE X.K me) hc hN hi ok hg ht he hf) fun _ _ _ h => rd_lcE hs h
/-- name = [..] -/
theorem ss_setLcE {i : Nat} {y : Str} {py spos : Pos} (hc : X.calm = true) (hN : X.N.Nodup) (hy : X.N[i]? = some y) (hyl : X.env.scope.names.lookup y = some .local)
    (hsw : swapsWith (.ListComp elt [⟨tg, iter, ifs, 0⟩] scope pos) (some (.Name y py)) spos.line X.env = pure true) (hi : SIE X tg iter mi) (ok : BlkOk X.N X.env.scope scope own) (hs : ∀ i, i ∈ is → i ∈ own.map (·.2))
    (hg : ∀ (s : Shared) (H : Hp) (C : Addr) (cl : List (Str × Addr)) (fp : List Addr), SG (X.blk s H scope (compEnvC scope cl C X.env) fp) tg is g) (ht : ∀ (s : Shared) (H : Hp) (C : Addr) (cl : List (Str × Addr)) (fp : List Addr), STs (X.blk s H scope (compEnvC scope cl C X.env) fp) ifs mt)
    (he : ∀ (s : Shared) (H : Hp) (C : Addr) (cl : List (Str × Addr)) (fp : List Addr), SE (X.blk s H scope (compEnvC scope cl C X.env) fp) elt me) (hf : ∀ x, foldedSetIterable iter X.env x = pure x := by intro _; rfl) :
    SS X (.Assign [.Name y py] (.ListComp elt [⟨tg, iter, ifs, 0⟩] scope pos) spos) (mSet i (mLc mi (own.map (·.2)) g mt me)) :=
  PS.impI (ps_setLc (g := rdG X.K is g) (tt := rdT X.K mt) (te := rdE X.K me) hc hN hy hyl hsw hi ok hg ht he hf) fun D σ H hl h => by
    obtain ⟨C, fz, ρ, sto, out, ρ', sto', F, e, k⟩ := h
    have : rdE X.K (mLc mi (own.map (·.2)) g mt me) σ H (fun x H1 => gName i x σ H1 D.nx) := by
      unfold mSet at e
      split at e
      · rename_i r s1 e1
        split at e
        · rename_i c ec
          cases e
          exact ⟨C, fz, ρ, sto, r, _, F, e1, fun v fz1 H1 st1 l1 i1 => k fz1 _ H1 (F.give st1 l1 i1 ec (lt_of_slot hy hl)) st1.sts⟩
        · cases e
      · cases e
    exact rd_lcE hs this
end
end Dh
namespace Dh
open PySem PySem.Spec PyProof.Rows L2 PySem.W
mutual
/-- no list, no dict within -/
def flatT : PyData → Bool
  | .none => true
  | .bool _ => true
  | .int _ => true
  | .str _ => true
  | .tuple xs => flatTs xs
  | .list _ => false
  | .dict _ => false
def flatTs : List PyData → Bool
  | [] => true
  | x :: xs => flatT x && flatTs xs
end
section
variable {K : PySem.W.Frag} {fz fz1 : Fz} {H : Hp}
mutual
theorem Im.flatT : ∀ {x : PyData} {v : V}, Im K fz H v x → Dh.flatT x = true → Im K fz1 H v x
  | .none, _, .non, _ => .non
  | .bool _, _, .bl b, _ => .bl b
  | .int _, _, .int i, _ => .int i
  | .str _, _, .str x, _ => .str x
  | .tuple xs, _, .tup h im, q => .tup h (ImA.flatT im (by simpa [Dh.flatT] using q))
  | .list _, _, _, q => by simp [Dh.flatT] at q
  | .dict _, _, _, q => by simp [Dh.flatT] at q
theorem ImA.flatT : ∀ {xs : List PyData} {vs : List V}, ImA K fz H vs xs → flatTs xs = true → ImA K fz1 H vs xs
  | [], _, .nil, _ => .nil
  | x :: xs, _, .cons h t, q => by
    simp only [flatTs, Bool.and_eq_true] at q
    exact .cons (Im.flatT h q.1) (ImA.flatT t q.2)
end
end
def toArgB : R → Option Cl
  | .b xs => some (.d (.list xs))
  | r => toArg r
def toArgBs : List R → Option (List Cl)
  | [] => some []
  | r :: rs => match toArgB r, toArgBs rs with
    | some x, some xs => some (x :: xs)
    | _, _ => none
def mCallB (g : Fx) (a : Ma) : Mx := bnd a fun rs _ s => match toArgBs rs with
  | some cs => match g cs s with
    | some (.d x, s') => if flatT x = true then some (.d x, s') else none
    | _ => none
  | none => none
section
variable {K : PySem.W.Frag} {sp : Option Addr} {fz fz1 : Fz} {H H1 H2 : Hp} {sto : Sto}
theorem ImRs.argsB : ∀ {vs : List V} {rs : List R} {cs : List Cl}, ImRs K sp H fz1 H1 vs rs → toArgBs rs = some cs → ∀ fzA : Fz, Bs sp fzA H1 sto → (∀ a, fz1 a → fzA a) →
    ∃ fz2 : Fz, Bs sp fz2 H1 sto ∧ (∀ a, fzA a → fz2 a) ∧ Paired (ArgOk K fz2 sp H1) vs cs
  | _, _, _, .nil, e, fzA, BA, g => by
    cases e
    exact ⟨fzA, BA, fun _ h => h, .nil⟩
  | _, _, _, .cons (a := v) (b := r) h t, e, fzA, BA, g => by
    unfold toArgBs at e
    split at e
    · rename_i x xs e1 e2
      cases e
      have : ∃ fzB : Fz, Bs sp fzB H1 sto ∧ (∀ a, fzA a → fzB a) ∧ ArgOk K fzB sp H1 v x := by
        cases r with
        | b ys =>
          cases e1
          obtain ⟨a, vs, rfl, h1, h2, h3⟩ := h
          exact ⟨_, bs_more BA h1 h3, fun b q => .inl q, .lst (.inl ⟨h1, .inr rfl⟩) (h2.fzm fun b q => .inl (g b q))⟩
        | d y => cases e1; exact ⟨fzA, BA, fun _ h => h, Im.fzm g h⟩
        | f ys =>
          cases e1
          obtain ⟨a, vs, rfl, h1, h2, h3, h4, h5⟩ := h
          exact ⟨_, bs_more BA h1 h4, fun b q => .inl q, .lst (.inl ⟨h1, .inr rfl⟩) (h2.fzm fun b q => .inl (g b q))⟩
        | s => cases e1; exact ⟨fzA, BA, fun _ h => h, h⟩
        | m acc => cases e1
        | n acc => cases e1
      obtain ⟨fzB, BB, gB, iB⟩ := this
      obtain ⟨fz2, B2, g2, i2⟩ := ImRs.argsB t e2 fzB BB fun a q => gB a (g a q)
      exact ⟨fz2, B2, fun a q => g2 a (gB a q), .cons (iB.fzm g2) i2⟩
    · cases e
end
section
variable {X : Cx} {k : Nat} {f : Addr} {fd : FuncData} {ps : List Str} {x : Str} {p pos : Pos} {e : Expr} {es : List Expr} {m : Ma} {g : Fx}
theorem rd_callB {K : PySem.W.Frag} {n : Nat} {σ : L2.St} {H : Hp} {Q : VK} (hn : ∀ cs s r, g cs s = some r → cs.length = n) (h : rdE K (mCallB g m) σ H Q) : tCallG (spOf K n g) (rdA K m) σ H Q := by
  obtain ⟨C, fz, ρ, sto, z, sto', F, e, k⟩ := h
  obtain ⟨rs, s1, ea, e1⟩ := bnd_some e
  clear e
  split at e1
  · rename_i cs ec
    split at e1
    · rename_i x s' eg
      split at e1
      · rename_i hf
        cases e1
        refine ⟨C, fz, ρ, sto, rs, s1, F, ea, fun vs fz1 H1 st1 l1 i1 => ?_⟩
        have B1 := F.bs.step st1 l1
        obtain ⟨fz2, B2, _, a⟩ := ImRs.argsB i1 ec fz1 B1 fun _ h => h
        refine ⟨C.sp, fz2, cs, s1, _, sto', hn cs s1 _ eg, a, B2, eg, fun v fz3 H3 st3 l3 i3 => ?_⟩
        have st4 : Stp C.sp fz1 H1 fz1 H3 := ⟨fun _ h => h, st3.ext, fun _ h => .inl h, fun t b q z => by
          cases q2 : H1 b with
          | none => exact t b q q2
          | some o =>
            have n : some b ≠ C.sp := fun z2 => B1.nsp b z2.symm q
            rw [st3.ext b o q2 n] at z
            cases z⟩
        exact k v fz1 H3 (st1.trans st4) l3 (Im.flatT (show Im K fz3 H3 v x from i3) hf)
      · cases e1
    · cases e1
  · cases e1
theorem se_callB {n l : Nat} {mb : Ms} (F : FnG X.prog X.w X.K X.mg X.base k f fd ps (spOf X.K n (run' n l mb))) (hr : Room k X.A) (hgd : X.A.guards = some []) (hm : X.mg x = some (.ref f)) (hk : PySem.W.keepIn X.K (.ref f) = true) (hb : Binds X.K fd ps []) (ha : SA X (e :: es) m) (hg : Gl X x := by rfl)
    (hdb : (x == ("__debug__" : Str)) = false := by decide) (he : starEach (e :: es) X.env = (false, eval e X.env) :: starEach es X.env := by rfl) (hpl : (backTo pos (starEach es X.env)).any (·.1) = false := by rfl) :
    SE X (.Call (.Name x p) (e :: es) [] pos) (mCallB (run' n l mb) m) := PE.imp (pe_callG F hr hgd hm hk hb ha hg hdb he hpl) fun _ _ _ h => rd_callB run'_len h
end
end Dh
namespace Dh
open PySem PySem.Spec L2
section
variable {X : Cx} {elt tg iter tg1 iter1 : Expr} {ifs ifs1 : List Expr} {scope : Scope} {own : List (Str × Nat)} {pos : Pos} {is is1 vs1 : List Nat} {mi mi1 : Mi} {g g1 : Gx} {mt mt1 : Mt} {me : Mx}
theorem ss_setLc2 {i : Nat} {y : Str} {py spos : Pos} (hc : X.calm = true) (hN : X.N.Nodup) (hy : X.N[i]? = some y) (hyl : X.env.scope.names.lookup y = some .local)
    (hsw : swapsWith (.ListComp elt [⟨tg, iter, ifs, 0⟩, ⟨tg1, iter1, ifs1, 0⟩] scope pos) (some (.Name y py)) spos.line X.env = pure true) (hi : SI X tg iter mi) (ok : BlkOk X.N X.env.scope scope own) (hv : ∀ i ∈ vs1, i ∈ own.map (·.2)) (hs : ∀ i, i ∈ is → i ∈ own.map (·.2)) (hs1 : ∀ i, i ∈ is1 → i ∈ vs1) (gok : Gok is g)
    (hg : ∀ (s : Shared) (H : Hp) (C : Addr) (cl : List (Str × Addr)) (fp : List Addr), SG (X.blk s H scope (compEnvC scope cl C X.env) fp) tg is g) (ht : ∀ (s : Shared) (H : Hp) (C : Addr) (cl : List (Str × Addr)) (fp : List Addr), STs (X.blk s H scope (compEnvC scope cl C X.env) fp) ifs mt)
    (hi1 : ∀ (s : Shared) (H : Hp) (C : Addr) (cl : List (Str × Addr)) (fp : List Addr), SI (X.blk s H scope (compEnvC scope cl C X.env) fp) tg1 iter1 mi1)
    (hg1 : ∀ (s : Shared) (H : Hp) (C : Addr) (cl : List (Str × Addr)) (fp : List Addr), SG (X.blk s H scope (compEnvC scope cl C X.env) fp) tg1 is1 g1) (ht1 : ∀ (s : Shared) (H : Hp) (C : Addr) (cl : List (Str × Addr)) (fp : List Addr), STs (X.blk s H scope (compEnvC scope cl C X.env) fp) ifs1 mt1)
    (he : ∀ (s : Shared) (H : Hp) (C : Addr) (cl : List (Str × Addr)) (fp : List Addr), SE (X.blk s H scope (compEnvC scope cl C X.env) fp) elt me) (hf : ∀ x, foldedSetIterable iter X.env x = pure x := by intro _; rfl) (hf1 : ∀ env x, foldedSetIterable iter1 env x = pure x := by intro _ _; rfl) :
    SS X (.Assign [.Name y py] (.ListComp elt [⟨tg, iter, ifs, 0⟩, ⟨tg1, iter1, ifs1, 0⟩] scope pos) spos) (mSet i (mLc2 mi (own.map (·.2)) g mt mi1 vs1 g1 mt1 me)) :=
  PS.impI (ps_setLc2 (g := rdG X.K is g) (tt := rdT X.K mt) (wi1 := rdI X.K mi1) (g1 := rdG X.K is1 g1) (tt1 := rdT X.K mt1) (te := rdE X.K me) hc hN hy hyl hsw hi ok hv hg ht hi1 hg1 ht1 he hf hf1) fun D σ H hl h => by
    obtain ⟨C, fz, ρ, sto, out, ρ', sto', F, e, k⟩ := h
    have : rdE X.K (mLc2 mi (own.map (·.2)) g mt mi1 vs1 g1 mt1 me) σ H (fun x H1 => gName i x σ H1 D.nx) := by
      unfold mSet at e
      split at e
      · rename_i r s1 e1
        split at e
        · rename_i c ec
          cases e
          exact ⟨C, fz, ρ, sto, r, _, F, e1, fun v fz1 H1 st1 l1 i1 => k fz1 _ H1 (F.give st1 l1 i1 ec (lt_of_slot hy hl)) st1.sts⟩
        · cases e
      · cases e
    exact rd_lc2 hs hs1 gok this
end
end Dh
namespace Dh
open PySem PySem.Spec L2
def fSorted : List R → Option R
  | [x] => match rdL x with | some xs => (intsOf xs).map fun ns => .f ((PySem.W.sortI ns).map PyData.int) | none => none
  | _ => none
theorem imA_ints {K : PySem.W.Frag} {fz : Fz} {H : Hp} : ∀ ns : List Int, ImA K fz H (ns.map V.int) (ns.map PyData.int)
  | [] => .nil
  | _ :: r => .cons (.int _) (imA_ints r)
section
variable {X : Cx} {p pos apos : Pos} {e a : Expr} {es : List Expr} {m : Ma} {ma : Mx}
theorem ok_sorted : OkA X.K (rSortedI X.K) fSorted := by
  intro sp fz fzS H H0 sto vs xs z Q s B i e k
  unfold fSorted at e
  split at e
  · rename_i r
    split at e
    · rename_i ds q
      cases q2 : intsOf ds with
      | none => rw [q2] at e; cases e
      | some bs =>
        rw [q2] at e; cases e
        cases i with
        | cons i t =>
          cases t
          obtain ⟨a, ws, rfl, h, im⟩ := i.list q
          rw [intsOf_im im q2] at h
          refine ⟨a, bs, rfl, h, fun ns' p hp hs hn => ?_⟩
          rw [PySem.W.eq_sortI hp hs]
          obtain ⟨s3, l3, i3⟩ := new_lst B (imA_ints (PySem.W.sortI bs)) hn
          exact k _ fz _ (s.trans s3) l3 (i3.early s)
    · cases e
  · cases e
theorem se_sorted (ha : SA X (e :: es) m) (hm : X.mg "sorted" = none) (hg : Gl X "sorted" := by rfl) (he : starEach (e :: es) X.env = (false, eval e X.env) :: starEach es X.env := by rfl) (hpl : (backTo pos (starEach es X.env)).any (·.1) = false := by rfl) : SE X (.Call (.Name "sorted" p) (e :: es) [] pos) (mA fSorted m) :=
  se_bi cr_sortedI ok_sorted ha hm (by decide +kernel) hg (by decide) (by decide) he hpl
end
end Dh
namespace Dh
open PySem PySem.Spec L2
end Dh
namespace Dh
open PySem PySem.Spec L2
def maxI : List Int → Int
  | [] => 0
  | n :: ns => ns.foldl max n
theorem foldl_max_ge (ns : List Int) : ∀ n : Int, n ≤ ns.foldl max n ∧ ∀ y ∈ ns, y ≤ ns.foldl max n := by
  induction ns with
  | nil => intro n; exact ⟨Int.le_refl _, fun y hy => nomatch hy⟩
  | cons k r ih =>
    intro n
    obtain ⟨a, b⟩ := ih (max n k)
    refine ⟨?_, fun y hy => ?_⟩
    · show n ≤ r.foldl max (max n k); omega
    · show y ≤ r.foldl max (max n k)
      rcases List.mem_cons.mp hy with rfl | hy
      · omega
      · exact b y hy
theorem foldl_max_mem (ns : List Int) : ∀ n : Int, ns.foldl max n = n ∨ ns.foldl max n ∈ ns := by
  induction ns with
  | nil => intro n; exact .inl rfl
  | cons k r ih =>
    intro n
    show r.foldl max (max n k) = n ∨ r.foldl max (max n k) ∈ k :: r
    rcases ih (max n k) with h | h
    · rw [h]
      by_cases q : n ≤ k
      · exact .inr (by rw [Int.max_eq_right q]; exact List.mem_cons_self)
      · exact .inl (Int.max_eq_left (by omega))
    · exact .inr (List.mem_cons_of_mem _ h)
theorem maxI_ge {ns : List Int} : ∀ y ∈ ns, y ≤ maxI ns := by
  cases ns with
  | nil => intro y hy; cases hy
  | cons n r =>
    intro y hy
    obtain ⟨a, b⟩ := foldl_max_ge r n
    rcases List.mem_cons.mp hy with rfl | hy
    · exact a
    · exact b y hy
theorem maxI_mem {ns : List Int} (h : 0 < ns.length) : maxI ns ∈ ns := by
  cases ns with
  | nil => cases h
  | cons n r =>
    show r.foldl max n ∈ n :: r
    rcases foldl_max_mem r n with e | e
    · rw [e]; exact List.mem_cons_self
    · exact List.mem_cons_of_mem _ e
theorem maxI_eq {ns : List Int} {m : Int} (h : m ∈ ns) (hm : ∀ y ∈ ns, y ≤ m) : m = maxI ns := by
  have a := maxI_ge m h
  have b := hm _ (maxI_mem (List.length_pos_of_mem h))
  omega
def rMaxA (K : PySem.W.Frag) : List V → Hp → VK → Prop := fun vs H Q => ∃ (a : Addr) (ns : List Int), vs = [V.ref a] ∧ (SqL K H a (ns.map V.int) ∨ SqT K H a (ns.map V.int)) ∧ 0 < ns.length ∧ Q (.int (maxI ns)) H
theorem alike_ints (ns : List Int) : PySem.W.AlikeAll (ns.map PyData.int) := by
  constructor
  · intro x hx y hy
    obtain ⟨a, _, rfl⟩ := List.mem_map.mp hx
    obtain ⟨b, _, rfl⟩ := List.mem_map.mp hy
    simp only [PySem.W.alike]
  · intro x hx
    obtain ⟨a, _, rfl⟩ := List.mem_map.mp hx
    intro e
    cases e
theorem reads_ints {h : Heap} : ∀ (ns : List Int) (us : List Value), Vals (ns.map V.int) us → ReadsAll h us (ns.map PyData.int) []
  | [], _, .nil => .nil
  | n :: ns, us, h => by
    cases us with
    | nil => cases h
    | cons u us =>
      cases h with
      | cons r t =>
        obtain ⟨tk, rfl⟩ := r
        exact ReadsAll.cons (as := []) (bs := []) (.int n tk) (reads_ints ns _ t)
theorem depth_ints : ∀ ns : List Int, PyData.depthAll (ns.map PyData.int) = 0
  | [] => rfl
  | n :: ns => by
    show max (PyData.depth (.int n)) (PyData.depthAll (ns.map PyData.int)) = 0
    rw [depth_ints ns]
    rfl
section
variable {X : Cx}
theorem cr_maxA (hc : X.calm = true) (hu : X.A.units + 65 < cLine) : CallR X (.builtin "max") (rMaxA X.K) := by
  intro pins s σ H vs us Q I r h
  obtain ⟨a, ns, rfl, hs, hn, q⟩ := h
  rcases hs with hs | hs
  · exact cr_max hc pins s σ H _ us Q I r ⟨a, ns, rfl, hs, hn, fun m h1 h2 => by rw [maxI_eq h1 h2]; exact q⟩
  · obtain ⟨its, rv, ht, _⟩ := I.tuple hs
    rw [Vals.ref1 r]
    cases ns with
    | nil => cases hn
    | cons n ns =>
      refine PySem.W.max_tuple_data (vs := its.toArray) (x := .int n) (xs := ns.map PyData.int) (as := []) (I.ok.hd hc) (show s.heap.IsTuple a its.toArray from ht) (reads_ints (n :: ns) its rv) (alike_ints (n :: ns)) ?_ fun i v h' tk bs hi hr hk => ?_
      · have e : PyData.depthAll (PyData.int n :: ns.map PyData.int) = 0 := depth_ints (n :: ns)
        rw [e]
        omega
      · rw [PySem.W.maxD_ints] at hr
        cases hr
        exact ⟨.int _, H, I.kept hk, ⟨_, rfl⟩, q⟩
end
def fMaxL : List R → Option R
  | [x] => match rdQ x with
    | some xs => match intsOf xs with
      | some ns => if 0 < ns.length then some (.d (.int (maxI ns))) else none
      | none => none
    | none => none
  | _ => none
section
variable {X : Cx} {p pos apos cpos : Pos} {e o : Expr} {es : List Expr} {m : Ma} {mo me : Mx} {kk : Nat}
theorem ok_maxL : OkA X.K (rMaxA X.K) fMaxL := by
  intro sp fz fzS H H0 sto vs xs z Q s B i e k
  unfold fMaxL at e
  split at e
  · rename_i r
    split at e
    · rename_i ds q
      split at e
      · rename_i bs q2
        split at e
        · rename_i hz
          cases e
          cases i with
          | cons i t =>
            cases t
            obtain ⟨a, ws, rfl, h, im⟩ := i.seq q
            rw [intsOf_im im q2] at h
            exact ⟨a, bs, rfl, h, hz, k _ fz H s B.spl (.int _)⟩
        · cases e
      · cases e
    · cases e
  · cases e
theorem se_maxL (hr : Room kk X.A) (hc : X.calm = true) (ha : SA X (e :: es) m) (hm : X.mg "max" = none) (hg : Gl X "max" := by rfl) (he : starEach (e :: es) X.env = (false, eval e X.env) :: starEach es X.env := by rfl) (hpl : (backTo pos (starEach es X.env)).any (·.1) = false := by rfl) : SE X (.Call (.Name "max" p) (e :: es) [] pos) (mA fMaxL m) :=
  se_bi (cr_maxA hc (units65 hr)) ok_maxL ha hm (by decide +kernel) hg (by decide) (by decide) he hpl
end
def mApPop (i j : Nat) (a : Mx) : Ms := fun ρ s => match a ρ s with
  | some (.d (.int k), s1) => match ρ[i]?, ρ[j]? with
    | some (some (.o xs)), some (some (.o ys)) => if i ≠ j ∧ xs.length < sizeLine ∧ 0 ≤ k ∧ k < 2 ^ 63 then match ys[k.toNat]? with
        | some y => some (.nx, (ρ.set j (some (.o (ys.eraseIdx k.toNat)))).set i (some (.o (xs ++ [y]))), s1)
        | none => none
      else none
    | _, _ => none
  | _ => none
theorem ImA.erase {K : PySem.W.Frag} {fz : Fz} {H : Hp} : ∀ {v : List V} {d : List PyData} (n : Nat), ImA K fz H v d → ImA K fz H (v.eraseIdx n) (d.eraseIdx n)
  | _, _, _, .nil => .nil
  | _, _, 0, .cons h t => t
  | _, _, n + 1, .cons h t => .cons h (t.erase n)
section
variable {X : Cx} {x y : Str} {p p2 apos cpos apos2 cpos2 pos : Pos} {e e2 : Expr} {me mi : Mx} {i j : Nat}
theorem ss_appop (he : SE X e me) (hN : X.N[i]? = some x := by rfl) (hN2 : X.N[j]? = some y := by rfl) (hv : Vis X.env.scope x := by first | exact Or.inl rfl | exact Or.inr (Or.inl rfl) | exact Or.inr (Or.inr rfl)) (hv2 : Vis X.env.scope y := by first | exact Or.inl rfl | exact Or.inr (Or.inl rfl) | exact Or.inr (Or.inr rfl))
    (hse : starEach [e] X.env = (false, eval e X.env) :: starEach [] X.env := by rfl)
    (hse2 : starEach [.Call (.Attribute (.Name y p2) "pop" apos2) [e] [] cpos2] X.env = (false, eval (.Call (.Attribute (.Name y p2) "pop" apos2) [e] [] cpos2) X.env) :: starEach [] X.env := by rfl)
    (hfew : ((backTo cpos2 (starEach [e] X.env)).all (fun x => !x.1) && (backToKw cpos2 (keywordEach [] X.env)).all (fun x => x.1.isSome)
      && decide (([e] : List Expr).length + ([] : List Keyword).length + (if ([] : List Keyword).isEmpty then 0 else 1) < 30)) = true := by rfl)
    (hfew2 : ((backTo cpos (starEach [.Call (.Attribute (.Name y p2) "pop" apos2) [e] [] cpos2] X.env)).all (fun x => !x.1) && (backToKw cpos (keywordEach [] X.env)).all (fun x => x.1.isSome)
      && decide (([.Call (.Attribute (.Name y p2) "pop" apos2) [e] [] cpos2] : List Expr).length + ([] : List Keyword).length + (if ([] : List Keyword).isEmpty then 0 else 1) < 30)) = true := by rfl)
    (hline : (apos2.endLine == cpos2.line) = true := by rfl) (hline2 : (apos.endLine == cpos.line) = true := by rfl)
    (hd : (x == ("__debug__" : Str)) = false := by decide) (hcd : (x == ("__classdict__" : Str)) = false := by decide) (hd2 : (y == ("__debug__" : Str)) = false := by decide) (hcd2 : (y == ("__classdict__" : Str)) = false := by decide)
    (hbase : attributeBase (.Name y p2) "pop" X.env (eval (.Name y p2) X.env) = eval (.Name y p2) X.env := by rfl) (hbase2 : attributeBase (.Name x p) "append" X.env (eval (.Name x p) X.env) = eval (.Name x p) X.env := by rfl)
    (hs : swapsWith (.Call (.Attribute (.Name x p) "append" apos) [.Call (.Attribute (.Name y p2) "pop" apos2) [e] [] cpos2] [] cpos) none pos.line X.env = pure false := by rfl) :
    SS X (.Expr (.Call (.Attribute (.Name x p) "append" apos) [.Call (.Attribute (.Name y p2) "pop" apos2) [e] [] cpos2] [] cpos) pos) (mApPop i j me) :=
  PS.imp (ps_expr (pe_bm PySem.F.plainAttrs_list PySem.F.slot_list_append PySem.F.type_list_append mt_append (pe_var hN hv hd hcd) (pa_cons (pe_bm PySem.F.plainAttrs_list PySem.F.slot_list_pop PySem.F.type_list_pop mt_popAt (pe_var hN2 hv2 hd2 hcd2) (pa_cons he pa_nil hse) hbase hfew hline hse) pa_nil hse2) hbase2 hfew2 hline2 hse2) hs) fun D σ H h => by
  obtain ⟨C, fz, ρ, sto, out, ρ', sto', F, e, k⟩ := h
  unfold mApPop at e
  split at e
  · rename_i kk s1 e1
    split at e
    · rename_i xs ys ex ey
      split at e
      · rename_i hz
        split at e
        · rename_i z hy
          cases e
          obtain ⟨hij, hlen, k0, k1⟩ := hz
          obtain ⟨a, vs, ha, h2, h3, h4, h5, h6⟩ := F.owned ex
          obtain ⟨b, ws, hb, g2, g3, g4, g5, g6⟩ := F.owned ey
          refine ⟨_, ha, .inl ⟨rfl, vs, .inl (.inl h2)⟩, _, hb, .inl ⟨rfl, ws, .inl (.inl g2)⟩, C, fz, ρ, sto, _, _, F, e1, fun v fz1 H1 st1 l1 i1 => ?_⟩
          have F1 := F.step st1 l1
          obtain ⟨b', ws', hb', q2, q3, q4, q5, q6⟩ := F1.owned ey
          rw [hb] at hb'; cases hb'
          cases i1
          have kl : kk.toNat < ys.length := (List.getElem?_eq_some_iff.mp hy).1
          obtain ⟨w, hw, iw⟩ := q3.at kk.toNat z hy
          refine ⟨b, ws', kk, kk.toNat, w, rfl, rfl, q2, by omega, k1, seqIndex_of k0 (by rw [q3.length]; omega), hw, ?_⟩
          obtain ⟨F2, S2⟩ := F1.write (ys := ys.eraseIdx kk.toNat) ey hb (q3.erase kk.toNat)
          have ex2 : (ρ.set j (some (.o (ys.eraseIdx kk.toNat))))[i]? = some (some (.o xs)) := by rw [List.getElem?_set_ne (Ne.symm hij)]; exact ex
          obtain ⟨a', vs', ha', r2, r3, r4, r5, r6⟩ := F2.owned ex2
          rw [ha] at ha'; cases ha'
          refine ⟨a, vs', w, rfl, rfl, r2, by rw [r3.length]; exact hlen, ?_⟩
          obtain ⟨F3, S3⟩ := F2.write (ys := xs ++ [z]) ex2 ha (r3.append (.cons (iw.sts S2 F1.bs) .nil))
          exact k fz1 σ _ F3 (st1.sts.trans (S2.trans S3))
        · cases e
      · cases e
    · cases e
  · cases e
def mIns (i : Nat) (a : Ma) : Ms := fun ρ s => match a ρ s with
  | some ([.d (.int k), r], s1) => match toD r, ρ[i]? with
    | some z, some (some (.o xs)) => if xs.length < sizeLine ∧ 0 ≤ k ∧ k < 2 ^ 63 then some (.nx, ρ.set i (some (.o (xs.take k.toNat ++ [z] ++ xs.drop k.toNat))), s1) else none
    | _, _ => none
  | _ => none
end
end Dh
namespace Dh
open PySem PySem.Spec PyProof.Rows L2 PySem.W
section
variable {X : Cx} {e1 e2 : Expr} {ma : Ma} {pos : Pos}
theorem ss_insert {i : Nat} {x : Str} {p apos cpos : Pos} (ha : SA X [e1, e2] ma) (hN : X.N[i]? = some x := by rfl) (hv : Vis X.env.scope x := by first | exact Or.inl rfl | exact Or.inr (Or.inl rfl) | exact Or.inr (Or.inr rfl))
    (hse : starEach [e1, e2] X.env = (false, eval e1 X.env) :: starEach [e2] X.env := by rfl)
    (hfew : ((backTo cpos (starEach [e1, e2] X.env)).all (fun x => !x.1) && (backToKw cpos (keywordEach [] X.env)).all (fun x => x.1.isSome)
      && decide (([e1, e2] : List Expr).length + ([] : List Keyword).length + (if ([] : List Keyword).isEmpty then 0 else 1) < 30)) = true := by rfl)
    (hline : (apos.endLine == cpos.line) = true := by rfl)
    (hd : (x == ("__debug__" : Str)) = false := by decide) (hcd : (x == ("__classdict__" : Str)) = false := by decide) (hbase : attributeBase (.Name x p) "insert" X.env (eval (.Name x p) X.env) = eval (.Name x p) X.env := by rfl)
    (hs : swapsWith (.Call (.Attribute (.Name x p) "insert" apos) [e1, e2] [] cpos) none pos.line X.env = pure false := by rfl) (hpl : (backTo cpos (starEach [e2] X.env)).any (·.1) = false := by rfl) : SS X (.Expr (.Call (.Attribute (.Name x p) "insert" apos) [e1, e2] [] cpos) pos) (mIns i ma) :=
  PS.imp (ps_expr (pe_bm PySem.F.plainAttrs_list PySem.F.slot_list_insert PySem.F.type_list_insert mt_insert (pe_var hN hv hd hcd) ha hbase hfew hline hse hpl) hs) fun D σ H h => by
  obtain ⟨C, fz, ρ, sto, out, ρ', sto', F, e, k⟩ := h
  unfold mIns at e
  split at e
  · rename_i kk r s1 e1
    split at e
    · rename_i x xs er ex
      split at e
      · rename_i hz
        cases e
        obtain ⟨a, vs, ha, h2, h3, h4, h5, h6⟩ := F.owned ex
        refine ⟨_, ha, .inl ⟨rfl, vs, .inl (.inl h2)⟩, C, fz, ρ, sto, _, _, F, e1, fun ws fz1 H1 st1 l1 i1 => ?_⟩
        cases i1 with
        | cons iv t =>
          cases t with
          | cons iw t =>
            cases t
            cases iv
            obtain ⟨fz2, F2, st2, im⟩ := F.keep st1 l1 iw er
            obtain ⟨a', vs', ha', q2, q3, q4, q5, q6⟩ := F2.owned ex
            rw [ha] at ha'; cases ha'
            refine ⟨a, vs', kk, _, rfl, rfl, q2, by rw [q3.length]; exact hz.1, hz.2.1, hz.2.2, ?_⟩
            obtain ⟨F3, S3⟩ := F2.write (ys := xs.take kk.toNat ++ [x] ++ xs.drop kk.toNat) ex ha (((q3.take kk.toNat).append (.cons im .nil)).append (q3.drop kk.toNat))
            exact k fz2 σ _ F3 (st2.sts.trans S3)
      · cases e
    · cases e
  · cases e
end
end Dh
namespace Dh
open PySem PySem.Spec L2
def fLrg : R → Option R
  | .d (.int j) => if -(2 ^ 62) ≤ j ∧ j ≤ 2 ^ 24 then some (.f (rangeL 0 j.toNat)) else none
  | _ => none
theorem imA_rg {K : PySem.W.Frag} {fz : Fz} {H : Hp} (j : Int) : ImA K fz H (rgV 0 j) (rangeL 0 j.toNat) := by
  unfold rgV rangeL
  rw [Int.sub_zero]
  generalize List.range j.toNat = l
  induction l with
  | nil => exact .nil
  | cons x r ih => exact .cons (.int _) ih
section
variable {X : Cx} {p p2 pos pos2 : Pos} {a : Expr} {ma : Mx}
theorem se_listRange (hc : X.calm = true) (ha : SE X a ma) (hmr : X.mg "range" = none) (hml : X.mg "list" = none) (hgr : Gl X "range" := by rfl) (hgl : Gl X "list" := by rfl)
    (hs : starEach [a] X.env = (false, eval a X.env) :: starEach [] X.env := by rfl)
    (hs2 : starEach [.Call (.Name "range" p) [a] [] pos] X.env = (false, eval (.Call (.Name "range" p) [a] [] pos) X.env) :: starEach [] X.env := by rfl) :
    SE X (.Call (.Name "list" p2) [.Call (.Name "range" p) [a] [] pos] [] pos2) (m1 fLrg ma) := PE.imp (pe_listRg hc hgl hml (prg_1 hgr hmr ha hs) hs2) fun σ H Q h => by
  have h2 : tUn (fun v H Q => ∃ j, v = .int j ∧ RgOk 0 j ∧ ∀ q, H q = none → Q (.ref q) (upd H q (.lst (rgV 0 j)))) (rdE X.K ma) σ H Q := rd_one (by
    intro sp fz H H0 sto v x z Q B ix e k
    unfold fLrg at e
    split at e
    · split at e
      · rename_i j hz
        cases e
        cases ix
        refine ⟨_, rfl, ⟨by omega, by omega, hz.1, by omega, by omega⟩, fun q hq => ?_⟩
        obtain ⟨s3, l3, i3⟩ := new_lst (K := X.K) B (imA_rg j) hq
        exact k _ fz _ s3 l3 (.inl i3)
      · cases e
    · cases e) h
  exact h2
end
end Dh
namespace Dh
open PySem PySem.Spec L2 PySem.W PyProof.Rows
theorem Sk.ext {k : Sk} {K : PySem.W.Frag} {H H' : Hp} {a : Addr} {xs : List V} (h : k.Sq K H a xs) (e : ∀ c o, H c = some o → H' c = some o) : k.Sq K H' a xs := by
  cases k with
  | l =>
    rcases (show SqL K H a xs from h) with (h | ⟨o, h⟩) | h
    · exact .inl (.inl (e _ _ h))
    · exact .inl (.inr ⟨o, e _ _ h⟩)
    · exact .inr h
  | t =>
    rcases (show SqT K H a xs from h) with (h | ⟨o, h⟩) | h
    · exact .inl (.inl (e _ _ h))
    · exact .inl (.inr ⟨o, e _ _ h⟩)
    · exact .inr h
end Dh
namespace Dh
open PySem PySem.Spec L2 PySem.W
/-- a mark: what it stands for is left as it is -/
inductive Tg {α : Type} (a : α) : Type
  | mk : Tg a
def WO {α : Type} (x : Option α) (Q : α → Prop) (_t : Tg Q := .mk) : Prop := ∃ z, x = some z ∧ Q z
def WX (m : Mx) (ρ : Ev) (s : Sto) (Q : R → Sto → Prop) (_t : Tg (m, Q) := .mk) : Prop := ∃ r s', m ρ s = some (r, s') ∧ Q r s'
def WT (m : Mt) (ρ : Ev) (s : Sto) (Q : Bool → Sto → Prop) (_t : Tg (m, Q) := .mk) : Prop := ∃ r s', m ρ s = some (r, s') ∧ Q r s'
def WA (m : Ma) (ρ : Ev) (s : Sto) (Q : List R → Sto → Prop) (_t : Tg (m, Q) := .mk) : Prop := ∃ r s', m ρ s = some (r, s') ∧ Q r s'
def WI (m : Mi) (ρ : Ev) (s : Sto) (Q : List PyData → Sto → Prop) (_t : Tg (m, Q) := .mk) : Prop := ∃ r s', m ρ s = some (r, s') ∧ Q r s'
def WN (m : Mo) (ρ : Ev) (s : Sto) (Q : Option Int → Sto → Prop) (_t : Tg (m, Q) := .mk) : Prop := ∃ r s', m ρ s = some (r, s') ∧ Q r s'
def WS (m : Ms) (ρ : Ev) (s : Sto) (Q : Out → Ev → Sto → Prop) (_t : Tg (m, Q) := .mk) : Prop := ∃ o ρ' s', m ρ s = some (o, ρ', s') ∧ Q o ρ' s'
def WF (g : Fx) (cs : List Cl) (s : Sto) (Q : R → Sto → Prop) (_t : Tg (g, Q) := .mk) : Prop := ∃ r s', g cs s = some (r, s') ∧ Q r s'
def WFor (g : Gx) (body : Ms) (xs : List PyData) (ρ : Ev) (s : Sto) (Q : Out → Ev → Sto → Prop) (_t : Tg (g, body, Q) := .mk) : Prop := WS (forRun g body xs) ρ s Q
def WWh (c : Mt) (body : Ms) (ρ : Ev) (s : Sto) (Q : Out → Ev → Sto → Prop) (_t : Tg (c, body, Q) := .mk) : Prop := WS (mWhile c body) ρ s Q
def WLc (vs : List Nat) (g : Gx) (t : Mt) (e : Mx) (xs : List PyData) (ρ : Ev) (s : Sto) (Q : List PyData → Sto → Prop) (_t : Tg (vs, g, t, e, Q) := .mk) : Prop := ∃ ys s', lcRun vs g t e xs ρ s = some (ys, s') ∧ Q ys s'
def WLc2 (vs vs1 : List Nat) (g : Gx) (t : Mt) (it1 : Mi) (g1 : Gx) (t1 : Mt) (e : Mx) (xs : List PyData) (ρ : Ev) (s : Sto) (Q : List PyData → Sto → Prop) (_t : Tg (vs, vs1, g, t, it1, g1, t1, e, Q) := .mk) : Prop := ∃ ys s', lcRun2 vs vs1 g t it1 g1 t1 e xs ρ s = some (ys, s') ∧ Q ys s'
def IfK (k : Bool) (A B : Prop) (_t : Tg (A, B) := .mk) : Prop := if k = true then A else B
def seqK (b : Ms) (Q : Out → Ev → Sto → Prop) : Out → Ev → Sto → Prop
  | .nx, ρ, s => WS b ρ s Q
  | o, ρ, s => Q o ρ s
def loopK (J : Ev → Sto → Prop) (Q : Out → Ev → Sto → Prop) : Out → Ev → Sto → Prop
  | .nx, ρ, s => J ρ s
  | .ct, ρ, s => J ρ s
  | .bk, ρ, s => Q .nx ρ s
  | .rt r, ρ, s => Q (.rt r) ρ s
def getC : Ev → Nat → Option Cl
  | [], _ => none
  | c :: _, 0 => c
  | _ :: ρ, n + 1 => getC ρ n
/-- the end of a def -/
def endK (Q : R → Sto → Prop) : Out → Ev → Sto → Prop
  | .rt r, _, s => Q r s
  | .nx, _, s => Q (.d .none) s
  | _, _, _ => False
def boolK (r : R) : Option Bool := match r with | .d (.bool k) => some k | _ => none
def retK (r : R) : Option R := match r with | .d x => some (.d x) | .f x => some (.f x) | _ => none
def intK (r : R) : Option Int := match r with | .d (.int k) => some k | _ => none
def retVK (c : Cl) : Option R := match c with | .d x => some (.d x) | .o x => some (.f x) | _ => none
def ownK (c : Cl) : Option (List PyData) := match c with | .o x => some x | _ => none
@[simp] theorem ex2 {α β : Type} {z : α} {s : β} {K : α → β → Prop} : (∃ r s', (z = r ∧ s = s') ∧ K r s') ↔ K z s := ⟨fun ⟨_, _, ⟨rfl, rfl⟩, k⟩ => k, fun k => ⟨_, _, ⟨rfl, rfl⟩, k⟩⟩
@[simp] theorem ex2' {α β : Type} {z : α} {s : β} {K : α → β → Prop} : (∃ r s', (r = z ∧ s = s') ∧ K r s') ↔ K z s := ⟨fun ⟨_, _, ⟨rfl, rfl⟩, k⟩ => k, fun k => ⟨_, _, ⟨rfl, rfl⟩, k⟩⟩
@[simp] theorem ex3 {α β γ : Type} {z : α} {s : β} {t : γ} {K : α → β → γ → Prop} : (∃ r s' t', (z = r ∧ s = s' ∧ t = t') ∧ K r s' t') ↔ K z s t := ⟨fun ⟨_, _, _, ⟨rfl, rfl, rfl⟩, k⟩ => k, fun k => ⟨_, _, _, ⟨rfl, rfl, rfl⟩, k⟩⟩
@[simp] theorem ex3' {α β γ : Type} {z : α} {s : β} {t : γ} {K : α → β → γ → Prop} : (∃ r s' t', (r = z ∧ s = s' ∧ t = t') ∧ K r s' t') ↔ K z s t := ⟨fun ⟨_, _, _, ⟨rfl, rfl, rfl⟩, k⟩ => k, fun k => ⟨_, _, _, ⟨rfl, rfl, rfl⟩, k⟩⟩
section rules
variable {α : Type} {ρ : Ev} {s : Sto} {i j : Nat} {a b : Mx} {ta tb : Mt} {as : Ma} {ma mb : Ms} {mo mo' : Mo} {it : Mi} {d : PyData}
variable {Q : R → Sto → Prop} {QT : Bool → Sto → Prop} {QA : List R → Sto → Prop} {QI : List PyData → Sto → Prop} {QS : Out → Ev → Sto → Prop} {QN : Option Int → Sto → Prop}
@[simp] theorem WO_some {z : α} {Q : α → Prop} : WO (some z) Q = Q z := by simp [WO]
@[simp] theorem WO_none {Q : α → Prop} : WO none Q = False := by simp [WO]
@[simp] theorem WO_ite {c : Prop} [Decidable c] {x : Option α} {Q : α → Prop} : WO (if c then x else none) Q = (c ∧ WO x Q) := by
  by_cases h : c <;> simp [h]
@[simp] theorem IfK_true {A B : Prop} : IfK true A B = A := by simp [IfK]
@[simp] theorem IfK_false {A B : Prop} : IfK false A B = B := by simp [IfK]
@[simp] theorem seqK_nx : seqK mb QS .nx ρ s = WS mb ρ s QS := rfl
@[simp] theorem seqK_bk : seqK mb QS .bk ρ s = QS .bk ρ s := rfl
@[simp] theorem seqK_ct : seqK mb QS .ct ρ s = QS .ct ρ s := rfl
@[simp] theorem seqK_rt {r : R} : seqK mb QS (.rt r) ρ s = QS (.rt r) ρ s := rfl
@[simp] theorem loopK_nx {J : Ev → Sto → Prop} : loopK J QS .nx ρ s = J ρ s := rfl
@[simp] theorem loopK_ct {J : Ev → Sto → Prop} : loopK J QS .ct ρ s = J ρ s := rfl
@[simp] theorem loopK_bk {J : Ev → Sto → Prop} : loopK J QS .bk ρ s = QS .nx ρ s := rfl
@[simp] theorem loopK_rt {J : Ev → Sto → Prop} {r : R} : loopK J QS (.rt r) ρ s = QS (.rt r) ρ s := rfl
@[simp] theorem endK_rt {r : R} : endK Q (.rt r) ρ s = Q r s := rfl
@[simp] theorem endK_nx : endK Q .nx ρ s = Q (.d .none) s := rfl
@[simp] theorem getC_0 {c : Option Cl} : getC (c :: ρ) 0 = c := rfl
@[simp] theorem getC_s {c : Option Cl} {n : Nat} : getC (c :: ρ) (n + 1) = getC ρ n := rfl
@[simp] theorem boolK_b {k : Bool} : boolK (.d (.bool k)) = some k := rfl
@[simp] theorem retK_d : retK (.d d) = some (.d d) := rfl
@[simp] theorem retK_f {xs : List PyData} : retK (.f xs) = some (.f xs) := rfl
@[simp] theorem intK_i {k : Int} : intK (.d (.int k)) = some k := rfl
@[simp] theorem retVK_d : retVK (.d d) = some (.d d) := rfl
@[simp] theorem retVK_o {xs : List PyData} : retVK (.o xs) = some (.f xs) := rfl
@[simp] theorem ownK_o {xs : List PyData} : ownK (.o xs) = some xs := rfl
theorem getC_eq : ∀ (ρ : Ev) (i : Nat), getC ρ i = (ρ[i]?).join
  | [], _ => rfl
  | c :: ρ, 0 => by cases c <;> rfl
  | c :: ρ, n + 1 => by rw [getC_s, List.getElem?_cons_succ, getC_eq ρ n]
theorem getC_of {c : Cl} (h : ρ[i]? = some (some c)) : getC ρ i = some c := by rw [getC_eq, h]; rfl
theorem of_getC {c : Cl} (h : getC ρ i = some c) : ρ[i]? = some (some c) := by
  rw [getC_eq] at h
  cases q : ρ[i]? with
  | none => rw [q] at h; cases h
  | some x => rw [q] at h; exact congrArg some h
@[simp ↓] theorem wx_m1 {f : R → Option R} : WX (m1 f a) ρ s Q = WX a ρ s fun x s1 => WO (f x) fun z => Q z s1 := by
  apply propext
  unfold WX WO
  rw [ev_m1]
  rcases a ρ s with _ | ⟨x, s1⟩
  · simp
  · simp only [Option.some.injEq, Prod.mk.injEq]
    constructor
    · rintro ⟨r, s', e, q⟩
      cases h : f x with
      | none => simp [ret, h] at e
      | some z =>
        simp [ret, h] at e
        obtain ⟨rfl, rfl⟩ := e
        exact ⟨x, s1, ⟨rfl, rfl⟩, z, h, q⟩
    · rintro ⟨_, _, ⟨rfl, rfl⟩, z, h, q⟩
      exact ⟨z, s1, by simp [ret, h], q⟩
theorem wbnd {β γ : Type} {m : Ev → Sto → Option (β × Sto)} {f : β → Ev → Sto → Option (γ × Sto)} {K : γ → Sto → Prop} : (∃ r s', bnd m f ρ s = some (r, s') ∧ K r s') = ∃ x s1, m ρ s = some (x, s1) ∧ ∃ r s', f x ρ s1 = some (r, s') ∧ K r s' := by
  apply propext
  rw [ev_bnd]
  rcases m ρ s with _ | ⟨x, s1⟩
  · simp
  · simp
theorem wret {x : Option α} {K : α → Sto → Prop} : (∃ r s', ret x s = some (r, s') ∧ K r s') = WO x fun z => K z s := by
  apply propext
  unfold WO
  cases x with
  | none => simp [ret]
  | some z => simp [ret]
@[simp ↓] theorem wx_m2 {f : R → R → Option R} : WX (m2 f a b) ρ s Q = WX a ρ s fun x s1 => WX b ρ s1 fun y s2 => WO (f x y) fun z => Q z s2 := by
  unfold WX m2
  simp only [wbnd, wret]
@[simp ↓] theorem wx_mA {f : List R → Option R} : WX (mA f as) ρ s Q = WA as ρ s fun x s1 => WO (f x) fun z => Q z s1 := by
  unfold WX WA mA
  simp only [wbnd, wret]
@[simp ↓] theorem wa_nil : WA maNil ρ s QA = QA [] s := by
  unfold WA maNil
  simp
@[simp ↓] theorem wa_cons : WA (maCons a as) ρ s QA = WX a ρ s fun x s1 => WA as ρ s1 fun xs s2 => QA (x :: xs) s2 := by
  unfold WA WX maCons
  simp only [wbnd]
  simp
@[simp ↓] theorem wx_var : WX (mVar i) ρ s Q = WO (getC ρ i) fun c => Q (rdCl c) s := by
  apply propext
  unfold WX WO
  rw [ev_mVar]
  constructor
  · rintro ⟨r, s', e, q⟩
    split at e
    · rename_i c hc
      cases e
      exact ⟨c, getC_of hc, q⟩
    · cases e
  · rintro ⟨c, hc, q⟩
    exact ⟨rdCl c, s, by rw [of_getC hc], q⟩
@[simp ↓] theorem wx_kon : WX (mKon d) ρ s Q = Q (.d d) s := by
  unfold WX
  simp
@[simp ↓] theorem wx_ix : WX (mIx a b) ρ s Q = WX a ρ s fun x s1 => WX b ρ s1 fun y s2 => WO (fIx s2 x y) fun z => Q z s2 := by
  apply propext
  unfold WX WO
  rw [ev_mIx]
  rcases a ρ s with _ | ⟨x, s1⟩
  · simp
  · dsimp only
    rcases hb : b ρ s1 with _ | ⟨y, s2⟩
    · simp [hb]
    · dsimp only
      rcases hf : fIx s2 x y with _ | z
      · simp [hb, hf]
      · simp [hb, hf]
@[simp ↓] theorem wx_call {g : Fx} : WX (mCall g as) ρ s Q = WA as ρ s fun rs s1 => WO (toArgs rs) fun cs => WF g cs s1 Q := by
  apply propext
  unfold WX WA WO WF
  rw [ev_mCall]
  rcases as ρ s with _ | ⟨x, s1⟩
  · simp
  · dsimp only
    rcases h : toArgs x with _ | cs <;> simp [h]
@[simp ↓] theorem wx_callK {g : Fx} {π : List Nat} {n : Nat} : WX (mCallK g π n as) ρ s Q = WA as ρ s fun rs s1 => WO (toArgs rs) fun cs => cs.length = n ∧ WF g (perm (.d .none) π cs) s1 Q := by
  apply propext
  unfold WX WA WO WF mCallK
  rw [ev_bnd]
  rcases as ρ s with _ | ⟨x, s1⟩
  · simp
  · dsimp only
    rcases h0 : toArgs x with _ | cs
    · simp [h0]
    · dsimp only
      by_cases h : cs.length = n <;> simp [h, h0]
def callNK (rs : List R) : Option (Sto × List Cl) := match rs with
  | .f xs :: r => match stoOf xs, onlyD r with
    | some s0, some cs => some (s0, cs)
    | _, _ => none
  | _ => none
@[simp ↓] theorem wx_callN {g : Fx} : WX (mCallN g as) ρ s Q = WA as ρ s fun rs s1 => WO (callNK rs) fun p => WF g (.s :: p.2) p.1 fun r _ => WO (retK r) fun r' => Q r' s1 := by
  apply propext
  unfold WX WA WO WF mCallN callNK
  rw [ev_bnd]
  rcases as ρ s with _ | ⟨x, s1⟩
  · simp
  · dsimp only
    cases x with
    | nil => simp
    | cons r rs =>
      cases r with
      | f xs =>
        dsimp only
        rcases h0 : stoOf xs with _ | s0
        · simp [h0]
        · rcases h1 : onlyD rs with _ | cs
          · simp [h0, h1]
          · dsimp only
            rcases hg : g (.s :: cs) s0 with _ | ⟨z, s2⟩
            · simp [hg, h0, h1]
            · cases z <;> simp [hg, h0, h1, retK]
      | _ => simp
@[simp ↓] theorem wt_bT : WT (bT a) ρ s QT = WX a ρ s fun r s1 => WO (boolK r) fun k => QT k s1 := by
  apply propext
  unfold WT WX WO
  rw [ev_bT]
  rcases a ρ s with _ | ⟨x, s1⟩
  · simp
  · cases x with
    | d z =>
      cases z with
      | bool k => cases k <;> simp [boolK]
      | _ => simp [boolK]
    | _ => simp [boolK]
@[simp ↓] theorem wt_and : WT (tAnd2 ta tb) ρ s QT = WT ta ρ s fun k s1 => IfK k (WT tb ρ s1 QT) (QT false s1) := by
  apply propext
  unfold WT
  rw [ev_tAnd2]
  rcases ta ρ s with _ | ⟨_ | _, s1⟩ <;> simp
@[simp ↓] theorem wt_or : WT (tOr2 ta tb) ρ s QT = WT ta ρ s fun k s1 => IfK k (QT true s1) (WT tb ρ s1 QT) := by
  apply propext
  unfold WT
  rw [ev_tOr2]
  rcases ta ρ s with _ | ⟨_ | _, s1⟩ <;> simp
@[simp ↓] theorem wt_not : WT (tNot2 ta) ρ s QT = WT ta ρ s fun k s1 => QT (!k) s1 := by
  apply propext
  unfold WT
  rw [ev_tNot2]
  rcases ta ρ s with _ | ⟨_ | _, s1⟩ <;> simp
@[simp ↓] theorem wt_yes : WT mYes ρ s QT = QT true s := by
  unfold WT
  simp
@[simp ↓] theorem wx_if : WX (mIf ta a b) ρ s Q = WT ta ρ s fun k s1 => IfK k (WX a ρ s1 Q) (WX b ρ s1 Q) := by
  apply propext
  unfold WX WT
  rw [ev_mIf]
  rcases ta ρ s with _ | ⟨_ | _, s1⟩ <;> simp
@[simp ↓] theorem wx_and : WX (mAnd a b) ρ s Q = WX a ρ s fun r s1 => WO (boolK r) fun k => IfK k (WX b ρ s1 Q) (Q (.d (.bool false)) s1) := by
  apply propext
  unfold WX WO
  rw [ev_mAnd]
  rcases a ρ s with _ | ⟨x, s1⟩
  · simp
  · cases x with
    | d z =>
      cases z with
      | bool k => cases k <;> simp [boolK]
      | _ => simp [boolK]
    | _ => simp [boolK]
@[simp ↓] theorem wx_or : WX (mOr a b) ρ s Q = WX a ρ s fun r s1 => WO (boolK r) fun k => IfK k (Q (.d (.bool true)) s1) (WX b ρ s1 Q) := by
  apply propext
  unfold WX WO
  rw [ev_mOr]
  rcases a ρ s with _ | ⟨x, s1⟩
  · simp
  · cases x with
    | d z =>
      cases z with
      | bool k => cases k <;> simp [boolK]
      | _ => simp [boolK]
    | _ => simp [boolK]
@[simp ↓] theorem wn_none : WN moNone ρ s QN = QN none s := by
  unfold WN moNone
  simp
@[simp ↓] theorem wn_some : WN (moSome a) ρ s QN = WX a ρ s fun r s1 => WO (intK r) fun k => QN (some k) s1 := by
  unfold WN WX moSome
  simp only [wbnd, wret]
  apply propext
  constructor
  · rintro ⟨x, s1, e, h⟩
    refine ⟨x, s1, e, ?_⟩
    cases x with
    | d z => cases z <;> simp_all [intK]
    | _ => simp_all [intK]
  · rintro ⟨x, s1, e, h⟩
    refine ⟨x, s1, e, ?_⟩
    cases x with
    | d z => cases z <;> simp_all [intK]
    | _ => simp_all [intK]
@[simp ↓] theorem wx_sl : WX (mSl a mo mo') ρ s Q = WX a ρ s fun x s1 => WN mo ρ s1 fun l s2 => WN mo' ρ s2 fun h s3 => WO (fSl x l h) fun z => Q z s3 := by
  unfold WX WN mSl
  simp only [wbnd, wret]
@[simp ↓] theorem wx_chain {g1 g2 : Int → Int → Option PyData} {c : Mx} : WX (mChain g1 g2 a b c) ρ s Q = WX a ρ s fun x s1 => WX b ρ s1 fun y s2 => WO (fI g1 x y) fun z => WO (boolK z) fun k => IfK k (WX c ρ s2 fun w s3 => WO (fI g2 y w) fun z => Q z s3) (Q (.d (.bool false)) s2) := by
  unfold WX mChain
  simp only [wbnd, wret]
  apply propext
  unfold WO
  constructor
  · rintro ⟨x, s1, e1, y, s2, e2, z, e3, r, s', e4, q⟩
    refine ⟨x, s1, e1, y, s2, e2, z, e3, ?_⟩
    cases z with
    | d z =>
      cases z with
      | bool k =>
        refine ⟨k, rfl, ?_⟩
        cases k with
        | true =>
          rw [IfK_true]
          dsimp only at e4
          rw [ev_bnd] at e4
          rcases hc : c ρ s2 with _ | ⟨w, s3⟩
          · simp [hc] at e4
          · simp only [hc] at e4
            rcases hg : fI g2 y w with _ | v
            · simp [hg] at e4
            · simp [hg] at e4
              obtain ⟨rfl, rfl⟩ := e4
              exact ⟨w, s3, rfl, v, hg, q⟩
        | false =>
          rw [IfK_false]
          simp at e4
          obtain ⟨rfl, rfl⟩ := e4
          exact q
      | _ => simp at e4
    | _ => simp at e4
  · rintro ⟨x, s1, e1, y, s2, e2, z, e3, k, e4, q⟩
    refine ⟨x, s1, e1, y, s2, e2, z, e3, ?_⟩
    cases z with
    | d z =>
      cases z with
      | bool k' =>
        cases e4
        cases k with
        | true =>
          rw [IfK_true] at q
          obtain ⟨w, s3, e5, v, e6, q⟩ := q
          exact ⟨v, s3, by simp [e5, e6], q⟩
        | false =>
          rw [IfK_false] at q
          exact ⟨_, _, rfl, q⟩
      | _ => cases e4
    | _ => cases e4
@[simp ↓] theorem ws_nil : WS mNil ρ s QS = QS .nx ρ s := by
  unfold WS
  simp
@[simp ↓] theorem ws_seq : WS (mSeq ma mb) ρ s QS = WS ma ρ s (seqK mb QS) := by
  apply propext
  unfold WS
  rw [ev_mSeq]
  rcases ma ρ s with _ | ⟨o, ρ1, s1⟩
  · simp
  · cases o <;> simp [seqK, WS]
@[simp ↓] theorem ws_if : WS (mIfS ta ma mb) ρ s QS = WT ta ρ s fun k s1 => IfK k (WS ma ρ s1 QS) (WS mb ρ s1 QS) := by
  apply propext
  unfold WS WT
  rw [ev_mIfS]
  rcases ta ρ s with _ | ⟨_ | _, s1⟩ <;> simp
@[simp ↓] theorem ws_ret : WS (mRet a) ρ s QS = WX a ρ s fun r s1 => WO (retK r) fun r' => QS (.rt r') ρ s1 := by
  apply propext
  unfold WS WX WO
  rw [ev_mRet]
  rcases a ρ s with _ | ⟨x, s1⟩
  · simp
  · cases x <;> simp [retK]
@[simp ↓] theorem ws_retV : WS (mRetV i) ρ s QS = WO (getC ρ i) fun c => WO (retVK c) fun r => QS (.rt r) ρ s := by
  apply propext
  unfold WS WO
  rw [ev_mRetV]
  constructor
  · rintro ⟨o, ρ', s', e, q⟩
    split at e
    · rename_i x hc
      cases e
      exact ⟨_, getC_of hc, _, rfl, q⟩
    · rename_i x hc
      cases e
      exact ⟨_, getC_of hc, _, rfl, q⟩
    · cases e
  · rintro ⟨c, hc, r, hr, q⟩
    have h := of_getC hc
    cases c with
    | d x => cases hr; exact ⟨_, _, _, by simp only [h], q⟩
    | o x => cases hr; exact ⟨_, _, _, by simp only [h], q⟩
    | s => cases hr
    | m _ => cases hr
@[simp ↓] theorem ws_retN : WS mRetN ρ s QS = QS (.rt (.d .none)) ρ s := by
  unfold WS
  simp
@[simp ↓] theorem ws_brk : WS mBrk ρ s QS = QS .bk ρ s := by
  unfold WS mBrk
  simp
@[simp ↓] theorem ws_cnt : WS mCnt ρ s QS = QS .ct ρ s := by
  unfold WS
  simp
@[simp ↓] theorem ws_drop : WS (mDrop a) ρ s QS = WX a ρ s fun _ s1 => QS .nx ρ s1 := by
  apply propext
  unfold WS WX mDrop
  rcases a ρ s with _ | ⟨x, s1⟩ <;> simp
@[simp ↓] theorem ws_set : WS (mSet i a) ρ s QS = WX a ρ s fun r s1 => WO ((toCl r).map fun c => ρ.set i (some c)) fun ρ1 => QS .nx ρ1 s1 := by
  apply propext
  unfold WS WX WO
  rw [ev_mSet]
  rcases a ρ s with _ | ⟨x, s1⟩
  · simp
  · dsimp only
    rcases h0 : toCl x with _ | c <;> simp [h0]
@[simp ↓] theorem ws_frz {is : List Nat} : WS (mFrz is ma) ρ s QS = WO (some (frzs ρ is)) fun ρ1 => WS ma ρ1 s QS := by
  rw [WO_some]
  rfl
@[simp ↓] theorem ws_app : WS (mApp i a) ρ s QS = WX a ρ s fun r s1 => WO (toD r) fun x => WO ((getC ρ i).bind ownK) fun xs => xs.length < sizeLine ∧ WO (some (ρ.set i (some (.o (xs ++ [x]))))) fun ρ1 => QS .nx ρ1 s1 := by
  apply propext
  unfold WS WX WO mApp
  rcases a ρ s with _ | ⟨r, s1⟩
  · simp
  · dsimp only
    rcases hx : toD r with _ | x
    · simp [hx]
    · constructor
      · rintro ⟨o, ρ', s', e, q⟩
        split at e
        · rename_i y xs e1 e2
          cases e1
          split at e
          · rename_i hl
            cases e
            exact ⟨r, s1, rfl, x, hx, xs, by rw [getC_of e2]; rfl, hl, _, rfl, q⟩
          · cases e
        · cases e
      · rintro ⟨r', s1', e, x', hx', xs, hg, hl, _, e5, q⟩
        cases e
        cases e5
        rw [hx] at hx'
        cases hx'
        cases hc : getC ρ i with
        | none => rw [hc] at hg; cases hg
        | some c =>
          rw [hc] at hg
          cases c with
          | o ys =>
            cases hg
            exact ⟨_, _, _, by simp [of_getC hc, hl], q⟩
          | _ => cases hg
def putL (xs : List PyData) (k : Int) (r : R) : Option (List PyData) := match toD r, ixN xs.length k with
  | some x, some j => some (xs.set j x)
  | _, _ => none
def putS (s : Sto) (k : Int) (r : R) : Option Sto := match r, ixN s.length k with
  | .d (.int v), some j => some (s.set j v)
  | _, _ => none
def putK (ρ : Ev) (i : Nat) (c : Cl) (k : Int) (r : R) (s : Sto) : Option (Ev × Sto) := match c with
  | .o xs => (putL xs k r).map fun ys => (ρ.set i (some (.o ys)), s)
  | .s => (putS s k r).map fun s' => (ρ, s')
  | _ => none
@[simp] theorem putK_o {xs : List PyData} {k : Int} {r : R} : putK ρ i (.o xs) k r s = (putL xs k r).map fun ys => (ρ.set i (some (.o ys)), s) := rfl
@[simp] theorem putK_s {k : Int} {r : R} : putK ρ i .s k r s = (putS s k r).map fun s' => (ρ, s') := rfl
@[simp ↓] theorem ws_put {ix : Mx} : WS (mPut i ix a) ρ s QS = WX a ρ s fun r s1 => WX ix ρ s1 fun z s2 => WO (intK z) fun k => WO (getC ρ i) fun c => WO (putK ρ i c k r s2) fun p => QS .nx p.1 p.2 := by
  apply propext
  unfold WS WX WO mPut
  rcases a ρ s with _ | ⟨r, s1⟩
  · simp
  · dsimp only
    rcases hi : ix ρ s1 with _ | ⟨z, s2⟩
    · simp [hi]
    · constructor
      · rintro ⟨o, ρ', s', e, q⟩
        refine ⟨r, s1, rfl, z, s2, hi, ?_⟩
        split at e
        · rename_i k s3 e1
          cases e1
          refine ⟨k, rfl, ?_⟩
          split at e
          · rename_i xs e2
            split at e
            · rename_i x j e3 e4
              cases e
              exact ⟨_, getC_of e2, (_, _), by rw [putK_o]; unfold putL; rw [e3, e4]; rfl, q⟩
            · cases e
          · rename_i e2
            split at e
            · rename_i v j e4
              cases e
              exact ⟨_, getC_of e2, (_, _), by rw [putK_s]; unfold putS; rw [e4]; rfl, q⟩
            · cases e
          · cases e
        · cases e
      · rintro ⟨r', s1', e, z', s2', e2, k, hk, c, hc, p, hp, q⟩
        cases e
        rw [hi] at e2
        cases e2
        have hz : z = .d (.int k) := by
          cases z with
          | d z =>
            cases z with
            | int i => cases hk; rfl
            | _ => cases hk
          | _ => cases hk
        subst hz
        have g := of_getC hc
        cases c with
        | d _ => cases hp
        | o xs =>
          rw [putK_o] at hp
          unfold putL at hp
          split at hp
          · rename_i x j e3 e4
            cases hp
            exact ⟨_, _, _, by simp only [g, e3, e4], q⟩
          · cases hp
        | s =>
          rw [putK_s] at hp
          unfold putS at hp
          split at hp
          · rename_i v j e4
            cases hp
            exact ⟨_, _, _, by simp only [g, e4], q⟩
          · cases hp
        | m _ => cases hp
@[simp ↓] theorem ws_asg {g : Gx} : WS (mAsg g a) ρ s QS = WX a ρ s fun r s1 => WO (toD r) fun x => WO (g x ρ) fun ρ1 => QS .nx ρ1 s1 := by
  apply propext
  unfold WS WX WO mAsg
  rcases a ρ s with _ | ⟨r, s1⟩
  · simp
  · dsimp only
    rcases hx : toD r with _ | x
    · simp [hx]
    · dsimp only
      rcases hg : g x ρ with _ | ρ1 <;> simp [hx, hg]
def parK (ρ : Ev) (i j : Nat) (rs : List R) : Option Ev := match rs with
  | [r, q] => match toCl r, toCl q with
    | some c, some d => match c, d with
      | .o _, .o _ => none
      | c, d => some ((ρ.set i (some c)).set j (some d))
    | _, _ => none
  | _ => none
theorem mPar_eq {x : List R} {s1 : Sto} (e : as ρ s = some (x, s1)) : mPar i j as ρ s = (parK ρ i j x).map fun ρ1 => (.nx, ρ1, s1) := by
  unfold mPar parK
  rw [e]
  split
  · rename_i r q s2 e2
    cases e2
    dsimp only
    rcases toCl r with _ | c
    · rfl
    · rcases toCl q with _ | d
      · rfl
      · cases c <;> cases d <;> rfl
  · rename_i h
    split
    · rename_i r q
      exact absurd rfl (h r q s1)
    · rfl
@[simp ↓] theorem ws_par : WS (mPar i j as) ρ s QS = WA as ρ s fun rs s1 => WO (parK ρ i j rs) fun ρ1 => QS .nx ρ1 s1 := by
  apply propext
  unfold WS WA WO
  constructor
  · rintro ⟨o, ρ', s', e, q⟩
    rcases h : as ρ s with _ | ⟨x, s1⟩
    · unfold mPar at e; rw [h] at e; cases e
    · rw [mPar_eq h] at e
      obtain ⟨ρ1, e1, e2⟩ := Option.map_eq_some_iff.mp e
      cases e2
      exact ⟨x, _, rfl, _, e1, q⟩
  · rintro ⟨x, s1, h, ρ1, e1, q⟩
    exact ⟨_, _, _, by rw [mPar_eq h, e1]; rfl, q⟩
@[simp] theorem parK_dd {x y : PyData} : parK ρ i j [.d x, .d y] = some ((ρ.set i (some (.d x))).set j (some (.d y))) := rfl
@[simp] theorem parK_df {x : PyData} {y : List PyData} : parK ρ i j [.d x, .f y] = some ((ρ.set i (some (.d x))).set j (some (.o y))) := rfl
@[simp] theorem parK_fd {x : List PyData} {y : PyData} : parK ρ i j [.f x, .d y] = some ((ρ.set i (some (.o x))).set j (some (.d y))) := rfl
def par3K (ρ : Ev) (i j l : Nat) (rs : List R) : Option Ev := match rs with
  | [r, q, u] => match toCl r, toCl q, toCl u with
    | some (.d c), some (.d d), some f => some (((ρ.set i (some (.d c))).set j (some (.d d))).set l (some f))
    | some (.d c), some (.o d), some (.d f) => some (((ρ.set i (some (.d c))).set j (some (.o d))).set l (some (.d f)))
    | _, _, _ => none
  | _ => none
@[simp] theorem par3K_ddd {l : Nat} {x y z : PyData} : par3K ρ i j l [.d x, .d y, .d z] = some (((ρ.set i (some (.d x))).set j (some (.d y))).set l (some (.d z))) := rfl
@[simp] theorem par3K_ddf {l : Nat} {x y : PyData} {z : List PyData} : par3K ρ i j l [.d x, .d y, .f z] = some (((ρ.set i (some (.d x))).set j (some (.d y))).set l (some (.o z))) := rfl
@[simp] theorem par3K_dfd {l : Nat} {x z : PyData} {y : List PyData} : par3K ρ i j l [.d x, .f y, .d z] = some (((ρ.set i (some (.d x))).set j (some (.o y))).set l (some (.d z))) := rfl
theorem mPar3_eq {l : Nat} {x : List R} {s1 : Sto} (e : as ρ s = some (x, s1)) : mPar3 i j l as ρ s = (par3K ρ i j l x).map fun ρ1 => (.nx, ρ1, s1) := by
  unfold mPar3 par3K
  rw [e]
  split
  · rename_i r q u s2 e2
    cases e2
    dsimp only
    rcases toCl r with _ | c
    · rfl
    · rcases toCl q with _ | d
      · cases c <;> rfl
      · rcases toCl u with _ | f
        · cases c <;> cases d <;> rfl
        · cases c <;> cases d <;> cases f <;> rfl
  · rename_i h
    split
    · rename_i r q u
      exact absurd rfl (h r q u s1)
    · rfl
@[simp ↓] theorem ws_par3 {l : Nat} : WS (mPar3 i j l as) ρ s QS = WA as ρ s fun rs s1 => WO (par3K ρ i j l rs) fun ρ1 => QS .nx ρ1 s1 := by
  apply propext
  unfold WS WA WO
  constructor
  · rintro ⟨o, ρ', s', e, q⟩
    rcases h : as ρ s with _ | ⟨x, s1⟩
    · unfold mPar3 at e; rw [h] at e; cases e
    · rw [mPar3_eq h] at e
      obtain ⟨ρ1, e1, e2⟩ := Option.map_eq_some_iff.mp e
      cases e2
      exact ⟨x, _, rfl, _, e1, q⟩
  · rintro ⟨x, s1, h, ρ1, e1, q⟩
    exact ⟨_, _, _, by rw [mPar3_eq h, e1]; rfl, q⟩
@[simp ↓] theorem wi_seq : WI (mSeqI a) ρ s QI = WX a ρ s fun x s1 => WO (itemsOf x) fun xs => QI xs s1 := by
  unfold WI WX mSeqI
  simp only [wbnd, wret]
@[simp ↓] theorem wi_arg {f : List R → Option (List PyData)} : WI (mArgI f as) ρ s QI = WA as ρ s fun x s1 => WO (f x) fun xs => QI xs s1 := by
  unfold WI WA mArgI
  simp only [wbnd, wret]
@[simp ↓] theorem ws_for {g : Gx} : WS (mFor it g ma) ρ s QS = WI it ρ s fun xs s1 => WFor g ma xs ρ s1 QS := by
  apply propext
  unfold WFor WS WI
  rw [ev_mFor]
  rcases it ρ s with _ | ⟨xs, s1⟩ <;> simp
@[simp ↓] theorem ws_wh : WS (mWhile ta ma) ρ s QS = WWh ta ma ρ s QS := rfl
@[simp ↓] theorem wx_lc {vs : List Nat} {g : Gx} : WX (mLc it vs g ta a) ρ s Q = WI it ρ s fun xs s1 => WLc vs g ta a xs ρ s1 fun ys s2 => ys.length ≤ sizeLine ∧ Q (.f ys) s2 := by
  apply propext
  unfold WX WLc WI mLc
  rcases it ρ s with _ | ⟨xs, s1⟩
  · simp
  · dsimp only
    rcases h : lcRun vs g ta a xs ρ s1 with _ | ⟨ys, s2⟩
    · simp [h]
    · dsimp only
      by_cases hl : ys.length ≤ sizeLine <;> simp [hl, h]
@[simp ↓] theorem wx_lc2 {vs vs1 : List Nat} {g g1 : Gx} {it1 : Mi} : WX (mLc2 it vs g ta it1 vs1 g1 tb a) ρ s Q = WI it ρ s fun xs s1 => WLc2 vs vs1 g ta it1 g1 tb a xs ρ s1 fun ys s2 => ys.length ≤ sizeLine ∧ Q (.f ys) s2 := by
  apply propext
  unfold WX WLc2 WI mLc2
  rcases it ρ s with _ | ⟨xs, s1⟩
  · simp
  · dsimp only
    rcases h : lcRun2 vs vs1 g ta it1 g1 tb a xs ρ s1 with _ | ⟨ys, s2⟩
    · simp [h]
    · dsimp only
      by_cases hl : ys.length ≤ sizeLine <;> simp [hl, h]
end rules
section use
variable {ρ : Ev} {s : Sto}
theorem WF.use {g : Fx} {cs : List Cl} {P Q : R → Sto → Prop} (h : WF g cs s P) (k : ∀ r s', P r s' → Q r s') : WF g cs s Q := by
  obtain ⟨r, s', e, p⟩ := h
  exact ⟨r, s', e, k r s' p⟩
theorem WF.of {g : Fx} {cs : List Cl} {Q : R → Sto → Prop} {r : R} {s' : Sto} (h : g cs s = some (r, s')) (k : Q r s') : WF g cs s Q := ⟨r, s', h, k⟩
/-- a def, from its body -/
theorem WF.body {n l : Nat} {m : Ms} {cs : List Cl} {Q : R → Sto → Prop} (hn : cs.length = n) (h : WS m (cs.map some ++ List.replicate (l - cs.length) none) s (endK Q)) : WF (run' n l m) cs s Q := by
  obtain ⟨o, ρ', s', e, q⟩ := h
  unfold WF run' run
  rw [if_pos hn, e]
  cases o with
  | nx => exact ⟨_, _, rfl, q⟩
  | rt r => exact ⟨_, _, rfl, q⟩
  | bk => cases q
  | ct => cases q
theorem WF.eq {g : Fx} {cs : List Cl} {r : R} {s' : Sto} (h : WF g cs s fun r1 s1 => r1 = r ∧ s1 = s') : g cs s = some (r, s') := by
  obtain ⟨r1, s1, e, rfl, rfl⟩ := h
  exact e
theorem WS.mono {m : Ms} {P Q : Out → Ev → Sto → Prop} (h : WS m ρ s P) (k : ∀ o ρ' s', P o ρ' s' → Q o ρ' s') : WS m ρ s Q := by
  obtain ⟨o, ρ', s', e, p⟩ := h
  exact ⟨o, ρ', s', e, k _ _ _ p⟩
theorem WFor_nil {g : Gx} {body : Ms} {Q : Out → Ev → Sto → Prop} (h : Q .nx ρ s) : WFor g body [] ρ s Q := ⟨.nx, ρ, s, rfl, h⟩
theorem WFor_cons {g : Gx} {body : Ms} {x : PyData} {xs : List PyData} {Q : Out → Ev → Sto → Prop} (h : WO (g x ρ) fun ρ1 => WS body ρ1 s (loopK (fun ρ2 s2 => WFor g body xs ρ2 s2 Q) Q)) : WFor g body (x :: xs) ρ s Q := by
  obtain ⟨ρ1, e1, o, ρ2, s2, e2, q⟩ := h
  cases o with
  | nx =>
    obtain ⟨o, ρ', s', e3, q⟩ := q
    exact ⟨o, ρ', s', by unfold forRun; simp [e1, e2, e3], q⟩
  | ct =>
    obtain ⟨o, ρ', s', e3, q⟩ := q
    exact ⟨o, ρ', s', by unfold forRun; simp [e1, e2, e3], q⟩
  | bk => exact ⟨.nx, ρ2, s2, by unfold forRun; simp [e1, e2], q⟩
  | rt r => exact ⟨.rt r, ρ2, s2, by unfold forRun; simp [e1, e2], q⟩
/-- a for by its invariant -/
theorem WFor_inv {α : Type} {g : Gx} {body : Ms} {Q : Out → Ev → Sto → Prop} (enc : α → PyData) (l : List α) (I : Nat → Ev → Sto → Prop) (h0 : I 0 ρ s)
    (step : ∀ (i : Nat) (x : α) ρ s, l[i]? = some x → I i ρ s → WO (g (enc x) ρ) fun ρ1 => WS body ρ1 s (loopK (I (i + 1)) Q)) (fin : ∀ ρ s, I l.length ρ s → Q .nx ρ s) : WFor g body (l.map enc) ρ s Q := by
  have key : ∀ (m : List α) (i : Nat) (ρ : Ev) (s : Sto), i + m.length = l.length → (∀ j, m[j]? = l[i + j]?) → I i ρ s → WFor g body (m.map enc) ρ s Q := by
    intro m
    induction m with
    | nil =>
      intro i ρ s hl _ h
      refine WFor_nil (fin _ _ ?_)
      rw [List.length_nil, Nat.add_zero] at hl
      rwa [← hl]
    | cons x m ih =>
      intro i ρ s hl hj h
      have hx : l[i]? = some x := by
        have := hj 0
        simpa using this.symm
      refine WFor_cons ?_
      obtain ⟨ρ1, e1, o, ρ2, s2, e2, q⟩ := step i x ρ s hx h
      refine ⟨ρ1, e1, o, ρ2, s2, e2, ?_⟩
      rw [List.length_cons] at hl
      have next : I (i + 1) ρ2 s2 → WFor g body (m.map enc) ρ2 s2 Q := fun h => ih (i + 1) ρ2 s2 (by omega) (fun j => by
        have := hj (j + 1)
        rw [List.getElem?_cons_succ] at this
        rw [this]
        congr 1
        omega) h
      cases o with
      | nx => exact next q
      | ct => exact next q
      | bk => exact q
      | rt r => exact q
  exact key l 0 ρ s (Nat.zero_add _) (fun j => by rw [Nat.zero_add]) h0
theorem WWh_next {c : Mt} {body : Ms} {Q : Out → Ev → Sto → Prop} (h : WT c ρ s fun k s1 => IfK k (WS body ρ s1 (loopK (fun ρ' s' => WWh c body ρ' s' Q) Q)) (Q .nx ρ s1)) : WWh c body ρ s Q := by
  obtain ⟨k, s1, ec, h⟩ := h
  cases k with
  | false =>
    rw [IfK_false] at h
    exact ⟨.nx, ρ, s1, mWhile_of (n := 1) (by rw [whRun_eq, ec]), h⟩
  | true =>
    rw [IfK_true] at h
    obtain ⟨o, ρ2, s2, eb, h⟩ := h
    cases o with
    | nx =>
      obtain ⟨o, ρ', s', ew, q⟩ := h
      obtain ⟨n, en⟩ := mWhile_some ew
      exact ⟨o, ρ', s', mWhile_of (n := n + 1) (by rw [whRun_eq, ec]; simp only [eb]; exact en), q⟩
    | ct =>
      obtain ⟨o, ρ', s', ew, q⟩ := h
      obtain ⟨n, en⟩ := mWhile_some ew
      exact ⟨o, ρ', s', mWhile_of (n := n + 1) (by rw [whRun_eq, ec]; simp only [eb]; exact en), q⟩
    | bk => exact ⟨.nx, ρ2, s2, mWhile_of (n := 1) (by rw [whRun_eq, ec]; simp only [eb]), h⟩
    | rt r => exact ⟨.rt r, ρ2, s2, mWhile_of (n := 1) (by rw [whRun_eq, ec]; simp only [eb]), h⟩
/-- a while by its invariant and a number that falls -/
theorem WWh_inv {c : Mt} {body : Ms} {Q : Out → Ev → Sto → Prop} (I : Nat → Ev → Sto → Prop) (n : Nat) (h0 : I n ρ s)
    (step : ∀ n ρ s, I n ρ s → WT c ρ s fun k s1 => IfK k (WS body ρ s1 (loopK (fun ρ' s' => ∃ m, m < n ∧ I m ρ' s') Q)) (Q .nx ρ s1)) : WWh c body ρ s Q := by
  induction n using Nat.strongRecOn generalizing ρ s with
  | ind n ih =>
    refine WWh_next ?_
    obtain ⟨k, s1, ec, h⟩ := step n ρ s h0
    refine ⟨k, s1, ec, ?_⟩
    cases k with
    | false => exact h
    | true =>
      rw [IfK_true] at h ⊢
      refine h.mono fun o ρ' s' q => ?_
      cases o with
      | nx => obtain ⟨m, hm, q⟩ := q; exact ih m hm q
      | ct => obtain ⟨m, hm, q⟩ := q; exact ih m hm q
      | bk => exact q
      | rt r => exact q
/-- a comprehension whose elements are alone with their item -/
theorem WLc_opt {α : Type} {vs : List Nat} {g : Gx} {t : Mt} {e : Mx} {Q : List PyData → Sto → Prop} (enc : α → PyData) (f : α → Option PyData) : ∀ (l : List α), (∀ x ∈ l, WO (g (enc x) (wipeE ρ vs)) fun ρ1 => WT t ρ1 s fun k s1 => s1 = s ∧ k = (f x).isSome ∧ IfK k (WX e ρ1 s fun r s2 => s2 = s ∧ toD r = f x) True) →
    Q (l.filterMap f) s → WLc vs g t e (l.map enc) ρ s Q := by
  intro l h q
  refine ⟨_, s, ?_, q⟩
  clear q
  induction l with
  | nil => rfl
  | cons x l ih =>
    have r := ih fun y hy => h y (List.mem_cons_of_mem _ hy)
    obtain ⟨ρ1, e1, k, s1, e2, rfl, hk, q⟩ := h x List.mem_cons_self
    rw [List.map_cons]
    unfold lcRun
    rw [e1]
    dsimp only
    rw [e2]
    cases k with
    | false =>
      dsimp only
      rw [r, List.filterMap_cons]
      cases hf : f x with
      | none => rfl
      | some y => rw [hf] at hk; cases hk
    | true =>
      rw [IfK_true] at q
      obtain ⟨rr, s2, e3, rfl, hd⟩ := q
      dsimp only
      rw [e3]
      dsimp only
      rw [r, List.filterMap_cons]
      cases hf : f x with
      | none => rw [hf] at hk; cases hk
      | some y => rw [hd, hf]
theorem WLc_map {α : Type} {vs : List Nat} {g : Gx} {e : Mx} {Q : List PyData → Sto → Prop} (enc f : α → PyData) (l : List α) (h : ∀ x ∈ l, WO (g (enc x) (wipeE ρ vs)) fun ρ1 => WX e ρ1 s fun r s2 => s2 = s ∧ toD r = some (f x))
    (q : Q (l.map f) s) : WLc vs g mYes e (l.map enc) ρ s Q := by
  refine WLc_opt enc (fun x => some (f x)) l (fun x hx => ?_) (by rw [List.filterMap_eq_map']; exact q)
  obtain ⟨ρ1, e1, r⟩ := h x hx
  exact ⟨ρ1, e1, true, s, rfl, rfl, rfl, by rw [IfK_true]; exact r⟩
/-- two fors -/
theorem WLc2_map {α : Type} {vs vs1 : List Nat} {g g1 : Gx} {it1 : Mi} {t1 : Mt} {e : Mx} {Q : List PyData → Sto → Prop} (enc : α → PyData) (f : α → List PyData) (l : List α)
    (h : ∀ x ∈ l, WO (g (enc x) (wipeE ρ vs)) fun ρ1 => WI it1 ρ1 s fun zs s1 => WLc vs1 g1 t1 e zs ρ1 s1 fun ys s2 => s2 = s ∧ ys = f x) (q : Q (l.flatMap f) s) : WLc2 vs vs1 g mYes it1 g1 t1 e (l.map enc) ρ s Q := by
  refine ⟨_, s, ?_, q⟩
  clear q
  induction l with
  | nil => rfl
  | cons x l ih =>
    have r := ih fun y hy => h y (List.mem_cons_of_mem _ hy)
    obtain ⟨ρ1, e1, zs, s1, e2, ys, s2, e3, rfl, rfl⟩ := h x List.mem_cons_self
    rw [List.map_cons]
    unfold lcRun2
    simp only [e1, e2, e3, r, ev_mYes]
    rw [List.flatMap_cons]
end use
end Dh
def gg (a b : Int) : Int := ((Nat.gcd a.natAbs b.natAbs : Nat) : Int)
def QLt (k : Nat) (q : Rat) : Prop := q.num.natAbs < 2 ^ k ∧ q.den < 2 ^ k
theorem divInt_num {t l : Int} (h : 0 < l) : (Rat.divInt t l).num = t / gg t l := by
  rw [Rat.num_divInt]
  unfold gg
  rw [Int.sign_eq_one_of_pos h, Int.one_mul, Int.gcd_comm]
  rfl
theorem divInt_den {t l : Int} (h : 0 < l) : ((Rat.divInt t l).den : Int) = l / gg t l := by
  rw [Rat.den_divInt, if_neg (by omega), Int.gcd_comm]
  unfold gg
  rw [Int.natCast_ediv, Int.natAbs_of_nonneg (by omega)]
  rfl
theorem QLt_divInt {t l : Int} {k : Nat} (h : 0 < l) (h1 : t.natAbs < 2 ^ k) (h2 : l.natAbs < 2 ^ k) : QLt k (Rat.divInt t l) := by
  refine ⟨?_, ?_⟩
  · rw [Rat.num_divInt, Int.sign_eq_one_of_pos h, Int.one_mul, Int.natAbs_ediv_of_dvd (Int.gcd_dvd_right ..)]
    exact Nat.lt_of_le_of_lt (Nat.div_le_self _ _) h1
  · rw [Rat.den_divInt, if_neg (by omega)]
    exact Nat.lt_of_le_of_lt (Nat.div_le_self _ _) h2
theorem QLt.mono {a b : Nat} {q : Rat} (h : QLt a q) (hab : a ≤ b) : QLt b q :=
  ⟨Nat.lt_of_lt_of_le h.1 (Nat.pow_le_pow_right (by decide) hab), Nat.lt_of_lt_of_le h.2 (Nat.pow_le_pow_right (by decide) hab)⟩
theorem add_divInt (p q : Rat) : p + q = Rat.divInt (p.num * q.den + q.num * p.den) ((p.den : Int) * q.den) := by
  rw [Rat.add_def', ← Rat.divInt_ofNat, Int.natCast_mul]
theorem sub_divInt (p q : Rat) : p - q = Rat.divInt (p.num * q.den - q.num * p.den) ((p.den : Int) * q.den) := by
  rw [Rat.sub_def', ← Rat.divInt_ofNat, Int.natCast_mul]
theorem mul_divInt (p q : Rat) : p * q = Rat.divInt (p.num * q.num) ((p.den : Int) * q.den) := by
  rw [Rat.mul_def', ← Rat.divInt_ofNat, Int.natCast_mul]
theorem den_pos (q : Rat) : (0 : Int) < q.den := by have := q.den_pos; omega
theorem den_mul_pos (p q : Rat) : (0 : Int) < (p.den : Int) * q.den := Int.mul_pos (den_pos p) (den_pos q)
theorem lt_mulB {i j : Int} {a b : Nat} (h1 : i.natAbs < 2 ^ a) (h2 : j.natAbs < 2 ^ b) : (i * j).natAbs < 2 ^ (a + b) := by
  rw [Int.natAbs_mul, Nat.pow_add]
  exact Nat.mul_lt_mul'' h1 h2
theorem lt_sumB {i j : Int} {a : Nat} (h1 : i.natAbs < 2 ^ a) (h2 : j.natAbs < 2 ^ a) : (i + j).natAbs < 2 ^ (a + 1) := by
  have := Int.natAbs_add_le i j
  rw [Nat.pow_succ]
  omega
theorem lt_monoB {i : Int} {a b : Nat} (h1 : i.natAbs < 2 ^ a) (h : a ≤ b) : i.natAbs < 2 ^ b := Nat.lt_of_lt_of_le h1 (Nat.pow_le_pow_right (by decide) h)
theorem QLt.den' {a : Nat} {q : Rat} (h : QLt a q) : (q.den : Int).natAbs < 2 ^ a := by rw [Int.natAbs_natCast]; exact h.2
theorem QLt_add {a b : Nat} {p q : Rat} (hp : QLt a p) (hq : QLt b q) : QLt (a + b + 1) (p + q) := by
  rw [add_divInt]
  refine QLt_divInt (den_mul_pos p q) (lt_sumB (lt_mulB hp.1 hq.den') ?_) (lt_monoB (lt_mulB hp.den' hq.den') (by omega))
  rw [Nat.add_comm a b]
  exact lt_mulB hq.1 hp.den'
theorem QLt_mul {a b : Nat} {p q : Rat} (hp : QLt a p) (hq : QLt b q) : QLt (a + b) (p * q) := by
  rw [mul_divInt]
  exact QLt_divInt (den_mul_pos p q) (lt_mulB hp.1 hq.1) (lt_mulB hp.den' hq.den')
namespace El
/-- one turn of the elimination -/
def step (k : Nat) (R : Nat → Nat → Rat) : Nat → Nat → Rat := fun i j => if i = k then R k j / R k k else R i j - R i k * (R k j / R k k)
end El
namespace El
theorem qlt_of_frac {q : Rat} {v0 v : Int} {m : Nat} (h0 : v0 ≠ 0) (e : (v0 : Rat) * q = v) (h1 : v0.natAbs < 2 ^ m) (h2 : v.natAbs < 2 ^ m) : QLt m q := by
  have e2 : q = Rat.divInt v v0 := by
    rw [Rat.divInt_eq_div, ← e, Rat.mul_comm]
    exact (Rat.mul_div_cancel (by rw [Ne, Rat.intCast_eq_zero_iff]; exact h0)).symm
  rcases Int.lt_or_gt_of_ne h0 with h | h
  · rw [e2, ← Rat.neg_divInt_neg]
    exact QLt_divInt (by omega) (by rw [Int.natAbs_neg]; exact h2) (by rw [Int.natAbs_neg]; exact h1)
  · rw [e2]
    exact QLt_divInt h h2 h1
theorem den_mul_self (q : Rat) : (q.den : Rat) * q = q.num := by
  have hb : ((q.den : Int) : Rat) ≠ 0 := by
    rw [Ne, Rat.intCast_eq_zero_iff]
    have := q.den_pos
    omega
  have h : (q.num : Rat) / ((q.den : Int) : Rat) = q := by rw [← Rat.divInt_eq_div, Rat.num_divInt_den]
  have h2 := Rat.div_mul_cancel (a := (q.num : Rat)) hb
  rw [h, Rat.intCast_natCast] at h2
  rw [Rat.mul_comm]
  exact h2
end El
namespace Dh
open PySem PySem.Spec L2 PySem.W
def pQ (q : Rat) : PyData := .tuple [.int q.num, .int (q.den : Int)]
def pQs (l : List Rat) : PyData := .tuple (l.map pQ)
/-- small enough for all that is reckoned once more -/
def Bd (q : Rat) : Prop := QLt 4500 q
theorem QLt.bd {k : Nat} {q : Rat} (h : QLt k q) (hk : k ≤ 4500 := by omega) : Bd q := h.mono hk
theorem intBits_le {i : Int} {k : Nat} (h : i.natAbs < 2 ^ k) : Builtin.Int.intBits i ≤ k := by
  unfold Builtin.Int.intBits
  split
  · exact Nat.zero_le _
  · rename_i q
    have hz : i.natAbs ≠ 0 := by
      intro z
      exact q (by simpa using z)
    have := (Nat.log2_lt hz).mpr h
    omega
theorem mulOk_of {i j : Int} {a b : Nat} (h1 : i.natAbs < 2 ^ a) (h2 : j.natAbs < 2 ^ b) (h : a + b ≤ 134217728) : mulOk i j = true := by
  have x := intBits_le h1
  have y := intBits_le h2
  exact Nat.ble_eq_true_of_le (by omega)
theorem mulOk_nn {p q : Rat} (hp : Bd p) (hq : Bd q) : mulOk p.num q.num = true := mulOk_of hp.1 hq.1 (by decide)
theorem mulOk_nd {p q : Rat} (hp : Bd p) (hq : Bd q) : mulOk p.num (q.den : Int) = true := mulOk_of hp.1 hq.den' (by decide)
theorem mulOk_dd {p q : Rat} (hp : Bd p) (hq : Bd q) : mulOk (p.den : Int) (q.den : Int) = true := mulOk_of hp.den' hq.den' (by decide)
theorem pylong_of {i j : Int} (h : j.natAbs < 2 ^ 9000) : Builtin.divisionGoesByPylong i j = false := by
  unfold Builtin.divisionGoesByPylong
  by_cases hz : j = 0
  · subst hz; simp
  · have hn : j.natAbs ≠ 0 := by omega
    have := (Nat.log2_lt hn).mpr h
    have q : ¬ (j.natAbs.log2 / 30 + 1 > 300) := by omega
    simp [hz, q]
theorem gg_pos {a b : Int} (h : b ≠ 0) : 0 < gg a b := by
  unfold gg
  have := Nat.gcd_pos_of_pos_right a.natAbs (n := b.natAbs) (by omega)
  omega
theorem gg_le {a b : Int} (h : b ≠ 0) : (gg a b).natAbs ≤ b.natAbs := by
  unfold gg
  rw [Int.natAbs_natCast]
  exact Nat.gcd_le_right _ (by omega)
theorem fdiv_pos {i j : Int} (h : 0 < j) : i.fdiv j = i / j := Int.fdiv_eq_ediv_of_nonneg _ (Int.le_of_lt h)
theorem fmod_pos {i j : Int} (h : 0 < j) : i.fmod j = i % j := Int.fmod_eq_emod_of_nonneg _ (Int.le_of_lt h)
theorem sz1 : 1 ≤ sizeLine := by decide
theorem sz2 : 2 ≤ sizeLine := by decide
theorem sz3 : 3 ≤ sizeLine := by decide
theorem szle {n : Nat} (h : n ≤ 1000) : n ≤ sizeLine := Nat.le_trans h (by decide)
theorem szlt {n : Nat} (h : n ≤ 1000) : n < sizeLine := Nat.lt_of_le_of_lt h (by decide)
theorem eqv_int {a b : Int} : PyData.eqv (.int a) (.int b) = decide (a = b) := by
  simp [PyData.eqv]
  by_cases h : a = b <;> simp [h]
theorem eqv_pQ {p q : Rat} : PyData.eqv (pQ p) (pQ q) = decide (p = q) := by
  unfold pQ
  simp only [PyData.eqv, PyData.eqvAll, Bool.and_true]
  by_cases h : p = q
  · subst h; simp
  · have : ¬ (p.num = q.num ∧ p.den = q.den) := fun ⟨a, b⟩ => h (Rat.ext a b)
    simp only [h, decide_false]
    by_cases a : p.num = q.num
    · have b : ¬ (p.den : Int) = q.den := fun z => this ⟨a, by omega⟩
      simp [a, b]
    · simp [a]
theorem eqOk_pQ {q : Rat} : eqOk (pQ q) = true := by
  unfold pQ eqOk SeqAt.shaped
  simp [noDict, noDicts, PyData.canLay0, PyData.canLayAll0, PyData.depth, PyData.depthAll]
theorem fEq_pQ {p q : Rat} {neg : Bool} : fEq neg (.d (pQ p)) (.d (pQ q)) = some (.d (.bool (if neg then !decide (p = q) else decide (p = q)))) := by
  have : fEq neg (.d (pQ p)) (.d (pQ q)) = fEqD neg (.d (pQ p)) (.d (pQ q)) := rfl
  rw [this]
  unfold fEqD
  simp [eqOk_pQ, eqv_pQ]
theorem eqOk_int {i : Int} : eqOk (.int i) = true := by
  unfold eqOk SeqAt.shaped
  simp [noDict, PyData.canLay0, PyData.depth]
theorem fEq_int {i j : Int} {neg : Bool} : fEq neg (.d (.int i)) (.d (.int j)) = some (.d (.bool (if neg then !decide (i = j) else decide (i = j)))) := by
  have : fEq neg (.d (.int i)) (.d (.int j)) = fEqD neg (.d (.int i)) (.d (.int j)) := rfl
  rw [this]
  unfold fEqD
  simp [eqOk_int, eqv_int]
theorem gFdiv_pos {i j : Int} (h : 0 < j) (hl : j.natAbs < 2 ^ 9000) : gFdiv i j = some (.int (i / j)) := by
  unfold gFdiv
  rw [if_pos ⟨by omega, pylong_of hl⟩, fdiv_pos h]
theorem gMod_pos {i j : Int} (h : 0 < j) : gMod i j = some (.int (i % j)) := by
  unfold gMod
  rw [if_pos (by omega), fmod_pos h]
theorem fMul_ok {i j : Int} (h : mulOk i j = true) : fMul (.d (.int i)) (.d (.int j)) = some (.d (.int (i * j))) := by
  rw [ev_fMulI, if_pos h]
theorem den_lt {p q : Rat} (hp : Bd p) (hq : Bd q) : ((p.den : Int) * (q.den : Int)).natAbs < 2 ^ 9000 := lt_mulB hp.den' hq.den'
def pairK (r : R) : Option (Int × PyData) := match r with | .d (.tuple [.int q, y]) => some (q, y) | _ => none
@[simp] theorem pairK_d {q : Int} {y : PyData} : pairK (.d (.tuple [.int q, y])) = some (q, y) := rfl
theorem mPair_eq {i j : Nat} {ix a : Mx} {ρ : Ev} {s s1 : Sto} {r : R} (e : a ρ s = some (r, s1)) : mPair i ix j a ρ s = match pairK r with
    | some (q, y) => (match ix ρ s1, ρ[i]? with
      | some (.d (.int k), s2), some (some .s) => (match ixN s2.length k with
        | some n => some (.nx, ρ.set j (some (.d y)), s2.set n q)
        | none => none)
      | _, _ => none)
    | none => none := by
  unfold mPair pairK
  rw [e]
  split
  · rename_i q y s2 e2
    cases e2
    rfl
  · rename_i h
    split
    · rename_i q y h2
      split at h2
      · rename_i q' y'
        cases h2
        exact absurd rfl (h _ _ s1)
      · cases h2
    · rfl
@[simp ↓] theorem ws_pair {i j : Nat} {ix a : Mx} {ρ : Ev} {s : Sto} {QS : Out → Ev → Sto → Prop} : WS (mPair i ix j a) ρ s QS = WX a ρ s fun r s1 => WO (pairK r) fun p => WX ix ρ s1 fun z s2 => WO (intK z) fun k => getC ρ i = some .s ∧ WO (ixN s2.length k) fun n => WO (some (ρ.set j (some (.d p.2)))) fun ρ1 => WO (some (s2.set n p.1)) fun s3 => QS .nx ρ1 s3 := by
  apply propext
  unfold WS WX WO
  constructor
  · rintro ⟨o, ρ', s', e, q⟩
    rcases h : a ρ s with _ | ⟨r, s1⟩
    · unfold mPair at e; rw [h] at e; cases e
    · rw [mPair_eq h] at e
      split at e
      · rename_i q' y hp
        split at e
        · rename_i k s2 e1 e2
          split at e
          · rename_i n en
            cases e
            exact ⟨r, s1, rfl, (q', y), hp, _, s2, e1, k, rfl, getC_of e2, n, en, _, rfl, _, rfl, q⟩
          · cases e
        · cases e
      · cases e
  · rintro ⟨r, s1, h, ⟨q', y⟩, hp, z, s2, e1, k, hk, hs, n, en, _, e5, _, e6, q⟩
    cases e5
    cases e6
    have hz : z = .d (.int k) := by
      cases z with
      | d z =>
        cases z with
        | int i => cases hk; rfl
        | _ => cases hk
      | _ => cases hk
    subst hz
    exact ⟨_, _, _, by rw [mPair_eq h, hp]; simp only [e1, of_getC hs, en], q⟩
@[simp ↓] theorem wx_m3 {f : R → R → R → Option R} {a b c : Mx} {ρ : Ev} {s : Sto} {Q : R → Sto → Prop} : WX (m3 f a b c) ρ s Q = WX a ρ s fun x s1 => WX b ρ s1 fun y s2 => WX c ρ s2 fun z s3 => WO (f x y z) fun w => Q w s3 := by
  unfold WX m3
  simp only [wbnd, wret]
def tup2 (r : R) : Option (PyData × PyData) := match r with | .d (.tuple [x, y]) => some (x, y) | _ => none
@[simp] theorem tup2_d {x y : PyData} : tup2 (.d (.tuple [x, y])) = some (x, y) := rfl
theorem mSwap_eq {i : Nat} {ix1 ix2 a : Mx} {ρ : Ev} {s s1 : Sto} {r : R} (e : a ρ s = some (r, s1)) : mSwap i ix1 ix2 a ρ s = match tup2 r with
    | some (x, y) => (match ix1 ρ s1, ρ[i]? with
      | some (.d (.int k1), s2), some (some (.o xs)) => (match ixN xs.length k1 with
        | some j1 => (match ix2 (ρ.set i (some (.o (xs.set j1 x)))) s2 with
          | some (.d (.int k2), s3) => (match ixN xs.length k2 with
            | some j2 => some (.nx, (ρ.set i (some (.o (xs.set j1 x)))).set i (some (.o ((xs.set j1 x).set j2 y))), s3)
            | none => none)
          | _ => none)
        | none => none)
      | _, _ => none)
    | none => none := by
  unfold mSwap tup2
  rw [e]
  split
  · rename_i x y s2 e2
    cases e2
    rfl
  · rename_i h
    split
    · rename_i x y h2
      split at h2
      · rename_i x' y'
        cases h2
        exact absurd rfl (h _ _ s1)
      · cases h2
    · rfl
@[simp ↓] theorem ws_swap {i : Nat} {ix1 ix2 a : Mx} {ρ : Ev} {s : Sto} {QS : Out → Ev → Sto → Prop} : WS (mSwap i ix1 ix2 a) ρ s QS = WX a ρ s fun r s1 => WO (tup2 r) fun p => WX ix1 ρ s1 fun z s2 => WO (intK z) fun k1 => WO ((getC ρ i).bind ownK) fun xs => WO (ixN xs.length k1) fun j1 =>
    WO (some (ρ.set i (some (.o (xs.set j1 p.1))))) fun ρ1 => WX ix2 ρ1 s2 fun z s3 => WO (intK z) fun k2 => WO (ixN xs.length k2) fun j2 => WO (some (ρ1.set i (some (.o ((xs.set j1 p.1).set j2 p.2))))) fun ρ2 => QS .nx ρ2 s3 := by
  apply propext
  unfold WS WX WO
  constructor
  · rintro ⟨o, ρ', s', e, q⟩
    rcases h : a ρ s with _ | ⟨r, s1⟩
    · unfold mSwap at e; rw [h] at e; cases e
    · rw [mSwap_eq h] at e
      split at e
      · rename_i x y hp
        split at e
        · rename_i k1 s2 xs e1 e2
          split at e
          · rename_i j1 ej1
            split at e
            · rename_i k2 s3 e3
              split at e
              · rename_i j2 ej2
                cases e
                exact ⟨r, s1, rfl, (x, y), hp, _, s2, e1, k1, rfl, xs, by rw [getC_of e2]; rfl, j1, ej1, _, rfl, _, _, e3, k2, rfl, j2, ej2, _, rfl, q⟩
              · cases e
            · cases e
          · cases e
        · cases e
      · cases e
  · rintro ⟨r, s1, h, ⟨x, y⟩, hp, z, s2, e1, k1, hk, xs, hg, j1, ej1, _, e5, z2, s3, e3, k2, hk2, j2, ej2, _, e6, q⟩
    cases e5
    cases e6
    have hz : z = .d (.int k1) := by
      cases z with
      | d z =>
        cases z with
        | int i => cases hk; rfl
        | _ => cases hk
      | _ => cases hk
    have hz2 : z2 = .d (.int k2) := by
      cases z2 with
      | d z =>
        cases z with
        | int i => cases hk2; rfl
        | _ => cases hk2
      | _ => cases hk2
    subst hz hz2
    cases hc : getC ρ i with
    | none => rw [hc] at hg; cases hg
    | some c =>
      rw [hc] at hg
      cases c with
      | o ys =>
        cases hg
        exact ⟨_, _, _, by rw [mSwap_eq h, hp]; simp only [e1, of_getC hc, ej1, e3, ej2], q⟩
      | _ => cases hg
/-- a dict made by a comprehension -/
def WDc (vs : List Nat) (g : Gx) (t : Mt) (ek ev : Mx) (xs : List PyData) (acc : List (Key × PyData)) (ρ : Ev) (s : Sto) (Q : List (Key × PyData) → Sto → Prop) (_t : Tg (vs, g, t, ek, ev, Q) := .mk) : Prop := ∃ r s', dcRun vs g t ek ev xs acc ρ s = some (r, s') ∧ Q r s'
@[simp ↓] theorem wx_dc {it : Mi} {vs : List Nat} {g : Gx} {t : Mt} {ek ev : Mx} {ρ : Ev} {s : Sto} {Q : R → Sto → Prop} : WX (mDc it vs g t ek ev) ρ s Q = WI it ρ s fun xs s1 => WDc vs g t ek ev xs [] ρ s1 fun acc s2 => Q (.d (dOf acc)) s2 := by
  apply propext
  unfold WX WDc WI mDc
  rcases it ρ s with _ | ⟨xs, s1⟩
  · simp
  · dsimp only
    rcases h : dcRun vs g t ek ev xs [] ρ s1 with _ | ⟨acc, s2⟩ <;> simp [h]
end Dh
namespace WW
open PySem PySem.Spec L2 Dh
def top (i : Nat) : Stmt := PySem.Challenge.pw_deedhouses_k44_filled_and_corners_of_str.main.body.getD i (.Pass ⟨0, 0, 0, 0⟩)
abbrev s_is_whole : Stmt := top 2
abbrev n_is_whole : List Str := ["value"]
abbrev p_is_whole : List Str := ["value"]
abbrev s_is_between : Stmt := top 3
abbrev n_is_between : List Str := ["value", "low", "high"]
abbrev p_is_between : List Str := ["value", "low", "high"]
abbrev s_is_tuple_of : Stmt := top 4
abbrev n_is_tuple_of : List Str := ["value", "many"]
abbrev p_is_tuple_of : List Str := ["value", "many"]
abbrev s_is_ratio : Stmt := top 8
abbrev n_is_ratio : List Str := ["value"]
abbrev p_is_ratio : List Str := ["value"]
abbrev s_ratio : Stmt := top 9
abbrev n_ratio : List Str := ["top", "low", "part"]
abbrev p_ratio : List Str := ["top", "low"]
abbrev s_plus : Stmt := top 10
abbrev n_plus : List Str := ["one", "two"]
abbrev p_plus : List Str := ["one", "two"]
abbrev s_minus : Stmt := top 11
abbrev n_minus : List Str := ["one", "two"]
abbrev p_minus : List Str := ["one", "two"]
abbrev s_is_less : Stmt := top 12
abbrev n_is_less : List Str := ["one", "two"]
abbrev p_is_less : List Str := ["one", "two"]
abbrev s_total : Stmt := top 13
abbrev n_total : List Str := ["fractions", "found", "each"]
abbrev p_total : List Str := ["fractions"]
abbrev s_is_end : Stmt := top 21
abbrev n_is_end : List Str := ["value"]
abbrev p_is_end : List Str := ["value"]
abbrev s_is_stretch : Stmt := top 22
abbrev n_is_stretch : List Str := ["value", "stands"]
abbrev p_is_stretch : List Str := ["value", "stands"]
abbrev s_are_stretches : Stmt := top 23
abbrev n_are_stretches : List Str := ["value", "stands", "goals", "lows", "highs", "each", "stand", "_", "one", "two"]
abbrev p_are_stretches : List Str := ["value", "stands"]
abbrev s_next_of : Stmt := top 24
abbrev n_next_of : List Str := ["left", "worths", "is_greatest", "best", "each", "one", "two"]
abbrev p_next_of : List Str := ["left", "worths", "is_greatest"]
abbrev s_filled_by : Stmt := top 25
abbrev n_filled_by : List Str := ["stretches", "worths", "is_greatest", "left", "rest", "found", "stand", "low", "high", "more", "_", "each"]
abbrev p_filled_by : List Str := ["stretches", "worths", "is_greatest"]
abbrev s_is_row_ahead : Stmt := top 26
abbrev n_is_row_ahead : List Str := ["one", "two", "here", "there"]
abbrev p_is_row_ahead : List Str := ["one", "two"]
abbrev s_spot_of : Stmt := top 27
abbrev n_spot_of : List Str := ["found", "row", "low", "high", "middle"]
abbrev p_spot_of : List Str := ["found", "row"]
abbrev s_ends_of : Stmt := top 28
abbrev n_ends_of : List Str := ["stretches", "found", "_", "low", "high", "ends", "row", "end"]
abbrev p_ends_of : List Str := ["stretches"]
abbrev s_corners_by : Stmt := top 29
abbrev n_corners_by : List Str := ["stretches", "found", "at", "_", "low", "high", "row", "own", "whole", "spot", "is_known"]
abbrev p_corners_by : List Str := ["stretches"]
abbrev s_check_stretches : Stmt := top 31
abbrev n_check_stretches : List Str := ["value"]
abbrev p_check_stretches : List Str := ["value"]
abbrev s_filled : Stmt := top 32
abbrev n_filled : List Str := ["stretches", "worths", "is_greatest", "index", "each"]
abbrev p_filled : List Str := ["stretches", "worths", "is_greatest"]
abbrev s_corners : Stmt := top 33
abbrev n_corners : List Str := ["stretches"]
abbrev p_corners : List Str := ["stretches"]
abbrev s_law_pot : Stmt := top 35
abbrev n_law_pot : List Str := ["_law_script", "_law_spot", "_law_seed", "_law_cell", "_law_own"]
abbrev p_law_pot : List Str := ["_law_script", "_law_spot"]
abbrev s_law_take : Stmt := top 36
abbrev n_law_take : List Str := ["_law_pot_here", "_law_many", "_law_digit", "_law_seed"]
abbrev p_law_take : List Str := ["_law_pot_here", "_law_many"]
abbrev s_law_pick : Stmt := top 37
abbrev n_law_pick : List Str := ["_law_pot_here", "_law_some"]
abbrev p_law_pick : List Str := ["_law_pot_here", "_law_some"]
abbrev s_law_shuffled : Stmt := top 38
abbrev n_law_shuffled : List Str := ["_law_pot_here", "_law_many", "_law_left", "_law_found", "_law_turn"]
abbrev p_law_shuffled : List Str := ["_law_pot_here", "_law_many"]
abbrev s_law_low : Stmt := top 39
abbrev n_law_low : List Str := ["_law_top", "_law_low_here", "_law_one", "_law_two"]
abbrev p_law_low : List Str := ["_law_top", "_law_low_here"]
abbrev s_law_plus : Stmt := top 40
abbrev n_law_plus : List Str := ["_law_one", "_law_two"]
abbrev p_law_plus : List Str := ["_law_one", "_law_two"]
abbrev s_law_minus : Stmt := top 41
abbrev n_law_minus : List Str := ["_law_one", "_law_two"]
abbrev p_law_minus : List Str := ["_law_one", "_law_two"]
abbrev s_law_times : Stmt := top 42
abbrev n_law_times : List Str := ["_law_one", "_law_two"]
abbrev p_law_times : List Str := ["_law_one", "_law_two"]
abbrev s_law_below : Stmt := top 43
abbrev n_law_below : List Str := ["_law_one", "_law_two"]
abbrev p_law_below : List Str := ["_law_one", "_law_two"]
abbrev s_law_total : Stmt := top 44
abbrev n_law_total : List Str := ["_law_some", "_law_found", "_law_each"]
abbrev p_law_total : List Str := ["_law_some"]
abbrev s_law_dot : Stmt := top 45
abbrev n_law_dot : List Str := ["_law_one", "_law_two", "_law_found", "_law_x", "_law_y"]
abbrev p_law_dot : List Str := ["_law_one", "_law_two"]
abbrev s_law_end : Stmt := top 46
abbrev n_law_end : List Str := ["_law_some", "_law_is_greatest", "_law_found", "_law_each", "_law_lesser", "_law_greater"]
abbrev p_law_end : List Str := ["_law_some", "_law_is_greatest"]
abbrev s_law_number : Stmt := top 47
abbrev n_law_number : List Str := ["_law_pot_here", "_law_way"]
abbrev p_law_number : List Str := ["_law_pot_here"]
abbrev s_law_lot : Stmt := top 48
abbrev n_law_lot : List Str := ["_law_pot_here", "_law_many", "_law_found", "_law_turn"]
abbrev p_law_lot : List Str := ["_law_pot_here", "_law_many"]
abbrev s_law_stretches : Stmt := top 49
abbrev n_law_stretches : List Str := ["_law_pot_here", "_law_many", "_law_most", "_law_limit", "_law_told", "_law_some", "_law_way", "_law_found", "_law_total_here", "_law_stand", "_law_part", "_law_chance", "_law_low_here", "_law_room"]
abbrev p_law_stretches : List Str := ["_law_pot_here", "_law_many", "_law_most"]
abbrev s_law_fill : Stmt := top 50
abbrev n_law_fill : List Str := ["_law_stretches_here", "_law_order_here", "_law_found", "_law_left", "_law_at", "_law_room", "_law_more", "_law_each"]
abbrev p_law_fill : List Str := ["_law_stretches_here", "_law_order_here"]
abbrev s_law_order : Stmt := top 51
abbrev n_law_order : List Str := ["_law_values", "_law_is_greatest", "_law_places", "_law_at", "_law_ahead", "_law_k"]
abbrev p_law_order : List Str := ["_law_values", "_law_is_greatest"]
abbrev s_law_filled : Stmt := top 52
abbrev n_law_filled : List Str := ["_law_stretches_here", "_law_worths", "_law_is_greatest", "_law_each"]
abbrev p_law_filled : List Str := ["_law_stretches_here", "_law_worths", "_law_is_greatest"]
abbrev s_law_known : Stmt := top 53
abbrev n_law_known : List Str := ["_law_stretches_here", "_law_chances", "_law_pairs", "_law_each", "_law_chance", "_law_pair"]
abbrev p_law_known : List Str := ["_law_stretches_here", "_law_chances"]
abbrev s_law_each_with : Stmt := top 54
abbrev n_law_each_with : List Str := ["_law_rows", "_law_some", "_law_found", "_law_row", "_law_each"]
abbrev p_law_each_with : List Str := ["_law_rows", "_law_some"]
abbrev s_law_is_before : Stmt := top 55
abbrev n_law_is_before : List Str := ["_law_one", "_law_two", "_law_x", "_law_y"]
abbrev p_law_is_before : List Str := ["_law_one", "_law_two"]
abbrev s_law_corners : Stmt := top 56
abbrev n_law_corners : List Str := ["_law_stretches_here", "_law_found", "_law_free", "_law_rows", "_law_at", "_law_row", "_law_rest", "_law_whole", "_law_is_out", "_law_each"]
abbrev p_law_corners : List Str := ["_law_stretches_here"]
abbrev s_law_some_worths : Stmt := top 57
abbrev n_law_some_worths : List Str := ["_law_pot_here", "_law_stretches_here", "_law_least", "_law_found", "_law_many", "_law_is_flat", "_law_turn"]
abbrev p_law_some_worths : List Str := ["_law_pot_here", "_law_stretches_here"]
abbrev s_law_right : Stmt := top 58
abbrev n_law_right : List Str := ["_law_pot_here", "_law_stretches_here", "_law_worths", "_law_told", "_law_due", "_law_rows", "_law_own", "_law_sums", "_law_ends", "_law_is_greatest", "_law_each", "_law_row", "_law_chances"]
abbrev p_law_right : List Str := ["_law_pot_here"]
abbrev s_law : Stmt := top 59
abbrev n_law : List Str := ["_law_script", "_law_turn"]
abbrev p_law : List Str := ["_law_script"]
def k_MOST_STANDS : PyData := (.int 8)
def k_ONE : PyData := (.tuple [(.int 1), (.int 1)])
def k_ZERO : PyData := (.tuple [(.int 0), (.int 1)])
/-- what the top has made of the text -/
structure Txt (K : PySem.W.Frag) (mg : Str → Option Value) (ad : Nat → Addr) (fd : Nat → FuncData) : Prop where
  d_is_whole : Fun K "is_whole" "is_whole" s_is_whole (ad 0) (fd 0)
  m_is_whole : mg "is_whole" = some (.ref (ad 0))
  d_is_between : Fun K "is_between" "is_between" s_is_between (ad 1) (fd 1)
  m_is_between : mg "is_between" = some (.ref (ad 1))
  d_is_tuple_of : Fun K "is_tuple_of" "is_tuple_of" s_is_tuple_of (ad 2) (fd 2)
  m_is_tuple_of : mg "is_tuple_of" = some (.ref (ad 2))
  d_is_ratio : Fun K "is_ratio" "is_ratio" s_is_ratio (ad 3) (fd 3)
  m_is_ratio : mg "is_ratio" = some (.ref (ad 3))
  d_ratio : Fun K "ratio" "ratio" s_ratio (ad 4) (fd 4)
  m_ratio : mg "ratio" = some (.ref (ad 4))
  d_plus : Fun K "plus" "plus" s_plus (ad 5) (fd 5)
  m_plus : mg "plus" = some (.ref (ad 5))
  d_minus : Fun K "minus" "minus" s_minus (ad 6) (fd 6)
  m_minus : mg "minus" = some (.ref (ad 6))
  d_is_less : Fun K "is_less" "is_less" s_is_less (ad 7) (fd 7)
  m_is_less : mg "is_less" = some (.ref (ad 7))
  d_total : Fun K "total" "total" s_total (ad 8) (fd 8)
  m_total : mg "total" = some (.ref (ad 8))
  d_is_end : Fun K "is_end" "is_end" s_is_end (ad 9) (fd 9)
  m_is_end : mg "is_end" = some (.ref (ad 9))
  d_is_stretch : Fun K "is_stretch" "is_stretch" s_is_stretch (ad 10) (fd 10)
  m_is_stretch : mg "is_stretch" = some (.ref (ad 10))
  d_are_stretches : Fun K "are_stretches" "are_stretches" s_are_stretches (ad 11) (fd 11)
  m_are_stretches : mg "are_stretches" = some (.ref (ad 11))
  d_next_of : Fun K "next_of" "next_of" s_next_of (ad 12) (fd 12)
  m_next_of : mg "next_of" = some (.ref (ad 12))
  d_filled_by : Fun K "filled_by" "filled_by" s_filled_by (ad 13) (fd 13)
  m_filled_by : mg "filled_by" = some (.ref (ad 13))
  d_is_row_ahead : Fun K "is_row_ahead" "is_row_ahead" s_is_row_ahead (ad 14) (fd 14)
  m_is_row_ahead : mg "is_row_ahead" = some (.ref (ad 14))
  d_spot_of : Fun K "spot_of" "spot_of" s_spot_of (ad 15) (fd 15)
  m_spot_of : mg "spot_of" = some (.ref (ad 15))
  d_ends_of : Fun K "ends_of" "ends_of" s_ends_of (ad 16) (fd 16)
  m_ends_of : mg "ends_of" = some (.ref (ad 16))
  d_corners_by : Fun K "corners_by" "corners_by" s_corners_by (ad 17) (fd 17)
  m_corners_by : mg "corners_by" = some (.ref (ad 17))
  d_check_stretches : Fun K "check_stretches" "check_stretches" s_check_stretches (ad 18) (fd 18)
  m_check_stretches : mg "check_stretches" = some (.ref (ad 18))
  d_filled : Fun K "filled" "filled" s_filled (ad 19) (fd 19)
  m_filled : mg "filled" = some (.ref (ad 19))
  d_corners : Fun K "corners" "corners" s_corners (ad 20) (fd 20)
  m_corners : mg "corners" = some (.ref (ad 20))
  d_law_pot : Fun K "_law_pot" "_law_pot" s_law_pot (ad 21) (fd 21)
  m_law_pot : mg "_law_pot" = some (.ref (ad 21))
  d_law_take : Fun K "_law_take" "_law_take" s_law_take (ad 22) (fd 22)
  m_law_take : mg "_law_take" = some (.ref (ad 22))
  d_law_pick : Fun K "_law_pick" "_law_pick" s_law_pick (ad 23) (fd 23)
  m_law_pick : mg "_law_pick" = some (.ref (ad 23))
  d_law_shuffled : Fun K "_law_shuffled" "_law_shuffled" s_law_shuffled (ad 24) (fd 24)
  m_law_shuffled : mg "_law_shuffled" = some (.ref (ad 24))
  d_law_low : Fun K "_law_low" "_law_low" s_law_low (ad 25) (fd 25)
  m_law_low : mg "_law_low" = some (.ref (ad 25))
  d_law_plus : Fun K "_law_plus" "_law_plus" s_law_plus (ad 26) (fd 26)
  m_law_plus : mg "_law_plus" = some (.ref (ad 26))
  d_law_minus : Fun K "_law_minus" "_law_minus" s_law_minus (ad 27) (fd 27)
  m_law_minus : mg "_law_minus" = some (.ref (ad 27))
  d_law_times : Fun K "_law_times" "_law_times" s_law_times (ad 28) (fd 28)
  m_law_times : mg "_law_times" = some (.ref (ad 28))
  d_law_below : Fun K "_law_below" "_law_below" s_law_below (ad 29) (fd 29)
  m_law_below : mg "_law_below" = some (.ref (ad 29))
  d_law_total : Fun K "_law_total" "_law_total" s_law_total (ad 30) (fd 30)
  m_law_total : mg "_law_total" = some (.ref (ad 30))
  d_law_dot : Fun K "_law_dot" "_law_dot" s_law_dot (ad 31) (fd 31)
  m_law_dot : mg "_law_dot" = some (.ref (ad 31))
  d_law_end : Fun K "_law_end" "_law_end" s_law_end (ad 32) (fd 32)
  m_law_end : mg "_law_end" = some (.ref (ad 32))
  d_law_number : Fun K "_law_number" "_law_number" s_law_number (ad 33) (fd 33)
  m_law_number : mg "_law_number" = some (.ref (ad 33))
  d_law_lot : Fun K "_law_lot" "_law_lot" s_law_lot (ad 34) (fd 34)
  m_law_lot : mg "_law_lot" = some (.ref (ad 34))
  d_law_stretches : Fun K "_law_stretches" "_law_stretches" s_law_stretches (ad 35) (fd 35)
  m_law_stretches : mg "_law_stretches" = some (.ref (ad 35))
  d_law_fill : Fun K "_law_fill" "_law_fill" s_law_fill (ad 36) (fd 36)
  m_law_fill : mg "_law_fill" = some (.ref (ad 36))
  d_law_order : Fun K "_law_order" "_law_order" s_law_order (ad 37) (fd 37)
  m_law_order : mg "_law_order" = some (.ref (ad 37))
  d_law_filled : Fun K "_law_filled" "_law_filled" s_law_filled (ad 38) (fd 38)
  m_law_filled : mg "_law_filled" = some (.ref (ad 38))
  d_law_known : Fun K "_law_known" "_law_known" s_law_known (ad 39) (fd 39)
  m_law_known : mg "_law_known" = some (.ref (ad 39))
  d_law_each_with : Fun K "_law_each_with" "_law_each_with" s_law_each_with (ad 40) (fd 40)
  m_law_each_with : mg "_law_each_with" = some (.ref (ad 40))
  d_law_is_before : Fun K "_law_is_before" "_law_is_before" s_law_is_before (ad 41) (fd 41)
  m_law_is_before : mg "_law_is_before" = some (.ref (ad 41))
  d_law_corners : Fun K "_law_corners" "_law_corners" s_law_corners (ad 42) (fd 42)
  m_law_corners : mg "_law_corners" = some (.ref (ad 42))
  d_law_some_worths : Fun K "_law_some_worths" "_law_some_worths" s_law_some_worths (ad 43) (fd 43)
  m_law_some_worths : mg "_law_some_worths" = some (.ref (ad 43))
  d_law_right : Fun K "_law_right" "_law_right" s_law_right (ad 44) (fd 44)
  m_law_right : mg "_law_right" = some (.ref (ad 44))
  d_law : Fun K "law" "law" s_law (ad 45) (fd 45)
  m_law : mg "law" = some (.ref (ad 45))
  b_abs : mg "abs" = none
  b_all : mg "all" = none
  b_bool : mg "bool" = none
  b_divmod : mg "divmod" = none
  b_enumerate : mg "enumerate" = none
  b_gcd : mg "gcd" = some (.builtin "math.gcd")
  b_int : mg "int" = none
  b_isinstance : mg "isinstance" = none
  b_len : mg "len" = none
  b_list : mg "list" = none
  b_max : mg "max" = none
  b_min : mg "min" = none
  b_range : mg "range" = none
  b_repr : mg "repr" = none
  b_sorted : mg "sorted" = none
  b_sum : mg "sum" = none
  b_tuple : mg "tuple" = none
  b_zip : mg "zip" = none
  g_MOST_STANDS : GlK K mg "MOST_STANDS" k_MOST_STANDS
  g_ONE : GlK K mg "ONE" k_ONE
  g_ZERO : GlK K mg "ZERO" k_ZERO
noncomputable def m_is_whole : Ms :=
  (mRet (mAnd (m1 (fIsi "int") (mVar 0)) (m1 fNot (m1 (fIsi "bool") (mVar 0)))))
noncomputable def f_is_whole : Fx := run' 1 1 m_is_whole
noncomputable def m_is_between : Ms :=
  (mRet (mAnd (mCall f_is_whole (maCons (mVar 0) maNil)) (mChain gLe gLe (mVar 1) (mVar 0) (mVar 2))))
noncomputable def f_is_between : Fx := run' 3 3 m_is_between
noncomputable def m_is_tuple_of : Ms :=
  (mRet (mAnd (m1 (fIsi "tuple") (mVar 0)) (m2 (fEq false) (mA fLen (maCons (mVar 0) maNil)) (mVar 1))))
noncomputable def f_is_tuple_of : Fx := run' 2 2 m_is_tuple_of
noncomputable def m_is_ratio : Ms :=
  (mSeq (mIfS (tOr2 (tNot2 (bT (mCall f_is_tuple_of (maCons (mVar 0) (maCons (mKon (.int 2)) maNil))))) (tOr2 (tNot2 (bT (mCall f_is_whole (maCons (mIx (mVar 0) (mKon (.int 0))) maNil)))) (tNot2 (bT (mCall f_is_whole (maCons (mIx (mVar 0) (mKon (.int 1))) maNil))))))
    (mRet (mKon (.bool false)))
    mNil)
    (mRet (mAnd (m2 (fI gGt) (mIx (mVar 0) (mKon (.int 1))) (mKon (.int 0))) (m2 (fEq false) (mA fGcd (maCons (mIx (mVar 0) (mKon (.int 0))) (maCons (mIx (mVar 0) (mKon (.int 1))) maNil))) (mKon (.int 1))))))
noncomputable def f_is_ratio : Fx := run' 1 1 m_is_ratio
noncomputable def m_ratio : Ms :=
  (mSeq (mSet 2 (mIf (bT (m2 (fI gGt) (mVar 1) (mKon (.int 0)))) (mA fGcd (maCons (mVar 0) (maCons (mVar 1) maNil))) (m1 fNeg (mA fGcd (maCons (mVar 0) (maCons (mVar 1) maNil))))))
    (mRet (mA fTup (maCons (m2 (fI gFdiv) (mVar 0) (mVar 2)) (maCons (m2 (fI gFdiv) (mVar 1) (mVar 2)) maNil)))))
noncomputable def f_ratio : Fx := run' 2 3 m_ratio
noncomputable def m_plus : Ms :=
  (mRet (mCall f_ratio (maCons (m2 fAdd (m2 fMul (mIx (mVar 0) (mKon (.int 0))) (mIx (mVar 1) (mKon (.int 1)))) (m2 fMul (mIx (mVar 1) (mKon (.int 0))) (mIx (mVar 0) (mKon (.int 1))))) (maCons (m2 fMul (mIx (mVar 0) (mKon (.int 1))) (mIx (mVar 1) (mKon (.int 1)))) maNil))))
noncomputable def f_plus : Fx := run' 2 2 m_plus
noncomputable def m_minus : Ms :=
  (mRet (mCall f_ratio (maCons (m2 (fI gMns) (m2 fMul (mIx (mVar 0) (mKon (.int 0))) (mIx (mVar 1) (mKon (.int 1)))) (m2 fMul (mIx (mVar 1) (mKon (.int 0))) (mIx (mVar 0) (mKon (.int 1))))) (maCons (m2 fMul (mIx (mVar 0) (mKon (.int 1))) (mIx (mVar 1) (mKon (.int 1)))) maNil))))
noncomputable def f_minus : Fx := run' 2 2 m_minus
noncomputable def m_is_less : Ms :=
  (mRet (m2 (fI gLt) (m2 fMul (mIx (mVar 0) (mKon (.int 0))) (mIx (mVar 1) (mKon (.int 1)))) (m2 fMul (mIx (mVar 1) (mKon (.int 0))) (mIx (mVar 0) (mKon (.int 1))))))
noncomputable def f_is_less : Fx := run' 2 2 m_is_less
noncomputable def m_total : Ms :=
  (mSeq (mSet 1 (mKon k_ZERO))
    (mSeq (mFor (mSeqI (mVar 0)) (gN 2)
    (mSet 1 (mCall f_plus (maCons (mVar 1) (maCons (mVar 2) maNil)))))
    (mRetV 1)))
noncomputable def f_total : Fx := run' 1 3 m_total
noncomputable def m_is_end : Ms :=
  (mRet (mAnd (mCall f_is_ratio (maCons (mVar 0) maNil)) (mChain gLe gLe (mKon (.int 0)) (mIx (mVar 0) (mKon (.int 0))) (mIx (mVar 0) (mKon (.int 1))))))
noncomputable def f_is_end : Fx := run' 1 1 m_is_end
noncomputable def m_is_stretch : Ms :=
  (mSeq (mIfS (tOr2 (tNot2 (bT (mCall f_is_tuple_of (maCons (mVar 0) (maCons (mKon (.int 3)) maNil))))) (tNot2 (bT (mCall f_is_between (maCons (mIx (mVar 0) (mKon (.int 0))) (maCons (mKon (.int 0)) (maCons (m2 (fI gMns) (mVar 1) (mKon (.int 1))) maNil)))))))
    (mRet (mKon (.bool false)))
    mNil)
    (mRet (mAnd (mCall f_is_end (maCons (mIx (mVar 0) (mKon (.int 1))) maNil)) (mAnd (mCall f_is_end (maCons (mIx (mVar 0) (mKon (.int 2))) maNil)) (m1 fNot (mCall f_is_less (maCons (mIx (mVar 0) (mKon (.int 2))) (maCons (mIx (mVar 0) (mKon (.int 1))) maNil))))))))
noncomputable def f_is_stretch : Fx := run' 2 2 m_is_stretch
noncomputable def m_are_stretches : Ms :=
  (mSeq (mIfS (tOr2 (tNot2 (bT (m1 (fIsi "tuple") (mVar 0)))) (tNot2 (bT (mA fAll (maCons (mLc (mSeqI (mVar 0)) [5] (gN 5) mYes (mCall f_is_stretch (maCons (mVar 5) (maCons (mVar 1) maNil)))) maNil)))))
    (mRet (mKon (.bool false)))
    mNil)
    (mSeq (mSet 2 (mLc (mSeqI (mVar 0)) [6, 7] (gT 3 (gsCons (gN 6) (gsCons (gN 7) (gsCons (gN 7) gsNil)))) mYes (mVar 6)))
    (mSeq (mFrz [2] (mIfS (tNot2 (bT (mA fAll (maCons (mLc (mArgI zipQ2 (maCons (mVar 2) (maCons (mSl (mVar 2) (moSome (mKon (.int 1))) moNone) maNil))) [8, 9] (gT 2 (gsCons (gN 8) (gsCons (gN 9) gsNil))) mYes (m2 (fI gLt) (mVar 8) (mVar 9))) maNil))))
    (mRet (mKon (.bool false)))
    mNil))
    (mSeq (mPar 3 4 (maCons (mCall f_total (maCons (mLc (mSeqI (mVar 0)) [5] (gN 5) mYes (mIx (mVar 5) (mKon (.int 1)))) maNil)) (maCons (mCall f_total (maCons (mLc (mSeqI (mVar 0)) [5] (gN 5) mYes (mIx (mVar 5) (mKon (.int 2)))) maNil)) maNil)))
    (mRet (mAnd (m1 fNot (mCall f_is_less (maCons (mKon k_ONE) (maCons (mVar 3) maNil)))) (m1 fNot (mCall f_is_less (maCons (mVar 4) (maCons (mKon k_ONE) maNil))))))))))
noncomputable def f_are_stretches : Fx := run' 2 10 m_are_stretches
noncomputable def m_next_of : Ms :=
  (mSeq (mSet 3 (mIx (mVar 0) (mKon (.int 0))))
    (mSeq (mFor (mSeqI (mSl (mVar 0) (moSome (mKon (.int 1))) moNone)) (gN 4)
    (mSeq (mPar 5 6 (maCons (mIx (mVar 1) (mIx (mVar 4) (mKon (.int 0)))) (maCons (mIx (mVar 1) (mIx (mVar 3) (mKon (.int 0)))) maNil)))
    (mIfS (mTIf (bT (mVar 2)) (bT (mCall f_is_less (maCons (mVar 6) (maCons (mVar 5) maNil)))) (bT (mCall f_is_less (maCons (mVar 5) (maCons (mVar 6) maNil)))))
    (mSet 3 (mVar 4))
    mNil)))
    (mRetV 3)))
noncomputable def f_next_of : Fx := run' 3 7 m_next_of
noncomputable def m_filled_by : Ms :=
  (mSeq (mPar3g 3 4 5 (maCons (mA fLstOf (maCons (mVar 0) maNil)) (maCons (mCall f_minus (maCons (mKon k_ONE) (maCons (mCall f_total (maCons (mLc (mSeqI (mVar 0)) [10, 7] (gT 3 (gsCons (gN 10) (gsCons (gN 7) (gsCons (gN 10) gsNil)))) mYes (mVar 7)) maNil)) maNil))) (maCons mNewM maNil))))
    (mSeq (mWhile (bT (m2 (fEqN true) (mVar 3) (mA fLst maNil)))
    (mSeq (mFrz [3] (mAsg (gT 3 (gsCons (gN 6) (gsCons (gN 7) (gsCons (gN 8) gsNil)))) (mCall f_next_of (maCons (mVar 3) (maCons (mVar 1) (maCons (mVar 2) maNil))))))
    (mSeq (mFrz [3] (mSet 3 (mLc (mSeqI (mVar 3)) [11] (gN 11) (bT (m2 (fEq true) (mIx (mVar 11) (mKon (.int 0))) (mVar 6))) (mVar 11))))
    (mSeq (mSet 9 (mIf (bT (mCall f_is_less (maCons (mVar 4) (maCons (mCall f_minus (maCons (mVar 8) (maCons (mVar 7) maNil))) maNil)))) (mVar 4) (mCall f_minus (maCons (mVar 8) (maCons (mVar 7) maNil)))))
    (mSeq (mSet 4 (mCall f_minus (maCons (mVar 4) (maCons (mVar 9) maNil))))
    (mPutM 5 (mVar 6) (mCall f_plus (maCons (mVar 7) (maCons (mVar 9) maNil)))))))))
    (mRet (mA fTupOf (maCons (mLc (mSeqI (mVar 0)) [6, 10] (gT 3 (gsCons (gN 6) (gsCons (gN 10) (gsCons (gN 10) gsNil)))) (bT (m2 (fEq true) (m2 fIxM (mVar 5) (mVar 6)) (mKon k_ZERO))) (mA fTup (maCons (mVar 6) (maCons (m2 fIxM (mVar 5) (mVar 6)) maNil)))) maNil)))))
noncomputable def f_filled_by : Fx := run' 3 12 m_filled_by
noncomputable def m_is_row_ahead : Ms :=
  (mSeq (mFor (mArgI zipQ2 (maCons (mVar 0) (maCons (mVar 1) maNil))) (gT 2 (gsCons (gN 2) (gsCons (gN 3) gsNil)))
    (mIfS (bT (m2 (fEq true) (mVar 2) (mVar 3)))
    (mRet (mCall f_is_less (maCons (mVar 2) (maCons (mVar 3) maNil))))
    mNil))
    (mRet (mKon (.bool false))))
noncomputable def f_is_row_ahead : Fx := run' 2 4 m_is_row_ahead
noncomputable def m_spot_of : Ms :=
  (mSeq (mPar 2 3 (maCons (mKon (.int 0)) (maCons (mA fLen (maCons (mVar 0) maNil)) maNil)))
    (mSeq (mWhile (bT (m2 (fI gLt) (mVar 2) (mVar 3)))
    (mSeq (mSet 4 (m2 (fI gFdiv) (m2 fAdd (mVar 2) (mVar 3)) (mKon (.int 2))))
    (mAsg (gT 2 (gsCons (gN 2) (gsCons (gN 3) gsNil))) (mIf (bT (mCall f_is_row_ahead (maCons (mIx (mVar 0) (mVar 4)) (maCons (mVar 1) maNil)))) (mA fTup (maCons (m2 fAdd (mVar 4) (mKon (.int 1))) (maCons (mVar 3) maNil))) (mA fTup (maCons (mVar 2) (maCons (mVar 4) maNil)))))))
    (mRetV 2)))
noncomputable def f_spot_of : Fx := run' 2 5 m_spot_of
noncomputable def m_ends_of : Ms :=
  (mSeq (mSet 1 (mA fLst (maCons (mA fTup maNil) maNil)))
    (mSeq (mFor (mSeqI (mVar 0)) (gT 3 (gsCons (gN 2) (gsCons (gN 3) (gsCons (gN 4) gsNil))))
    (mSeq (mSet 5 (mIf (bT (m2 (fEq false) (mVar 3) (mVar 4))) (mA fTup (maCons (mVar 3) maNil)) (mA fTup (maCons (mVar 3) (maCons (mVar 4) maNil)))))
    (mFrz [1] (mSet 1 (mLc2 (mSeqI (mVar 1)) [6, 7] (gN 6) mYes (mSeqI (mVar 5)) [7] (gN 7) mYes (m2 fAdd (mVar 6) (mA fTup (maCons (mVar 7) maNil))))))))
    (mRetV 1)))
noncomputable def f_ends_of : Fx := run' 1 8 m_ends_of
noncomputable def m_corners_by : Ms :=
  (mSeq (mSet 1 (mA fLst maNil))
    (mSeq (mFor (mArgI enum1 (maCons (mVar 0) maNil)) (gT 2 (gsCons (gN 2) (gsCons (gT 3 (gsCons (gN 3) (gsCons (gN 4) (gsCons (gN 5) gsNil)))) gsNil)))
    (mFor (mSeqI (mCall f_ends_of (maCons (m2 fAdd (mSl (mVar 0) moNone (moSome (mVar 2))) (mSl (mVar 0) (moSome (m2 fAdd (mVar 2) (mKon (.int 1)))) moNone)) maNil))) (gN 6)
    (mSeq (mSet 7 (mCall f_minus (maCons (mKon k_ONE) (maCons (mCall f_total (maCons (mVar 6) maNil)) maNil))))
    (mSeq (mSet 8 (m2 fAdd (m2 fAdd (mSl (mVar 6) moNone (moSome (mVar 2))) (mA fTup (maCons (mVar 7) maNil))) (mSl (mVar 6) (moSome (mVar 2)) moNone)))
    (mSeq (mSet 9 (mCallB f_spot_of (maCons (mVar 1) (maCons (mVar 8) maNil))))
    (mSeq (mSet 10 (mAnd (m2 (fI gLt) (mVar 9) (mA fLen (maCons (mVar 1) maNil))) (m2 (fEq false) (mIx (mVar 1) (mVar 9)) (mVar 8))))
    (mIfS (tAnd2 (tNot2 (bT (mVar 10))) (tAnd2 (tNot2 (bT (mCall f_is_less (maCons (mVar 7) (maCons (mVar 4) maNil))))) (tNot2 (bT (mCall f_is_less (maCons (mVar 5) (maCons (mVar 7) maNil)))))))
    (mIns 1 (maCons (mVar 9) (maCons (mVar 8) maNil)))
    mNil)))))))
    (mRet (mA fTupOf (maCons (mVar 1) maNil)))))
noncomputable def f_corners_by : Fx := run' 1 11 m_corners_by
noncomputable def m_check_stretches : Ms :=
  (mIfS (tNot2 (bT (mCall f_are_stretches (maCons (mVar 0) (maCons (mKon k_MOST_STANDS) maNil)))))
    mNever
    mNil)
noncomputable def f_check_stretches : Fx := run' 1 1 m_check_stretches
noncomputable def m_filled : Ms :=
  (mSeq (mDrop (mCall f_check_stretches (maCons (mVar 0) maNil)))
    (mSeq (mIfS (tOr2 (tNot2 (bT (m1 (fIsi "tuple") (mVar 1)))) (tNot2 (bT (mChain gLt gLe (mIx (mIx (mVar 0) (m1 fNeg (mKon (.int 1)))) (mKon (.int 0))) (mA fLen (maCons (mVar 1) maNil)) (mKon k_MOST_STANDS)))))
    mNever
    mNil)
    (mSeq (mFor (mArgI enum1 (maCons (mVar 1) maNil)) (gT 2 (gsCons (gN 3) (gsCons (gN 4) gsNil)))
    (mIfS (tNot2 (bT (mCall f_is_ratio (maCons (mVar 4) maNil))))
    mNever
    mNil))
    (mSeq (mIfS (tNot2 (bT (m1 (fIsi "bool") (mVar 2))))
    mNever
    mNil)
    (mRet (mCall f_filled_by (maCons (mVar 0) (maCons (mVar 1) (maCons (mVar 2) maNil)))))))))
noncomputable def f_filled : Fx := run' 3 5 m_filled
noncomputable def m_corners : Ms :=
  (mSeq (mDrop (mCall f_check_stretches (maCons (mVar 0) maNil)))
    (mRet (mCall f_corners_by (maCons (mVar 0) maNil))))
noncomputable def f_corners : Fx := run' 1 1 m_corners
noncomputable def m_law_pot : Ms :=
  (mSeq (mSet 2 (m2 fAdd (mKon (.int 104601)) (m2 fMul (mKon (.int 911)) (mVar 1))))
    (mSeq (mFor (mSeqI (mSl (mVar 0) moNone (moSome (mKon (.int 16))))) (gN 3)
    (mSet 2 (m2 (fI gMod) (mA fInt (maCons (m2 fAdd (m2 fAdd (m2 fMul (mVar 2) (mKon (.int 50021))) (m2 fMul (m2 (fI gMod) (mA fInt (maCons (mVar 3) maNil)) (mKon (.int 2147483489))) (mKon (.int 5)))) (mKon (.int 23))) maNil)) (mKon (.int 2147483543)))))
    (mSeq (mSet 4 (mIf (bT (m2 (fI gLt) (mVar 1) (mA fLen (maCons (mVar 0) maNil)))) (mA fInt (maCons (mIx (mVar 0) (mVar 1)) maNil)) (mKon (.int 0))))
    (mSeq (mSet 2 (m2 (fI gMod) (mA fInt (maCons (m2 fAdd (m2 fAdd (m2 fMul (mVar 2) (mKon (.int 43))) (m2 fMul (m2 (fI gMod) (mA fInt (maCons (mVar 4) maNil)) (mKon (.int 2147483489))) (mKon (.int 17011)))) (mKon (.int 3))) maNil)) (mKon (.int 2147483543))))
    (mRet (mA fLst (maCons (mIf (tOr2 (bT (m2 (fI gLt) (mVar 4) (mKon (.int 0)))) (bT (m2 (fI gGe) (mVar 4) (m2 (fI gPow) (mKon (.int 10)) (mKon (.int 15)))))) (mA fAbs (maCons (mVar 4) maNil)) (mKon (.int 0))) (maCons (mVar 2) (maCons (mKon (.int 0)) maNil)))))))))
noncomputable def f_law_pot : Fx := run' 2 5 m_law_pot
noncomputable def m_law_take : Ms :=
  (mSeq (mIfS (bT (m2 (fI gGt) (mIx (mVar 0) (mKon (.int 0))) (mKon (.int 0))))
    (mSeq (mPair 0 (mKon (.int 0)) 2 (mA fDivmod (maCons (mIx (mVar 0) (mKon (.int 0))) (maCons (mVar 1) maNil))))
    (mRetV 2))
    mNil)
    (mSeq (mPut 0 (mKon (.int 2)) (m2 fAdd (mIx (mVar 0) (mKon (.int 2))) (mKon (.int 1))))
    (mSeq (mSet 3 (m2 (fI gMod) (mA fInt (maCons (m2 fAdd (m2 fAdd (m2 fMul (mIx (mVar 0) (mKon (.int 1))) (mKon (.int 41023))) (m2 fMul (mIx (mVar 0) (mKon (.int 2))) (mKon (.int 60101)))) (mKon (.int 7))) maNil)) (mKon (.int 2147483543))))
    (mSeq (mPut 0 (mKon (.int 1)) (mVar 3))
    (mRet (m2 (fI gMod) (mA fInt (maCons (m2 (fI gFdiv) (m2 (fI gMod) (mA fInt (maCons (m2 fMul (mVar 3) (m2 fAdd (m2 (fI gMod) (mA fInt (maCons (mVar 3) maNil)) (mKon (.int 6007))) (mKon (.int 20011)))) maNil)) (mKon (.int 2147483489))) (mKon (.int 211))) maNil)) (mVar 1)))))))
noncomputable def f_law_take : Fx := run' 2 4 m_law_take
noncomputable def m_law_pick : Ms :=
  (mRet (mIx (mVar 1) (mCall f_law_take (maCons (mVar 0) (maCons (mA fLen (maCons (mVar 1) maNil)) maNil)))))
noncomputable def f_law_pick : Fx := run' 2 2 m_law_pick
noncomputable def m_law_shuffled : Ms :=
  (mSeq (mPar2f 2 3 (maCons (m1 fLrg (mVar 1)) (maCons (mA fLst maNil) maNil)))
    (mSeq (mFor (mArgI range1 (maCons (mVar 1) maNil)) (gN 4)
    (mApPop 3 2 (mCall f_law_take (maCons (mVar 0) (maCons (mA fLen (maCons (mVar 2) maNil)) maNil)))))
    (mRetV 3)))
noncomputable def f_law_shuffled : Fx := run' 2 5 m_law_shuffled
noncomputable def m_law_low : Ms :=
  (mSeq (mPar 2 3 (maCons (mA fAbs (maCons (mVar 0) maNil)) (maCons (mA fAbs (maCons (mVar 1) maNil)) maNil)))
    (mSeq (mWhile (bT (m2 (fI gGt) (mVar 3) (mKon (.int 0))))
    (mPar 2 3 (maCons (mVar 3) (maCons (m2 (fI gMod) (mA fInt (maCons (mVar 2) maNil)) (mVar 3)) maNil))))
    (mRet (mIf (bT (m2 (fI gGt) (mVar 1) (mKon (.int 0)))) (mA fTup (maCons (m2 (fI gFdiv) (mVar 0) (mVar 2)) (maCons (m2 (fI gFdiv) (mVar 1) (mVar 2)) maNil))) (mA fTup (maCons (m2 (fI gMns) (mKon (.int 0)) (m2 (fI gFdiv) (mVar 0) (mVar 2))) (maCons (m2 (fI gMns) (mKon (.int 0)) (m2 (fI gFdiv) (mVar 1) (mVar 2))) maNil)))))))
noncomputable def f_law_low : Fx := run' 2 4 m_law_low
noncomputable def m_law_plus : Ms :=
  (mRet (mCall f_law_low (maCons (m2 fAdd (m2 fMul (mIx (mVar 0) (mKon (.int 0))) (mIx (mVar 1) (mKon (.int 1)))) (m2 fMul (mIx (mVar 1) (mKon (.int 0))) (mIx (mVar 0) (mKon (.int 1))))) (maCons (m2 fMul (mIx (mVar 0) (mKon (.int 1))) (mIx (mVar 1) (mKon (.int 1)))) maNil))))
noncomputable def f_law_plus : Fx := run' 2 2 m_law_plus
noncomputable def m_law_minus : Ms :=
  (mRet (mCall f_law_low (maCons (m2 (fI gMns) (m2 fMul (mIx (mVar 0) (mKon (.int 0))) (mIx (mVar 1) (mKon (.int 1)))) (m2 fMul (mIx (mVar 1) (mKon (.int 0))) (mIx (mVar 0) (mKon (.int 1))))) (maCons (m2 fMul (mIx (mVar 0) (mKon (.int 1))) (mIx (mVar 1) (mKon (.int 1)))) maNil))))
noncomputable def f_law_minus : Fx := run' 2 2 m_law_minus
noncomputable def m_law_times : Ms :=
  (mRet (mCall f_law_low (maCons (m2 fMul (mIx (mVar 0) (mKon (.int 0))) (mIx (mVar 1) (mKon (.int 0)))) (maCons (m2 fMul (mIx (mVar 0) (mKon (.int 1))) (mIx (mVar 1) (mKon (.int 1)))) maNil))))
noncomputable def f_law_times : Fx := run' 2 2 m_law_times
noncomputable def m_law_below : Ms :=
  (mRet (m2 (fI gLt) (m2 fMul (mIx (mVar 0) (mKon (.int 0))) (mIx (mVar 1) (mKon (.int 1)))) (m2 fMul (mIx (mVar 1) (mKon (.int 0))) (mIx (mVar 0) (mKon (.int 1))))))
noncomputable def f_law_below : Fx := run' 2 2 m_law_below
noncomputable def m_law_total : Ms :=
  (mSeq (mSet 1 (mA fTup (maCons (mKon (.int 0)) (maCons (mKon (.int 1)) maNil))))
    (mSeq (mFor (mSeqI (mVar 0)) (gN 2)
    (mSet 1 (mCall f_law_plus (maCons (mVar 1) (maCons (mVar 2) maNil)))))
    (mRetV 1)))
noncomputable def f_law_total : Fx := run' 1 3 m_law_total
noncomputable def m_law_dot : Ms :=
  (mSeq (mSet 2 (mA fTup (maCons (mKon (.int 0)) (maCons (mKon (.int 1)) maNil))))
    (mSeq (mFor (mArgI zipQ2 (maCons (mVar 0) (maCons (mVar 1) maNil))) (gT 2 (gsCons (gN 3) (gsCons (gN 4) gsNil)))
    (mSet 2 (mCall f_law_plus (maCons (mVar 2) (maCons (mCall f_law_times (maCons (mVar 3) (maCons (mVar 4) maNil))) maNil)))))
    (mRetV 2)))
noncomputable def f_law_dot : Fx := run' 2 5 m_law_dot
noncomputable def m_law_end : Ms :=
  (mSeq (mSet 2 (mIx (mVar 0) (mKon (.int 0))))
    (mSeq (mFor (mSeqI (mVar 0)) (gN 3)
    (mSeq (mAsg (gT 2 (gsCons (gN 4) (gsCons (gN 5) gsNil))) (mIf (bT (mVar 1)) (mA fTup (maCons (mVar 2) (maCons (mVar 3) maNil))) (mA fTup (maCons (mVar 3) (maCons (mVar 2) maNil)))))
    (mIfS (bT (mCall f_law_below (maCons (mVar 4) (maCons (mVar 5) maNil))))
    (mSet 2 (mVar 3))
    mNil)))
    (mRetV 2)))
noncomputable def f_law_end : Fx := run' 2 6 m_law_end
noncomputable def m_law_number : Ms :=
  (mSeq (mSet 1 (mCall f_law_take (maCons (mVar 0) (maCons (mKon (.int 9)) maNil))))
    (mSeq (mIfS (bT (m2 (fEq false) (mVar 1) (mKon (.int 0))))
    (mRet (mCall f_law_low (maCons (m2 (fI gMns) (mCall f_law_take (maCons (mVar 0) (maCons (mKon (.int 13)) maNil))) (mKon (.int 6))) (maCons (m2 fAdd (mKon (.int 2)) (mCall f_law_take (maCons (mVar 0) (maCons (mKon (.int 3)) maNil)))) maNil))))
    mNil)
    (mSeq (mIfS (tAnd2 (bT (m2 (fEq false) (mVar 1) (mKon (.int 1)))) (bT (m2 (fEq false) (mCall f_law_take (maCons (mVar 0) (maCons (mKon (.int 10)) maNil))) (mKon (.int 0)))))
    (mRet (mCall f_law_low (maCons (m2 fMul (m2 (fI gMns) (m2 fMul (mCall f_law_take (maCons (mVar 0) (maCons (mKon (.int 2)) maNil))) (mKon (.int 2))) (mKon (.int 1))) (m2 fAdd (m2 (fI gPow) (mKon (.int 10)) (mKon (.int 20))) (mCall f_law_take (maCons (mVar 0) (maCons (mKon (.int 1000)) maNil))))) (maCons (mKon (.int 7)) maNil))))
    mNil)
    (mRet (mA fTup (maCons (m2 (fI gMns) (mCall f_law_take (maCons (mVar 0) (maCons (mKon (.int 6)) maNil))) (mKon (.int 2))) (maCons (mKon (.int 1)) maNil)))))))
noncomputable def f_law_number : Fx := run' 1 2 m_law_number
noncomputable def m_law_lot : Ms :=
  (mSeq (mSet 2 (mA fLst maNil))
    (mSeq (mFor (mArgI range1 (maCons (mVar 1) maNil)) (gN 3)
    (mApp 2 (mIx (mA fTup (maCons (mKon (.int 0)) (maCons (mKon (.int 1)) (maCons (mKon (.int 1)) (maCons (mKon (.int 2)) (maCons (mKon (.int 0)) (maCons (mKon (.int 3)) maNil))))))) (mCall f_law_take (maCons (mVar 0) (maCons (mKon (.int 6)) maNil))))))
    (mSeq (mIfS (bT (m2 (fEq false) (mA fMaxL (maCons (mVar 2) maNil)) (mKon (.int 0))))
    (mPut 2 (mCall f_law_take (maCons (mVar 0) (maCons (mVar 1) maNil))) (mKon (.int 1)))
    mNil)
    (mRetV 2))))
noncomputable def f_law_lot : Fx := run' 2 4 m_law_lot
noncomputable def m_law_stretches : Ms :=
  (mSeq (mSet 3 (mA fMin2 (maCons (mVar 1) (maCons (mVar 2) maNil))))
    (mSeq (mSet 4 (mA fSorted (maCons (mSl (mCall f_law_shuffled (maCons (mVar 0) (maCons (mVar 1) maNil))) moNone (moSome (m2 fAdd (mKon (.int 1)) (mA fMax2 (maCons (mCall f_law_take (maCons (mVar 0) (maCons (mVar 3) maNil))) (maCons (mCall f_law_take (maCons (mVar 0) (maCons (mVar 3) maNil))) maNil)))))) maNil)))
    (mSeq (mPar3g 5 6 7 (maCons (mCall f_law_lot (maCons (mVar 0) (maCons (mA fLen (maCons (mVar 4) maNil)) maNil))) (maCons (mCall f_law_take (maCons (mVar 0) (maCons (mKon (.int 6)) maNil))) (maCons (mA fLst maNil) maNil))))
    (mSeq (mSet 8 (mA fSum (maCons (mVar 5) maNil)))
    (mSeq (mFrz [4, 5] (mFor (mArgI zipQ2 (maCons (mVar 4) (maCons (mVar 5) maNil))) (gT 2 (gsCons (gN 9) (gsCons (gN 10) gsNil)))
    (mSeq (mSet 11 (mCall f_law_low (maCons (mVar 10) (maCons (mVar 8) maNil))))
    (mSeq (mIfS (tAnd2 (bT (m2 (fEq false) (mVar 6) (mKon (.int 0)))) (bT (m2 (fI gGt) (mVar 10) (mKon (.int 0)))))
    (mApp 7 (mA fTup (maCons (mVar 9) (maCons (mVar 11) (maCons (mVar 11) maNil)))))
    mNil)
    (mSeq (mIfS (bT (m2 (fEq false) (mVar 6) (mKon (.int 1))))
    (mApp 7 (mA fTup (maCons (mVar 9) (maCons (mA fTup (maCons (mKon (.int 0)) (maCons (mKon (.int 1)) maNil))) (maCons (mA fTup (maCons (mKon (.int 1)) (maCons (mKon (.int 1)) maNil))) maNil)))))
    mNil)
    (mIfS (bT (m2 (fI gGt) (mVar 6) (mKon (.int 1))))
    (mSeq (mSet 12 (mCall f_law_times (maCons (mVar 11) (maCons (mCall f_law_low (maCons (mCall f_law_take (maCons (mVar 0) (maCons (mKon (.int 3)) maNil))) (maCons (mKon (.int 2)) maNil))) maNil))))
    (mSeq (mSet 13 (mCall f_law_times (maCons (mCall f_law_minus (maCons (mA fTup (maCons (mKon (.int 1)) (maCons (mKon (.int 1)) maNil))) (maCons (mVar 11) maNil))) (maCons (mCall f_law_low (maCons (mCall f_law_take (maCons (mVar 0) (maCons (mKon (.int 3)) maNil))) (maCons (mKon (.int 2)) maNil))) maNil))))
    (mApp 7 (mA fTup (maCons (mVar 9) (maCons (mVar 12) (maCons (mCall f_law_plus (maCons (mVar 11) (maCons (mVar 13) maNil))) maNil)))))))
    mNil))))))
    (mRet (mA fTupOf (maCons (mVar 7) maNil))))))))
noncomputable def f_law_stretches : Fx := run' 3 14 m_law_stretches
noncomputable def m_law_fill : Ms :=
  (mSeq (mSet 2 (mLc (mSeqI (mVar 0)) [7] (gN 7) mYes (mIx (mVar 7) (mKon (.int 1)))))
    (mSeq (mSet 3 (mCall f_law_minus (maCons (mA fTup (maCons (mKon (.int 1)) (maCons (mKon (.int 1)) maNil))) (maCons (mCallB f_law_total (maCons (mVar 2) maNil)) maNil))))
    (mSeq (mFor (mSeqI (mVar 1)) (gN 4)
    (mSeq (mSet 5 (mCall f_law_minus (maCons (mIx (mIx (mVar 0) (mVar 4)) (mKon (.int 2))) (maCons (mIx (mIx (mVar 0) (mVar 4)) (mKon (.int 1))) maNil))))
    (mSeq (mSet 6 (mIf (bT (mCall f_law_below (maCons (mVar 5) (maCons (mVar 3) maNil)))) (mVar 5) (mVar 3)))
    (mSeq (mPut 2 (mVar 4) (mCall f_law_plus (maCons (mIx (mVar 2) (mVar 4)) (maCons (mVar 6) maNil))))
    (mSet 3 (mCall f_law_minus (maCons (mVar 3) (maCons (mVar 6) maNil))))))))
    (mRetV 2))))
noncomputable def f_law_fill : Fx := run' 2 8 m_law_fill
noncomputable def m_law_order : Ms :=
  (mSeq (mSet 2 (mA fLst maNil))
    (mSeq (mFor (mArgI range1 (maCons (mA fLen (maCons (mVar 0) maNil)) maNil)) (gN 3)
    (mSeq (mIfS (bT (mVar 1))
    (mSet 4 (mLc (mSeqB (mVar 2)) [5] (gN 5) (tNot2 (bT (mCall f_law_below (maCons (mIx (mVar 0) (mVar 5)) (maCons (mIx (mVar 0) (mVar 3)) maNil))))) (mVar 5)))
    (mSet 4 (mLc (mSeqB (mVar 2)) [5] (gN 5) (tNot2 (bT (mCall f_law_below (maCons (mIx (mVar 0) (mVar 3)) (maCons (mIx (mVar 0) (mVar 5)) maNil))))) (mVar 5))))
    (mIns 2 (maCons (mA fLen (maCons (mVar 4) maNil)) (maCons (mVar 3) maNil)))))
    (mRetV 2)))
noncomputable def f_law_order : Fx := run' 2 6 m_law_order
noncomputable def m_law_filled : Ms :=
  (mRet (mCall f_law_fill (maCons (mVar 0) (maCons (mCall f_law_order (maCons (mLc (mSeqI (mVar 0)) [3] (gN 3) mYes (mIx (mVar 1) (mIx (mVar 3) (mKon (.int 0))))) (maCons (mVar 2) maNil))) maNil))))
noncomputable def f_law_filled : Fx := run' 3 4 m_law_filled
noncomputable def m_law_known : Ms :=
  (mSeq (mSet 2 (mLc (mArgI zipQ2 (maCons (mVar 0) (maCons (mVar 1) maNil))) [3, 4] (gT 2 (gsCons (gN 3) (gsCons (gN 4) gsNil))) mYes (mA fTup (maCons (mIx (mVar 3) (mKon (.int 0))) (maCons (mVar 4) maNil)))))
    (mFrz [2] (mRet (mA fTupOf (maCons (mLc (mSeqI (mVar 2)) [5] (gN 5) (bT (m2 (fI gGt) (mIx (mIx (mVar 5) (mKon (.int 1))) (mKon (.int 0))) (mKon (.int 0)))) (mVar 5)) maNil)))))
noncomputable def f_law_known : Fx := run' 2 6 m_law_known
noncomputable def m_law_each_with : Ms :=
  (mSeq (mSet 2 (mA fLst maNil))
    (mSeq (mFor (mSeqI (mVar 0)) (gN 3)
    (mFor (mSeqI (mVar 1)) (gN 4)
    (mApp 2 (m2 fAdd (mVar 3) (mA fTup (maCons (mVar 4) maNil))))))
    (mRetV 2)))
noncomputable def f_law_each_with : Fx := run' 2 5 m_law_each_with
noncomputable def m_law_is_before : Ms :=
  (mSeq (mFor (mArgI zipQ2 (maCons (mVar 0) (maCons (mVar 1) maNil))) (gT 2 (gsCons (gN 2) (gsCons (gN 3) gsNil)))
    (mIfS (bT (m2 (fEq true) (mVar 2) (mVar 3)))
    (mRet (mCall f_law_below (maCons (mVar 2) (maCons (mVar 3) maNil))))
    mNil))
    (mRet (mKon (.bool false))))
noncomputable def f_law_is_before : Fx := run' 2 4 m_law_is_before
noncomputable def m_law_corners : Ms :=
  (mSeq (mSet 1 (mA fLst maNil))
    (mSeq (mFor (mArgI range1 (maCons (mA fLen (maCons (mVar 0) maNil)) maNil)) (gN 2)
    (mSeq (mSet 3 (mA fLst (maCons (mA fTup maNil) maNil)))
    (mSeq (mFor (mArgI range1 (maCons (mA fLen (maCons (mVar 0) maNil)) maNil)) (gN 4)
    (mFrz [3] (mSet 3 (mCall f_law_each_with (maCons (mVar 3) (maCons (mIf (bT (m2 (fEq false) (mVar 4) (mVar 2))) (mA fTup (maCons (mA fTup (maCons (mKon (.int 0)) (maCons (mKon (.int 1)) maNil))) maNil)) (mSl (mIx (mVar 0) (mVar 4)) (moSome (mKon (.int 1))) moNone)) maNil))))))
    (mFrz [3] (mFor (mSeqI (mVar 3)) (gN 5)
    (mSeq (mSet 6 (mCall f_law_minus (maCons (mA fTup (maCons (mKon (.int 1)) (maCons (mKon (.int 1)) maNil))) (maCons (mCall f_law_total (maCons (mVar 5) maNil)) maNil))))
    (mSeq (mSet 7 (m2 fAdd (m2 fAdd (mSl (mVar 5) moNone (moSome (mVar 2))) (mA fTup (maCons (mVar 6) maNil))) (mSl (mVar 5) (moSome (m2 fAdd (mVar 2) (mKon (.int 1)))) moNone)))
    (mSeq (mSet 8 (mOr (mCall f_law_below (maCons (mVar 6) (maCons (mIx (mIx (mVar 0) (mVar 2)) (mKon (.int 1))) maNil))) (mCall f_law_below (maCons (mIx (mIx (mVar 0) (mVar 2)) (mKon (.int 2))) (maCons (mVar 6) maNil)))))
    (mIfS (tAnd2 (tNot2 (bT (mVar 8))) (bT (m2 (fIn true) (mVar 7) (mVar 1))))
    (mIns 1 (maCons (mA fLen (maCons (mLc (mSeqB (mVar 1)) [9] (gN 9) (bT (mCall f_law_is_before (maCons (mVar 9) (maCons (mVar 7) maNil)))) (mVar 9)) maNil)) (maCons (mVar 7) maNil)))
    mNil)))))))))
    (mRetV 1)))
noncomputable def f_law_corners : Fx := run' 1 10 m_law_corners
noncomputable def m_law_some_worths : Ms :=
  (mSeq (mPar 2 3 (maCons (m2 fAdd (mIx (mIx (mVar 1) (m1 fNeg (mKon (.int 1)))) (mKon (.int 0))) (mKon (.int 1))) (maCons (mA fLst maNil) maNil)))
    (mSeq (mSet 4 (m2 fAdd (mVar 2) (mCall f_law_take (maCons (mVar 0) (maCons (m2 (fI gMns) (mKon (.int 9)) (mVar 2)) maNil)))))
    (mSeq (mSet 5 (m2 (fEq false) (mCall f_law_take (maCons (mVar 0) (maCons (mKon (.int 2)) maNil))) (mKon (.int 0))))
    (mSeq (mFor (mArgI range1 (maCons (mVar 4) maNil)) (gN 6)
    (mApp 3 (mIf (bT (mVar 5)) (mA fTup (maCons (mCall f_law_take (maCons (mVar 0) (maCons (mKon (.int 3)) maNil))) (maCons (mKon (.int 1)) maNil))) (mCall f_law_number (maCons (mVar 0) maNil)))))
    (mRet (mA fTupOf (maCons (mVar 3) maNil)))))))
noncomputable def f_law_some_worths : Fx := run' 2 7 m_law_some_worths
noncomputable def m_law_right : Ms :=
  (mSeq (mSet 1 (mCall f_law_stretches (maCons (mVar 0) (maCons (mKon (.int 8)) (maCons (mCall f_law_pick (maCons (mVar 0) (maCons (mA fTup (maCons (mKon (.int 5)) (maCons (mKon (.int 4)) (maCons (mKon (.int 3)) (maCons (mKon (.int 3)) (maCons (mKon (.int 2)) maNil)))))) maNil))) maNil)))))
    (mSeq (mSet 2 (mCall f_law_some_worths (maCons (mVar 0) (maCons (mVar 1) maNil))))
    (mSeq (mSet 3 (mA fLst (maCons (mCall f_filled (maCons (mVar 1) (maCons (mVar 2) (maCons (mKon (.bool false)) maNil)))) (maCons (mCallK f_filled [1, 2, 0] 3 (maCons (mKon (.bool true)) (maCons (mVar 1) (maCons (mVar 2) maNil)))) maNil))))
    (mSeq (mSet 4 (mLc (mSeqI (mA fTup (maCons (mKon (.bool false)) (maCons (mKon (.bool true)) maNil)))) [9] (gN 9) mYes (mCall f_law_known (maCons (mVar 1) (maCons (mCall f_law_filled (maCons (mVar 1) (maCons (mVar 2) (maCons (mVar 9) maNil)))) maNil)))))
    (mSeq (mIfS (bT (m2 (fEq true) (mA fRepr (maCons (mVar 3) maNil)) (mA fRepr (maCons (mVar 4) maNil))))
    (mRet (mKon (.bool false)))
    mNil)
    (mSeq (mSet 5 (mIf (bT (m2 (fEq false) (mCall f_law_take (maCons (mVar 0) (maCons (mKon (.int 2)) maNil))) (mKon (.int 0)))) (mCall f_corners (maCons (mVar 1) maNil)) (mCallK f_corners [0] 1 (maCons (mVar 1) maNil))))
    (mSeq (mIfS (bT (m2 (fEq true) (mA fRepr (maCons (mVar 5) maNil)) (mA fRepr (maCons (mA fTupOf (maCons (mCall f_law_corners (maCons (mVar 1) maNil)) maNil)) maNil))))
    (mRet (mKon (.bool false)))
    mNil)
    (mSeq (mSet 6 (mLc (mSeqI (mVar 1)) [10] (gN 10) mYes (mIx (mVar 2) (mIx (mVar 10) (mKon (.int 0))))))
    (mSeq (mFrz [6] (mSet 7 (mLc (mSeqI (mVar 5)) [11] (gN 11) mYes (mCall f_law_dot (maCons (mVar 11) (maCons (mVar 6) maNil))))))
    (mSeq (mFrz [3] (mSet 8 (mLc (mSeqI (mVar 3)) [12] (gN 12) mYes (mCall f_law_total (maCons (mLc (mSeqI (mVar 12)) [10] (gN 10) mYes (mCall f_law_times (maCons (mIx (mVar 10) (mKon (.int 1))) (maCons (mIx (mVar 2) (mIx (mVar 10) (mKon (.int 0)))) maNil)))) maNil)))))
    (mFrz [7] (mRet (m2 (fEq false) (mVar 8) (mA fLst (maCons (mCall f_law_end (maCons (mVar 7) (maCons (mKon (.bool false)) maNil))) (maCons (mCall f_law_end (maCons (mVar 7) (maCons (mKon (.bool true)) maNil))) maNil))))))))))))))))
noncomputable def f_law_right : Fx := run' 1 13 m_law_right
noncomputable def m_law : Ms :=
  (mRet (mA fAll (maCons (mLc (mArgI range1 (maCons (mA fMax2 (maCons (mKon (.int 2)) (maCons (mA fMin2 (maCons (mA fLen (maCons (mVar 0) maNil)) (maCons (mKon (.int 4)) maNil))) maNil))) maNil)) [1] (gN 1) mYes (mCallN f_law_right (maCons (mCall f_law_pot (maCons (mVar 0) (maCons (mVar 1) maNil))) maNil))) maNil)))
noncomputable def f_law : Fx := run' 1 2 m_law
end WW
namespace WW
open PySem PySem.Spec L2 Dh PyProof.Rows
def nml_0 : List Str := ["is_whole", "is_between", "is_tuple_of", "is_ratio", "ratio", "plus", "minus", "is_less", "total", "is_end", "is_stretch", "are_stretches", "next_of", "filled_by", "is_row_ahead", "spot_of", "ends_of", "corners_by", "check_stretches", "filled"]
def nml_1 : List Str := ["corners", "_law_pot", "_law_take", "_law_pick", "_law_shuffled", "_law_low", "_law_plus", "_law_minus", "_law_times", "_law_below", "_law_total", "_law_dot", "_law_end", "_law_number", "_law_lot", "_law_stretches", "_law_fill", "_law_order", "_law_filled", "_law_known"]
def nml_2 : List Str := ["_law_each_with", "_law_is_before", "_law_corners", "_law_some_worths", "_law_right", "law"]
def nml : List Str := nml_0 ++ nml_1 ++ nml_2
def fnl_0 : List He.FnD := [fnD "is_whole" s_is_whole, fnD "is_between" s_is_between, fnD "is_tuple_of" s_is_tuple_of, fnD "is_ratio" s_is_ratio, fnD "ratio" s_ratio, fnD "plus" s_plus, fnD "minus" s_minus, fnD "is_less" s_is_less, fnD "total" s_total, fnD "is_end" s_is_end, fnD "is_stretch" s_is_stretch, fnD "are_stretches" s_are_stretches, fnD "next_of" s_next_of, fnD "filled_by" s_filled_by, fnD "is_row_ahead" s_is_row_ahead, fnD "spot_of" s_spot_of, fnD "ends_of" s_ends_of, fnD "corners_by" s_corners_by, fnD "check_stretches" s_check_stretches, fnD "filled" s_filled]
def fnl_1 : List He.FnD := [fnD "corners" s_corners, fnD "_law_pot" s_law_pot, fnD "_law_take" s_law_take, fnD "_law_pick" s_law_pick, fnD "_law_shuffled" s_law_shuffled, fnD "_law_low" s_law_low, fnD "_law_plus" s_law_plus, fnD "_law_minus" s_law_minus, fnD "_law_times" s_law_times, fnD "_law_below" s_law_below, fnD "_law_total" s_law_total, fnD "_law_dot" s_law_dot, fnD "_law_end" s_law_end, fnD "_law_number" s_law_number, fnD "_law_lot" s_law_lot, fnD "_law_stretches" s_law_stretches, fnD "_law_fill" s_law_fill, fnD "_law_order" s_law_order, fnD "_law_filled" s_law_filled, fnD "_law_known" s_law_known]
def fnl_2 : List He.FnD := [fnD "_law_each_with" s_law_each_with, fnD "_law_is_before" s_law_is_before, fnD "_law_corners" s_law_corners, fnD "_law_some_worths" s_law_some_worths, fnD "_law_right" s_law_right, fnD "law" s_law]
def fnl : List He.FnD := fnl_0 ++ fnl_1 ++ fnl_2
def fal_0 : List He.Fa := [.glo "is_whole", .glo "is_between", .glo "is_tuple_of", .glo "is_ratio", .glo "ratio", .glo "plus", .glo "minus", .glo "is_less", .glo "total", .glo "is_end", .glo "is_stretch", .glo "are_stretches", .glo "next_of", .glo "filled_by", .glo "is_row_ahead", .glo "spot_of", .glo "ends_of", .glo "corners_by", .glo "check_stretches", .glo "filled"]
def fal_1 : List He.Fa := [.glo "corners", .glo "_law_pot", .glo "_law_take", .glo "_law_pick", .glo "_law_shuffled", .glo "_law_low", .glo "_law_plus", .glo "_law_minus", .glo "_law_times", .glo "_law_below", .glo "_law_total", .glo "_law_dot", .glo "_law_end", .glo "_law_number", .glo "_law_lot", .glo "_law_stretches", .glo "_law_fill", .glo "_law_order", .glo "_law_filled", .glo "_law_known"]
def fal_2 : List He.Fa := [.glo "_law_each_with", .glo "_law_is_before", .glo "_law_corners", .glo "_law_some_worths", .glo "_law_right", .glo "law", .keep "is_whole", .keep "is_between", .keep "is_tuple_of", .keep "is_ratio", .keep "ratio", .keep "plus", .keep "minus", .keep "is_less", .keep "total", .keep "is_end", .keep "is_stretch", .keep "are_stretches", .keep "next_of", .keep "filled_by"]
def fal_3 : List He.Fa := [.keep "is_row_ahead", .keep "spot_of", .keep "ends_of", .keep "corners_by", .keep "check_stretches", .keep "filled", .keep "corners", .keep "_law_pot", .keep "_law_take", .keep "_law_pick", .keep "_law_shuffled", .keep "_law_low", .keep "_law_plus", .keep "_law_minus", .keep "_law_times", .keep "_law_below", .keep "_law_total", .keep "_law_dot", .keep "_law_end", .keep "_law_number"]
def fal_4 : List He.Fa := [.keep "_law_lot", .keep "_law_stretches", .keep "_law_fill", .keep "_law_order", .keep "_law_filled", .keep "_law_known", .keep "_law_each_with", .keep "_law_is_before", .keep "_law_corners", .keep "_law_some_worths", .keep "_law_right", .keep "law", .free "abs", .free "all", .free "bool", .free "divmod", .free "enumerate", .free "int", .free "isinstance", .free "len"]
def fal_5 : List He.Fa := [.free "list", .free "max", .free "min", .free "range", .free "repr", .free "sorted", .free "sum", .free "tuple", .free "zip"]
def fal : List He.Fa := fal_0 ++ fal_1 ++ fal_2 ++ fal_3 ++ fal_4 ++ fal_5
def csl_0 : List (Str × PyData) := [("MOST_STANDS", k_MOST_STANDS), ("ONE", k_ONE), ("ZERO", k_ZERO)]
def csl : List (Str × PyData) := csl_0
def bsl_0 : List (Str × String) := [("gcd", "math.gcd")]
def bsl : List (Str × String) := bsl_0
def loose_0 : List Str := ["is_whole", "is_between", "is_tuple_of", "ZERO", "ONE", "is_ratio", "ratio", "plus", "minus", "is_less", "total", "MOST_STANDS", "HouseError", "InvalidStretches", "InvalidFlag", "InvalidWorths", "is_end", "is_stretch", "are_stretches", "next_of"]
def loose_1 : List Str := ["filled_by", "is_row_ahead", "spot_of", "ends_of", "corners_by", "check_stretches", "filled", "corners", "_law_pot", "_law_take", "_law_pick", "_law_shuffled", "_law_low", "_law_plus", "_law_minus", "_law_times", "_law_below", "_law_total", "_law_dot", "_law_end"]
def loose_2 : List Str := ["_law_number", "_law_lot", "_law_stretches", "_law_fill", "_law_order", "_law_filled", "_law_known", "_law_each_with", "_law_is_before", "_law_corners", "_law_some_worths", "_law_right"]
def loose : List Str := loose_0 ++ loose_1 ++ loose_2
abbrev RR : PySem.W.OpenRow := PySem.W.OpenLaw.row PySem.Challenge.rw_deedhouses_k44_filled_and_corners_of_str
abbrev hkM : PySem.W.Hook := hookM 2 csl bsl fal fnl
def obM (s : PySem.W.SharedT) : AlM := obsMG 2 csl bsl fal fnl (HandSHeadRun.getT s)
theorem obM_eq (s : PySem.W.SharedT) : obM s = hkM.obs s.abs := obsMG_eq (HandSHeadRun.getT_eq s)
set_option maxHeartbeats 0 in
theorem runL (w : World) : (HandSHeadRun.wholeF (fun p => HandSHeadRun.stepQ (HandSHeadRun.denQ HandSHeadRun.tabQ) p w) HandSHeadRun.fenceQ 6000 RR.prog).map (fun x => HandSHeadRun.looksF RR.prog x.1.heap x.2.abs) = some true := by
  kernel_rfl
set_option maxHeartbeats 0 in
theorem runS (w : World) : (HandSHeadRun.wholeF (fun p => HandSHeadRun.stepQ (HandSHeadRun.denQ HandSHeadRun.tabQ) p w) HandSHeadRun.fenceQ 6000 RR.prog).map (fun x => HandSHeadRun.seenQ (PySem.W.view RR.prog [0, 59]) loose (importedModules RR.prog.main.body) (fun s => PySem.W.xlAt (PySem.W.view RR.prog [0, 59]) [] s && PySem.W.recOk RR.toRowW.records s) x.2.abs) = some (PySem.W.openGood (PySem.W.view RR.prog [0, 59]) loose) := by
  kernel_rfl
set_option maxHeartbeats 0 in
theorem runO (w : World) : (HandSHeadRun.wholeF (fun p => HandSHeadRun.stepQ (HandSHeadRun.denQ HandSHeadRun.tabQ) p w) HandSHeadRun.fenceQ 6000 RR.prog).map (fun x => obM x.2) = some (hkM.val w) := by
  kernel_rfl
theorem map3 {α β γ δ : Type _} {o : Option α} {f : α → β} {g : α → γ} {h : α → δ} {a : β} {b : γ} {c : δ} (e1 : o.map f = some a) (e2 : o.map g = some b) (e3 : o.map h = some c) : o.map (fun x => (f x, g x, h x)) = some (a, b, c) := by
  cases o with
  | none => cases e1
  | some x => cases e1; cases e2; cases e3; rfl
theorem runM (w : World) : HandSHeadRun.RunEqI RR (PySem.W.view RR.prog [0, 59]) hkM obM 6000 loose w := by
  unfold HandSHeadRun.RunEqI
  exact map3 (runL w) (runS w) (runO w)
end WW
namespace WW
open PySem PySem.Spec L2 PySem.W Dh
theorem e_ratio {t l : Int} {s : Sto} (h : 0 < l) (hl : l.natAbs < 2 ^ 9000) : f_ratio [.d (.int t), .d (.int l)] s = some (.d (pQ (Rat.divInt t l)), s) := by
  refine WF.eq (WF.body rfl ?_)
  have g : 0 < gg t l := gg_pos (by omega)
  have g1 : (gg t l).natAbs < 2 ^ 9000 := Nat.lt_of_le_of_lt (gg_le (by omega)) hl
  have e1 : gFdiv t ((t.natAbs.gcd l.natAbs : Nat) : Int) = _ := gFdiv_pos g g1
  have e2 : gFdiv l ((t.natAbs.gcd l.natAbs : Nat) : Int) = _ := gFdiv_pos g g1
  simp [m_ratio, h, List.replicate_succ, e1, e2, sz2, pQ, divInt_num h, divInt_den h]
  exact ⟨rfl, rfl⟩
theorem e_plus {p q : Rat} {s : Sto} (hp : Bd p) (hq : Bd q) : f_plus [.d (pQ p), .d (pQ q)] s = some (.d (pQ (p + q)), s) := by
  refine WF.eq (WF.body rfl ?_)
  simp [m_plus, pQ, fMul_ok, mulOk_nd hp hq, mulOk_nd hq hp, mulOk_dd hp hq]
  refine WF.of (e_ratio (den_mul_pos p q) (den_lt hp hq)) ?_
  rw [← add_divInt]
  simp [pQ]
theorem e_minus {p q : Rat} {s : Sto} (hp : Bd p) (hq : Bd q) : f_minus [.d (pQ p), .d (pQ q)] s = some (.d (pQ (p - q)), s) := by
  refine WF.eq (WF.body rfl ?_)
  simp [m_minus, pQ, fMul_ok, mulOk_nd hp hq, mulOk_nd hq hp, mulOk_dd hp hq]
  refine WF.of (e_ratio (den_mul_pos p q) (den_lt hp hq)) ?_
  rw [← sub_divInt]
  simp [pQ]
theorem e_is_less {p q : Rat} {s : Sto} (hp : Bd p) (hq : Bd q) : f_is_less [.d (pQ p), .d (pQ q)] s = some (.d (.bool (decide (p < q))), s) := by
  refine WF.eq (WF.body rfl ?_)
  simp [m_is_less, pQ, fMul_ok, mulOk_nd hp hq, mulOk_nd hq hp, Rat.lt_iff]
theorem w_euclid {x y : Option Cl} {s : Sto} {Q : Out → Ev → Sto → Prop} : ∀ (b a : Nat), Q .nx [x, y, some (.d (.int ((Nat.gcd a b : Nat) : Int))), some (.d (.int 0))] s →
    WWh (bT (m2 (fI gGt) (mVar 3) (mKon (.int 0)))) (mPar 2 3 (maCons (mVar 3) (maCons (m2 (fI gMod) (mA fInt (maCons (mVar 2) maNil)) (mVar 3)) maNil))) [x, y, some (.d (.int (a : Int))), some (.d (.int (b : Int)))] s Q := by
  intro b
  induction b using Nat.strongRecOn with
  | ind b ih =>
    intro a h
    refine WWh_next ?_
    by_cases hb : b = 0
    · subst hb
      simp at h ⊢
      exact h
    · have hp : (0 : Int) < (b : Int) := by omega
      have hq : 0 < b := by omega
      have e : gMod (a : Int) (b : Int) = _ := gMod_pos hp
      simp [hq, hp, e]
      have := ih (a % b) (Nat.mod_lt _ hq) b (by rw [Nat.gcd_comm, ← Nat.gcd_rec, Nat.gcd_comm]; exact h)
      rw [Int.natCast_emod] at this
      exact this
theorem e_frac0 {t l : Int} {s : Sto} (h : l ≠ 0) (hl : l.natAbs < 2 ^ 9000) : f_law_low [.d (.int t), .d (.int l)] s = some (.d (pQ (Rat.divInt t l)), s) := by
  refine WF.eq (WF.body rfl ?_)
  have g : 0 < gg t l := gg_pos h
  have g1 : (gg t l).natAbs < 2 ^ 9000 := Nat.lt_of_le_of_lt (gg_le h) hl
  have a1 : (if t < 0 then -t else t) = ((t.natAbs : Nat) : Int) := by split <;> omega
  have a2 : (if l < 0 then -l else l) = ((l.natAbs : Nat) : Int) := by split <;> omega
  have e : ∀ i : Int, gFdiv i ((t.natAbs.gcd l.natAbs : Nat) : Int) = some (.int (i / gg t l)) := fun i => gFdiv_pos g g1
  simp only [m_law_low]
  simp [List.replicate_succ, a1, a2]
  refine w_euclid _ _ ?_
  by_cases hp : 0 < l
  · simp [hp, e, sz2, pQ, divInt_num hp, divInt_den hp]
  · have n : gg (-t) (-l) = gg t l := by unfold gg; rw [Int.natAbs_neg, Int.natAbs_neg]
    have a := divInt_num (t := -t) (l := -l) (by omega)
    have b := divInt_den (t := -t) (l := -l) (by omega)
    rw [Rat.neg_divInt_neg, n] at a b
    have c1 : ∀ i : Int, gg t l ∣ i → (-i) / gg t l = - (i / gg t l) := fun i hi => Int.neg_ediv_of_dvd hi
    have d1 : gg t l ∣ t := Int.ofNat_dvd_left.mpr (Nat.gcd_dvd_left _ _)
    have d2 : gg t l ∣ l := Int.ofNat_dvd_left.mpr (Nat.gcd_dvd_right _ _)
    simp [hp, e, sz2, pQ, a, b, c1 t d1, c1 l d2]
theorem e_lplus {p q : Rat} {s : Sto} (hp : Bd p) (hq : Bd q) : f_law_plus [.d (pQ p), .d (pQ q)] s = some (.d (pQ (p + q)), s) := by
  refine WF.eq (WF.body rfl ?_)
  simp [m_law_plus, pQ, fMul_ok, mulOk_nd hp hq, mulOk_nd hq hp, mulOk_dd hp hq]
  refine WF.of (e_frac0 (by have := den_mul_pos p q; omega) (den_lt hp hq)) ?_
  rw [← add_divInt]
  simp [pQ]
theorem e_lminus {p q : Rat} {s : Sto} (hp : Bd p) (hq : Bd q) : f_law_minus [.d (pQ p), .d (pQ q)] s = some (.d (pQ (p - q)), s) := by
  refine WF.eq (WF.body rfl ?_)
  simp [m_law_minus, pQ, fMul_ok, mulOk_nd hp hq, mulOk_nd hq hp, mulOk_dd hp hq]
  refine WF.of (e_frac0 (by have := den_mul_pos p q; omega) (den_lt hp hq)) ?_
  rw [← sub_divInt]
  simp [pQ]
theorem e_ltimes {p q : Rat} {s : Sto} (hp : Bd p) (hq : Bd q) : f_law_times [.d (pQ p), .d (pQ q)] s = some (.d (pQ (p * q)), s) := by
  refine WF.eq (WF.body rfl ?_)
  simp [m_law_times, pQ, fMul_ok, mulOk_nn hp hq, mulOk_dd hp hq]
  refine WF.of (e_frac0 (by have := den_mul_pos p q; omega) (den_lt hp hq)) ?_
  rw [← mul_divInt]
  simp [pQ]
end WW
namespace Dh
open PySem PySem.Spec L2 PySem.W
@[elab_as_elim] theorem snoc_ind {α : Type} {P : List α → Prop} (nil : P []) (snoc : ∀ l x, P l → P (l ++ [x])) (l : List α) : P l := by
  rw [← List.reverse_reverse l]
  induction l.reverse with
  | nil => exact nil
  | cons x m ih => rw [List.reverse_cons]; exact snoc _ _ ih
def qsum (l : List Rat) : Rat := l.foldl (· + ·) 0
def qdot (l m : List Rat) : Rat := qsum ((l.zip m).map fun p => p.1 * p.2)
theorem qsum_snoc {l : List Rat} {x : Rat} : qsum (l ++ [x]) = qsum l + x := by simp [qsum]
theorem take_snoc {α : Type} {l : List α} {i : Nat} {x : α} (h : l[i]? = some x) : l.take (i + 1) = l.take i ++ [x] := by
  rw [List.take_add_one, h]; rfl
theorem QLt_0 {k : Nat} (h : 0 < k := by omega) : QLt k 0 := ⟨by rw [Rat.zero_num]; exact Nat.pow_pos (by decide), by rw [Rat.zero_den]; exact Nat.one_lt_two_pow (by omega)⟩
theorem QLt_1 {k : Nat} (h : 0 < k := by omega) : QLt k 1 := ⟨by rw [Rat.one_num]; exact Nat.one_lt_two_pow (by omega), by rw [Rat.one_den]; exact Nat.one_lt_two_pow (by omega)⟩
theorem qsum_lt {k : Nat} {l : List Rat} (h : ∀ q ∈ l, QLt k q) : QLt (1 + (k + 1) * l.length) (qsum l) := by
  revert h
  refine snoc_ind ?_ ?_ l
  · intro _; exact QLt_0
  · intro l x ih h
    rw [qsum_snoc, List.length_append, List.length_singleton, Nat.mul_add]
    exact (QLt_add (ih fun q hq => h q (by simp [hq])) (h x (by simp))).mono (by omega)
theorem mem_take {α : Type} {l : List α} {i : Nat} {x : α} (h : x ∈ l.take i) : x ∈ l := List.mem_of_mem_take h
theorem qsum_take_lt {k i : Nat} {l : List Rat} (h : ∀ q ∈ l, QLt k q) : QLt (1 + (k + 1) * l.length) (qsum (l.take i)) :=
  (qsum_lt fun q hq => h q (mem_take hq)).mono (by
    have : (l.take i).length ≤ l.length := by rw [List.length_take]; omega
    have := Nat.mul_le_mul_left (k + 1) this
    omega)
/-- a pair of data, by what each is -/
def p2 {α β : Type} (f : α → PyData) (g : β → PyData) (p : α × β) : PyData := .tuple [f p.1, g p.2]
theorem pairs_map {α β : Type} (f : α → PyData) (g : β → PyData) : ∀ (l : List α) (m : List β), pairs (l.map f) (m.map g) = (l.zip m).map (p2 f g)
  | [], m => by simp [pairs]
  | x :: l, [] => by simp [pairs]
  | x :: l, y :: m => by
    have := pairs_map f g l m
    unfold pairs at this ⊢
    simp only [List.map_cons, List.zip_cons_cons, this]
    rfl
@[simp] theorem seqOf_t {xs : List PyData} : seqOf (.tuple xs) = some xs := rfl
@[simp] theorem seqOf_l {xs : List PyData} : seqOf (.list xs) = some xs := rfl
@[simp] theorem ev_zipQ2 {x y : R} : zipQ2 [x, y] = (match toD x, toD y with | some a, some b => (match seqOf a, seqOf b with | some xs, some ys => some (pairs xs ys) | _, _ => none) | _, _ => none) := by
  unfold zipQ2
  rw [ev_toDs1, ev_toDs1, ev_toDs0]
  cases toD x <;> cases toD y <;> rfl
@[simp] theorem ev_zipQ3 {x y z : R} : zipQ3 [x, y, z] = (match toD x, toD y, toD z with | some a, some b, some c => (match seqOf a, seqOf b, seqOf c with | some xs, some ys, some zs => some (trip xs ys zs) | _, _, _ => none) | _, _, _ => none) := by
  unfold zipQ3
  rw [ev_toDs1, ev_toDs1, ev_toDs1, ev_toDs0]
  cases toD x <;> cases toD y <;> cases toD z <;> rfl
@[simp] theorem items_b {xs : List PyData} : itemsOf (.b xs) = none := rfl
end Dh
namespace WW
open PySem PySem.Spec L2 PySem.W Dh
theorem e_total {x : PyData} {l : List Rat} {k : Nat} {s : Sto} (hx : itemsOf (.d x) = some (l.map pQ)) (hl : ∀ q ∈ l, QLt k q) (h : 1 + (k + 1) * l.length + k ≤ 4500) : f_total [.d x] s = some (.d (pQ (qsum l)), s) := by
  refine WF.eq (WF.body rfl ?_)
  simp [m_total, List.replicate_succ, hx]
  refine WFor_inv pQ l (fun i ρ s' => s' = s ∧ ∃ c, ρ = [some (.d x), some (.d (pQ (qsum (l.take i)))), c]) ⟨rfl, none, rfl⟩ ?_ ?_
  · rintro i q ρ s' hq ⟨rfl, c, rfl⟩
    simp
    refine WF.of (e_plus (qsum_take_lt hl).bd ((hl q (List.mem_of_getElem? hq)).bd)) ?_
    rw [take_snoc hq, qsum_snoc]
    simp
  · rintro ρ s' ⟨rfl, c, rfl⟩
    simp
end WW
namespace Dh
/-- D times q is whole, at most M without its sign -/
def CD (D M : Nat) (q : Rat) : Prop := ∃ z : Int, (D : Rat) * q = z ∧ z.natAbs ≤ M
theorem CD_0 {D M : Nat} : CD D M 0 := ⟨0, by simp, by simp⟩
theorem CD_1 {D M : Nat} (h : D ≤ M) : CD D M 1 := ⟨D, by rw [Rat.mul_one, Rat.intCast_natCast], by simpa using h⟩
theorem CD.mono {D M N : Nat} {q : Rat} (h : CD D M q) (k : M ≤ N) : CD D N q := let ⟨z, a, b⟩ := h; ⟨z, a, Nat.le_trans b k⟩
theorem CD.add {D M N : Nat} {p q : Rat} (h : CD D M p) (k : CD D N q) : CD D (M + N) (p + q) := by
  obtain ⟨z, a, b⟩ := h
  obtain ⟨w, c, d⟩ := k
  exact ⟨z + w, by rw [Rat.mul_add, a, c, Rat.intCast_add], Nat.le_trans (Int.natAbs_add_le _ _) (by omega)⟩
theorem CD.neg {D M : Nat} {p : Rat} (h : CD D M p) : CD D M (-p) := by
  obtain ⟨z, a, b⟩ := h
  exact ⟨-z, by rw [Rat.mul_neg, a, Rat.intCast_neg], by rw [Int.natAbs_neg]; exact b⟩
theorem CD.sub {D M N : Nat} {p q : Rat} (h : CD D M p) (k : CD D N q) : CD D (M + N) (p - q) := by
  rw [Rat.sub_eq_add_neg]; exact h.add k.neg
theorem CD.mul {D E M N : Nat} {p q : Rat} (h : CD D M p) (k : CD E N q) : CD (D * E) (M * N) (p * q) := by
  obtain ⟨z, a, b⟩ := h
  obtain ⟨w, c, d⟩ := k
  exact ⟨z * w, by rw [Rat.natCast_mul, Rat.intCast_mul, ← a, ← c]; grind, by rw [Int.natAbs_mul]; exact Nat.mul_le_mul b d⟩
theorem CD.up {D M : Nat} {q : Rat} (h : CD D M q) (E : Nat) : CD (D * E) (M * E) q := by
  have := h.mul (CD_1 (D := E) (M := E) (Nat.le_refl _))
  rwa [Rat.mul_one] at this
theorem CD_sum {D M : Nat} {l : List Rat} (h : ∀ q ∈ l, CD D M q) : CD D (l.length * M) (qsum l) := by
  revert h
  refine snoc_ind ?_ ?_ l
  · intro _
    exact CD_0
  · intro l x ih h
    rw [qsum_snoc, List.length_append, List.length_singleton, Nat.add_mul, Nat.one_mul]
    exact (ih fun q hq => h q (by simp [hq])).add (h x (by simp))
theorem CD_sum_le {D M n : Nat} {l : List Rat} (h : ∀ q ∈ l, CD D M q) (hn : l.length ≤ n) : CD D (n * M) (qsum l) := (CD_sum h).mono (Nat.mul_le_mul_right _ hn)
theorem CD.qlt {D M k : Nat} {q : Rat} (h : CD D M q) (h0 : 0 < D) (hD : D < 2 ^ k) (hM : M < 2 ^ k) : QLt k q := by
  obtain ⟨z, a, b⟩ := h
  exact El.qlt_of_frac (v0 := (D : Int)) (v := z) (by omega) (by rw [Rat.intCast_natCast]; exact a) (by rw [Int.natAbs_natCast]; exact hD) (Nat.lt_of_le_of_lt b hM)
end Dh
namespace El
open Dh
/-- every row over one number of at most b bits -/
def Rows (A : Nat → Nat → Rat) (n j b : Nat) : Prop := ∀ i, i < n → ∃ D : Nat, 0 < D ∧ D ≤ 2 ^ b ∧ ∀ l, (l < n ∨ l = j) → CD D (2 ^ b) (A i l)
end El
namespace Dh
open PySem PySem.Spec L2 PySem.W
/-- a spring that can be asked m times more -/
def Vs (m : Nat) (s : Sto) : Prop := ∃ a b c : Int, s = [a, b, c] ∧ 0 ≤ b ∧ b < 2147483543 ∧ 0 ≤ c ∧ c + (m : Int) ≤ 1099511627776
theorem Vs.mono {m n : Nat} {s : Sto} (h : Vs n s) (k : m ≤ n := by omega) : Vs m s := by
  obtain ⟨a, b, c, e, h1, h2, h3, h4⟩ := h
  exact ⟨a, b, c, e, h1, h2, h3, by omega⟩
theorem lit40 : (2 : Nat) ^ 40 = 1099511627776 := by decide
theorem lt40 {i : Int} (h0 : 0 ≤ i) (h : i < 1099511627776) : i.natAbs < 2 ^ 40 := by rw [lit40]; omega
theorem atI_ofNat {α : Type} {xs : List α} {i : Nat} (h : i < xs.length) : atI xs (i : Int) = xs[i]? := by
  unfold atI ixN
  have h1 : ¬ ((i : Int) < 0) := by omega
  have h2 : (i : Int) < (xs.length : Int) := by omega
  simp [h2]
theorem ixN_ofNat {n i : Nat} (h : i < n) : ixN n (i : Int) = some i := by
  unfold ixN
  have h2 : (i : Int) < (n : Int) := by omega
  simp [h2]
theorem atI_pick {α : Type} {xs : List α} {d : Int} (h0 : 0 ≤ d) (h : d < xs.length) : ∃ x ∈ xs, atI xs d = some x := by
  obtain ⟨n, rfl⟩ := Int.eq_ofNat_of_zero_le h0
  have hn : n < xs.length := by omega
  exact ⟨xs[n], List.getElem_mem hn, by rw [show ((n : Nat) : Int) = (n : Int) from rfl, atI_ofNat hn, List.getElem?_eq_getElem hn]⟩
theorem gFdiv_small {i j : Int} (h : 0 < j) (hl : j.natAbs < 2 ^ 40) : gFdiv i j = some (.int (i / j)) := gFdiv_pos h (lt_monoB hl (by decide))
theorem range1_nat {n : Nat} (h : n ≤ 1000) : range1 [.d (.int (n : Int))] = some ((List.range n).map fun i => PyData.int (i : Nat)) := by
  unfold range1
  simp [rangeL, show (-4611686018427387904 : Int) ≤ (n : Int) by omega, show (n : Int) < 4611686018427387904 by omega]
theorem range_at {n i x : Nat} (h : (List.range n)[i]? = some x) : x = i ∧ i < n := by
  obtain ⟨h1, h2⟩ := List.getElem?_eq_some_iff.mp h
  rw [List.getElem_range] at h2
  rw [List.length_range] at h1
  exact ⟨h2.symm, h1⟩
end Dh
namespace WW
open PySem PySem.Spec L2 PySem.W Dh
theorem w_take {l : Int} {s : Sto} {m : Nat} (v : Vs (m + 1) s) (h : 0 < l) (hl : l < 1099511627776) : WF f_law_take [.s, .d (.int l)] s fun r s' => ∃ d : Int, r = .d (.int d) ∧ 0 ≤ d ∧ d < l ∧ Vs m s' := by
  obtain ⟨a, b, c, rfl, h1, h2, h3, h4⟩ := v
  refine WF.body rfl ?_
  have l0 : l ≠ 0 := by omega
  by_cases ha : 0 < a
  · have p : Builtin.divisionGoesByPylong a l = false := pylong_of (lt_monoB (a := 40) (lt40 (by omega) hl) (by decide))
    simp [m_law_take, ha, List.replicate_succ, fDivmod, h, p, ixN]
    exact ⟨Int.emod_nonneg _ l0, Int.emod_lt_of_pos _ h, a / l, b, c, rfl, h1, h2, h3, by omega⟩
  · have m1 : mulOk b 41023 = true := mulOk_of (a := 31) (b := 16) (by omega) (by decide) (by decide)
    have m2 : mulOk (c + 1) 60101 = true := mulOk_of (a := 41) (b := 16) (by omega) (by decide) (by decide)
    simp [m_law_take, ha, List.replicate_succ, putS, ixN, m1, m2, fMul_ok, gMod_pos]
    have x1 : 0 ≤ (b * 41023 + (c + 1) * 60101 + 7) % 2147483543 := Int.emod_nonneg _ (by decide)
    have x2 : (b * 41023 + (c + 1) * 60101 + 7) % 2147483543 < 2147483543 := Int.emod_lt_of_pos _ (by decide)
    generalize (b * 41023 + (c + 1) * 60101 + 7) % 2147483543 = x at *
    have y1 : 0 ≤ x % 6007 := Int.emod_nonneg _ (by decide)
    have y2 : x % 6007 < 6007 := Int.emod_lt_of_pos _ (by decide)
    refine ⟨mulOk_of (a := 31) (b := 16) (by omega) (by omega) (by decide), ?_⟩
    generalize (x * (x % 6007 + 20011)) % 2147483489 = z at *
    simp [gFdiv_small (i := z) (j := 211) (by decide) (by decide), gMod_pos h]
    exact ⟨Int.emod_nonneg _ l0, Int.emod_lt_of_pos _ h, a, x, c + 1, rfl, x1, x2, by omega, by omega⟩
theorem w_pickT {xs : List PyData} {s : Sto} {m : Nat} (v : Vs (m + 1) s) (h : 0 < xs.length) (hl : xs.length ≤ 1000) : WF f_law_pick [.s, .d (.tuple xs)] s fun r s' => ∃ x ∈ xs, r = .d x ∧ Vs m s' := by
  refine WF.body rfl ?_
  simp [m_law_pick]
  refine WF.use (w_take v (by omega) (by omega)) ?_
  rintro _ s' ⟨d, rfl, h1, h2, v'⟩
  obtain ⟨x, hx, e⟩ := atI_pick h1 h2
  simp [e]
  exact ⟨x, hx, rfl, v'⟩
end WW
namespace Dh
open PySem PySem.Spec L2 PySem.W
/-- a datum of numbers of at most B bits, so deep at most, of such a weight at most -/
structure Pn (B k w : Nat) (x : PyData) : Prop where
  nd : noDict x = true
  lay : PyData.canLay0 x = true
  dep : PyData.depth x ≤ k
  sh : PyData.showable x = true
  short : PyData.leavesShort (B + 1) x = true
  wt : PyData.bulk x ≤ w
theorem Pn.mono {B k k' w w' : Nat} {x : PyData} (h : Pn B k w x) (hk : k ≤ k' := by omega) (hw : w ≤ w' := by omega) : Pn B k' w' x := ⟨h.nd, h.lay, Nat.le_trans h.dep hk, h.sh, h.short, Nat.le_trans h.wt hw⟩
theorem int_text {i : Int} {B : Nat} (hB : 0 < B) (h : i.natAbs < 2 ^ B) : (PyData.shown (.int i)).length ≤ B + 1 := by
  have hl : i.natAbs.log2 < B := by
    by_cases z : i.natAbs = 0
    · rw [z]; simpa using hB
    · exact (Nat.log2_lt z).mpr h
  have e := int_text_length_le (a := i) hB hl
  show (Str.ofString (toString i)).length ≤ B + 1
  rw [ofString_length]
  exact e
theorem Pn.int0 {B : Nat} {i : Int} (hB : 0 < B) (hB2 : B ≤ 1900) (h : i.natAbs < 2 ^ B) : Pn B 0 0 (.int i) := by
  have hl : i.natAbs.log2 < B := by
    by_cases z : i.natAbs = 0
    · rw [z]; simpa using hB
    · exact (Nat.log2_lt z).mpr h
  refine ⟨rfl, rfl, Nat.le_refl _, ?_, ?_, ?_⟩
  · simp only [PyData.showable, decide_eq_true_eq]; omega
  · simp only [PyData.leavesShort, decide_eq_true_eq]
    exact int_text hB h
  · simp only [PyData.bulk]
    exact Nat.le_refl _
theorem Pn.int {B : Nat} {i : Int} (hB : 0 < B) (hB2 : B ≤ 1900) (h : i.natAbs < 2 ^ B) : Pn B 0 B (.int i) := (Pn.int0 hB hB2 h).mono
theorem all_nd : ∀ {xs : List PyData}, (∀ x ∈ xs, noDict x = true) → noDicts xs = true
  | [], _ => rfl
  | x :: xs, h => by
    simp only [noDicts, h x List.mem_cons_self, Bool.true_and]
    exact all_nd fun y hy => h y (List.mem_cons_of_mem _ hy)
theorem all_lay : ∀ {xs : List PyData}, (∀ x ∈ xs, PyData.canLay0 x = true) → PyData.canLayAll0 xs = true
  | [], _ => rfl
  | x :: xs, h => by
    simp only [PyData.canLayAll0, h x List.mem_cons_self, Bool.true_and]
    exact all_lay fun y hy => h y (List.mem_cons_of_mem _ hy)
theorem all_dep {k : Nat} : ∀ {xs : List PyData}, (∀ x ∈ xs, PyData.depth x ≤ k) → PyData.depthAll xs ≤ k
  | [], _ => Nat.zero_le _
  | x :: xs, h => by
    have a := h x List.mem_cons_self
    have b := all_dep fun y hy => h y (List.mem_cons_of_mem x hy)
    simp only [PyData.depthAll]; omega
theorem all_sh : ∀ {xs : List PyData}, (∀ x ∈ xs, PyData.showable x = true) → PyData.showableAll xs = true
  | [], _ => rfl
  | x :: xs, h => by
    simp only [PyData.showableAll, h x List.mem_cons_self, Bool.true_and]
    exact all_sh fun y hy => h y (List.mem_cons_of_mem _ hy)
theorem all_short {B : Nat} : ∀ {xs : List PyData}, (∀ x ∈ xs, PyData.leavesShort B x = true) → PyData.leavesShortAll B xs = true
  | [], _ => by simp [PyData.leavesShortAll]
  | x :: xs, h => by
    simp only [PyData.leavesShortAll, h x List.mem_cons_self, Bool.true_and]
    exact all_short fun y hy => h y (List.mem_cons_of_mem _ hy)
theorem all_wt {w : Nat} : ∀ {xs : List PyData}, (∀ x ∈ xs, PyData.bulk x ≤ w) → PyData.bulkAll xs ≤ xs.length * (w + 1)
  | [], _ => by simp [PyData.bulkAll]
  | x :: xs, h => by
    have a := h x List.mem_cons_self
    have b := all_wt fun y hy => h y (List.mem_cons_of_mem x hy)
    simp only [PyData.bulkAll, List.length_cons, Nat.add_mul]; omega
theorem Pn.tup {B k w n : Nat} {xs : List PyData} (h : ∀ x ∈ xs, Pn B k w x) (hn : xs.length ≤ n) : Pn B (k + 1) (n * (w + 1)) (.tuple xs) where
  nd := by simp only [noDict]; exact all_nd fun x hx => (h x hx).nd
  lay := by simp only [PyData.canLay0]; exact all_lay fun x hx => (h x hx).lay
  dep := by
    have := all_dep fun x hx => (h x hx).dep
    simp only [PyData.depth]; omega
  sh := by simp only [PyData.showable]; exact all_sh fun x hx => (h x hx).sh
  short := by simp only [PyData.leavesShort]; exact all_short fun x hx => (h x hx).short
  wt := by
    simp only [PyData.bulk]
    exact Nat.le_trans (all_wt fun x hx => (h x hx).wt) (Nat.mul_le_mul_right _ hn)
theorem Pn.lst {B k w n : Nat} {xs : List PyData} (h : ∀ x ∈ xs, Pn B k w x) (hn : xs.length ≤ n) : Pn B (k + 1) (n * (w + 1)) (.list xs) where
  nd := by simp only [noDict]; exact all_nd fun x hx => (h x hx).nd
  lay := by simp only [PyData.canLay0]; exact all_lay fun x hx => (h x hx).lay
  dep := by
    have := all_dep fun x hx => (h x hx).dep
    simp only [PyData.depth]; omega
  sh := by simp only [PyData.showable]; exact all_sh fun x hx => (h x hx).sh
  short := by simp only [PyData.leavesShort]; exact all_short fun x hx => (h x hx).short
  wt := by
    simp only [PyData.bulk]
    exact Nat.le_trans (all_wt fun x hx => (h x hx).wt) (Nat.mul_le_mul_right _ hn)
theorem Pn.q {B : Nat} {q : Rat} (hB : 0 < B) (hB2 : B ≤ 1900) (h : QLt B q) : Pn B 1 (2 * (B + 1)) (pQ q) :=
  Pn.tup (fun x hx => by
    simp at hx
    rcases hx with rfl | rfl
    · exact .int hB hB2 h.1
    · exact .int hB hB2 h.den') (Nat.le_refl _)
theorem Pn.eqOk {B k w : Nat} {x : PyData} (h : Pn B k w x) (hk : k ≤ 64) : Dh.eqOk x = true := by
  unfold Dh.eqOk SeqAt.shaped
  rw [h.nd, h.lay, decide_eq_true (Nat.le_trans h.dep hk)]
  rfl
theorem Pn.repr {B k w : Nat} {x : PyData} {r : R} (hx : rdD r = some x) (hs : isSeq x = true) (h : Pn B k w x) (hk : k ≤ 60) (hB : 8 ≤ B) (hw : (B + 3) * w + (B + 1) ≤ 16777216) : fRepr [r] = some (.d (.str (PyData.shown x))) := by
  have h1 : reprOk x = true := by
    unfold reprOk
    have l := PyData.shown_le_bulk (B + 1) (by omega) x h.short
    have l2 := Nat.mul_le_mul_left (B + 1 + 2) h.wt
    rw [show B + 1 + 2 = B + 3 by omega] at l l2
    rw [hs, h.nd, h.sh, decide_eq_true (Nat.le_trans h.dep hk), decide_eq_true (Nat.le_trans l (Nat.le_trans (by omega) (show 16777216 ≤ sizeLine by decide)))]
    rfl
  unfold fRepr
  dsimp only
  rw [hx]
  exact if_pos h1
theorem Pn.q0 {B : Nat} {q : Rat} (hB : 0 < B) (hB2 : B ≤ 1900) (h : QLt B q) : Pn B 1 2 (pQ q) :=
  Pn.tup (B := B) (k := 0) (w := 0) (n := 2) (xs := [.int q.num, .int (q.den : Int)]) (fun x hx => by
    simp at hx
    rcases hx with rfl | rfl
    · exact .int0 hB hB2 h.1
    · exact .int0 hB hB2 h.den') (Nat.le_refl _)
theorem Pn.qs0 {B n : Nat} {l : List Rat} (hB : 0 < B) (hB2 : B ≤ 1900) (h : ∀ q ∈ l, QLt B q) (hn : l.length ≤ n) : Pn B 2 (n * 3) (pQs l) :=
  Pn.tup (k := 1) (w := 2) (fun x hx => by obtain ⟨q, hq, rfl⟩ := List.mem_map.mp hx; exact .q0 hB hB2 (h q hq)) (by rw [List.length_map]; exact hn)
structure ChOk (n : Nat) (cs : List (Nat × Rat)) : Prop where
  asc : cs.Pairwise fun a b => a.1 < b.1
  each : ∀ c ∈ cs, c.1 < n ∧ 0 < c.2 ∧ QLt 10 c.2
  one : qsum (cs.map (·.2)) = 1
  cd : ∃ S : Nat, 0 < S ∧ S < 2 ^ 9 ∧ ∀ c ∈ cs, CD S S c.2
theorem asc_len : ∀ {n : Nat} {cs : List (Nat × Rat)} (m : Nat), cs.Pairwise (fun a b => a.1 < b.1) → (∀ c ∈ cs, m ≤ c.1 ∧ c.1 < n) → cs.length ≤ n - m
  | n, [], m, _, _ => Nat.zero_le _
  | n, c :: cs, m, h, hb => by
    rw [List.pairwise_cons] at h
    have a := hb c List.mem_cons_self
    have b := asc_len (c.1 + 1) h.2 fun x hx => ⟨h.1 x hx, (hb x (List.mem_cons_of_mem _ hx)).2⟩
    rw [List.length_cons]; omega
theorem ChOk.len {n : Nat} {cs : List (Nat × Rat)} (h : ChOk n cs) : cs.length ≤ n := by
  have := asc_len 0 h.asc fun c hc => ⟨Nat.zero_le _, (h.each c hc).1⟩
  omega
end Dh
namespace Dh
open PySem PySem.Spec L2 PySem.W
def iN (k : Nat) : PyData := .int (k : Int)
theorem ints_iN : ∀ ns : List Nat, intsOf (ns.map iN) = some (ns.map fun n : Nat => (n : Int))
  | [] => rfl
  | n :: ns => by
    rw [List.map_cons]
    show (intsOf (ns.map iN)).map _ = _
    rw [ints_iN ns]
    rfl
theorem sum_cast : ∀ ns : List Nat, (ns.map fun n : Nat => (n : Int)).sum = ((ns.sum : Nat) : Int)
  | [] => rfl
  | n :: ns => by rw [List.map_cons, List.sum_cons, List.sum_cons, sum_cast ns]; omega
theorem fSum_b {ns : List Nat} : fSum [.b (ns.map iN)] = some (.d (.int ((ns.sum : Nat) : Int))) := by
  show (match rdL (.b (ns.map iN)) with | some xs => (intsOf xs).map fun is : List Int => R.d (.int is.sum) | none => none) = _
  rw [ev_rdL3]
  dsimp only
  rw [ints_iN, Option.map_some, sum_cast]
theorem sum_le {b : Nat} : ∀ ns : List Nat, (∀ n ∈ ns, n ≤ b) → ns.sum ≤ ns.length * b
  | [], _ => by simp
  | n :: ns, h => by
    have a := h n List.mem_cons_self
    have c := sum_le ns fun x hx => h x (List.mem_cons_of_mem _ hx)
    rw [List.sum_cons, List.length_cons, Nat.add_mul]; omega
theorem le_sum : ∀ {ns : List Nat} {n : Nat}, n ∈ ns → n ≤ ns.sum
  | m :: ns, n, h => by
    rw [List.sum_cons]
    rcases List.mem_cons.mp h with rfl | h
    · omega
    · have := le_sum h; omega
theorem qsum_append {a b : List Rat} : qsum (a ++ b) = qsum a + qsum b := by
  induction b using snoc_ind with
  | nil => rw [List.append_nil]; simp [qsum]; grind
  | snoc b x ih => rw [← List.append_assoc, qsum_snoc, qsum_snoc, ih]; grind
theorem divInt_add {a b S : Int} : Rat.divInt a S + Rat.divInt b S = Rat.divInt (a + b) S := by
  rw [Rat.divInt_eq_div, Rat.divInt_eq_div, Rat.divInt_eq_div, Rat.intCast_add, Rat.div_def, Rat.div_def, Rat.div_def]
  grind
theorem CD_divInt {a S : Nat} (hS : 0 < S) (h : a ≤ S) : CD S S (Rat.divInt (a : Nat) (S : Nat)) := by
  refine ⟨a, ?_, by simpa using h⟩
  have e : (S : Rat) ≠ 0 := by rw [Ne, Rat.natCast_eq_zero_iff]; omega
  rw [Rat.divInt_eq_div, Rat.div_def, Rat.intCast_natCast, Rat.intCast_natCast, Rat.mul_comm, Rat.mul_assoc, Rat.inv_mul_cancel _ e, Rat.mul_one]
theorem qsum_cons {x : Rat} {l : List Rat} : qsum (x :: l) = x + qsum l := by
  rw [show x :: l = [x] ++ l from rfl, qsum_append]
  simp [qsum]
  grind
end Dh
namespace Dh
open PySem PySem.Spec L2 PySem.W
theorem bools_true {α : Type} : ∀ l : List α, boolsOf (l.map fun _ => PyData.bool true) = some (l.map fun _ => true)
  | [] => rfl
  | x :: l => by
    rw [List.map_cons]
    show (boolsOf (l.map fun _ => PyData.bool true)).map _ = _
    rw [bools_true l]
    rfl
theorem fAll_true {α : Type} {l : List α} : fAll [.f (l.map fun _ => PyData.bool true)] = some (.d (.bool true)) := by
  show (match rdL (.f (l.map fun _ => PyData.bool true)) with | some xs => (boolsOf xs).map fun bs : List Bool => R.d (.bool (bs.all id)) | none => none) = _
  rw [ev_rdL2]
  dsimp only
  rw [bools_true, Option.map_some]
  congr 3
  rw [List.all_eq_true]
  intro x hx
  obtain ⟨_, _, rfl⟩ := List.mem_map.mp hx
  rfl
theorem cutD_tail {xs : List PyData} : cutD xs (some 1) none = xs.drop 1 := by
  unfold cutD
  have h : HT.sIx xs.length 0 (some 1) = min 1 xs.length := by
    unfold HT.sIx
    cases xs with
    | nil => simp
    | cons x xs => simp; try omega
  have h2 : HT.sIx xs.length xs.length none = xs.length := by
    unfold HT.sIx
    rfl
  rw [h, h2]
  cases xs with
  | nil => rfl
  | cons x xs =>
    have : min 1 (x :: xs).length = 1 := by rw [List.length_cons]; omega
    rw [this]
    simp
theorem numbered_map {α : Type} (f : α → PyData) (l : List α) : numbered (l.map f) = l.zipIdx.map (fun p => PyData.tuple [.int (p.2 : Nat), f p.1]) := by
  unfold numbered
  rw [List.zipIdx_map, List.map_map]
  rfl
@[simp] theorem ev_enum1 {x : R} : enum1 [x] = (itemsOf x).map numbered := rfl
end Dh
namespace WW
open PySem PySem.Spec L2 PySem.W Dh
theorem e_is_whole {i : Int} {s : Sto} : f_is_whole [.d (.int i)] s = some (.d (.bool true), s) := by
  refine WF.eq (WF.body rfl ?_)
  simp [m_is_whole]
theorem e_is_between {i lo hi : Int} {s : Sto} (h1 : lo ≤ i) (h2 : i ≤ hi) : f_is_between [.d (.int i), .d (.int lo), .d (.int hi)] s = some (.d (.bool true), s) := by
  refine WF.eq (WF.body rfl ?_)
  simp [m_is_between]
  refine WF.of e_is_whole ?_
  simp [h1, h2]
theorem e_is_tuple_of {xs : List PyData} {n : Int} {s : Sto} (h : (xs.length : Int) = n) : f_is_tuple_of [.d (.tuple xs), .d (.int n)] s = some (.d (.bool true), s) := by
  refine WF.eq (WF.body rfl ?_)
  simp [m_is_tuple_of, fEq_int, h]
theorem e_is_ratio {q : Rat} {s : Sto} : f_is_ratio [.d (pQ q)] s = some (.d (.bool true), s) := by
  refine WF.eq (WF.body rfl ?_)
  simp [m_is_ratio]
  refine WF.of (e_is_tuple_of rfl) ?_
  simp [pQ]
  refine WF.of e_is_whole ?_
  simp
  refine WF.of e_is_whole ?_
  have h := q.den_pos
  have r := q.reduced
  unfold Nat.Coprime at r
  simp [h, fEq_int, r]
end WW
namespace Dh
open PySem PySem.Spec L2 PySem.W
section
variable {ρ : Ev} {s : Sto} {i j : Nat} {QS : Out → Ev → Sto → Prop} {Q : R → Sto → Prop} {a : Mx} {as : Ma}
def par2fK (ρ : Ev) (i j : Nat) (rs : List R) : Option Ev := match rs with
  | [.f c, .f d] => some ((ρ.set i (some (.o c))).set j (some (.o d)))
  | _ => none
theorem mPar2f_eq {x : List R} {s1 : Sto} (e : as ρ s = some (x, s1)) : mPar2f i j as ρ s = (par2fK ρ i j x).map fun ρ1 => (.nx, ρ1, s1) := by
  unfold mPar2f par2fK
  rw [e]
  split
  · rename_i c d s2 e2
    cases e2
    rfl
  · rename_i h
    split
    · rename_i c d
      exact absurd rfl (h c d s1)
    · rfl
@[simp ↓] theorem ws_par2f : WS (mPar2f i j as) ρ s QS = WA as ρ s fun rs s1 => WO (par2fK ρ i j rs) fun ρ1 => QS .nx ρ1 s1 := by
  apply propext
  unfold WS WA WO
  constructor
  · rintro ⟨o, ρ', s', e, q⟩
    rcases h : as ρ s with _ | ⟨x, s1⟩
    · unfold mPar2f at e; rw [h] at e; cases e
    · rw [mPar2f_eq h] at e
      obtain ⟨ρ1, e1, e2⟩ := Option.map_eq_some_iff.mp e
      cases e2
      exact ⟨x, _, rfl, _, e1, q⟩
  · rintro ⟨x, s1, h, ρ1, e1, q⟩
    exact ⟨_, _, _, by rw [mPar2f_eq h, e1]; rfl, q⟩
@[simp] theorem par2fK_ff {x y : List PyData} : par2fK ρ i j [.f x, .f y] = some ((ρ.set i (some (.o x))).set j (some (.o y))) := rfl
def par3gK (ρ : Ev) (i j l : Nat) (rs : List R) : Option Ev := match rs with
  | [r, q, u] => match toCl r, toCl q, toCl u with
    | some c, some d, some f => some (((ρ.set i (some c)).set j (some d)).set l (some f))
    | _, _, _ => none
  | _ => none
theorem mPar3g_eq {l : Nat} {x : List R} {s1 : Sto} (e : as ρ s = some (x, s1)) : mPar3g i j l as ρ s = (par3gK ρ i j l x).map fun ρ1 => (.nx, ρ1, s1) := by
  unfold mPar3g par3gK
  rw [e]
  split
  · rename_i r q u s2 e2
    cases e2
    dsimp only
    rcases toCl r with _ | c
    · rfl
    · rcases toCl q with _ | d
      · rfl
      · rcases toCl u with _ | f
        · rfl
        · rfl
  · rename_i h
    split
    · rename_i r q u
      exact absurd rfl (h r q u s1)
    · rfl
@[simp ↓] theorem ws_par3g {l : Nat} : WS (mPar3g i j l as) ρ s QS = WA as ρ s fun rs s1 => WO (par3gK ρ i j l rs) fun ρ1 => QS .nx ρ1 s1 := by
  apply propext
  unfold WS WA WO
  constructor
  · rintro ⟨o, ρ', s', e, q⟩
    rcases h : as ρ s with _ | ⟨x, s1⟩
    · unfold mPar3g at e; rw [h] at e; cases e
    · rw [mPar3g_eq h] at e
      obtain ⟨ρ1, e1, e2⟩ := Option.map_eq_some_iff.mp e
      cases e2
      exact ⟨x, _, rfl, _, e1, q⟩
  · rintro ⟨x, s1, h, ρ1, e1, q⟩
    exact ⟨_, _, _, by rw [mPar3g_eq h, e1]; rfl, q⟩
@[simp] theorem ev_par3gK {l : Nat} {r q u : R} : par3gK ρ i j l [r, q, u] = (match toCl r, toCl q, toCl u with | some c, some d, some f => some (((ρ.set i (some c)).set j (some d)).set l (some f)) | _, _, _ => none) := rfl
/-- one item taken out -/
def popK (ρ : Ev) (i j : Nat) (k : Int) : Option Ev := match getC ρ i, getC ρ j with
  | some (.o xs), some (.o ys) => if i ≠ j ∧ xs.length < sizeLine ∧ 0 ≤ k ∧ k < 2 ^ 63 then match ys[k.toNat]? with
      | some y => some ((ρ.set j (some (.o (ys.eraseIdx k.toNat)))).set i (some (.o (xs ++ [y]))))
      | none => none
    else none
  | _, _ => none
theorem ws_appop_of {k : Int} {s1 : Sto} {ρ1 : Ev} (e : WX a ρ s fun r s2 => r = .d (.int k) ∧ s2 = s1) (h : popK ρ i j k = some ρ1) (q : QS .nx ρ1 s1) : WS (mApPop i j a) ρ s QS := by
  obtain ⟨r, s2, e1, rfl, rfl⟩ := e
  refine ⟨.nx, ρ1, s2, ?_, q⟩
  unfold mApPop
  rw [e1]
  dsimp only
  unfold popK at h
  split at h
  · rename_i xs ys hx hy
    rw [of_getC hx, of_getC hy]
    dsimp only
    split at h
    · rename_i hz
      rw [if_pos hz]
      split at h
      · rename_i y e3
        cases h
        simp [e3]
      · cases h
    · cases h
  · cases h
end
/-- the same, from what the index is -/
theorem ws_appop {ρ : Ev} {s : Sto} {i j : Nat} {QS : Out → Ev → Sto → Prop} {a : Mx} : WS (mApPop i j a) ρ s QS ↔ WX a ρ s fun r s1 => ∃ k : Int, r = .d (.int k) ∧ WO (popK ρ i j k) fun ρ1 => QS .nx ρ1 s1 := by
  constructor
  · rintro ⟨o, ρ', s', e, q⟩
    unfold mApPop at e
    split at e
    · rename_i k s1 e1
      split at e
      · rename_i xs ys hx hy
        split at e
        · rename_i hz
          split at e
          · rename_i y e3
            cases e
            refine ⟨_, _, e1, k, rfl, _, ?_, q⟩
            unfold popK
            rw [getC_of hx, getC_of hy]
            dsimp only
            rw [if_pos hz, e3]
          · cases e
        · cases e
      · cases e
    · cases e
  · rintro ⟨r, s1, e1, k, rfl, ρ1, e2, q⟩
    exact ws_appop_of ⟨_, _, e1, rfl, rfl⟩ e2 q
theorem fLrg_nat {n : Nat} (h : n ≤ 1000) : fLrg (.d (.int (n : Int))) = some (.f ((List.range n).map iN)) := by
  show (if -(2 ^ 62) ≤ (n : Int) ∧ (n : Int) ≤ 2 ^ 24 then some (R.f (rangeL 0 (n : Int).toNat)) else none) = _
  rw [if_pos ⟨by omega, by omega⟩]
  unfold rangeL
  rw [Int.toNat_natCast]
  congr 2
  exact List.map_congr_left fun i _ => by simp [iN]
theorem fMaxL_eq {r : R} {ns : List Nat} {M : Nat} (hr : rdQ r = some (ns.map iN)) (hm : M ∈ ns) (hle : ∀ k ∈ ns, k ≤ M) : fMaxL [r] = some (.d (.int (M : Int))) := by
  have e : maxI (ns.map fun n : Nat => (n : Int)) = (M : Int) := (maxI_eq (List.mem_map.mpr ⟨M, hm, rfl⟩) fun y hy => by
    obtain ⟨k, hk, rfl⟩ := List.mem_map.mp hy
    have := hle k hk
    omega).symm
  show (match rdQ r with | some xs => (match intsOf xs with | some ns => if 0 < ns.length then some (R.d (PyData.int (maxI ns))) else none | none => none) | none => none) = _
  rw [hr]
  dsimp only
  rw [ints_iN]
  dsimp only
  rw [if_pos (by rw [List.length_map]; exact List.length_pos_of_mem hm), e]
end Dh
namespace Dh
open PySem PySem.Spec L2 PySem.W
theorem cut_to {xs : List PyData} {k : Nat} : cutD xs none (some (k : Int)) = xs.take k := by
  unfold cutD
  rw [HT.sIx_none, HT.sIx_nat, List.drop_zero, Nat.sub_zero]
  by_cases h : k ≤ xs.length
  · rw [Nat.min_eq_left h]
  · rw [Nat.min_eq_right (by omega), List.take_of_length_le (by omega), List.take_of_length_le (by omega)]
theorem erase_perm {α : Type} : ∀ {l : List α} {i : Nat} {x : α}, l[i]? = some x → (x :: l.eraseIdx i).Perm l
  | [], _, _, h => by simp at h
  | y :: l, 0, x, h => by simp at h; subst h; exact List.Perm.refl _
  | y :: l, i + 1, x, h => by
    simp at h
    rw [List.eraseIdx_cons_succ]
    exact (List.Perm.swap y x _).trans ((erase_perm (by simpa using h)).cons y)
theorem erase_map {α β : Type} (f : α → β) : ∀ (l : List α) (i : Nat), (l.map f).eraseIdx i = (l.eraseIdx i).map f
  | [], _ => by simp
  | x :: l, 0 => by simp
  | x :: l, i + 1 => by simp [erase_map f l i]
theorem popK_eq {a b x4 : Option Cl} {left found : List Nat} {e : Nat} (he : e < left.length) (hl : left.length ≤ 1000) (hf : found.length ≤ 1000) :
    popK [a, b, some (.o (left.map iN)), some (.o (found.map iN)), x4] 3 2 (e : Int) = some [a, b, some (.o ((left.eraseIdx e).map iN)), some (.o ((found ++ [left.getD e 0]).map iN)), x4] := by
  have h1 : (left.map iN)[e]? = some (iN (left.getD e 0)) := by rw [List.getElem?_map, List.getD_eq_getElem?_getD, List.getElem?_eq_getElem he]; rfl
  show (if (3 : Nat) ≠ 2 ∧ (found.map iN).length < sizeLine ∧ 0 ≤ (e : Int) ∧ (e : Int) < 2 ^ 63 then (match (left.map iN)[(e : Int).toNat]? with
      | some y => some ((([a, b, some (Cl.o (left.map iN)), some (.o (found.map iN)), x4] : Ev).set 2 (some (.o ((left.map iN).eraseIdx (e : Int).toNat)))).set 3 (some (.o (found.map iN ++ [y]))))
      | none => none) else none) = _
  rw [if_pos ⟨by decide, by rw [List.length_map]; exact szlt hf, by omega, by omega⟩, Int.toNat_natCast, h1]
  simp [List.map_append, erase_map]
theorem QLt_int {k : Nat} {z : Int} (h : z.natAbs < 2 ^ k) (hk : k ≠ 0 := by decide) : QLt k (z : Rat) := ⟨by rw [Rat.num_intCast]; exact h, by rw [Rat.den_intCast]; exact Nat.one_lt_two_pow hk⟩
theorem pQ_int {z : Int} : PyData.tuple [.int z, .int 1] = pQ (z : Rat) := by simp [pQ]
/-- a gain: small, over 84 -/
def Gn (q : Rat) : Prop := QLt 70 q ∧ CD 84 (2 ^ 77) q
theorem Gn.of {q : Rat} (h : QLt 70 q) (d : (q.den : Int) ∣ 84) : Gn q := by
  refine ⟨h, ?_⟩
  obtain ⟨e, he⟩ := d
  have e0 : 0 < e := by
    have := q.den_pos
    rcases Int.lt_trichotomy e 0 with a | a | a
    · have : (q.den : Int) * e < 0 := Int.mul_neg_of_pos_of_neg (by omega) a
      omega
    · subst a; omega
    · exact a
  have eb : e ≤ 84 := by
    have := Int.mul_le_mul_of_nonneg_right (show (1 : Int) ≤ q.den by have := q.den_pos; omega) (Int.le_of_lt e0)
    omega
  refine ⟨q.num * e, ?_, ?_⟩
  · have a := El.den_mul_self q
    have b : ((84 : Nat) : Rat) = (q.den : Rat) * (e : Rat) := by
      rw [show ((84 : Nat) : Rat) = ((84 : Int) : Rat) from rfl, he, Rat.intCast_mul, Rat.intCast_natCast]
    rw [b, Rat.intCast_mul, ← a]
    grind
  · rw [Int.natAbs_mul]
    have h1 := h.1
    have h2 : e.natAbs ≤ 84 := by omega
    have := Nat.mul_le_mul (Nat.le_of_lt h1) h2
    exact Nat.le_trans this (by decide)
theorem den_dvd84 {a b : Int} (h : 0 < b) (hd : b ∣ 84) : ((Rat.divInt a b).den : Int) ∣ 84 := by
  refine Int.dvd_trans ?_ hd
  rw [divInt_den h]
  exact Int.ediv_dvd_of_dvd (Int.ofNat_dvd_left.mpr (Nat.gcd_dvd_right _ _))
theorem Gn_divInt {a b : Int} (h : 0 < b) (hd : b ∣ 84) (q : QLt 70 (Rat.divInt a b)) : Gn (Rat.divInt a b) := .of q (den_dvd84 h hd)
theorem Gn_int {z : Int} (h : z.natAbs < 2 ^ 70) : Gn (z : Rat) := .of (QLt_int h) (by rw [Rat.den_intCast]; exact ⟨84, rfl⟩)
end Dh
namespace WW
open PySem PySem.Spec L2 PySem.W Dh
theorem w_shuffled {n : Nat} {s : Sto} {m : Nat} (hn : n ≤ 100) (v : Vs (m + n) s) : WF f_law_shuffled [.s, .d (.int (n : Int))] s fun r s' => ∃ l : List Nat, r = .f (l.map iN) ∧ l.Perm (List.range n) ∧ Vs m s' := by
  refine WF.body rfl ?_
  simp [m_law_shuffled, List.replicate_succ, fLrg_nat (n := n) (by omega), range1_nat (n := n) (by omega)]
  refine WFor_inv (fun i : Nat => PyData.int i) (List.range n) (fun i ρ s' => ∃ (left found : List Nat) (x4 : Option Cl), ρ = [some .s, some (.d (.int (n : Int))), some (.o (left.map iN)), some (.o (found.map iN)), x4] ∧ left.length = n - i ∧ found.length = i ∧ (found ++ left).Perm (List.range n) ∧ Vs (m + (n - i)) s')
    ⟨List.range n, [], none, rfl, by simp, rfl, List.Perm.refl _, v⟩ ?_ ?_
  · rintro i x ρ s' hx ⟨left, found, x4, rfl, hl, hf, hp, v⟩
    obtain ⟨rfl, hi⟩ := range_at hx
    simp
    refine ws_appop.mpr ?_
    simp
    refine WF.use (w_take (m := m + (n - (x + 1))) v.mono (by omega) (by omega)) ?_
    rintro _ s1 ⟨d, rfl, g1, g2, v1⟩
    obtain ⟨e, rfl⟩ := Int.eq_ofNat_of_zero_le g1
    have he : e < left.length := by omega
    simp
    rw [popK_eq he (by omega) (by omega), WO_some]
    have hz : left[e]? = some (left.getD e 0) := by rw [List.getD_eq_getElem?_getD, List.getElem?_eq_getElem he]; rfl
    refine ⟨left.eraseIdx e, found ++ [left.getD e 0], _, rfl, by rw [List.length_eraseIdx_of_lt he]; omega, by simp [hf], ?_, v1⟩
    rw [List.append_assoc]
    exact ((erase_perm hz).append_left found).trans hp
  · rintro ρ s' ⟨left, found, x4, rfl, hl, hf, hp, v⟩
    rw [List.length_range] at hl hf v
    have : left = [] := List.eq_nil_of_length_eq_zero (by omega)
    subst this
    rw [List.append_nil] at hp
    simp
    exact ⟨found, rfl, hp, v.mono⟩
theorem w_number {s : Sto} {m : Nat} (v : Vs (m + 5) s) : WF f_law_number [.s] s fun r s' => ∃ q : Rat, r = .d (pQ q) ∧ Gn q ∧ Vs m s' := by
  have gp : gPow 10 20 = some (.int 100000000000000000000) := by
    show (if _ then _ else _) = _
    rw [if_pos (by decide)]
    rfl
  refine WF.body rfl ?_
  simp [m_law_number, List.replicate_succ]
  refine WF.use (w_take (m := m + 4) v (by decide) (by decide)) ?_
  rintro _ s1 ⟨d, rfl, h1, h2, v1⟩
  simp [fEq_int]
  have last : ∀ {s2 : Sto}, Vs (m + 1) s2 → WF f_law_take [.s, .d (.int 6)] s2 fun r s3 => ∃ d : Int, r = .d (.int d) ∧ 0 ≤ d ∧ d < 6 ∧ Vs m s3 := fun v => w_take (l := 6) v (by decide) (by decide)
  by_cases hd : d = 0
  · simp [hd]
    refine WF.use (w_take (m := m + 3) v1 (by decide) (by decide)) ?_
    rintro _ s2 ⟨t, rfl, h3, h4, v2⟩
    simp
    refine WF.use (w_take (m := m + 2) v2 (by decide) (by decide)) ?_
    rintro _ s3 ⟨u, rfl, h5, h6, v3⟩
    simp
    refine WF.of (e_frac0 (by omega) (lt_monoB (a := 6) (by omega) (by decide))) ?_
    simp
    exact ⟨_, rfl, Gn_divInt (by omega) (by
      have : u = 0 ∨ u = 1 ∨ u = 2 := by omega
      rcases this with rfl | rfl | rfl <;> decide) (QLt_divInt (by omega) (by omega) (by omega)), v3.mono⟩
  · simp [hd]
    by_cases hd1 : d = 1
    · simp [hd1, fEq_int]
      refine WF.use (w_take (m := m + 3) v1 (by decide) (by decide)) ?_
      rintro _ s2 ⟨t, rfl, h3, h4, v2⟩
      simp [fEq_int]
      by_cases ht : t = 0
      · simp [ht]
        refine WF.use (w_take (m := m + 2) v2 (by decide) (by decide)) ?_
        rintro _ s3 ⟨u, rfl, h5, h6, v3⟩
        have q1 : mulOk u 2 = true := mulOk_of (a := 2) (b := 2) (by omega) (by decide) (by decide)
        simp [gp, fMul_ok q1]
        refine WF.use (w_take (m := m + 1) v3 (by decide) (by decide)) ?_
        rintro _ s4 ⟨w, rfl, h7, h8, v4⟩
        have q2 : mulOk (u * 2 - 1) (100000000000000000000 + w) = true := mulOk_of (a := 2) (b := 68) (by omega) (by omega) (by decide)
        simp [fMul_ok q2]
        refine WF.of (e_frac0 (by decide) (by decide)) ?_
        simp
        refine ⟨_, rfl, Gn_divInt (by decide) (by decide) (QLt_divInt (by decide) ?_ (by decide)), v4.mono⟩
        have : u = 0 ∨ u = 1 := by omega
        rcases this with rfl | rfl <;> omega
      · simp [ht]
        refine WF.use (last v2.mono) ?_
        rintro _ s3 ⟨u, rfl, h5, h6, v3⟩
        simp [sz2]
        exact ⟨_, pQ_int, Gn_int (by omega), v3⟩
    · simp [hd1, fEq_int]
      refine WF.use (last v1.mono) ?_
      rintro _ s3 ⟨u, rfl, h5, h6, v3⟩
      simp [sz2]
      exact ⟨_, pQ_int, Gn_int (by omega), v3⟩
theorem w_lot {n : Nat} {s : Sto} {m : Nat} (h1 : 1 ≤ n) (h9 : n ≤ 9) (v : Vs (m + n + 1) s) : WF f_law_lot [.s, .d (.int (n : Int))] s fun r s' => ∃ ns : List Nat, r = .f (ns.map iN) ∧ ns.length = n ∧ (∀ k ∈ ns, k ≤ 3) ∧ 0 < ns.sum ∧ Vs m s' := by
  refine WF.body rfl ?_
  simp [m_law_lot, List.replicate_succ, range1_nat (n := n) (by omega)]
  refine WFor_inv (fun i : Nat => PyData.int i) (List.range n) (fun i ρ s' => ∃ (ns : List Nat) (c : Option Cl), ρ = [some .s, some (.d (.int (n : Int))), some (.o (ns.map iN)), c] ∧ ns.length = i ∧ (∀ k ∈ ns, k ≤ 3) ∧ Vs (m + 1 + (n - i)) s') ⟨[], none, rfl, rfl, by simp, v.mono⟩ ?_ ?_
  · rintro i x ρ s' hx ⟨ns, c, rfl, hl, hq, v⟩
    obtain ⟨rfl, hi⟩ := range_at hx
    simp [szle (show 6 ≤ 1000 by decide)]
    refine WF.use (w_take (m := m + 1 + (n - (x + 1))) v.mono (by decide) (by decide)) ?_
    rintro _ s1 ⟨d, rfl, g1, g2, v1⟩
    have key : ∃ k : Nat, atI [PyData.int 0, .int 1, .int 1, .int 2, .int 0, .int 3] d = some (iN k) ∧ k ≤ 3 := by
      obtain ⟨e, he, e2⟩ := atI_pick (xs := [PyData.int 0, .int 1, .int 1, .int 2, .int 0, .int 3]) g1 (by simpa using g2)
      rw [e2]
      simp at he
      rcases he with rfl | rfl | rfl | rfl | rfl | rfl <;> first | exact ⟨0, rfl, by omega⟩ | exact ⟨1, rfl, by omega⟩ | exact ⟨2, rfl, by omega⟩ | exact ⟨3, rfl, by omega⟩
    obtain ⟨k, e, hk⟩ := key
    simp [e, hl, szlt (show x ≤ 1000 by omega)]
    exact ⟨ns ++ [k], by simp, by simp [hl], fun z hz => by
      rcases List.mem_append.mp hz with h | h
      · exact hq z h
      · rw [List.mem_singleton.mp h]; exact hk, v1⟩
  · rintro ρ s' ⟨ns, c, rfl, hl, hq, v⟩
    rw [List.length_range] at hl v
    obtain ⟨M, hM, hle, e⟩ : ∃ M ∈ ns, (∀ k ∈ ns, k ≤ M) ∧ fMaxL [.b (ns.map iN)] = some (.d (.int (M : Int))) := by
      have hne : (ns.map fun n : Nat => (n : Int)).length > 0 := by rw [List.length_map]; omega
      obtain ⟨M, hM, e⟩ := List.mem_map.mp (maxI_mem hne)
      have hle : ∀ k ∈ ns, k ≤ M := fun k hk => by
        have : (k : Int) ≤ maxI (ns.map fun n : Nat => (n : Int)) := maxI_ge (k : Int) (List.mem_map.mpr ⟨k, hk, rfl⟩)
        omega
      exact ⟨M, hM, hle, fMaxL_eq rfl hM hle⟩
    simp [e, fEq_int]
    by_cases hz : M = 0
    · simp [hz]
      refine WF.use (w_take (m := m) v.mono (by omega) (by omega)) ?_
      rintro _ s1 ⟨d, rfl, g1, g2, v1⟩
      obtain ⟨e, rfl⟩ := Int.eq_ofNat_of_zero_le g1
      have he : e < ns.length := by omega
      simp [Dh.putL, ixN_ofNat (n := ns.length) he]
      refine ⟨ns.set e 1, by rw [List.map_set]; rfl, by simp [hl], fun k hk => ?_, ?_, v1⟩
      · rcases List.mem_or_eq_of_mem_set hk with h | h
        · exact hq k h
        · omega
      · have : 1 ∈ ns.set e 1 := List.mem_set he 1
        have := le_sum this
        omega
    · simp [hz]
      have := le_sum hM
      exact ⟨ns, rfl, hl, hq, by omega, v.mono⟩
end WW
namespace Dh
open PySem PySem.Spec L2 PySem.W
theorem sort_nat (l : List Nat) : ∃ T : List Nat, T.Perm l ∧ T.Pairwise (· ≤ ·) := by
  refine ⟨l.mergeSort (fun a b => decide (a ≤ b)), List.mergeSort_perm l _, ?_⟩
  have := List.pairwise_mergeSort (le := fun a b : Nat => decide (a ≤ b)) (fun a b c h1 h2 => by simp at *; omega) (fun a b => by simp; omega) l
  exact this.imp fun h => by simpa using h
theorem sortI_nat {l F : List Nat} (hp : F.Perm l) (hs : F.Pairwise (· ≤ ·)) : PySem.W.sortI (l.map fun n : Nat => (n : Int)) = F.map fun n : Nat => (n : Int) :=
  (PySem.W.eq_sortI (hp.map _) (by
    rw [List.pairwise_map]
    exact hs.imp fun h => by omega)).symm
theorem fSorted_f {l F : List Nat} (hp : F.Perm l) (hs : F.Pairwise (· ≤ ·)) : fSorted [.f (l.map iN)] = some (.f (F.map iN)) := by
  show (match rdL (.f (l.map iN)) with | some xs => (intsOf xs).map fun ns => R.f ((PySem.W.sortI ns).map PyData.int) | none => none) = _
  rw [show rdL (.f (l.map iN)) = some (l.map iN) from rfl]
  dsimp only
  rw [ints_iN, Option.map_some, sortI_nat hp hs, List.map_map]
  rfl
theorem le_lt {l : List Nat} (h : l.Pairwise (· ≤ ·)) (hn : l.Nodup) : l.Pairwise (· < ·) := by
  have := List.Pairwise.and h hn
  exact this.imp fun h => by have := h.1; have := h.2; omega
end Dh
namespace Dh
open PySem PySem.Spec L2 PySem.W
end Dh
namespace Dh
open PySem PySem.Spec L2 PySem.W
section
variable {ρ : Ev} {s : Sto} {i j : Nat} {QS : Out → Ev → Sto → Prop} {Q : R → Sto → Prop} {a : Mx} {as : Ma}
def par2gK (ρ : Ev) (i j : Nat) (rs : List R) : Option Ev := match rs with
  | [r, q] => match toCl r, toCl q with
    | some c, some d => some ((ρ.set i (some c)).set j (some d))
    | _, _ => none
  | _ => none
theorem mPar2g_eq {x : List R} {s1 : Sto} (e : as ρ s = some (x, s1)) : mPar2g i j as ρ s = (par2gK ρ i j x).map fun ρ1 => (.nx, ρ1, s1) := by
  unfold mPar2g par2gK
  rw [e]
  split
  · rename_i r q s2 e2
    cases e2
    dsimp only
    rcases toCl r with _ | c
    · rfl
    · rcases toCl q with _ | d
      · rfl
      · rfl
  · rename_i h
    split
    · rename_i r q
      exact absurd rfl (h r q s1)
    · rfl
@[simp ↓] theorem ws_par2g : WS (mPar2g i j as) ρ s QS = WA as ρ s fun rs s1 => WO (par2gK ρ i j rs) fun ρ1 => QS .nx ρ1 s1 := by
  apply propext
  unfold WS WA WO
  constructor
  · rintro ⟨o, ρ', s', e, q⟩
    rcases h : as ρ s with _ | ⟨x, s1⟩
    · unfold mPar2g at e; rw [h] at e; cases e
    · rw [mPar2g_eq h] at e
      obtain ⟨ρ1, e1, e2⟩ := Option.map_eq_some_iff.mp e
      cases e2
      exact ⟨x, _, rfl, _, e1, q⟩
  · rintro ⟨x, s1, h, ρ1, e1, q⟩
    exact ⟨_, _, _, by rw [mPar2g_eq h, e1]; rfl, q⟩
@[simp] theorem par2gK_ff {x y : List PyData} : par2gK ρ i j [.f x, .f y] = some ((ρ.set i (some (.o x))).set j (some (.o y))) := rfl
@[simp] theorem par2gK_df {x : PyData} {y : List PyData} : par2gK ρ i j [.d x, .f y] = some ((ρ.set i (some (.d x))).set j (some (.o y))) := rfl
@[simp] theorem par2gK_fd {x : List PyData} {y : PyData} : par2gK ρ i j [.f x, .d y] = some ((ρ.set i (some (.o x))).set j (some (.d y))) := rfl
@[simp] theorem par2gK_dd {x y : PyData} : par2gK ρ i j [.d x, .d y] = some ((ρ.set i (some (.d x))).set j (some (.d y))) := rfl
end
end Dh
namespace Dh
open PySem PySem.Spec L2 PySem.W
section
variable {ρ : Ev} {s : Sto} {QT : Bool → Sto → Prop} {tc ta tb : Mt}
theorem ev_mTIf : mTIf tc ta tb ρ s = (match tc ρ s with | some (true, s1) => ta ρ s1 | some (false, s1) => tb ρ s1 | none => none) := by
  unfold mTIf bnd
  rcases tc ρ s with _ | ⟨_ | _, s1⟩ <;> rfl
@[simp ↓] theorem wt_if : WT (mTIf tc ta tb) ρ s QT = WT tc ρ s fun k s1 => IfK k (WT ta ρ s1 QT) (WT tb ρ s1 QT) := by
  apply propext
  unfold WT
  rw [ev_mTIf]
  rcases tc ρ s with _ | ⟨_ | _, s1⟩ <;> simp
end
end Dh
namespace Dh
open PySem PySem.Spec L2 PySem.W
structure RS where
  st : Nat
  lo : Rat
  hi : Rat
def pRS (x : RS) : PyData := .tuple [.int (x.st : Nat), pQ x.lo, pQ x.hi]
def pStr (l : List RS) : PyData := .tuple (l.map pRS)
/-- a stretch of a row, numbers over D -/
structure EndOk (D : Nat) (x : RS) : Prop where
  s8 : x.st < 8
  l0 : 0 ≤ x.lo
  lh : x.lo ≤ x.hi
  h1 : x.hi ≤ 1
  cl : CD D (3 * D) x.lo
  ch : CD D (3 * D) x.hi
structure StOk (D : Nat) (l : List RS) : Prop where
  D0 : 0 < D
  D30 : D ≤ 30
  asc : l.Pairwise fun a b => a.st < b.st
  each : ∀ x ∈ l, EndOk D x
  low : qsum (l.map (·.lo)) ≤ 1
  high : 1 ≤ qsum (l.map (·.hi))
  n1 : 1 ≤ l.length
  n5 : l.length ≤ 5
theorem EndOk.ql {D : Nat} {x : RS} (h : EndOk D x) (h0 : 0 < D) (h30 : D ≤ 30) : QLt 10 x.lo ∧ QLt 10 x.hi :=
  ⟨h.cl.qlt h0 (Nat.lt_of_le_of_lt h30 (by decide)) (Nat.lt_of_le_of_lt (Nat.mul_le_mul_left 3 h30) (by decide)), h.ch.qlt h0 (Nat.lt_of_le_of_lt h30 (by decide)) (Nat.lt_of_le_of_lt (Nat.mul_le_mul_left 3 h30) (by decide))⟩
theorem divInt_01 {n S : Nat} (h : 0 < S) (k : n ≤ S) : 0 ≤ Rat.divInt (n : Nat) (S : Nat) ∧ Rat.divInt (n : Nat) (S : Nat) ≤ 1 := by
  have hS : (0 : Rat) < ((S : Int) : Rat) := Rat.intCast_pos.mpr (by omega)
  rw [Rat.divInt_eq_div]
  constructor
  · rw [← Rat.not_lt, Rat.div_lt_iff hS, Rat.zero_mul, Rat.not_lt]
    exact Rat.intCast_nonneg.mpr (by omega)
  · rw [← Rat.not_lt, Rat.lt_div_iff hS, Rat.one_mul, Rat.not_lt]
    exact Rat.intCast_le_intCast.mpr (by omega)
/-- what is drawn for one part -/
theorem end_of {k n S t u : Nat} (hS : 0 < S) (hn : n ≤ S) (hk : k < 8) (ht : t ≤ 2) (hu : u ≤ 2) :
    EndOk (S * 2) ⟨k, Rat.divInt (n : Nat) (S : Nat) * Rat.divInt (t : Nat) (2 : Nat), Rat.divInt (n : Nat) (S : Nat) + (1 - Rat.divInt (n : Nat) (S : Nat)) * Rat.divInt (u : Nat) (2 : Nat)⟩ ∧ Rat.divInt (n : Nat) (S : Nat) * Rat.divInt (t : Nat) (2 : Nat) ≤ Rat.divInt (n : Nat) (S : Nat) ∧ Rat.divInt (n : Nat) (S : Nat) ≤ Rat.divInt (n : Nat) (S : Nat) + (1 - Rat.divInt (n : Nat) (S : Nat)) * Rat.divInt (u : Nat) (2 : Nat) := by
  have c := CD_divInt hS hn
  have ct := CD_divInt (S := 2) (by decide) ht
  have cu := CD_divInt (S := 2) (by decide) hu
  obtain ⟨c0, c1⟩ := divInt_01 hS hn
  obtain ⟨t0, t1⟩ := divInt_01 (S := 2) (by decide) ht
  obtain ⟨u0, u1⟩ := divInt_01 (S := 2) (by decide) hu
  generalize Rat.divInt (n : Nat) (S : Nat) = C at *
  generalize Rat.divInt (t : Nat) (2 : Nat) = T at *
  generalize Rat.divInt (u : Nat) (2 : Nat) = U at *
  have a1 : C * T ≤ C := by
    have := Rat.mul_le_mul_of_nonneg_left t1 c0
    rwa [Rat.mul_one] at this
  have a0 : 0 ≤ C * T := Rat.mul_nonneg c0 t0
  have d0 : 0 ≤ 1 - C := by grind
  have b0 : 0 ≤ (1 - C) * U := Rat.mul_nonneg d0 u0
  have b1 : (1 - C) * U ≤ 1 - C := by
    have := Rat.mul_le_mul_of_nonneg_left u1 d0
    rwa [Rat.mul_one] at this
  refine ⟨⟨hk, a0, by show C * T ≤ C + (1 - C) * U; grind, by show C + (1 - C) * U ≤ 1; grind, (c.mul ct).mono (by omega), ?_⟩, a1, by grind⟩
  show CD (S * 2) (3 * (S * 2)) (C + (1 - C) * U)
  have e1 : CD S (S + S) (1 - C) := (CD_1 (Nat.le_refl S)).sub c
  have := (c.up 2).add (e1.mul cu)
  exact this.mono (by omega)
theorem end_at {k n S : Nat} (hS : 0 < S) (hn : n ≤ S) (hk : k < 8) : EndOk (S * 2) ⟨k, Rat.divInt (n : Nat) (S : Nat), Rat.divInt (n : Nat) (S : Nat)⟩ := by
  have c := CD_divInt hS hn
  obtain ⟨c0, c1⟩ := divInt_01 hS hn
  exact ⟨hk, c0, Rat.le_refl, c1, (c.up 2).mono (by omega), (c.up 2).mono (by omega)⟩
theorem end_all {k S : Nat} (hS : 0 < S) (hk : k < 8) : EndOk (S * 2) ⟨k, 0, 1⟩ := ⟨hk, Rat.le_refl, (by show (0 : Rat) ≤ 1; decide), Rat.le_refl, CD_0, CD_1 (by omega)⟩
/-- so far -/
structure StJ (T ns : List Nat) (i : Nat) (rs : List RS) : Prop where
  mem : ∀ x ∈ rs, x.st ∈ T.take i
  asc : rs.Pairwise fun a b => a.st < b.st
  each : ∀ x ∈ rs, EndOk (ns.sum * 2) x
  low : qsum (rs.map (·.lo)) ≤ qsum ((ns.take i).map fun n => Rat.divInt (n : Nat) (ns.sum : Nat))
  high : qsum ((ns.take i).map fun n => Rat.divInt (n : Nat) (ns.sum : Nat)) ≤ qsum (rs.map (·.hi))
  len : rs.length ≤ i
theorem StJ.skip {T ns : List Nat} {i : Nat} {rs : List RS} (h : StJ T ns i rs) {k : Nat} (hk : T[i]? = some k) (hn : ns[i]? = some 0) : StJ T ns (i + 1) rs := by
  have et := take_snoc hk
  have en := take_snoc hn
  have e0 : qsum ((ns.take (i + 1)).map fun n => Rat.divInt (n : Nat) (ns.sum : Nat)) = qsum ((ns.take i).map fun n => Rat.divInt (n : Nat) (ns.sum : Nat)) := by
    rw [en, List.map_append, List.map_singleton, qsum_snoc]
    rw [show Rat.divInt ((0 : Nat) : Int) (ns.sum : Nat) = 0 by simp, Rat.add_zero]
  exact ⟨fun x hx => by rw [et]; exact List.mem_append_left _ (h.mem x hx), h.asc, h.each, by rw [e0]; exact h.low, by rw [e0]; exact h.high, Nat.le_succ_of_le h.len⟩
theorem StJ.add {T ns : List Nat} (hT : T.Pairwise (· < ·)) {i : Nat} {rs : List RS} (h : StJ T ns i rs) {k n : Nat} (hk : T[i]? = some k) (hn : ns[i]? = some n) {lo hi : Rat} (e : EndOk (ns.sum * 2) ⟨k, lo, hi⟩) (h1 : lo ≤ Rat.divInt (n : Nat) (ns.sum : Nat)) (h2 : Rat.divInt (n : Nat) (ns.sum : Nat) ≤ hi) : StJ T ns (i + 1) (rs ++ [⟨k, lo, hi⟩]) := by
  have et := take_snoc hk
  have en := take_snoc hn
  have e0 : qsum ((ns.take (i + 1)).map fun n => Rat.divInt (n : Nat) (ns.sum : Nat)) = qsum ((ns.take i).map fun n => Rat.divInt (n : Nat) (ns.sum : Nat)) + Rat.divInt (n : Nat) (ns.sum : Nat) := by
    rw [en, List.map_append, List.map_singleton, qsum_snoc]
  have lt : ∀ z ∈ T.take i, z < k := fun z hz => by
    have p : (T.take (i + 1)).Pairwise (· < ·) := hT.sublist (List.take_sublist _ _)
    rw [et, List.pairwise_append] at p
    exact p.2.2 z hz k (by simp)
  refine ⟨fun x hx => ?_, ?_, fun x hx => ?_, ?_, ?_, by rw [List.length_append]; have := h.len; simp; omega⟩
  · rw [et]
    rcases List.mem_append.mp hx with hx | hx
    · exact List.mem_append_left _ (h.mem x hx)
    · rw [List.mem_singleton.mp hx]; simp
  · rw [List.pairwise_append]
    refine ⟨h.asc, by simp, fun a ha b hb => ?_⟩
    rw [List.mem_singleton.mp hb]
    exact lt _ (h.mem a ha)
  · rcases List.mem_append.mp hx with hx | hx
    · exact h.each x hx
    · rw [List.mem_singleton.mp hx]; exact e
  · rw [e0, List.map_append, List.map_singleton, qsum_snoc]
    have := h.low
    grind
  · rw [e0, List.map_append, List.map_singleton, qsum_snoc]
    have := h.high
    grind
theorem sum_divInt (S : Nat) : ∀ ns : List Nat, qsum (ns.map fun n => Rat.divInt (n : Nat) (S : Nat)) = Rat.divInt (ns.sum : Nat) (S : Nat)
  | [] => by simp [qsum]
  | n :: ns => by
    rw [List.map_cons, qsum_cons, sum_divInt S ns, divInt_add, List.sum_cons, Int.natCast_add]
end Dh
namespace Dh
open PySem PySem.Spec L2 PySem.W
/-- what is given at the places told, one after another -/
def gv {α : Type} (room : α → Rat) : Rat → List α → List (α × Rat)
  | _, [] => []
  | r, i :: is => (i, if r < room i then r else room i) :: gv room (r - if r < room i then r else room i) is
theorem gv_fst {α : Type} {room : α → Rat} : ∀ {r : Rat} {is : List α}, (gv room r is).map (·.1) = is
  | _, [] => rfl
  | r, i :: is => by simp [gv, gv_fst]
theorem gv_len {α : Type} {room : α → Rat} {r : Rat} {is : List α} : (gv room r is).length = is.length := by
  rw [← List.length_map (f := (·.1)), gv_fst]
/-- each is within its room -/
theorem gv_in {α : Type} {room : α → Rat} : ∀ {r : Rat} {is : List α}, 0 ≤ r → (∀ i ∈ is, 0 ≤ room i) → ∀ p ∈ gv room r is, 0 ≤ p.2 ∧ p.2 ≤ room p.1
  | _, [], _, _, p, hp => by simp [gv] at hp
  | r, i :: is, h0, hr, p, hp => by
    have h1 := hr i (by simp)
    rw [gv, List.mem_cons] at hp
    rcases hp with rfl | hp
    · dsimp only
      split
      · exact ⟨h0, Rat.le_of_lt (by assumption)⟩
      · exact ⟨h1, Rat.le_refl⟩
    · refine gv_in ?_ (fun j hj => hr j (List.mem_cons_of_mem _ hj)) p hp
      split <;> grind
/-- all is given where there is room -/
theorem gv_sum {α : Type} {room : α → Rat} : ∀ {r : Rat} {is : List α}, 0 ≤ r → (∀ i ∈ is, 0 ≤ room i) → r ≤ qsum (is.map room) → qsum ((gv room r is).map (·.2)) = r
  | r, [], h0, _, h => by
    simp [qsum] at h
    simp [gv, qsum]
    grind
  | r, i :: is, h0, hr, h => by
    have h1 := hr i (by simp)
    rw [List.map_cons, qsum_cons] at h
    have nn : ∀ l : List α, (∀ j ∈ l, 0 ≤ room j) → 0 ≤ qsum (l.map room) := fun l => by
      induction l with
      | nil => intro _; simp [qsum]
      | cons j l ih =>
        intro q
        rw [List.map_cons, qsum_cons]
        have := q j (by simp)
        have := ih fun j hj => q j (List.mem_cons_of_mem _ hj)
        grind
    have hn := nn is fun j hj => hr j (List.mem_cons_of_mem _ hj)
    rw [gv, List.map_cons, qsum_cons, gv_sum (by split <;> grind) (fun j hj => hr j (List.mem_cons_of_mem _ hj)) (by split <;> grind)]
    grind
/-- none is better: the places stand by worth, the greatest first -/
theorem gv_best {α : Type} {room w : α → Rat} (e : α → Rat) : ∀ {r s c : Rat} {is : List α}, 0 ≤ r → r ≤ s → (∀ i ∈ is, 0 ≤ room i ∧ 0 ≤ e i ∧ e i ≤ room i ∧ w i ≤ c) → is.Pairwise (fun i j => w j ≤ w i) → qsum (is.map e) = s →
    qsum (is.map fun i => w i * e i) - qsum ((gv room r is).map fun p => w p.1 * p.2) ≤ c * (s - r)
  | r, s, c, [], h0, hs, _, _, q => by
    simp [qsum] at q
    simp [gv, qsum]
    have : r = 0 := by grind
    subst this
    subst q
    simp
    grind
  | r, s, c, i :: is, h0, hs, hi, hp, q => by
    obtain ⟨a1, a2, a3, a4⟩ := hi i (by simp)
    rw [List.pairwise_cons] at hp
    rw [List.map_cons, qsum_cons] at q
    have nn : ∀ l : List α, (∀ j ∈ l, 0 ≤ e j) → 0 ≤ qsum (l.map e) := fun l => by
      induction l with
      | nil => intro _; simp [qsum]
      | cons j l ih =>
        intro q
        rw [List.map_cons, qsum_cons]
        have := q j (by simp)
        have := ih fun j hj => q j (List.mem_cons_of_mem _ hj)
        grind
    have hn := nn is fun j hj => (hi j (List.mem_cons_of_mem _ hj)).2.1
    have key : ∀ d : Rat, d = (if r < room i then r else room i) → 0 ≤ r - d ∧ r - d ≤ s - e i := fun d hd => by
      subst hd
      split <;> grind
    rw [gv, List.map_cons, List.map_cons, qsum_cons, qsum_cons]
    dsimp only
    generalize hd : (if r < room i then r else room i) = d
    obtain ⟨k1, k2⟩ := key d hd.symm
    have ih := gv_best e (room := room) (w := w) (r := r - d) (s := s - e i) (c := w i) (is := is) k1 k2 (fun j hj => by
      obtain ⟨b1, b2, b3, _⟩ := hi j (List.mem_cons_of_mem _ hj)
      exact ⟨b1, b2, b3, hp.1 j hj⟩) hp.2 (by grind)
    have m : w i * (s - r) ≤ c * (s - r) := Rat.mul_le_mul_of_nonneg_right a4 (by grind)
    grind
/-- all but one stand at an end -/
theorem gv_ends {α : Type} {room : α → Rat} : ∀ {r : Rat} {is : List α}, 0 ≤ r → (∀ i ∈ is, 0 ≤ room i) → is ≠ [] → ∃ f ∈ is, ∀ p ∈ gv room r is, p.1 ≠ f → p.2 = 0 ∨ p.2 = room p.1
  | r, [], _, _, h => absurd rfl h
  | r, i :: is, h0, hr, _ => by
    by_cases h : r < room i
    · refine ⟨i, by simp, fun p hp hne => ?_⟩
      rw [gv, List.mem_cons] at hp
      rcases hp with rfl | hp
      · exact absurd rfl hne
      · rw [if_pos h, show r - r = 0 by grind] at hp
        have z : ∀ (l : List α), (∀ j ∈ l, 0 ≤ room j) → ∀ p ∈ gv room 0 l, p.2 = 0 := fun l => by
          induction l with
          | nil => intro _ p hp; simp [gv] at hp
          | cons j l ih =>
            intro q p hp
            have := q j (by simp)
            have e0 : (if (0 : Rat) < room j then (0 : Rat) else room j) = 0 := by split <;> grind
            rw [gv, e0, show (0 : Rat) - 0 = 0 by grind, List.mem_cons] at hp
            rcases hp with rfl | hp
            · rfl
            · exact ih (fun j hj => q j (List.mem_cons_of_mem _ hj)) p hp
        exact .inl (z is (fun j hj => hr j (List.mem_cons_of_mem _ hj)) p hp)
    · cases is with
      | nil =>
        refine ⟨i, by simp, fun p hp hne => ?_⟩
        rw [gv, List.mem_cons] at hp
        rcases hp with rfl | hp
        · exact absurd rfl hne
        · simp [gv] at hp
      | cons j is =>
        obtain ⟨f, hf, q⟩ := gv_ends (room := room) (r := r - room i) (is := j :: is) (by grind) (fun j hj => hr j (List.mem_cons_of_mem _ hj)) (by simp)
        refine ⟨f, List.mem_cons_of_mem _ hf, fun p hp hne => ?_⟩
        rw [gv, if_neg h, List.mem_cons] at hp
        rcases hp with rfl | hp
        · exact .inr rfl
        · exact q p hp hne
/-- first by worth, then by place -/
def Bef (u : Nat → Rat) (i j : Nat) : Prop := u j < u i ∨ (u i = u j ∧ i < j)
theorem Bef.trans {u : Nat → Rat} {i j k : Nat} (h : Bef u i j) (g : Bef u j k) : Bef u i k := by
  rcases h with h | ⟨h, h'⟩
  · rcases g with g | ⟨g, g'⟩
    · exact .inl (by grind)
    · exact .inl (by grind)
  · rcases g with g | ⟨g, g'⟩
    · exact .inl (by grind)
    · exact .inr ⟨by grind, by omega⟩
theorem Bef.irr {u : Nat → Rat} {i : Nat} (h : Bef u i i) : False := by
  rcases h with h | ⟨_, h⟩
  · grind
  · omega
theorem Bef.of {u : Nat → Rat} {i j : Nat} (h : i ≠ j) : Bef u i j ∨ Bef u j i := by
  by_cases a : u j < u i
  · exact .inl (.inl a)
  · by_cases b : u i < u j
    · exact .inr (.inl b)
    · have e : u i = u j := by grind
      rcases Nat.lt_or_gt_of_ne h with c | c
      · exact .inl (.inr ⟨e, c⟩)
      · exact .inr (.inr ⟨e.symm, c⟩)
theorem Bef.le {u : Nat → Rat} {i j : Nat} (h : Bef u i j) : u j ≤ u i := by
  rcases h with h | ⟨h, _⟩
  · exact Rat.le_of_lt h
  · rw [h]; exact Rat.le_refl
/-- one way to stand in order -/
theorem sorted_unique {α : Type} {R : α → α → Prop} (tr : ∀ a b c, R a b → R b c → R a c) (ir : ∀ a, ¬ R a a) : ∀ {l m : List α}, l.Pairwise R → m.Pairwise R → (∀ x, x ∈ l ↔ x ∈ m) → l = m
  | [], [], _, _, _ => rfl
  | [], y :: m, _, _, h => absurd ((h y).mpr (by simp)) (by simp)
  | x :: l, [], _, _, h => absurd ((h x).mp (by simp)) (by simp)
  | x :: l, y :: m, hl, hm, h => by
    rw [List.pairwise_cons] at hl hm
    have e : x = y := by
      have hx := (h x).mp (by simp)
      have hy := (h y).mpr (by simp)
      rcases List.mem_cons.mp hx with e | hx
      · exact e
      · rcases List.mem_cons.mp hy with e | hy
        · exact e.symm
        · exact absurd (tr _ _ _ (hm.1 x hx) (hl.1 y hy)) (ir y)
    subst e
    refine congrArg (x :: ·) (sorted_unique tr ir hl.2 hm.2 fun z => ?_)
    constructor
    · intro hz
      rcases List.mem_cons.mp ((h z).mp (List.mem_cons_of_mem _ hz)) with e | hz'
      · subst e; exact absurd (hl.1 z hz) (ir z)
      · exact hz'
    · intro hz
      rcases List.mem_cons.mp ((h z).mpr (List.mem_cons_of_mem _ hz)) with e | hz'
      · subst e; exact absurd (hm.1 z hz) (ir z)
      · exact hz'
/-- put in at its place, those that stand ahead being counted -/
theorem insert_sorted {α : Type} {R : α → α → Prop} [DecidableRel R] (tr : ∀ a b c, R a b → R b c → R a c) {x : α} : ∀ {l : List α}, l.Pairwise R → (∀ y ∈ l, R y x ∨ R x y) → (∀ y ∈ l, R x y → ¬ R y x) →
    ((l.take (l.filter fun y => decide (R y x)).length ++ x :: l.drop (l.filter fun y => decide (R y x)).length).Pairwise R)
  | [], _, _, _ => by simp
  | y :: l, hl, hx, hn => by
    rw [List.pairwise_cons] at hl
    have ih := insert_sorted tr (x := x) hl.2 (fun z hz => hx z (List.mem_cons_of_mem _ hz)) (fun z hz => hn z (List.mem_cons_of_mem _ hz))
    by_cases h : R y x
    · rw [List.filter_cons, if_pos (by simpa using h), List.length_cons, List.take_succ_cons, List.drop_succ_cons, List.cons_append, List.pairwise_cons]
      refine ⟨fun z hz => ?_, ih⟩
      rcases List.mem_append.mp hz with hz | hz
      · exact hl.1 z (List.mem_of_mem_take hz)
      · rcases List.mem_cons.mp hz with rfl | hz
        · exact h
        · exact hl.1 z (List.mem_of_mem_drop hz)
    · have hxy : R x y := (hx y (by simp)).resolve_left h
      have none : ∀ z ∈ l, ¬ R z x := fun z hz q => hn z (List.mem_cons_of_mem _ hz) (tr _ _ _ hxy (hl.1 z hz)) q
      have e : (List.filter (fun y => decide (R y x)) (y :: l)).length = 0 := by
        rw [List.length_eq_zero_iff, List.filter_eq_nil_iff]
        intro z hz
        rcases List.mem_cons.mp hz with rfl | hz
        · simpa using h
        · simpa using none z hz
      rw [e, List.take_zero, List.drop_zero, List.nil_append, List.pairwise_cons, List.pairwise_cons]
      exact ⟨fun z hz => by
        rcases List.mem_cons.mp hz with rfl | hz
        · exact hxy
        · exact tr _ _ _ hxy (hl.1 z hz), hl.1, hl.2⟩
end Dh
namespace WW
open PySem PySem.Spec L2 PySem.W Dh
theorem w_stretches {L : Nat} {s : Sto} {m : Nat} (hL1 : 1 ≤ L) (hL5 : L ≤ 5) (v : Vs (m + 60) s) : WF f_law_stretches [.s, .d (.int 8), .d (.int (L : Int))] s fun r s' => ∃ (D : Nat) (l : List RS), r = .d (pStr l) ∧ StOk D l ∧ Vs m s' := by
  have hLm : ¬ (8 : Int) < (L : Int) := by omega
  have hL : (if (8 : Int) > (L : Int) then (L : Int) else (8 : Int)) = (L : Int) := by
    rw [if_pos (by omega)]
  simp only [gt_iff_lt] at hL
  refine WF.body rfl ?_
  simp [m_law_stretches, List.replicate_succ, fMin2, hL]
  refine WF.use (w_shuffled (n := 8) (m := m + 50) (by omega) v.mono) ?_
  rintro _ s1 ⟨l, rfl, hp, v1⟩
  simp
  refine WF.use (w_take (l := (L : Int)) (m := m + 49) v1.mono (by omega) (by omega)) ?_
  rintro _ s2 ⟨a, rfl, a1, a2, v2⟩
  simp
  refine WF.use (w_take (l := (L : Int)) (m := m + 48) v2.mono (by omega) (by omega)) ?_
  rintro _ s3 ⟨b, rfl, b1, b2, v3⟩
  obtain ⟨k, hk, k1, k3⟩ : ∃ k : Nat, 1 + (if b > a then b else a) = (k : Int) ∧ 1 ≤ k ∧ k ≤ L := by
    by_cases h : b > a
    · exact ⟨(1 + b).toNat, by rw [if_pos h]; omega, by omega, by omega⟩
    · exact ⟨(1 + a).toNat, by rw [if_neg h]; omega, by omega, by omega⟩
  simp only [gt_iff_lt] at hk
  have ll : l.length = 8 := by rw [hp.length_eq, List.length_range]
  obtain ⟨T, tp, ts⟩ := sort_nat (l.take k)
  have tl : T.length = k := by rw [tp.length_eq, List.length_take]; omega
  have tn : T.Nodup := tp.nodup_iff.mpr ((hp.nodup_iff.mpr List.nodup_range).sublist (List.take_sublist k l))
  have tr : ∀ x ∈ T, x < 8 := fun x hx => List.mem_range.mp (hp.mem_iff.mp (List.mem_of_mem_take (tp.mem_iff.mp hx)))
  have tlt := le_lt ts tn
  simp [fMax2, hk, fSl, cut_to]
  rw [← List.map_take, fSorted_f tp ts]
  simp
  refine WF.use (w_lot (n := T.length) (m := m + 30) (by omega) (by omega) v3.mono) ?_
  rintro _ s4 ⟨ns, rfl, nl, nq, nsum, v4⟩
  have h2 := sum_le ns nq
  have h3 : ns.sum ≤ 15 := by omega
  simp
  refine WF.use (w_take (l := 6) (m := m + 29) v4.mono (by decide) (by decide)) ?_
  rintro _ s5 ⟨w, rfl, w0, w1, v5⟩
  simp [fSum_b, frzs, frz1, pairs_map]
  refine WFor_inv (p2 iN iN) (T.zip ns) (fun i ρ s' => ∃ (rs : List RS) (c9 c10 c11 c12 c13 : Option Cl), ρ = [some .s, some (.d (.int 8)), some (.d (.int (L : Int))), some (.d (.int (L : Int))), some (.d (.list (T.map iN))), some (.d (.list (ns.map iN))), some (.d (.int w)), some (.o (rs.map pRS)), some (.d (.int (ns.sum : Int))), c9, c10, c11, c12, c13] ∧ StJ T ns i rs ∧ Vs (m + 10 + 2 * (T.length - i)) s') ⟨[], none, none, none, none, none, by simp, ⟨by simp, by simp, by simp, by simp [qsum], by simp [qsum], by simp⟩, v5.mono⟩ ?_ ?_
  · rintro i ⟨k, n⟩ ρ s' hz ⟨rs, c9, c10, c11, c12, c13, rfl, j, v⟩
    rw [List.getElem?_zip_eq_some] at hz
    obtain ⟨hk, hn⟩ := hz
    have hi : i < T.length := (List.getElem?_eq_some_iff.mp hk).1
    have hk8 := tr k (List.mem_of_getElem? hk)
    have hnS : n ≤ ns.sum := le_sum (List.mem_of_getElem? hn)
    have hn3 := nq n (List.mem_of_getElem? hn)
    have hlen := j.len
    have bS : QLt 100 (Rat.divInt (n : Nat) (ns.sum : Nat)) := (end_at (k := k) nsum hnS hk8).ql (by omega) (by omega) |>.1.mono (by decide)
    have h01 := divInt_01 nsum hnS
    simp [p2, iN]
    refine WF.of (e_frac0 (by omega) (lt_monoB (a := 10) (by omega) (by decide))) ?_
    simp [fEq_int]
    by_cases hw0 : w = 0
    · subst hw0
      by_cases n0 : 0 < n
      · simp [n0, fEq_int, sz3, szlt (show rs.length ≤ 1000 by omega)]
        exact ⟨rs ++ [⟨k, _, _⟩], by simp [pRS], j.add tlt hk hn (end_at nsum hnS hk8) Rat.le_refl Rat.le_refl, v.mono⟩
      · simp [n0, fEq_int]
        have e0 : n = 0 := by omega
        subst e0
        exact ⟨rs, rfl, j.skip hk hn, v.mono⟩
    · by_cases hw1 : w = 1
      · simp [hw1, sz2, sz3, szlt (show rs.length ≤ 1000 by omega), fEq_int]
        exact ⟨rs ++ [⟨k, 0, 1⟩], by simp [pRS]; exact ⟨rfl, rfl⟩, j.add tlt hk hn (end_all nsum hk8) h01.1 h01.2, v.mono⟩
      · simp [hw0, hw1, show 1 < w by omega, fEq_int]
        refine WF.use (w_take (l := 3) (m := m + 10 + 2 * (T.length - (i + 1)) + 1) v.mono (by decide) (by decide)) ?_
        rintro _ s6 ⟨t, rfl, t0, t1, v6⟩
        obtain ⟨t, rfl⟩ := Int.eq_ofNat_of_zero_le t0
        simp
        refine WF.of (e_frac0 (by omega) (by decide)) ?_
        simp
        refine WF.of (e_ltimes (bS.bd) (QLt.bd (k := 10) (QLt_divInt (by omega) (by omega) (by omega)))) ?_
        simp [sz2]
        refine WF.of (e_lminus (p := 1) (q := Rat.divInt (n : Nat) (ns.sum : Nat)) (QLt.bd (k := 10) (CD_1 (D := 1) (M := 1) (by decide) |>.qlt (by decide) (by decide) (by decide))) (bS.bd)) ?_
        simp
        refine WF.use (w_take (l := 3) (m := m + 10 + 2 * (T.length - (i + 1))) v6.mono (by decide) (by decide)) ?_
        rintro _ s7 ⟨u, rfl, u0, u1, v7⟩
        obtain ⟨u, rfl⟩ := Int.eq_ofNat_of_zero_le u0
        simp
        refine WF.of (e_frac0 (by omega) (by decide)) ?_
        simp
        obtain ⟨eo, eo1, eo2⟩ := end_of (k := k) (n := n) (S := ns.sum) (t := t) (u := u) nsum hnS hk8 (by omega) (by omega)
        have bC : QLt 101 (1 - Rat.divInt (n : Nat) (ns.sum : Nat)) := ((CD_1 (Nat.le_refl ns.sum)).sub (CD_divInt nsum hnS)).qlt nsum (by omega) (by omega)
        have bU : QLt 10 (Rat.divInt (u : Nat) (2 : Nat)) := QLt_divInt (by omega) (by omega) (by omega)
        have cU := ((CD_1 (Nat.le_refl ns.sum)).sub (CD_divInt nsum hnS)).mul (CD_divInt (S := 2) (a := u) (by decide) (by omega))
        refine WF.of (e_ltimes (p := 1 - Rat.divInt (n : Nat) (ns.sum : Nat)) (q := Rat.divInt (u : Nat) (2 : Nat)) bC.bd bU.bd) ?_
        simp
        refine WF.of (e_lplus (p := Rat.divInt (n : Nat) (ns.sum : Nat)) (q := (1 - Rat.divInt (n : Nat) (ns.sum : Nat)) * Rat.divInt (u : Nat) (2 : Nat)) bS.bd (QLt.bd (k := 100) (cU.qlt (by omega) (by omega) (by omega)))) ?_
        simp [sz3, szlt (show rs.length ≤ 1000 by omega)]
        exact ⟨rs ++ [⟨k, Rat.divInt (n : Nat) (ns.sum : Nat) * Rat.divInt (t : Nat) (2 : Nat), Rat.divInt (n : Nat) (ns.sum : Nat) + (1 - Rat.divInt (n : Nat) (ns.sum : Nat)) * Rat.divInt (u : Nat) (2 : Nat)⟩], by simp [pRS], j.add tlt hk hn eo eo1 eo2, v7⟩
  · rintro ρ s' ⟨rs, c9, c10, c11, c12, c13, rfl, j, v⟩
    have zl : (T.zip ns).length = T.length := by rw [List.length_zip]; omega
    rw [zl] at j
    have et : ns.take T.length = ns := List.take_of_length_le (by omega)
    have one : qsum (ns.map fun n => Rat.divInt (n : Nat) (ns.sum : Nat)) = 1 := by
      rw [sum_divInt]; exact Rat.divInt_self' (by omega)
    have j1 := j.low
    have j2 := j.high
    have j3 := j.len
    rw [et, one] at j1 j2
    simp
    refine ⟨ns.sum * 2, rs, rfl, ⟨by omega, by omega, j.asc, j.each, j1, j2, ?_, by omega⟩, v.mono⟩
    cases rs with
    | nil => simp [qsum] at j2; exact absurd j2 (by decide)
    | cons x l => simp
theorem atI_lst {xs : List PyData} {x : PyData} {ys : List PyData} (e : xs = ys ++ [x]) : atI xs (-1) = some x := by
  subst e
  unfold atI
  rw [show ixN (ys ++ [x]).length (-1) = some ys.length by
    unfold ixN
    simp
    omega]
  simp
theorem w_some_worths {D : Nat} {l : List RS} {s : Sto} {m : Nat} (o : StOk D l) (v : Vs (m + 60) s) : WF f_law_some_worths [.s, .d (pStr l)] s fun r s' => ∃ ws : List Rat, r = .d (pQs ws) ∧ (∀ x ∈ l, x.st < ws.length) ∧ ws.length ≤ 8 ∧ (∀ q ∈ ws, Gn q) ∧ Vs m s' := by
  obtain ⟨ys, x, el⟩ : ∃ ys x, l = ys ++ [x] := by
    have : l ≠ [] := by have := o.n1; intro h; rw [h] at this; simp at this
    exact ⟨l.dropLast, l.getLast this, (List.dropLast_concat_getLast this).symm⟩
  have x8 : x.st < 8 := (o.each x (by rw [el]; simp)).s8
  have lx : ∀ y ∈ l, y.st ≤ x.st := fun y hy => by
    have p := o.asc
    rw [el, List.pairwise_append] at p
    rw [el] at hy
    rcases List.mem_append.mp hy with hy | hy
    · exact Nat.le_of_lt (p.2.2 y hy x (by simp))
    · rw [List.mem_singleton.mp hy]; exact Nat.le_refl _
  have ea : atI (l.map pRS) (-1) = some (pRS x) := atI_lst (ys := ys.map pRS) (by rw [el]; simp)
  refine WF.body rfl ?_
  simp [m_law_some_worths, List.replicate_succ, pStr, fNeg, ea]
  simp [pRS]
  refine WF.use (w_take (l := 9 - ((x.st : Int) + 1)) (m := m + 59) v (by omega) (by omega)) ?_
  rintro _ s1 ⟨t, rfl, t0, t1, v1⟩
  obtain ⟨n, hn⟩ : ∃ n : Nat, (x.st : Int) + 1 + t = (n : Int) := ⟨((x.st : Int) + 1 + t).toNat, by omega⟩
  simp [hn]
  refine WF.use (w_take (l := 2) (m := m + 58) v1.mono (by omega) (by omega)) ?_
  rintro _ s2 ⟨fl, rfl, f0, f1, v2⟩
  have er : range1 [.d (.int (n : Int))] = some ((List.range n).map fun i => PyData.int (i : Nat)) := range1_nat (n := n) (by omega)
  simp [fEq_int, er]
  refine WFor_inv (fun i : Nat => PyData.int i) (List.range n) (fun i ρ s' => ∃ (ws : List Rat) (c6 : Option Cl), ρ = [some .s, some (.d (.tuple (l.map pRS))), some (.d (.int ((x.st : Int) + 1))), some (.o (ws.map pQ)), some (.d (.int (n : Int))), some (.d (.bool (decide (fl = 0)))), c6] ∧ ws.length = i ∧ (∀ q ∈ ws, Gn q) ∧ Vs (m + 5 * (n - i)) s') ⟨[], none, rfl, rfl, by simp, v2.mono⟩ ?_ ?_
  · rintro i z ρ s' hz ⟨ws, c6, rfl, wl, wq, v⟩
    obtain ⟨rfl, hi⟩ := range_at hz
    simp
    by_cases hf : fl = 0
    · simp [hf]
      refine WF.use (w_take (l := 3) (m := m + 5 * (n - (z + 1))) v.mono (by omega) (by omega)) ?_
      rintro _ s3 ⟨d, rfl, d0, d1, v3⟩
      simp [sz2, wl, szlt (show z ≤ 1000 by omega)]
      exact ⟨ws ++ [(d : Rat)], by simp; exact pQ_int, by simp [wl], fun q hq => by
        rcases List.mem_append.mp hq with hq | hq
        · exact wq q hq
        · rw [List.mem_singleton.mp hq]; exact Gn_int (by omega), v3⟩
    · simp [hf]
      refine WF.use (w_number (m := m + 5 * (n - (z + 1))) v.mono) ?_
      rintro _ s3 ⟨q, rfl, hq, v3⟩
      simp [wl, szlt (show z ≤ 1000 by omega)]
      exact ⟨ws ++ [q], by simp, by simp [wl], fun y hy => by
        rcases List.mem_append.mp hy with hy | hy
        · exact wq y hy
        · rw [List.mem_singleton.mp hy]; exact hq, v3⟩
  · rintro ρ s' ⟨ws, c6, rfl, wl, wq, v⟩
    rw [List.length_range] at wl
    simp
    refine ⟨ws, rfl, fun y hy => ?_, by omega, wq, v.mono⟩
    have := lx y hy
    omega
end WW
namespace WW
open PySem PySem.Spec L2 PySem.W Dh
section
variable {s : Sto} {D : Nat} {l : List RS}
theorem e_is_end {q : Rat} (h0 : 0 ≤ q) (h1 : q ≤ 1) : f_is_end [.d (pQ q)] s = some (.d (.bool true), s) := by
  have a : 0 ≤ q.num := Rat.num_nonneg.mpr h0
  have b : q.num ≤ (q.den : Int) := by
    have := (Rat.le_iff q 1).mp h1
    simpa using this
  refine WF.eq (WF.body rfl ?_)
  simp [m_is_end]
  refine WF.of e_is_ratio ?_
  simp [pQ, h0, b]
theorem e_is_stretch {x : RS} (o : EndOk D x) (h0 : 0 < D) (h30 : D ≤ 30) : f_is_stretch [.d (pRS x), .d (.int 8)] s = some (.d (.bool true), s) := by
  obtain ⟨q1, q2⟩ := o.ql h0 h30
  have s8 := o.s8
  refine WF.eq (WF.body rfl ?_)
  simp [m_is_stretch, pRS]
  refine WF.of (e_is_tuple_of rfl) ?_
  simp
  refine WF.of (e_is_between (by omega) (by omega)) ?_
  simp
  refine WF.of (e_is_end o.l0 (Rat.le_trans o.lh o.h1)) ?_
  simp
  refine WF.of (e_is_end (Rat.le_trans o.l0 o.lh) o.h1) ?_
  simp
  refine WF.of (e_is_less q2.bd q1.bd) ?_
  simp [Rat.not_lt.mpr o.lh]
theorem StOk.lows (o : StOk D l) : (∀ q ∈ l.map (·.lo), QLt 10 q) ∧ (∀ q ∈ l.map (·.hi), QLt 10 q) := by
  constructor
  · intro q hq
    obtain ⟨x, hx, rfl⟩ := List.mem_map.mp hq
    exact ((o.each x hx).ql o.D0 o.D30).1
  · intro q hq
    obtain ⟨x, hx, rfl⟩ := List.mem_map.mp hq
    exact ((o.each x hx).ql o.D0 o.D30).2
theorem e_are_stretches (o : StOk D l) : f_are_stretches [.d (pStr l), .d (.int 8)] s = some (.d (.bool true), s) := by
  have n5 := o.n5
  obtain ⟨ql, qh⟩ := StOk.lows o
  have b1 : QLt 10 1 := (CD_1 (D := 1) (M := 1) (by decide)).qlt (by decide) (by decide) (by decide)
  refine WF.eq (WF.body rfl ?_)
  simp [m_are_stretches, List.replicate_succ, pStr, fIsi, isA, isN, tyName]
  refine WLc_map pRS (fun _ => PyData.bool true) l (fun x hx => ?_) ?_
  · simp
    exact WF.of (e_is_stretch (o.each x hx) o.D0 o.D30) (by simp)
  refine ⟨szle (by rw [List.length_map]; omega), ?_⟩
  simp [fAll_true]
  refine WLc_map pRS (fun c => PyData.int (c.st : Nat)) l (fun x hx => ?_) ?_
  · simp [pRS]
  refine ⟨szle (by rw [List.length_map]; omega), ?_⟩
  simp [frzs, frz1, fSl, cutD_tail]
  rw [← List.map_tail, pairs_map]
  refine WLc_map (p2 (fun c : RS => PyData.int (c.st : Nat)) (fun c : RS => PyData.int (c.st : Nat))) (fun _ => PyData.bool true) (l.zip l.tail) (fun x hx => ?_) ?_
  · have : x.1.st < x.2.st := by
      obtain ⟨i, hi⟩ := List.getElem?_of_mem hx
      rw [List.getElem?_zip_eq_some, List.getElem?_tail] at hi
      obtain ⟨g1, g2⟩ := List.getElem?_eq_some_iff.mp hi.1
      obtain ⟨g3, g4⟩ := List.getElem?_eq_some_iff.mp hi.2
      rw [← g2, ← g4]
      exact List.pairwise_iff_getElem.mp o.asc i (i + 1) g1 g3 (by omega)
    simp [p2, this]
  refine ⟨szle (by rw [List.length_map, List.length_zip]; omega), ?_⟩
  simp [fAll_true]
  refine WLc_map pRS (fun c => pQ c.lo) l (fun x hx => ?_) ?_
  · simp [pRS]
  refine ⟨szle (by rw [List.length_map]; omega), ?_⟩
  simp
  refine WF.of (e_total (l := l.map (·.lo)) (k := 10) (by rw [List.map_map]; rfl) ql (by rw [List.length_map]; omega)) ?_
  simp
  refine WLc_map pRS (fun c => pQ c.hi) l (fun x hx => ?_) ?_
  · simp [pRS]
  refine ⟨szle (by rw [List.length_map]; omega), ?_⟩
  simp
  refine WF.of (e_total (l := l.map (·.hi)) (k := 10) (by rw [List.map_map]; rfl) qh (by rw [List.length_map]; omega)) ?_
  simp
  have sl := qsum_lt ql
  have sh := qsum_lt qh
  rw [List.length_map] at sl sh
  refine WF.of (e_is_less (p := 1) b1.bd (sl.bd (by omega))) ?_
  simp [Rat.not_lt.mpr o.low]
  refine WF.of (e_is_less (q := 1) (sh.bd (by omega)) b1.bd) ?_
  simp [Rat.not_lt.mpr o.high]
theorem e_check_stretches (o : StOk D l) : f_check_stretches [.d (pStr l)] s = some (.d .none, s) := by
  refine WF.eq (WF.body rfl ?_)
  simp [m_check_stretches]
  exact WF.of (e_are_stretches o) (by simp)
end
end WW
namespace Dh
open PySem PySem.Spec L2
section
variable {ρ : Ev} {s : Sto} {i : Nat} {QS : Out → Ev → Sto → Prop} {Q : R → Sto → Prop} {a ix ma mb : Mx} {as : Ma}
@[simp] theorem ev_rdCl_m {acc : List (Key × PyData)} : rdCl (.m acc) = .n acc := rfl
@[simp] theorem ev_toArgD_n {acc : List (Key × PyData)} : toArgD (.n acc) = some (.d (dOf acc)) := rfl
@[simp] theorem ev_toArgD_d {x : PyData} : toArgD (.d x) = some (.d x) := rfl
@[simp] theorem ev_toArgD_s : toArgD .s = some .s := rfl
@[simp] theorem ev_toArgDs0 : toArgDs [] = some [] := rfl
@[simp] theorem ev_toArgDs1 {x : R} {rs : List R} : toArgDs (x :: rs) = (match toArgD x, toArgDs rs with | some x, some xs => some (x :: xs) | _, _ => none) := rfl
@[simp] theorem ev_fLenM {acc : List (Key × PyData)} : fLenM [.n acc] = some (.d (.int acc.length)) := rfl
@[simp] theorem ev_fIxM {acc : List (Key × PyData)} {k : Int} : fIxM (.n acc) (.d (.int k)) = (valP acc (.inl k)).map R.d := rfl
@[simp] theorem ev_fInM {acc : List (Key × PyData)} {k : Int} {neg : Bool} : fInM neg (.d (.int k)) (.n acc) = some (.d (.bool (if neg then !(valP acc (.inl k)).isSome else (valP acc (.inl k)).isSome))) := rfl
@[simp] theorem ev_frg0 : frgM [] = [] := rfl
@[simp] theorem ev_frgD {x : PyData} : frgM (some (.d x) :: ρ) = some (.d x) :: frgM ρ := rfl
@[simp] theorem ev_frgO {x : List PyData} : frgM (some (.o x) :: ρ) = some (.o x) :: frgM ρ := rfl
@[simp] theorem ev_frgS : frgM (some .s :: ρ) = some .s :: frgM ρ := rfl
@[simp] theorem ev_frgM {acc : List (Key × PyData)} : frgM (some (.m acc) :: ρ) = none :: frgM ρ := rfl
@[simp] theorem ev_frgN : frgM (none :: ρ) = none :: frgM ρ := rfl
def ownM (c : Cl) : Option (List (Key × PyData)) := match c with | .m acc => some acc | _ => none
@[simp] theorem ownM_m {acc : List (Key × PyData)} : ownM (.m acc) = some acc := rfl
@[simp] theorem keyP_i {k : Int} : keyP (.d (.int k)) = some (.inl k) := rfl
@[simp ↓] theorem ws_setDc {it : Mi} {vs : List Nat} {g : Gx} {t : Mt} {ek ev : Mx} : WS (mSetDc i it vs g t ek ev) ρ s QS = WI it ρ s fun xs s1 => WDc vs g t ek ev xs [] ρ s1 fun acc s2 => QS .nx (ρ.set i (some (.m acc))) s2 := by
  apply propext
  unfold WS WDc WI mSetDc
  rcases it ρ s with _ | ⟨xs, s1⟩
  · simp
  · dsimp only
    rcases h : dcRun vs g t ek ev xs [] ρ s1 with _ | ⟨acc, s2⟩ <;> simp [h]
@[simp ↓] theorem ws_putM : WS (mPutM i ix a) ρ s QS = WX a ρ s fun r s1 => WX ix ρ s1 fun rk s2 => WO (getC ρ i) fun c => WO (ownM c) fun acc => WO (keyP rk) fun k => WO (toD r) fun x => acc.length < sizeLine ∧ WO (some ((frgM ρ).set i (some (.m (putP acc k x))))) fun ρ1 => QS .nx ρ1 s2 := by
  apply propext
  unfold WS WX WO mPutM
  rcases a ρ s with _ | ⟨r, s1⟩
  · simp
  · dsimp only
    rcases hi : ix ρ s1 with _ | ⟨z, s2⟩
    · simp [hi]
    · constructor
      · rintro ⟨o, ρ', s', e, q⟩
        dsimp only at e
        split at e
        · rename_i acc k x e1 e2 e3
          split at e
          · rename_i hz
            cases e
            exact ⟨r, s1, rfl, z, s2, hi, _, getC_of e1, acc, rfl, k, e2, x, e3, hz, _, rfl, q⟩
          · cases e
        · cases e
      · rintro ⟨r', s1', h1, z', s2', h2, c, hc, acc, ha, k, hk, x, hx, hz, ρ1, hρ, q⟩
        cases h1
        rw [hi] at h2; cases h2
        cases hρ
        have g := of_getC hc
        cases c with
        | m acc' =>
          cases ha
          exact ⟨_, _, _, by simp only [g, hk, hx, if_pos hz], q⟩
        | d _ => cases ha
        | o _ => cases ha
        | s => cases ha
@[simp ↓] theorem wx_callD {g : Fx} : WX (mCallD g as) ρ s Q = WA as ρ s fun rs s1 => WO (toArgDs rs) fun cs => WF g cs s1 fun r s2 => ∃ x, r = .d x ∧ flatD x = true ∧ Q r s2 := by
  apply propext
  unfold WX WA WO WF mCallD
  rw [ev_bnd]
  rcases as ρ s with _ | ⟨x, s1⟩
  · simp
  · dsimp only
    rcases h : toArgDs x with _ | cs
    · simp [h]
    · dsimp only
      rcases hg : g cs s1 with _ | ⟨r, s2⟩
      · simp [h, hg]
      · constructor
        · rintro ⟨r', s', e, q⟩
          cases r with
          | d y =>
            dsimp only at e
            split at e
            · rename_i hf
              cases e
              exact ⟨x, s1, rfl, cs, h, _, _, hg, y, rfl, hf, q⟩
            · cases e
          | _ => cases e
        · rintro ⟨x', s1', h1, cs', h2, r', s', h3, y, e, hf, q⟩
          cases h1
          rw [h] at h2; cases h2
          rw [hg] at h3; cases h3
          subst e
          exact ⟨_, _, by dsimp only; rw [if_pos hf], q⟩
end
end Dh
namespace Dh
open PySem PySem.Spec L2 PySem.W
/-- how much a stand is wanted -/
def uW (g : Bool) (ws : List Rat) (st : Nat) : Rat := if g = true then ws.getD st 0 else -(ws.getD st 0)
@[simp ↓] theorem wx_newM {ρ : Ev} {s : Sto} {Q : R → Sto → Prop} : WX mNewM ρ s Q = Q (.m []) s := by
  unfold WX mNewM
  apply propext
  constructor
  · rintro ⟨r, s', e, q⟩
    cases e; exact q
  · intro q
    exact ⟨_, _, rfl, q⟩
theorem atI_w {ws : List Rat} {k : Nat} (hk : k < ws.length) : atI (ws.map pQ) (k : Int) = some (pQ (ws.getD k 0)) := by
  rw [atI_ofNat (by rw [List.length_map]; exact hk), List.getElem?_map, List.getD_eq_getElem?_getD, List.getElem?_eq_getElem hk]; rfl
theorem uW_lt {g : Bool} {ws : List Rat} {a b : Nat} : uW g ws a < uW g ws b ↔ (if g = true then ws.getD a 0 < ws.getD b 0 else ws.getD b 0 < ws.getD a 0) := by
  unfold uW
  cases g
  · simp
  · simp
def BefS (g : Bool) (ws : List Rat) (a b : RS) : Prop := Bef (uW g ws) a.st b.st
/-- the one wanted most -/
def IsNx (g : Bool) (ws : List Rat) (L : List RS) (y : RS) : Prop := y ∈ L ∧ ∀ z ∈ L, z.st ≠ y.st → BefS g ws y z
end Dh
namespace WW
open PySem PySem.Spec L2 PySem.W Dh
section
variable {s : Sto} {D : Nat} {l : List RS}
theorem w_next_of {ws : List Rat} {g : Bool} {x : RS} {xs : List RS} (hst : ∀ y ∈ x :: xs, y.st < ws.length) (asc : (x :: xs).Pairwise fun a b => a.st < b.st) (hw : ∀ q ∈ ws, QLt 70 q) (hl : (x :: xs).length ≤ 8) :
    WF f_next_of [.d (.list ((x :: xs).map pRS)), .d (pQs ws), .d (.bool g)] s fun r s' => s' = s ∧ ∃ y, r = .d (pRS y) ∧ IsNx g ws (x :: xs) y := by
  refine WF.body rfl ?_
  simp [m_next_of, List.replicate_succ, fSl, cutD_tail]
  refine WFor_inv pRS xs (fun i ρ s' => s' = s ∧ ∃ (y : RS) (c4 c5 c6 : Option Cl), ρ = [some (.d (.list (pRS x :: xs.map pRS))), some (.d (pQs ws)), some (.d (.bool g)), some (.d (pRS y)), c4, c5, c6] ∧ IsNx g ws (x :: xs.take i) y) ⟨rfl, x, none, none, none, rfl, List.mem_cons_self, fun z hz hne => ?_⟩ ?_ ?_
  · simp at hz
    subst hz
    exact absurd rfl hne
  · rintro i e ρ s' he ⟨rfl, y, c4, c5, c6, rfl, hy, hb⟩
    have ht := take_snoc he
    have hem := List.mem_of_getElem? he
    have up : ∀ z ∈ x :: xs.take i, z ∈ x :: xs := fun z hz => by
      rcases List.mem_cons.mp hz with rfl | hz
      · exact List.mem_cons_self
      · exact List.mem_cons_of_mem _ (List.mem_of_mem_take hz)
    have lt : ∀ z ∈ x :: xs.take i, z.st < e.st := fun z hz => by
      have p : (x :: xs.take (i + 1)).Pairwise fun a b => a.st < b.st := asc.sublist ((List.take_sublist _ _).cons₂ _)
      rw [ht, ← List.cons_append, List.pairwise_append] at p
      exact p.2.2 z hz e (by simp)
    have wy := hst y (up y hy)
    have we := hst e (List.mem_cons_of_mem _ hem)
    have e1 := atI_w we
    have e2 := atI_w wy
    have q1 := hw (ws.getD e.st 0) (by rw [List.getD_eq_getElem?_getD, List.getElem?_eq_getElem we]; exact List.getElem_mem we)
    have q2 := hw (ws.getD y.st 0) (by rw [List.getD_eq_getElem?_getD, List.getElem?_eq_getElem wy]; exact List.getElem_mem wy)
    have stay : ¬ uW g ws y.st < uW g ws e.st → IsNx g ws (x :: xs.take (i + 1)) y := fun hn => by
      rw [ht]
      refine ⟨by simp at hy ⊢; rcases hy with h | h <;> simp [h], fun z hz hne => ?_⟩
      rw [← List.cons_append] at hz
      rcases List.mem_append.mp hz with hz | hz
      · exact hb z hz hne
      · rw [List.mem_singleton.mp hz]
        by_cases h2 : uW g ws e.st < uW g ws y.st
        · exact .inl h2
        · exact .inr ⟨by grind, lt y hy⟩
    have go : uW g ws y.st < uW g ws e.st → IsNx g ws (x :: xs.take (i + 1)) e := fun hn => by
      rw [ht]
      refine ⟨by simp, fun z hz hne => ?_⟩
      rw [← List.cons_append] at hz
      rcases List.mem_append.mp hz with hz | hz
      · by_cases hzy : z.st = y.st
        · left; rw [hzy]; exact hn
        · have := Bef.le (hb z hz hzy)
          left; grind
      · rw [List.mem_singleton.mp hz] at hne; exact absurd rfl hne
    simp [pRS, pQs, e1, e2, -List.getD_eq_getElem?_getD]
    cases g
    · simp [-List.getD_eq_getElem?_getD]
      refine WF.of (e_is_less q1.bd q2.bd) ?_
      by_cases h : ws.getD e.st 0 < ws.getD y.st 0
      · simp [h, -List.getD_eq_getElem?_getD]
        exact ⟨e, ⟨rfl, rfl, rfl⟩, go (by rw [uW_lt]; simpa using h)⟩
      · simp [h, -List.getD_eq_getElem?_getD]
        exact ⟨y, ⟨rfl, rfl, rfl⟩, stay (by rw [uW_lt]; simpa using h)⟩
    · simp [-List.getD_eq_getElem?_getD]
      refine WF.of (e_is_less q2.bd q1.bd) ?_
      by_cases h : ws.getD y.st 0 < ws.getD e.st 0
      · simp [h, -List.getD_eq_getElem?_getD]
        exact ⟨e, ⟨rfl, rfl, rfl⟩, go (by rw [uW_lt]; simpa using h)⟩
      · simp [h, -List.getD_eq_getElem?_getD]
        exact ⟨y, ⟨rfl, rfl, rfl⟩, stay (by rw [uW_lt]; simpa using h)⟩
  · rintro ρ s' ⟨rfl, y, c4, c5, c6, rfl, hy, hb⟩
    rw [List.take_length] at hy hb
    simp
    exact ⟨y, rfl, hy, hb⟩
end
end WW
namespace Dh
open PySem PySem.Spec L2 PySem.W
@[simp] theorem ev_toCl_m {acc : List (Key × PyData)} : toCl (.m acc) = some (.m acc) := rfl
def roomS (x : RS) : Rat := x.hi - x.lo
/-- what is left -/
def rr {α : Type} (room : α → Rat) : Rat → List α → Rat
  | r, [] => r
  | r, i :: is => rr room (r - if r < room i then r else room i) is
theorem gv_append {α : Type} {room : α → Rat} : ∀ {r : Rat} {P Q : List α}, gv room r (P ++ Q) = gv room r P ++ gv room (rr room r P) Q
  | r, [], Q => rfl
  | r, i :: is, Q => by
    rw [List.cons_append, gv, gv, rr, gv_append, List.cons_append]
theorem rr_snoc {α : Type} {room : α → Rat} : ∀ {r : Rat} {P : List α} {x : α}, rr room r (P ++ [x]) = rr room r P - (if rr room r P < room x then rr room r P else room x)
  | r, [], x => rfl
  | r, i :: is, x => by
    rw [List.cons_append, rr, rr, rr_snoc]
theorem rr_cd {α : Type} {room : α → Rat} {D E : Nat} : ∀ {r : Rat} {M : Nat} {P : List α}, CD D M r → (∀ x ∈ P, CD D E (room x)) → CD D (M + E * P.length) (rr room r P)
  | r, M, [], h, _ => by simpa [rr] using h
  | r, M, x :: P, h, hr => by
    rw [rr]
    have := rr_cd (room := room) (D := D) (E := E) (r := r - if r < room x then r else room x) (M := M + E) (P := P) (by
      split
      · rw [show r - r = 0 by grind]; exact CD_0
      · exact h.sub (hr x (by simp))) (fun y hy => hr y (List.mem_cons_of_mem _ hy))
    refine this.mono ?_
    rw [List.length_cons, Nat.mul_add]
    omega
/-- what stands at a stand -/
def atS (gl : List (RS × Rat)) (st : Nat) : Rat := match gl.find? fun p => decide (p.1.st = st) with
  | some p => p.1.lo + p.2
  | none => 0
def accS (gl : List (RS × Rat)) : List (Key × PyData) := gl.map fun p => (.inl ((p.1.st : Nat) : Int), pQ (p.1.lo + p.2))
theorem accS_val {gl : List (RS × Rat)} {st : Nat} (h : ∃ p ∈ gl, p.1.st = st) : valP (accS gl) (.inl (st : Int)) = some (pQ (atS gl st)) := by
  induction gl with
  | nil => obtain ⟨p, hp, _⟩ := h; simp at hp
  | cons q gl ih =>
    by_cases e : q.1.st = st
    · subst e
      simp [valP, accS, atS]
    · have h' : ∃ p ∈ gl, p.1.st = st := by
        obtain ⟨p, hp, e2⟩ := h
        rcases List.mem_cons.mp hp with rfl | hp
        · exact absurd e2 e
        · exact ⟨p, hp, e2⟩
      have := ih h'
      have ne : ¬ ((Sum.inl ((q.1.st : Nat) : Int) : Key) = .inl (st : Int)) := fun z => by
        injection z with z; omega
      have a : atS (q :: gl) st = atS gl st := by simp [atS, e]
      have b : valP (accS (q :: gl)) (.inl (st : Int)) = valP (accS gl) (.inl (st : Int)) := by
        simp only [valP, accS, List.map_cons, List.find?_cons, decide_eq_false ne]
      rw [a, b, this]
theorem accS_put {gl : List (RS × Rat)} {x : RS} {d : Rat} (h : ∀ p ∈ gl, p.1.st ≠ x.st) : putP (accS gl) (.inl (x.st : Int)) (pQ (x.lo + d)) = accS (gl ++ [(x, d)]) := by
  unfold putP
  have : ((accS gl).any fun p => decide (p.1 = .inl (x.st : Int))) = false := by
    rw [List.any_eq_false]
    intro p hp
    obtain ⟨q, hq, rfl⟩ := List.mem_map.mp hp
    simp only [decide_eq_true_eq]
    intro z
    injection z with z
    exact h q hq (by omega)
  rw [if_neg (by rw [this]; simp)]
  simp [accS]
theorem gv_mem {α : Type} {room : α → Rat} {r : Rat} {P : List α} {p : α × Rat} (h : p ∈ gv room r P) : p.1 ∈ P := by
  have : p.1 ∈ (gv room r P).map (·.1) := List.mem_map_of_mem h
  rwa [gv_fst] at this
/-- so far in the filling -/
structure FlJ (g : Bool) (ws : List Rat) (l P L : List RS) : Prop where
  srt : P.Pairwise (BefS g ws)
  bef : ∀ p ∈ P, ∀ q ∈ L, BefS g ws p q
  sub : L.Sublist l
  all : ∀ x, x ∈ l ↔ x ∈ P ∨ x ∈ L
  len : P.length + L.length ≤ l.length
theorem FlJ.next {g : Bool} {ws : List Rat} {l P L : List RS} (j : FlJ g ws l P L) (asc : l.Pairwise fun a b => a.st < b.st) {y : RS} (h : IsNx g ws L y) : FlJ g ws l (P ++ [y]) (L.filter fun z => decide (z.st ≠ y.st)) := by
  have inj : ∀ a ∈ l, ∀ b ∈ l, a.st = b.st → a = b := fun a ha b hb e => by
    obtain ⟨i, hi, rfl⟩ := List.getElem_of_mem ha
    obtain ⟨k, hk, rfl⟩ := List.getElem_of_mem hb
    rcases Nat.lt_trichotomy i k with c | c | c
    · have := List.pairwise_iff_getElem.mp asc i k hi hk c; omega
    · subst c; rfl
    · have := List.pairwise_iff_getElem.mp asc k i hk hi c; omega
  have hyl := j.sub.subset h.1
  refine ⟨?_, fun p hp q hq => ?_, List.filter_sublist.trans j.sub, fun x => ?_, ?_⟩
  · rw [List.pairwise_append]
    exact ⟨j.srt, by simp, fun a ha b hb => by rw [List.mem_singleton.mp hb]; exact j.bef a ha y h.1⟩
  · rw [List.mem_filter, decide_eq_true_eq] at hq
    rcases List.mem_append.mp hp with hp | hp
    · exact j.bef p hp q hq.1
    · rw [List.mem_singleton.mp hp]; exact h.2 q hq.1 hq.2
  · rw [j.all x, List.mem_append, List.mem_singleton, List.mem_filter, decide_eq_true_eq]
    constructor
    · rintro (h1 | h1)
      · exact .inl (.inl h1)
      · by_cases e : x.st = y.st
        · exact .inl (.inr (inj x (j.sub.subset h1) y hyl e))
        · exact .inr ⟨h1, e⟩
    · rintro ((h1 | rfl) | h1)
      · exact .inl h1
      · exact .inr h.1
      · exact .inr h1.1
  · have hp : (L.filter fun z => decide (z.st ≠ y.st)).length < L.length := List.length_filter_lt_length_iff_exists.mpr ⟨y, h.1, by simp⟩
    rw [List.length_append, List.length_singleton]
    have := j.len
    omega
def rest0 (l : List RS) : Rat := 1 - qsum (l.map (·.lo))
/-- the filling, as it is told -/
def flT (l P : List RS) : PyData := .tuple (l.filterMap fun x => if atS (gv roomS (rest0 l) P) x.st = 0 then none else some (.tuple [.int (x.st : Nat), pQ (atS (gv roomS (rest0 l) P) x.st)]))
theorem StOk.asc_ne {D : Nat} {l : List RS} (o : StOk D l) {g : Bool} {ws : List Rat} {a b : RS} (ha : BefS g ws a b) : a.st ≠ b.st := fun e => by
  unfold BefS at ha
  rw [e] at ha
  exact Bef.irr ha
end Dh
namespace WW
open PySem PySem.Spec L2 PySem.W Dh
section
variable {s : Sto} {D : Nat} {l : List RS}
theorem StOk.rooms (o : StOk D l) : ∀ x ∈ l, CD D (6 * D) (roomS x) ∧ 0 ≤ roomS x := fun x hx => by
  have e := o.each x hx
  refine ⟨(e.ch.sub e.cl).mono (by omega), ?_⟩
  have := e.lh
  unfold roomS
  grind
theorem StOk.rest (o : StOk D l) : CD D (16 * D) (rest0 l) ∧ 0 ≤ rest0 l := by
  have h := o.low
  constructor
  · have c := CD_sum_le (D := D) (M := 3 * D) (n := 5) (l := l.map (·.lo)) (fun q hq => by
      obtain ⟨x, hx, rfl⟩ := List.mem_map.mp hq
      exact (o.each x hx).cl) (by rw [List.length_map]; exact o.n5)
    exact ((CD_1 (Nat.le_refl D)).sub c).mono (by omega)
  · unfold rest0; grind
theorem w_filled_by {ws : List Rat} {g : Bool} (o : StOk D l) (hst : ∀ y ∈ l, y.st < ws.length) (hw : ∀ q ∈ ws, QLt 70 q) :
    WF f_filled_by [.d (pStr l), .d (pQs ws), .d (.bool g)] s fun r s' => s' = s ∧ ∃ P, r = .d (flT l P) ∧ FlJ g ws l P [] := by
  have n5 := o.n5
  have D0 := o.D0
  have D30 := o.D30
  obtain ⟨ql, qh⟩ := StOk.lows o
  obtain ⟨rc, r0⟩ := StOk.rest o
  have rooms := StOk.rooms o
  have b1 : QLt 10 1 := (CD_1 (D := 1) (M := 1) (by decide)).qlt (by decide) (by decide) (by decide)
  have sl := qsum_lt ql
  rw [List.length_map] at sl
  have k1 : k_ONE = pQ 1 := rfl
  have k0 : k_ZERO = pQ 0 := rfl
  refine WF.body rfl ?_
  simp [m_filled_by, List.replicate_succ, pStr, fLstOf, szle (show l.length ≤ 1000 by omega)]
  refine WLc_map pRS (fun c => pQ c.lo) l (fun x hx => ?_) ?_
  · simp [pRS]
  refine ⟨szle (by rw [List.length_map]; omega), ?_⟩

  simp [k1]

  refine WF.of (e_total (l := l.map (·.lo)) (k := 10) (by rw [List.map_map]; rfl) ql (by rw [List.length_map]; omega)) ?_
  simp
  rw [k1]
  have hm := e_minus (s := s) (p := 1) (q := qsum (l.map (·.lo))) b1.bd (sl.bd (by omega))
  refine WF.of hm ?_
  clear hm
  rw [show 1 - qsum (l.map (·.lo)) = rest0 l from rfl]
  simp
  refine WWh_inv (fun n ρ s' => s' = s ∧ ∃ (P L : List RS) (c3 : Cl) (c6 c7 c8 c9 c10 c11 : Option Cl), ρ = [some (.d (.tuple (l.map pRS))), some (.d (pQs ws)), some (.d (.bool g)), some c3, some (.d (pQ (rr roomS (rest0 l) P))), some (.m (accS (gv roomS (rest0 l) P))), c6, c7, c8, c9, c10, c11] ∧ c3 = .o (L.map pRS) ∧ FlJ g ws l P L ∧ n = L.length) l.length ⟨rfl, [], l, _, none, none, none, none, none, none, rfl, rfl, ⟨by simp, by simp, List.Sublist.refl _, by simp, by simp⟩, rfl⟩ ?_
  rintro n ρ s' ⟨rfl, P, L, c3, c6, c7, c8, c9, c10, c11, rfl, rfl, j, rfl⟩
  have hlen := j.len
  cases L with
  | nil =>
    simp
    have inP : ∀ x ∈ l, ∃ p ∈ gv roomS (rest0 l) P, p.1.st = x.st := fun x hx => by
      have hp := ((j.all x).mp hx).resolve_right (by simp)
      have e : x ∈ (gv roomS (rest0 l) P).map (·.1) := by rw [gv_fst]; exact hp
      obtain ⟨p, hp2, rfl⟩ := List.mem_map.mp e
      exact ⟨p, hp2, rfl⟩
    refine WLc_opt pRS (fun x => if atS (gv roomS (rest0 l) P) x.st = 0 then none else some (.tuple [.int (x.st : Nat), pQ (atS (gv roomS (rest0 l) P) x.st)])) l (fun x hx => ?_) ?_
    · have ev := accS_val (inP x hx)
      simp [pRS, ev]
      rw [k0, fEq_pQ]
      by_cases h : atS (gv roomS (rest0 l) P) x.st = 0
      · simp [h]
      · simp [h, ev, sz2]
    refine ⟨szle (Nat.le_trans (List.length_filterMap_le _ _) (by omega)), ?_⟩
    simp
    exact ⟨P, rfl, j⟩
  | cons x L =>
    simp [frzs, frz1]
    refine WF.use (w_next_of (g := g) (x := x) (xs := L) (ws := ws) (fun y hy => hst y (j.sub.subset hy)) (o.asc.sublist j.sub) hw (by simp at hlen ⊢; omega)) ?_
    rintro _ s1 ⟨rfl, y, rfl, hy⟩
    have hyl := j.sub.subset hy.1
    obtain ⟨q1, q2⟩ := (o.each y hyl).ql D0 D30
    obtain ⟨rcd, rnn⟩ := rooms y hyl
    have jn := j.next o.asc hy
    have rP := rr_cd (room := roomS) (D := D) (E := 6 * D) (P := P) rc (fun z hz => (rooms z ((j.all z).mpr (.inl hz))).1)
    have hPl : P.length ≤ 5 := by omega
    have e30 : 16 * D + 6 * D * P.length < 2 ^ 20 := by
      have := Nat.mul_le_mul (Nat.mul_le_mul_left 6 D30) hPl
      omega
    have qr : QLt 20 (rr roomS (rest0 l) P) := rP.qlt D0 (by omega) e30
    have qm : QLt 20 (roomS y) := rcd.qlt D0 (by omega) (by omega)
    have nin : ∀ p ∈ gv roomS (rest0 l) P, p.1.st ≠ y.st := fun p hp e => by
      have := j.bef p.1 (gv_mem hp) y hy.1
      exact StOk.asc_ne o this e
    simp [pRS, frzs, frz1]
    refine WLc_opt pRS (fun z => if z.st = y.st then none else some (pRS z)) (x :: L) (fun z hz => ?_) ?_
    · simp [pRS, fEq_int]
      by_cases h : z.st = y.st
      · simp [h]
      · simp [h, show ¬ (z.st : Int) = (y.st : Int) by omega]
    have efm : ((x :: L).filterMap fun z => if z.st = y.st then none else some (pRS z)) = ((x :: L).filter fun z => decide (z.st ≠ y.st)).map pRS := by
      generalize x :: L = M
      induction M with
      | nil => rfl
      | cons a M ih =>
        rw [List.filterMap_cons, List.filter_cons]
        by_cases h : a.st = y.st
        · simp [h, ih]
        · simp [h, ih]
    rw [efm]
    have lf : ((x :: L).filter fun z => decide (z.st ≠ y.st)).length ≤ (x :: L).length := List.length_filter_le _ _
    have lf2 : ((x :: L).filter fun z => decide (z.st ≠ y.st)).length < (x :: L).length := List.length_filter_lt_length_iff_exists.mpr ⟨y, hy.1, by simp⟩
    generalize hM : (x :: L).filter (fun z => decide (z.st ≠ y.st)) = M at *
    refine ⟨szle (by rw [List.length_map]; omega), ?_⟩
    have em := fun s => e_minus (s := s) q2.bd q1.bd
    have el := fun s => e_is_less (s := s) qr.bd qm.bd
    rw [show y.hi - y.lo = roomS y from rfl] at em
    simp
    refine WF.of (em _) ?_
    simp
    refine WF.of (el _) ?_
    have snoc := rr_snoc (room := roomS) (r := rest0 l) (P := P) (x := y)
    have gsn : gv roomS (rest0 l) (P ++ [y]) = gv roomS (rest0 l) P ++ [(y, if rr roomS (rest0 l) P < roomS y then rr roomS (rest0 l) P else roomS y)] := by rw [gv_append]; rfl
    have accl : (accS (gv roomS (rest0 l) P)).length ≤ 1000 := by unfold accS; rw [List.length_map, gv_len]; omega
    by_cases h : rr roomS (rest0 l) P < roomS y
    · rw [if_pos h] at snoc gsn
      have put := accS_put (x := y) (d := rr roomS (rest0 l) P) nin
      have e3 := fun s => e_minus (s := s) qr.bd qr.bd
      have e4 := fun s => e_plus (s := s) q1.bd qr.bd
      simp [h]
      refine WF.of (e3 _) ?_
      simp
      refine WF.of (e4 _) ?_
      simp [put, szlt accl]
      rw [← snoc, ← gsn]
      exact ⟨M.length, by simpa using lf2, P ++ [y], M, _, ⟨rfl, rfl, rfl, _, _, rfl⟩, rfl, jn, rfl⟩
    · rw [if_neg h] at snoc gsn
      have put := accS_put (x := y) (d := roomS y) nin
      have e3 := fun s => e_minus (s := s) qr.bd qm.bd
      have e4 := fun s => e_plus (s := s) q1.bd qm.bd
      simp [h]
      refine WF.of (em _) ?_
      simp
      refine WF.of (e3 _) ?_
      simp
      refine WF.of (e4 _) ?_
      simp [put, szlt accl]
      rw [← snoc, ← gsn]
      exact ⟨M.length, by simpa using lf2, P ++ [y], M, _, ⟨rfl, rfl, rfl, _, _, rfl⟩, rfl, jn, rfl⟩
end
end WW
namespace WW
open PySem PySem.Spec L2 PySem.W Dh
section
variable {s : Sto} {D : Nat} {l : List RS}
theorem StOk.last (o : StOk D l) : ∃ ys x, l = ys ++ [x] ∧ atI (l.map pRS) (-1) = some (pRS x) := by
  have : l ≠ [] := by have := o.n1; intro h; rw [h] at this; simp at this
  refine ⟨l.dropLast, l.getLast this, (List.dropLast_concat_getLast this).symm, atI_lst (ys := l.dropLast.map pRS) ?_⟩
  rw [← List.map_singleton, ← List.map_append, List.dropLast_concat_getLast this]
theorem w_filled {ws : List Rat} {g : Bool} (o : StOk D l) (hst : ∀ y ∈ l, y.st < ws.length) (h8 : ws.length ≤ 8) (hw : ∀ q ∈ ws, QLt 70 q) :
    WF f_filled [.d (pStr l), .d (pQs ws), .d (.bool g)] s fun r s' => s' = s ∧ ∃ P, r = .d (flT l P) ∧ FlJ g ws l P [] := by
  obtain ⟨ys, x, el, ea⟩ := StOk.last o
  have hx := hst x (by rw [el]; simp)
  refine WF.body rfl ?_
  simp [m_filled, List.replicate_succ]
  refine WF.of (e_check_stretches o) ?_
  simp [pQs, fIsi, isA, isN, tyName, pStr, fNeg, ea]
  simp [pRS, k_MOST_STANDS, show (x.st : Int) < (ws.length : Int) by omega, show (ws.length : Int) ≤ 8 by omega]
  simp [numbered_map]
  refine WFor_inv (fun p : Rat × Nat => PyData.tuple [.int (p.2 : Nat), pQ p.1]) ws.zipIdx (fun i ρ s' => s' = s ∧ ∃ c d, ρ = [some (.d (.tuple (l.map pRS))), some (.d (.tuple (ws.map pQ))), some (.d (.bool g)), c, d]) ⟨rfl, _, _, rfl⟩ ?_ ?_
  · rintro i p ρ s' hp ⟨rfl, c, d, rfl⟩
    simp
    exact WF.of e_is_ratio (by simp)
  · rintro ρ s' ⟨rfl, c, d, rfl⟩
    simp [fIsi, isA, isN, tyName]
    refine WF.use (w_filled_by (g := g) o hst hw) ?_
    rintro r s1 ⟨rfl, P, rfl, j⟩
    simp
    exact ⟨P, rfl, j⟩
end
end WW
namespace Dh
open PySem PySem.Spec L2
section
variable {ρ : Ev} {s : Sto} {i : Nat} {QS : Out → Ev → Sto → Prop} {as : Ma}
def insK (ρ : Ev) (i : Nat) (rs : List R) : Option Ev := match rs with
  | [.d (.int k), r] => match toD r, ρ[i]? with
    | some z, some (some (.o xs)) => if xs.length < sizeLine ∧ 0 ≤ k ∧ k < 2 ^ 63 then some (ρ.set i (some (.o (xs.take k.toNat ++ [z] ++ xs.drop k.toNat)))) else none
    | _, _ => none
  | _ => none
theorem mIns_eq {x : List R} {s1 : Sto} (e : as ρ s = some (x, s1)) : mIns i as ρ s = (insK ρ i x).map fun ρ1 => (.nx, ρ1, s1) := by
  unfold mIns insK
  rw [e]
  rcases x with _ | ⟨a, _ | ⟨b, _ | ⟨c, l⟩⟩⟩
  · rfl
  · cases a with
    | d y => cases y <;> rfl
    | _ => rfl
  · cases a with
    | d y =>
      cases y with
      | int k =>
        dsimp only
        cases toD b with
        | none => rfl
        | some z =>
          cases ρ[i]? with
          | none => rfl
          | some oc =>
            cases oc with
            | none => rfl
            | some c =>
              cases c with
              | o xs => dsimp only; split <;> rfl
              | _ => rfl
      | _ => rfl
    | _ => rfl
  · cases a with
    | d y => cases y <;> rfl
    | _ => rfl
@[simp ↓] theorem ws_ins : WS (mIns i as) ρ s QS = WA as ρ s fun rs s1 => WO (insK ρ i rs) fun ρ1 => QS .nx ρ1 s1 := by
  apply propext
  unfold WS WA WO
  constructor
  · rintro ⟨o, ρ', s', e, q⟩
    rcases h : as ρ s with _ | ⟨x, s1⟩
    · unfold mIns at e; rw [h] at e; cases e
    · rw [mIns_eq h] at e
      obtain ⟨ρ1, e1, e2⟩ := Option.map_eq_some_iff.mp e
      cases e2
      exact ⟨x, _, rfl, _, e1, q⟩
  · rintro ⟨x, s1, h, ρ1, e1, q⟩
    exact ⟨_, _, _, by rw [mIns_eq h, e1]; rfl, q⟩
theorem insK_eq {k : Nat} {r : R} {z : PyData} {xs : List PyData} (hz : toD r = some z) (hx : ρ[i]? = some (some (.o xs))) (hl : xs.length ≤ 1000) (hk : k ≤ 1000) : insK ρ i [.d (.int (k : Int)), r] = some (ρ.set i (some (.o (xs.take k ++ z :: xs.drop k)))) := by
  unfold insK
  dsimp only
  rw [hz, hx]
  dsimp only
  rw [if_pos ⟨Nat.lt_of_le_of_lt hl (by decide), by omega, Int.lt_of_le_of_lt (Int.ofNat_le.mpr hk) (by decide)⟩]
  simp
variable {Q : R → Sto → Prop} {QI : List PyData → Sto → Prop} {a : Mx}
@[simp] theorem ev_itemsB {xs : List PyData} : itemsB (.b xs) = some xs := rfl
@[simp ↓] theorem wi_seqB : WI (mSeqB a) ρ s QI = WX a ρ s fun x s1 => WO (itemsB x) fun xs => QI xs s1 := by
  unfold WI WX mSeqB
  simp only [wbnd, wret]
@[simp] theorem ev_toArgB_b {xs : List PyData} : toArgB (.b xs) = some (.d (.list xs)) := rfl
@[simp] theorem ev_toArgB_d {x : PyData} : toArgB (.d x) = some (.d x) := rfl
@[simp] theorem ev_toArgB_s : toArgB .s = some .s := rfl
@[simp] theorem ev_toArgBs0 : toArgBs [] = some [] := rfl
@[simp] theorem ev_toArgBs1 {x : R} {rs : List R} : toArgBs (x :: rs) = (match toArgB x, toArgBs rs with | some x, some xs => some (x :: xs) | _, _ => none) := rfl
@[simp ↓] theorem wx_callB {g : Fx} : WX (mCallB g as) ρ s Q = WA as ρ s fun rs s1 => WO (toArgBs rs) fun cs => WF g cs s1 fun r s2 => ∃ x, r = .d x ∧ flatT x = true ∧ Q r s2 := by
  apply propext
  unfold WX WA WO WF mCallB
  rw [ev_bnd]
  rcases as ρ s with _ | ⟨x, s1⟩
  · simp
  · dsimp only
    rcases h : toArgBs x with _ | cs
    · simp [h]
    · dsimp only
      rcases hg : g cs s1 with _ | ⟨r, s2⟩
      · simp [h, hg]
      · constructor
        · rintro ⟨r', s', e, q⟩
          cases r with
          | d y =>
            dsimp only at e
            split at e
            · rename_i hf
              cases e
              exact ⟨x, s1, rfl, cs, h, _, _, hg, y, rfl, hf, q⟩
            · cases e
          | _ => cases e
        · rintro ⟨x', s1', h1, cs', h2, r', s', h3, y, e, hf, q⟩
          cases h1
          rw [h] at h2; cases h2
          rw [hg] at h3; cases h3
          subst e
          exact ⟨_, _, by dsimp only; rw [if_pos hf], q⟩
end
end Dh
namespace Dh
open PySem PySem.Spec L2 PySem.W
/-- put in behind those that stand ahead -/
def putNd (p : Nat → Bool) (x : Nat) (l : List Nat) : List Nat := l.take (l.filter p).length ++ x :: l.drop (l.filter p).length
theorem putNd_ok {u : Nat → Rat} {p : Nat → Bool} {x : Nat} {l : List Nat} (hl : l.Pairwise (Bef u)) (hlt : ∀ y ∈ l, y < x) (hp : ∀ y ∈ l, p y = true ↔ ¬ u y < u x) : (putNd p x l).Pairwise (Bef u) ∧ ∀ y, y ∈ putNd p x l ↔ y ∈ l ∨ y = x := by
  have e : l.filter p = l.filter fun y => @decide (Bef u y x) (Classical.propDecidable _) := by
    refine List.filter_congr fun y hy => ?_
    apply Bool.eq_iff_iff.mpr
    rw [hp y hy, @decide_eq_true_iff _ (Classical.propDecidable _)]
    have := hlt y hy
    constructor
    · intro h
      by_cases h2 : u x < u y
      · exact .inl h2
      · exact .inr ⟨by grind, this⟩
    · rintro (h | ⟨h, _⟩) h2
      · grind
      · grind
  refine ⟨?_, fun y => ?_⟩
  · have := @insert_sorted Nat (Bef u) (fun _ _ => Classical.propDecidable _) (fun _ _ _ => Bef.trans) x l hl (fun y hy => Bef.of (by have := hlt y hy; omega)) (fun y _ h1 h2 => Bef.irr (Bef.trans h1 h2))
    unfold putNd
    rw [e]
    exact this
  · unfold putNd
    generalize (l.filter p).length = n
    have : y ∈ l ↔ y ∈ l.take n ∨ y ∈ l.drop n := by
      rw [← List.mem_append, List.take_append_drop]
    rw [List.mem_append, List.mem_cons, this]
    constructor
    · rintro (h | h | h)
      · exact .inl (.inl h)
      · exact .inr h
      · exact .inl (.inr h)
    · rintro ((h | h) | h)
      · exact .inl h
      · exact .inr (.inr h)
      · exact .inr (.inl h)
theorem putNd_map {p : Nat → Bool} {x : Nat} {l : List Nat} : (putNd p x l).map iN = (l.map iN).take (l.filter p).length ++ iN x :: (l.map iN).drop (l.filter p).length := by
  simp [putNd, List.map_take, List.map_drop]
theorem filterMap_iN {p : Nat → Bool} {l : List Nat} : (l.filterMap fun k => if p k = true then some (iN k) else none) = (l.filter p).map iN := by
  induction l with
  | nil => rfl
  | cons a l ih =>
    rw [List.filterMap_cons, List.filter_cons]
    cases h : p a <;> simp [ih]
end Dh
namespace WW
open PySem PySem.Spec L2 PySem.W Dh
section
variable {s : Sto}
theorem e_lbelow {p q : Rat} (hp : Bd p) (hq : Bd q) : f_law_below [.d (pQ p), .d (pQ q)] s = some (.d (.bool (decide (p < q))), s) := by
  refine WF.eq (WF.body rfl ?_)
  simp [m_law_below, pQ, fMul_ok, mulOk_nd hp hq, mulOk_nd hq hp, Rat.lt_iff]
theorem w_lorder {vs : List Rat} {g : Bool} (hq : ∀ q ∈ vs, QLt 70 q) (h8 : vs.length ≤ 8) : WF f_law_order [.d (.list (vs.map pQ)), .d (.bool g)] s fun r s' => s' = s ∧ ∃ ord : List Nat, r = .f (ord.map iN) ∧ ord.Pairwise (Bef (uW g vs)) ∧ (∀ i, i ∈ ord ↔ i < vs.length) := by
  have er : range1 [.d (.int (vs.length : Int))] = some ((List.range vs.length).map fun i => PyData.int (i : Nat)) := range1_nat (n := vs.length) (by omega)
  refine WF.body rfl ?_
  simp [m_law_order, List.replicate_succ, er]
  refine WFor_inv (fun i : Nat => PyData.int i) (List.range vs.length) (fun i ρ s' => s' = s ∧ ∃ (P : List Nat) (c3 c4 c5 : Option Cl), ρ = [some (.d (.list (vs.map pQ))), some (.d (.bool g)), some (.o (P.map iN)), c3, c4, c5] ∧ P.Pairwise (Bef (uW g vs)) ∧ (∀ k, k ∈ P ↔ k < i) ∧ P.length = i) ⟨rfl, [], none, none, none, rfl, by simp, by simp, rfl⟩ ?_ ?_
  · rintro i x ρ s' hx ⟨rfl, P, c3, c4, c5, rfl, hs, hm, hl⟩
    obtain ⟨rfl, hi⟩ := range_at hx
    have ex := atI_w hi
    have qx := hq (vs.getD x 0) (by rw [List.getD_eq_getElem?_getD, List.getElem?_eq_getElem hi]; exact List.getElem_mem hi)
    have kk : ∀ k ∈ P, atI (vs.map pQ) (k : Int) = some (pQ (vs.getD k 0)) ∧ QLt 70 (vs.getD k 0) := fun k hk => by
      have h1 := (hm k).mp hk
      have h2 : k < vs.length := by omega
      exact ⟨atI_w h2, hq _ (by rw [List.getD_eq_getElem?_getD, List.getElem?_eq_getElem h2]; exact List.getElem_mem h2)⟩
    have ok := putNd_ok (u := uW g vs) (p := fun k => !decide (uW g vs k < uW g vs x)) hs (fun y hy => (hm y).mp hy) (fun y _ => by simp)
    have pl : (putNd (fun k => !decide (uW g vs k < uW g vs x)) x P).length = x + 1 := by
      unfold putNd
      rw [List.length_append, List.length_cons, List.length_take, List.length_drop]
      omega
    have fl : (P.filter fun k => !decide (uW g vs k < uW g vs x)).length ≤ 1000 := Nat.le_trans (List.length_filter_le _ _) (by omega)
    simp
    cases g
    · simp
      refine WLc_opt iN (fun k => if (!decide (uW false vs k < uW false vs x)) = true then some (iN k) else none) P (fun k hk => ?_) ?_
      · obtain ⟨e1, e2⟩ := kk k hk
        simp [iN, e1, ex, -List.getD_eq_getElem?_getD]
        refine WF.of (e_lbelow qx.bd e2.bd) ?_
        by_cases h : vs.getD x 0 < vs.getD k 0
        · have hu : uW false vs k < uW false vs x := by rw [uW_lt]; simpa using h
          simp [h, hu, -List.getD_eq_getElem?_getD]
        · have hu : ¬ uW false vs k < uW false vs x := by rw [uW_lt]; simpa using h
          simp [h, hu, -List.getD_eq_getElem?_getD]
      rw [filterMap_iN]
      refine ⟨szle (by rw [List.length_map]; exact fl), ?_⟩
      simp
      rw [insK_eq (k := (P.filter fun k => !decide (uW false vs k < uW false vs x)).length) (z := iN x) rfl rfl (by rw [List.length_map]; omega) fl, WO_some]
      exact ⟨rfl, putNd (fun k => !decide (uW false vs k < uW false vs x)) x P, _, _, _, by rw [putNd_map]; rfl, ok.1, fun k => by rw [ok.2, hm]; omega, pl⟩
    · simp
      refine WLc_opt iN (fun k => if (!decide (uW true vs k < uW true vs x)) = true then some (iN k) else none) P (fun k hk => ?_) ?_
      · obtain ⟨e1, e2⟩ := kk k hk
        simp [iN, e1, ex, -List.getD_eq_getElem?_getD]
        refine WF.of (e_lbelow e2.bd qx.bd) ?_
        by_cases h : vs.getD k 0 < vs.getD x 0
        · have hu : uW true vs k < uW true vs x := by rw [uW_lt]; simpa using h
          simp [h, hu, -List.getD_eq_getElem?_getD]
        · have hu : ¬ uW true vs k < uW true vs x := by rw [uW_lt]; simpa using h
          simp [h, hu, -List.getD_eq_getElem?_getD]
      rw [filterMap_iN]
      refine ⟨szle (by rw [List.length_map]; exact fl), ?_⟩
      simp
      rw [insK_eq (k := (P.filter fun k => !decide (uW true vs k < uW true vs x)).length) (z := iN x) rfl rfl (by rw [List.length_map]; omega) fl, WO_some]
      exact ⟨rfl, putNd (fun k => !decide (uW true vs k < uW true vs x)) x P, _, _, _, by rw [putNd_map]; rfl, ok.1, fun k => by rw [ok.2, hm]; omega, pl⟩
  · rintro ρ s' ⟨rfl, P, c3, c4, c5, rfl, hs, hm, hl⟩
    rw [List.length_range] at hm
    simp
    exact ⟨P, rfl, hs, hm⟩
end
end WW
namespace Dh
open PySem PySem.Spec L2 PySem.W
/-- what stands at a stretch so far -/
def xAt (gl : List (RS × Rat)) (x : RS) : Rat := match gl.find? fun p => decide (p.1.st = x.st) with
  | some p => p.1.lo + p.2
  | none => x.lo
theorem xAt_snoc {gl : List (RS × Rat)} {y x : RS} {d : Rat} (hy : ∀ p ∈ gl, p.1.st ≠ y.st) : xAt (gl ++ [(y, d)]) x = if x.st = y.st then y.lo + d else xAt gl x := by
  unfold xAt
  rw [List.find?_append]
  by_cases h : x.st = y.st
  · have : gl.find? (fun p => decide (p.1.st = x.st)) = none := by
      rw [List.find?_eq_none]
      intro p hp
      simp only [decide_eq_true_eq]
      rw [h]
      exact hy p hp
    rw [this, if_pos h]
    simp [h]
  · rw [if_neg h]
    have e : [(y, d)].find? (fun p => decide (p.1.st = x.st)) = none := by
      rw [List.find?_eq_none]
      intro p hp
      rw [List.mem_singleton.mp hp]
      simp only [decide_eq_true_eq]
      exact fun z => h z.symm
    rw [e, Option.or_none]
theorem xAt_none {gl : List (RS × Rat)} {y : RS} (hy : ∀ p ∈ gl, p.1.st ≠ y.st) : xAt gl y = y.lo := by
  unfold xAt
  rw [List.find?_eq_none.mpr fun p hp => by simpa using hy p hp]
theorem xAt_atS {gl : List (RS × Rat)} {x : RS} (h : ∃ p ∈ gl, p.1.st = x.st) : xAt gl x = atS gl x.st := by
  unfold xAt atS
  obtain ⟨p, hp, e⟩ := h
  cases q : gl.find? fun p => decide (p.1.st = x.st) with
  | none => exact absurd (by simpa using e) (by simpa using List.find?_eq_none.mp q p hp)
  | some p => rfl
theorem map_set {l : List RS} (asc : l.Pairwise fun a b => a.st < b.st) {i : Nat} {y : RS} (hi : l[i]? = some y) {f g : RS → PyData} (h : ∀ x ∈ l, x.st ≠ y.st → f x = g x) : (l.map f).set i (g y) = l.map g := by
  apply List.ext_getElem?
  intro k
  rw [List.getElem?_set, List.getElem?_map, List.getElem?_map, List.length_map]
  have hil : i < l.length := (List.getElem?_eq_some_iff.mp hi).1
  by_cases e : i = k
  · subst e
    rw [if_pos rfl, if_pos hil, hi]; rfl
  · rw [if_neg e]
    cases hk : l[k]? with
    | none => rfl
    | some x =>
      have hkl : k < l.length := (List.getElem?_eq_some_iff.mp hk).1
      rw [Option.map_some, Option.map_some, h x (List.mem_of_getElem? hk)]
      intro q
      have e1 := (List.getElem?_eq_some_iff.mp hi).2
      have e2 := (List.getElem?_eq_some_iff.mp hk).2
      rcases Nat.lt_or_gt_of_ne e with c | c
      · have := List.pairwise_iff_getElem.mp asc i k hil hkl c
        rw [e1, e2] at this; omega
      · have := List.pairwise_iff_getElem.mp asc k i hkl hil c
        rw [e1, e2] at this; omega
def rs0 : RS := ⟨0, 0, 0⟩
theorem at_rs {l : List RS} {i : Nat} (hi : i < l.length) : l[i]? = some (l.getD i rs0) := by
  rw [List.getD_eq_getElem?_getD, List.getElem?_eq_getElem hi]; rfl
end Dh
namespace WW
open PySem PySem.Spec L2 PySem.W Dh
section
variable {s : Sto} {D : Nat} {l : List RS}
theorem e_ltot {x : PyData} {l : List Rat} {k : Nat} {s : Sto} (hx : itemsOf (.d x) = some (l.map pQ)) (hl : ∀ q ∈ l, QLt k q) (h : 1 + (k + 1) * l.length + k ≤ 4500) : f_law_total [.d x] s = some (.d (pQ (qsum l)), s) := by
  refine WF.eq (WF.body rfl ?_)
  simp [m_law_total, List.replicate_succ, hx, sz2]
  refine WFor_inv pQ l (fun i ρ s' => s' = s ∧ ∃ c, ρ = [some (.d x), some (.d (pQ (qsum (l.take i)))), c]) ⟨rfl, none, rfl⟩ ?_ ?_
  · rintro i q ρ s' hq ⟨rfl, c, rfl⟩
    simp
    refine WF.of (e_lplus (qsum_take_lt hl).bd ((hl q (List.mem_of_getElem? hq)).bd)) ?_
    rw [take_snoc hq, qsum_snoc]
    simp
  · rintro ρ s' ⟨rfl, c, rfl⟩
    simp
theorem w_lfill {ord : List Nat} (o : StOk D l) (hm : ∀ i ∈ ord, i < l.length) (nd : ord.Nodup) (hol : ord.length ≤ l.length) :
    f_law_fill [.d (pStr l), .d (.list (ord.map iN))] s = some (.f (l.map fun x => pQ (xAt (gv roomS (rest0 l) (ord.map fun i => l.getD i rs0)) x)), s) := by
  have n5 := o.n5
  have D0 := o.D0
  have D30 := o.D30
  obtain ⟨ql, qh⟩ := StOk.lows o
  obtain ⟨rc, r0⟩ := StOk.rest o
  have rooms := StOk.rooms o
  have b1 : QLt 10 1 := (CD_1 (D := 1) (M := 1) (by decide)).qlt (by decide) (by decide) (by decide)
  have sl := qsum_lt ql
  rw [List.length_map] at sl
  have inj : ∀ i j, i < l.length → j < l.length → (l.getD i rs0).st = (l.getD j rs0).st → i = j := fun i j hi hj e => by
    have e1 := (List.getElem?_eq_some_iff.mp (at_rs hi)).2
    have e2 := (List.getElem?_eq_some_iff.mp (at_rs hj)).2
    rcases Nat.lt_trichotomy i j with c | c | c
    · have := List.pairwise_iff_getElem.mp o.asc i j hi hj c
      rw [e1, e2] at this; omega
    · exact c
    · have := List.pairwise_iff_getElem.mp o.asc j i hj hi c
      rw [e1, e2] at this; omega
  refine WF.eq (WF.body rfl ?_)
  simp [m_law_fill, List.replicate_succ, pStr, sz2]
  refine WLc_map pRS (fun c => pQ c.lo) l (fun x hx => ?_) ?_
  · simp [pRS]
  refine ⟨szle (by rw [List.length_map]; omega), ?_⟩
  simp
  refine ⟨sz2, WF.of (e_ltot (l := l.map (·.lo)) (k := 10) (by rw [List.map_map]; rfl) ql (by rw [List.length_map]; omega)) ?_⟩
  refine ⟨_, rfl, rfl, ?_⟩
  simp
  have hmi := e_lminus (s := s) (p := 1) (q := qsum (l.map (·.lo))) b1.bd (sl.bd (by omega))
  refine WF.of hmi ?_
  clear hmi
  rw [show 1 - qsum (l.map (·.lo)) = rest0 l from rfl]
  simp
  refine WFor_inv iN ord (fun t ρ s' => s' = s ∧ ∃ c4 c5 c6 c7 : Option Cl, ρ = [some (.d (.tuple (l.map pRS))), some (.d (.list (ord.map iN))), some (.o (l.map fun x => pQ (xAt (gv roomS (rest0 l) ((ord.take t).map fun i => l.getD i rs0)) x))), some (.d (pQ (rr roomS (rest0 l) ((ord.take t).map fun i => l.getD i rs0)))), c4, c5, c6, c7]) ⟨rfl, none, none, none, none, rfl⟩ ?_ ?_
  · rintro t i ρ s' ht ⟨rfl, c4, c5, c6, c7, rfl⟩
    have hil := hm i (List.mem_of_getElem? ht)
    have hts := take_snoc ht
    have ey := at_rs hil
    have hyl := List.mem_of_getElem? ey
    have nmem : i ∉ ord.take t := fun q => by
      have p : (ord.take (t + 1)).Nodup := nd.sublist (List.take_sublist _ _)
      rw [hts, List.nodup_append] at p
      exact p.2.2 i q i (by simp) rfl
    rw [hts, List.map_append, List.map_singleton]
    generalize hP : (ord.take t).map (fun i => l.getD i rs0) = P at *
    have nin : ∀ p ∈ gv roomS (rest0 l) P, p.1.st ≠ (l.getD i rs0).st := fun p hp e => by
      have := gv_mem hp
      rw [← hP] at this
      obtain ⟨j, hj, ej⟩ := List.mem_map.mp this
      have hjl := hm j (List.mem_of_mem_take hj)
      rw [← ej] at e
      exact nmem (inj j i hjl hil e ▸ hj)
    generalize hy : l.getD i rs0 = y at *
    have hPl : P.length ≤ 5 := by rw [← hP, List.length_map, List.length_take]; omega
    obtain ⟨q1, q2⟩ := (o.each y hyl).ql D0 D30
    obtain ⟨rcd, rnn⟩ := rooms y hyl
    have hPin : ∀ z ∈ P, z ∈ l := fun z hz => by
      rw [← hP] at hz
      obtain ⟨k, hk, rfl⟩ := List.mem_map.mp hz
      exact List.mem_of_getElem? (at_rs (hm k (List.mem_of_mem_take hk)))
    have rP := rr_cd (room := roomS) (D := D) (E := 6 * D) (P := P) rc (fun z hz => (rooms z (hPin z hz)).1)
    have e30 : 16 * D + 6 * D * P.length < 2 ^ 20 := by
      have := Nat.mul_le_mul (Nat.mul_le_mul_left 6 D30) hPl
      omega
    have qr : QLt 20 (rr roomS (rest0 l) P) := rP.qlt D0 (by omega) e30
    have qm : QLt 20 (roomS y) := rcd.qlt D0 (by omega) (by omega)
    have e1 : atI (l.map pRS) (i : Int) = some (pRS y) := by rw [atI_ofNat (by rw [List.length_map]; exact hil), List.getElem?_map, ey]; rfl
    have e2 : atI (l.map fun x => pQ (xAt (gv roomS (rest0 l) P) x)) (i : Int) = some (pQ y.lo) := by
      rw [atI_ofNat (by rw [List.length_map]; exact hil), List.getElem?_map, ey]
      show some (pQ (xAt (gv roomS (rest0 l) P) y)) = _
      rw [xAt_none nin]
    have em := fun s => e_lminus (s := s) q2.bd q1.bd
    rw [show y.hi - y.lo = roomS y from rfl] at em
    have el := fun s => e_lbelow (s := s) qm.bd qr.bd
    have snoc := rr_snoc (room := roomS) (r := rest0 l) (P := P) (x := y)
    have gsn : gv roomS (rest0 l) (P ++ [y]) = gv roomS (rest0 l) P ++ [(y, if rr roomS (rest0 l) P < roomS y then rr roomS (rest0 l) P else roomS y)] := by rw [gv_append]; rfl
    generalize hd : (if rr roomS (rest0 l) P < roomS y then rr roomS (rest0 l) P else roomS y) = d at *
    have hset := map_set (l := l) o.asc ey (f := fun x => pQ (xAt (gv roomS (rest0 l) P) x)) (g := fun x => pQ (xAt (gv roomS (rest0 l) P ++ [(y, d)]) x)) (fun x _ hne => by
      show pQ _ = pQ _
      rw [xAt_snoc nin, if_neg hne])
    have gy : xAt (gv roomS (rest0 l) P ++ [(y, d)]) y = y.lo + d := by rw [xAt_snoc nin, if_pos rfl]
    rw [gy] at hset
    rw [gsn, snoc, ← hset]
    have lenf : (l.map fun x => pQ (xAt (gv roomS (rest0 l) P) x)).length = l.length := List.length_map _
    generalize (l.map fun x => pQ (xAt (gv roomS (rest0 l) P) x)) = F at *
    have e1' : atI (l.map pRS) (i : Int) = some (.tuple [.int (y.st : Nat), pQ y.lo, pQ y.hi]) := e1
    simp [iN, e1']
    refine WF.of (em _) ?_
    simp
    refine WF.of (el _) ?_
    by_cases h : roomS y < rr roomS (rest0 l) P
    · have ed : d = roomS y := by rw [← hd, if_neg (by grind)]
      subst ed
      have e3 := fun s => e_lplus (s := s) q1.bd qm.bd
      have e4 := fun s => e_lminus (s := s) qr.bd qm.bd
      simp [h, e2]
      refine WF.of (e3 _) ?_
      simp [Dh.putL, ixN_ofNat (n := F.length) (i := i) (by omega)]
      exact WF.of (e4 _) (by simp)
    · have ed : d = rr roomS (rest0 l) P := by rw [← hd]; split <;> grind
      subst ed
      have e3 := fun s => e_lplus (s := s) q1.bd qr.bd
      have e4 := fun s => e_lminus (s := s) qr.bd qr.bd
      simp [h, e2]
      refine WF.of (e3 _) ?_
      simp [Dh.putL, ixN_ofNat (n := F.length) (i := i) (by omega)]
      exact WF.of (e4 _) (by simp)
  · rintro ρ s' ⟨rfl, c4, c5, c6, c7, rfl⟩
    rw [List.take_length]
    simp
end
end WW
namespace WW
open PySem PySem.Spec L2 PySem.W Dh
section
variable {s : Sto} {D : Nat} {l : List RS}
theorem e_lknown {X : List Rat} (hl : l.length ≤ 100) (hX : X.length = l.length) (h0 : ∀ q ∈ X, 0 ≤ q) :
    f_law_known [.d (pStr l), .d (.list (X.map pQ))] s = some (.d (.tuple ((l.zip X).filterMap fun p => if p.2 = 0 then none else some (.tuple [.int (p.1.st : Nat), pQ p.2]))), s) := by
  refine WF.eq (WF.body rfl ?_)
  simp [m_law_known, List.replicate_succ, pStr, pairs_map]
  refine WLc_map (p2 pRS pQ) (fun p => PyData.tuple [.int (p.1.st : Nat), pQ p.2]) (l.zip X) (fun p hp => ?_) ?_
  · simp [p2, pRS, sz2]
  refine ⟨szle (by rw [List.length_map, List.length_zip]; omega), ?_⟩
  simp [frzs, frz1]
  refine WLc_opt (fun p : RS × Rat => PyData.tuple [.int (p.1.st : Nat), pQ p.2]) (fun p => if p.2 = 0 then none else some (.tuple [.int (p.1.st : Nat), pQ p.2])) (l.zip X) (fun p hp => ?_) ?_
  · have z := List.of_mem_zip (a := p.1) (b := p.2) hp
    have n0 := Rat.num_nonneg.mpr (h0 _ z.2)
    have nz := Rat.num_eq_zero (q := p.2)
    simp [show pQ p.2 = .tuple [.int p.2.num, .int (p.2.den : Int)] from rfl]
    by_cases h : p.2 = 0
    · simp [h]
    · have : 0 < p.2.num := by
        have : p.2.num ≠ 0 := fun z => h (nz.mp z)
        omega
      simp [h, this]
      rfl
  refine ⟨szle (Nat.le_trans (List.length_filterMap_le _ _) (by rw [List.length_zip]; omega)), ?_⟩
  simp
theorem ord_P {ws : List Rat} {g : Bool} {P : List RS} {ord : List Nat} (o : StOk D l) (j : FlJ g ws l P []) (hs : ord.Pairwise (Bef (uW g (l.map fun x => ws.getD x.st 0)))) (hm : ∀ i, i ∈ ord ↔ i < l.length) : ord.map (fun i => l.getD i rs0) = P := by
  have uw : ∀ i, i < l.length → uW g (l.map fun x => ws.getD x.st 0) i = uW g ws (l.getD i rs0).st := fun i hi => by
    have e : (l.map fun x => ws.getD x.st 0).getD i 0 = ws.getD (l.getD i rs0).st 0 := by
      rw [List.getD_eq_getElem?_getD, List.getElem?_map, at_rs hi]; rfl
    unfold uW
    rw [e]
  refine sorted_unique (R := BefS g ws) (fun _ _ _ => Bef.trans) (fun _ => Bef.irr) ?_ j.srt fun x => ?_
  · rw [List.pairwise_map]
    refine hs.imp_of_mem fun {a b} ha hb h => ?_
    have la := (hm a).mp ha
    have lb := (hm b).mp hb
    unfold BefS
    rcases h with h | ⟨h, h'⟩
    · rw [uw a la, uw b lb] at h
      exact .inl h
    · rw [uw a la, uw b lb] at h
      refine .inr ⟨h, ?_⟩
      have e1 := (List.getElem?_eq_some_iff.mp (at_rs la)).2
      have e2 := (List.getElem?_eq_some_iff.mp (at_rs lb)).2
      have := List.pairwise_iff_getElem.mp o.asc a b la lb h'
      rwa [e1, e2] at this
  · have := j.all x
    rw [List.mem_map]
    constructor
    · rintro ⟨i, hi, rfl⟩
      have hx := List.mem_of_getElem? (at_rs ((hm i).mp hi))
      exact (this.mp hx).resolve_right (by simp)
    · intro hx
      obtain ⟨i, hi⟩ := List.getElem?_of_mem (this.mpr (.inl hx))
      have hil := (List.getElem?_eq_some_iff.mp hi).1
      refine ⟨i, (hm i).mpr hil, ?_⟩
      rw [List.getD_eq_getElem?_getD, hi]; rfl
theorem nodup_bef {u : Nat → Rat} {ord : List Nat} (h : ord.Pairwise (Bef u)) : ord.Nodup := h.imp fun {a b} h e => by
  subst e; exact Bef.irr h
theorem len_ord {ord : List Nat} {n : Nat} (nd : ord.Nodup) (hm : ∀ i, i ∈ ord ↔ i < n) : ord.length = n := by
  have p : ord.Perm (List.range n) := (List.perm_ext_iff_of_nodup nd List.nodup_range).mpr fun i => by rw [hm, List.mem_range]
  rw [p.length_eq, List.length_range]
theorem e_lfilled {ws : List Rat} {g : Bool} {P : List RS} (o : StOk D l) (hst : ∀ y ∈ l, y.st < ws.length) (hw : ∀ q ∈ ws, QLt 70 q) (j : FlJ g ws l P []) :
    f_law_filled [.d (pStr l), .d (pQs ws), .d (.bool g)] s = some (.f (l.map fun x => pQ (xAt (gv roomS (rest0 l) P) x)), s) := by
  have n5 := o.n5
  refine WF.eq (WF.body rfl ?_)
  simp [m_law_filled, List.replicate_succ, pStr]
  refine WLc_map pRS (fun c => pQ (ws.getD c.st 0)) l (fun x hx => ?_) ?_
  · have e := atI_w (hst x hx)
    simp [pRS, pQs, e, -List.getD_eq_getElem?_getD]
  refine ⟨szle (by rw [List.length_map]; omega), ?_⟩
  obtain ⟨r, s1, eo, rfl, ord, rfl, hs, hm⟩ := w_lorder (s := s) (vs := l.map fun x => ws.getD x.st 0) (g := g) (fun q hq => by
    obtain ⟨x, hx, rfl⟩ := List.mem_map.mp hq
    have h := hst x hx
    exact hw _ (by rw [List.getD_eq_getElem?_getD, List.getElem?_eq_getElem h]; exact List.getElem_mem h)) (by rw [List.length_map]; omega)
  rw [List.map_map] at eo
  have hm' : ∀ i, i ∈ ord ↔ i < l.length := fun i => by rw [hm, List.length_map]
  have nd := nodup_bef hs
  have fill := w_lfill (s := s1) (ord := ord) o (fun i hi => (hm' i).mp hi) nd (by rw [len_ord nd hm']; exact Nat.le_refl _)
  rw [ord_P o j hs hm'] at fill
  simp
  refine WF.of eo ?_
  simp
  refine WF.of fill ?_
  simp
end
end WW
namespace Dh
open PySem PySem.Spec L2 PySem.W
theorem zip_self {α β γ : Type} {f : α → β} {h : α × β → Option γ} : ∀ l : List α, (l.zip (l.map f)).filterMap h = l.filterMap fun x => h (x, f x)
  | [] => rfl
  | x :: l => by
    rw [List.map_cons, List.zip_cons_cons, List.filterMap_cons, List.filterMap_cons, zip_self l]
theorem fm_congr {α β : Type} {f g : α → Option β} : ∀ {l : List α}, (∀ x ∈ l, f x = g x) → l.filterMap f = l.filterMap g
  | [], _ => rfl
  | x :: l, h => by
    rw [List.filterMap_cons, List.filterMap_cons, h x (by simp), fm_congr fun y hy => h y (List.mem_cons_of_mem _ hy)]
end Dh
namespace WW
open PySem PySem.Spec L2 PySem.W Dh
section
variable {s : Sto} {D : Nat} {l : List RS}
theorem xAt_nn {ws : List Rat} {g : Bool} {P : List RS} (o : StOk D l) (j : FlJ g ws l P []) {x : RS} (hx : x ∈ l) : 0 ≤ xAt (gv roomS (rest0 l) P) x ∧ xAt (gv roomS (rest0 l) P) x = atS (gv roomS (rest0 l) P) x.st := by
  have hp := ((j.all x).mp hx).resolve_right (by simp)
  have e : x ∈ (gv roomS (rest0 l) P).map (·.1) := by rw [gv_fst]; exact hp
  obtain ⟨p, hp2, ep⟩ := List.mem_map.mp e
  have ex : ∃ p ∈ gv roomS (rest0 l) P, p.1.st = x.st := ⟨p, hp2, by rw [ep]⟩
  refine ⟨?_, xAt_atS ex⟩
  unfold xAt
  cases q : (gv roomS (rest0 l) P).find? fun p => decide (p.1.st = x.st) with
  | none => exact (o.each x hx).l0
  | some p =>
    have hp := List.mem_of_find?_eq_some q
    have hl := (j.all p.1).mpr (.inl (gv_mem hp))
    have a := (o.each p.1 hl).l0
    have b := (gv_in (StOk.rest o).2 (fun z hz => (StOk.rooms o z ((j.all z).mpr (.inl hz))).2) p hp).1
    show 0 ≤ p.1.lo + p.2
    grind
theorem e_ldue {ws : List Rat} {g : Bool} {P : List RS} (o : StOk D l) (j : FlJ g ws l P []) : f_law_known [.d (pStr l), .d (.list (l.map fun x => pQ (xAt (gv roomS (rest0 l) P) x)))] s = some (.d (flT l P), s) := by
  have n5 := o.n5
  have k := e_lknown (s := s) (l := l) (X := l.map fun x => xAt (gv roomS (rest0 l) P) x) (by omega) (by rw [List.length_map]) (fun q hq => by
    obtain ⟨x, hx, rfl⟩ := List.mem_map.mp hq
    exact (xAt_nn o j hx).1)
  rw [List.map_map, zip_self] at k
  have e : flT l P = .tuple (l.filterMap fun x => if xAt (gv roomS (rest0 l) P) x = 0 then none else some (.tuple [.int (x.st : Nat), pQ (xAt (gv roomS (rest0 l) P) x)])) := by
    unfold flT
    refine congrArg PyData.tuple (fm_congr fun x hx => ?_)
    rw [(xAt_nn o j hx).2]
  rw [e]
  exact k
end
end WW
namespace Dh
open PySem PySem.Spec L2 PySem.W
def Lex : List Rat → List Rat → Prop
  | x :: xs, y :: ys => x < y ∨ (x = y ∧ Lex xs ys)
  | _, _ => False
theorem Lex.trans : ∀ {a b c : List Rat}, Lex a b → Lex b c → Lex a c
  | x :: a, y :: b, z :: c, h, g => by
    rcases h with h | ⟨h, h'⟩
    · rcases g with g | ⟨g, _⟩
      · exact .inl (by grind)
      · exact .inl (by grind)
    · rcases g with g | ⟨g, g'⟩
      · exact .inl (by grind)
      · exact .inr ⟨by grind, Lex.trans h' g'⟩
  | [], _, _, h, _ => h.elim
  | _ :: _, [], _, h, _ => h.elim
  | _ :: _, _ :: _, [], _, g => g.elim
theorem Lex.irr : ∀ {a : List Rat}, ¬ Lex a a
  | [], h => h
  | x :: a, h => by
    rcases h with h | ⟨_, h⟩
    · grind
    · exact Lex.irr h
theorem Lex.of : ∀ {a b : List Rat}, a.length = b.length → a ≠ b → Lex a b ∨ Lex b a
  | [], [], _, h => absurd rfl h
  | [], _ :: _, h, _ => by simp at h
  | _ :: _, [], h, _ => by simp at h
  | x :: a, y :: b, hl, hne => by
    by_cases e : x = y
    · subst e
      rcases Lex.of (a := a) (b := b) (by simpa using hl) (fun z => hne (by rw [z])) with h | h
      · exact .inl (.inr ⟨rfl, h⟩)
      · exact .inr (.inr ⟨rfl, h⟩)
    · by_cases h : x < y
      · exact .inl (.inl h)
      · exact .inr (.inl (by grind))
noncomputable def lexB (a b : List Rat) : Bool := @decide (Lex a b) (Classical.propDecidable _)
theorem lexB_iff {a b : List Rat} : lexB a b = true ↔ Lex a b := @decide_eq_true_iff _ (Classical.propDecidable _)
theorem lexB_of {a b : List Rat} {c : Bool} (h : Lex a b ↔ c = true) : lexB a b = c := Bool.eq_iff_iff.mpr (lexB_iff.trans h)
end Dh
namespace WW
open PySem PySem.Spec L2 PySem.W Dh
section
variable {s : Sto}
theorem e_row_ahead {a b : List Rat} (ha : ∀ q ∈ a, QLt 100 q) (hb : ∀ q ∈ b, QLt 100 q) : f_is_row_ahead [.d (pQs a), .d (pQs b)] s = some (.d (.bool (lexB a b)), s) := by
  refine WF.eq (WF.body rfl ?_)
  simp [m_is_row_ahead, List.replicate_succ, pQs, pairs_map]
  refine WFor_inv (p2 pQ pQ) (a.zip b) (fun i ρ s' => s' = s ∧ ∃ c2 c3 : Option Cl, ρ = [some (.d (.tuple (a.map pQ))), some (.d (.tuple (b.map pQ))), c2, c3] ∧ (Lex a b ↔ Lex (a.drop i) (b.drop i))) ⟨rfl, none, none, rfl, Iff.rfl⟩ ?_ ?_
  · rintro i ⟨x, y⟩ ρ s' hz ⟨rfl, c2, c3, rfl, hl⟩
    rw [List.getElem?_zip_eq_some] at hz
    obtain ⟨h1, h2⟩ := hz
    obtain ⟨k1, e1⟩ := List.getElem?_eq_some_iff.mp h1
    obtain ⟨k2, e2⟩ := List.getElem?_eq_some_iff.mp h2
    rw [List.drop_eq_getElem_cons k1, List.drop_eq_getElem_cons k2] at hl
    dsimp only at e1 e2
    rw [e1, e2] at hl
    simp [p2, fEq_pQ]
    by_cases e : x = y
    · subst e
      simp
      rw [hl]
      constructor
      · rintro (h | ⟨_, h⟩)
        · grind
        · exact h
      · intro h; exact .inr ⟨rfl, h⟩
    · simp [e]
      refine WF.of (e_is_less ((ha x (List.mem_of_getElem? h1)).bd) ((hb y (List.mem_of_getElem? h2)).bd)) ?_
      have : lexB a b = decide (x < y) := lexB_of (by
        rw [hl, decide_eq_true_iff]
        constructor
        · rintro (h | ⟨h, _⟩)
          · exact h
          · exact absurd h e
        · exact fun h => .inl h)
      simp [this]
  · rintro ρ s' ⟨rfl, c2, c3, rfl, hl⟩
    have : lexB a b = false := lexB_of (by
      rw [hl, List.length_zip]
      by_cases h : a.length ≤ b.length
      · rw [Nat.min_eq_left h, List.drop_length]
        simp [Lex]
      · rw [Nat.min_eq_right (by omega), List.drop_length]
        cases a.drop b.length <;> simp [Lex])
    simp [this]
theorem e_lbefore {a b : List Rat} (ha : ∀ q ∈ a, QLt 100 q) (hb : ∀ q ∈ b, QLt 100 q) : f_law_is_before [.d (pQs a), .d (pQs b)] s = some (.d (.bool (lexB a b)), s) := by
  refine WF.eq (WF.body rfl ?_)
  simp [m_law_is_before, List.replicate_succ, pQs, pairs_map]
  refine WFor_inv (p2 pQ pQ) (a.zip b) (fun i ρ s' => s' = s ∧ ∃ c2 c3 : Option Cl, ρ = [some (.d (.tuple (a.map pQ))), some (.d (.tuple (b.map pQ))), c2, c3] ∧ (Lex a b ↔ Lex (a.drop i) (b.drop i))) ⟨rfl, none, none, rfl, Iff.rfl⟩ ?_ ?_
  · rintro i ⟨x, y⟩ ρ s' hz ⟨rfl, c2, c3, rfl, hl⟩
    rw [List.getElem?_zip_eq_some] at hz
    obtain ⟨h1, h2⟩ := hz
    obtain ⟨k1, e1⟩ := List.getElem?_eq_some_iff.mp h1
    obtain ⟨k2, e2⟩ := List.getElem?_eq_some_iff.mp h2
    rw [List.drop_eq_getElem_cons k1, List.drop_eq_getElem_cons k2] at hl
    dsimp only at e1 e2
    rw [e1, e2] at hl
    simp [p2, fEq_pQ]
    by_cases e : x = y
    · subst e
      simp
      rw [hl]
      constructor
      · rintro (h | ⟨_, h⟩)
        · grind
        · exact h
      · intro h; exact .inr ⟨rfl, h⟩
    · simp [e]
      refine WF.of (e_lbelow ((ha x (List.mem_of_getElem? h1)).bd) ((hb y (List.mem_of_getElem? h2)).bd)) ?_
      have : lexB a b = decide (x < y) := lexB_of (by
        rw [hl, decide_eq_true_iff]
        constructor
        · rintro (h | ⟨h, _⟩)
          · exact h
          · exact absurd h e
        · exact fun h => .inl h)
      simp [this]
  · rintro ρ s' ⟨rfl, c2, c3, rfl, hl⟩
    have : lexB a b = false := lexB_of (by
      rw [hl, List.length_zip]
      by_cases h : a.length ≤ b.length
      · rw [Nat.min_eq_left h, List.drop_length]
        simp [Lex]
      · rw [Nat.min_eq_right (by omega), List.drop_length]
        cases a.drop b.length <;> simp [Lex])
    simp [this]
end
end WW
namespace Dh
open PySem PySem.Spec L2 PySem.W
theorem count_pre {F : List (List Rat)} {row : List Rat} {k : Nat} (hk : k ≤ F.length) (h1 : ∀ i, i < k → ∀ r, F[i]? = some r → Lex r row) (h2 : ∀ i, k ≤ i → ∀ r, F[i]? = some r → ¬ Lex r row) : (F.filter fun r => lexB r row).length = k := by
  have e : F = F.take k ++ F.drop k := (List.take_append_drop k F).symm
  rw [e, List.filter_append]
  have a : (F.take k).filter (fun r => lexB r row) = F.take k := by
    rw [List.filter_eq_self]
    intro r hr
    obtain ⟨i, hi⟩ := List.getElem?_of_mem hr
    rw [List.getElem?_take] at hi
    split at hi
    · rename_i hik
      exact lexB_iff.mpr (h1 i hik r hi)
    · cases hi
  have b : (F.drop k).filter (fun r => lexB r row) = [] := by
    rw [List.filter_eq_nil_iff]
    intro r hr
    obtain ⟨i, hi⟩ := List.getElem?_of_mem hr
    rw [List.getElem?_drop] at hi
    intro q
    exact h2 (k + i) (by omega) r hi (lexB_iff.mp q)
  rw [a, b, List.append_nil, List.length_take]
  omega
end Dh
namespace WW
open PySem PySem.Spec L2 PySem.W Dh
section
variable {s : Sto}
theorem e_spot_of {F : List (List Rat)} {row : List Rat} (hs : F.Pairwise Lex) (hq : ∀ r ∈ F, ∀ q ∈ r, QLt 100 q) (hr : ∀ q ∈ row, QLt 100 q) (hl : F.length ≤ 900) : f_spot_of [.d (.list (F.map pQs)), .d (pQs row)] s = some (.d (.int ((F.filter fun r => lexB r row).length : Nat)), s) := by
  refine WF.eq (WF.body rfl ?_)
  simp [m_spot_of, List.replicate_succ]
  refine WWh_inv (fun n ρ s' => s' = s ∧ ∃ (lo hi : Nat) (c4 : Option Cl), ρ = [some (.d (.list (F.map pQs))), some (.d (pQs row)), some (.d (.int (lo : Int))), some (.d (.int (hi : Int))), c4] ∧ lo ≤ hi ∧ hi ≤ F.length ∧ n = hi - lo ∧ (∀ i, i < lo → ∀ r, F[i]? = some r → Lex r row) ∧ (∀ i, hi ≤ i → ∀ r, F[i]? = some r → ¬ Lex r row)) F.length ⟨rfl, 0, F.length, none, rfl, Nat.zero_le _, Nat.le_refl _, rfl, fun i hi => by omega, fun i hi r e => by
    rw [List.getElem?_eq_none hi] at e; cases e⟩ ?_
  rintro n ρ s' ⟨rfl, lo, hi, c4, rfl, h1, h2, rfl, h3, h4⟩
  simp
  by_cases hlt : lo < hi
  · have hm : gFdiv ((lo : Int) + (hi : Int)) 2 = some (.int (((lo + hi) / 2 : Nat) : Int)) := by
      rw [gFdiv_small (by decide) (by decide), ← Int.natCast_add]
      rfl
    have mlt : (lo + hi) / 2 < F.length := by omega
    have em : F[(lo + hi) / 2]? = some F[(lo + hi) / 2] := List.getElem?_eq_getElem mlt
    have mem := List.mem_of_getElem? em
    generalize F[(lo + hi) / 2] = r at *
    have ea : atI (F.map pQs) (((lo + hi) / 2 : Nat) : Int) = some (pQs r) := by rw [atI_ofNat (by rw [List.length_map]; exact mlt), List.getElem?_map, em]; rfl
    have m1 : lo ≤ (lo + hi) / 2 := by omega
    have m2 : (lo + hi) / 2 < hi := by omega
    generalize (lo + hi) / 2 = M at *
    have up : ∀ i k : Nat, i < k → ∀ a b, F[i]? = some a → F[k]? = some b → Lex a b := fun i k hik a b ha hb => by
      obtain ⟨g1, g2⟩ := List.getElem?_eq_some_iff.mp ha
      obtain ⟨g3, g4⟩ := List.getElem?_eq_some_iff.mp hb
      rw [← g2, ← g4]
      exact List.pairwise_iff_getElem.mp hs i k g1 g3 hik
    simp [hlt, hm, ea]
    refine WF.of (e_row_ahead (hq r mem) hr) ?_
    by_cases h : Lex r row
    · simp [lexB_iff.mpr h, sz2]
      refine ⟨hi - (M + 1), by omega, M + 1, hi, ⟨by simp, rfl⟩, by omega, h2, rfl, fun i hi' a ha => ?_, h4⟩
      by_cases e : i = M
      · subst e; rw [em] at ha; cases ha; exact h
      · exact (up i M (by omega) a r ha em).trans h
    · simp [Bool.eq_false_iff.mpr fun z => h (lexB_iff.mp z), sz2]
      refine ⟨M - lo, by omega, lo, M, ⟨rfl, rfl⟩, m1, by omega, rfl, h3, fun i hi' a ha q => ?_⟩
      by_cases e : i = M
      · subst e; rw [em] at ha; cases ha; exact h q
      · exact h ((up M i (by omega) r a em ha).trans q)
  · have e : lo = hi := by omega
    subst e
    simp
    exact congrArg Nat.cast (count_pre h2 h3 h4).symm
end
end WW
namespace Dh
open PySem PySem.Spec L2 PySem.W
def stepF (F : List (List Rat)) (e : List Rat) : List (List Rat) := F.flatMap fun r => e.map fun x => r ++ [x]
def pf (es : List (List Rat)) : List (List Rat) := es.foldl stepF [[]]
theorem pf_snoc {es : List (List Rat)} {e : List Rat} : pf (es ++ [e]) = stepF (pf es) e := by
  unfold pf
  rw [List.foldl_append]; rfl
def InE (es : List (List Rat)) (r : List Rat) : Prop := r.length = es.length ∧ ∀ (i : Nat) (x : Rat) (e : List Rat), r[i]? = some x → es[i]? = some e → x ∈ e
theorem mem_pf {r : List Rat} {es : List (List Rat)} : r ∈ pf es ↔ InE es r := by
  induction es using snoc_ind generalizing r with
  | nil =>
    simp [pf, InE]
  | snoc es e ih =>
    rw [pf_snoc]
    unfold stepF
    rw [List.mem_flatMap]
    constructor
    · rintro ⟨a, ha, hr⟩
      obtain ⟨x, hx, rfl⟩ := List.mem_map.mp hr
      obtain ⟨a1, a2⟩ := ih.mp ha
      refine ⟨by simp [a1], fun i y f hy hf => ?_⟩
      by_cases h : i < a.length
      · rw [List.getElem?_append_left h] at hy
        rw [List.getElem?_append_left (by omega)] at hf
        exact a2 i y f hy hf
      · have hi : i = a.length := by
          have := (List.getElem?_eq_some_iff.mp hy).1
          simp at this
          omega
        subst hi
        rw [List.getElem?_append_right (Nat.le_refl _), Nat.sub_self] at hy
        rw [a1, List.getElem?_append_right (Nat.le_refl _), Nat.sub_self] at hf
        cases hy; cases hf
        exact hx
    · rintro ⟨h1, h2⟩
      have hne : r ≠ [] := by intro h; rw [h] at h1; simp at h1
      obtain ⟨a, x, rfl⟩ : ∃ a x, r = a ++ [x] := ⟨r.dropLast, r.getLast hne, (List.dropLast_concat_getLast hne).symm⟩
      have hl : a.length = es.length := by simpa using h1
      refine ⟨a, ih.mpr ⟨hl, fun i y f hy hf => ?_⟩, List.mem_map.mpr ⟨x, ?_, rfl⟩⟩
      · have hi := (List.getElem?_eq_some_iff.mp hy).1
        exact h2 i y f (by rw [List.getElem?_append_left hi]; exact hy) (by rw [List.getElem?_append_left (by omega)]; exact hf)
      · exact h2 a.length x e (by simp) (by rw [hl]; simp)
theorem stepF_len {F : List (List Rat)} {e : List Rat} (he : e.length ≤ 2) : (stepF F e).length ≤ F.length * 2 := by
  unfold stepF
  induction F with
  | nil => simp
  | cons r F ih =>
    rw [List.flatMap_cons, List.length_append, List.length_map, List.length_cons]
    omega
theorem pf_len {es : List (List Rat)} (h : ∀ e ∈ es, e.length ≤ 2) : (pf es).length ≤ 2 ^ es.length := by
  induction es using snoc_ind with
  | nil => simp [pf]
  | snoc es e ih =>
    rw [pf_snoc, List.length_append, List.length_singleton, Nat.pow_succ]
    have a := stepF_len (F := pf es) (h e (by simp))
    have b := ih fun f hf => h f (List.mem_append_left _ hf)
    omega
end Dh
namespace Dh
open PySem PySem.Spec L2 PySem.W
def endsL (x : RS) : List Rat := if x.lo = x.hi then [x.lo] else [x.lo, x.hi]
theorem endsL_len {x : RS} : (endsL x).length ≤ 2 := by
  unfold endsL
  split <;> simp
theorem stepF_map {F : List (List Rat)} {e : List Rat} : (F.flatMap fun r => e.map fun x => pQs (r ++ [x])) = (stepF F e).map pQs := by
  unfold stepF
  rw [List.map_flatMap]
  refine congrArg (fun f => F.flatMap f) (funext fun r => ?_)
  rw [List.map_map]; rfl
end Dh
namespace WW
open PySem PySem.Spec L2 PySem.W Dh
section
variable {s : Sto}
theorem e_ends_of {L : List RS} (hL : L.length ≤ 8) : f_ends_of [.d (pStr L)] s = some (.f ((pf (L.map endsL)).map pQs), s) := by
  have big : ∀ i, i ≤ L.length → (pf ((L.take i).map endsL)).length ≤ 256 := fun i hi => by
    refine Nat.le_trans (pf_len fun e he => ?_) (Nat.le_trans (Nat.pow_le_pow_right (by decide) (show ((L.take i).map endsL).length ≤ 8 by rw [List.length_map, List.length_take]; omega)) (by decide))
    obtain ⟨x, _, rfl⟩ := List.mem_map.mp he
    exact endsL_len
  have rlen : ∀ i r, r ∈ pf ((L.take i).map endsL) → r.length ≤ 8 := fun i r hr => by
    have := (mem_pf.mp hr).1
    rw [this, List.length_map, List.length_take]
    omega
  refine WF.eq (WF.body rfl ?_)
  simp [m_ends_of, List.replicate_succ, pStr, sz1]
  refine WFor_inv pRS L (fun i ρ s' => s' = s ∧ ∃ c2 c3 c4 c5 c6 c7 : Option Cl, ρ = [some (.d (.tuple (L.map pRS))), some (.o ((pf ((L.take i).map endsL)).map pQs)), c2, c3, c4, c5, c6, c7]) ⟨rfl, none, none, none, none, none, none, rfl⟩ ?_ ?_
  · rintro i x ρ s' hx ⟨rfl, c2, c3, c4, c5, c6, c7, rfl⟩
    have hi := (List.getElem?_eq_some_iff.mp hx).1
    have ht := take_snoc hx
    have bi := big i (by omega)
    have bi1 := big (i + 1) (by omega)
    have rl := rlen i
    rw [ht, List.map_append, List.map_singleton, pf_snoc] at *
    generalize pf ((L.take i).map endsL) = F at *
    simp [pRS, fEq_pQ]
    by_cases h : x.lo = x.hi
    · have ee : endsL x = [x.lo] := by simp [endsL, h]
      simp [h, sz1, frzs, frz1]
      refine WLc2_map pQs (fun r => ([x.hi]).map fun e => pQs (r ++ [e])) F (fun r hr => ?_) ?_
      · simp
        refine WLc_map pQ (fun e => pQs (r ++ [e])) [x.hi] (fun e he => ?_) ?_
        · have := rl r hr
          simp [pQs, sz1, szle (show r.length + 1 ≤ 1000 by omega)]
        · exact ⟨rfl, rfl⟩
      rw [stepF_map]
      refine ⟨szle (by rw [List.length_map, ← h, ← ee]; omega), ?_⟩
      simp [ee, h]
    · have ee : endsL x = [x.lo, x.hi] := by simp [endsL, h]
      simp [h, sz2, frzs, frz1]
      refine WLc2_map pQs (fun r => ([x.lo, x.hi]).map fun e => pQs (r ++ [e])) F (fun r hr => ?_) ?_
      · simp
        refine WLc_map pQ (fun e => pQs (r ++ [e])) [x.lo, x.hi] (fun e he => ?_) ?_
        · have := rl r hr
          simp [pQs, sz1, szle (show r.length + 1 ≤ 1000 by omega)]
        · exact ⟨rfl, rfl⟩
      rw [stepF_map]
      refine ⟨szle (by rw [List.length_map, ← ee]; omega), ?_⟩
      simp [ee]
  · rintro ρ s' ⟨rfl, c2, c3, c4, c5, c6, c7, rfl⟩
    rw [List.take_length]
    simp
end
end WW
namespace Dh
open PySem PySem.Spec L2 PySem.W
/-- each at an end -/
def En : List RS → List Rat → Prop
  | [], [] => True
  | x :: A, q :: a => (q = x.lo ∨ q = x.hi) ∧ En A a
  | _, _ => False
theorem En.len : ∀ {A : List RS} {a : List Rat}, En A a → a.length = A.length
  | [], [], _ => rfl
  | x :: A, q :: a, h => by rw [List.length_cons, List.length_cons, En.len h.2]
  | [], _ :: _, h => h.elim
  | _ :: _, [], h => h.elim
theorem En.app : ∀ {A : List RS} {a : List Rat} {B : List RS} {b : List Rat}, En A a → En B b → En (A ++ B) (a ++ b)
  | [], [], _, _, _, g => g
  | x :: A, q :: a, _, _, h, g => ⟨h.1, En.app h.2 g⟩
  | [], _ :: _, _, _, h, _ => h.elim
  | _ :: _, [], _, _, h, _ => h.elim
theorem En.split : ∀ {A : List RS} {r : List Rat} {B : List RS}, En (A ++ B) r → ∃ a b, r = a ++ b ∧ En A a ∧ En B b
  | [], r, B, h => ⟨[], r, rfl, trivial, h⟩
  | x :: A, q :: r, B, h => by
    obtain ⟨a, b, rfl, h1, h2⟩ := En.split (A := A) h.2
    exact ⟨q :: a, b, rfl, ⟨h.1, h1⟩, h2⟩
  | _ :: _, [], _, h => h.elim
theorem inE_nil {r : List Rat} : InE [] r ↔ r = [] := by
  unfold InE
  constructor
  · intro h; exact List.length_eq_zero_iff.mp h.1
  · rintro rfl; exact ⟨rfl, by simp⟩
theorem inE_cons {e : List Rat} {es : List (List Rat)} {r : List Rat} : InE (e :: es) r ↔ ∃ x r', r = x :: r' ∧ x ∈ e ∧ InE es r' := by
  unfold InE
  constructor
  · rintro ⟨h1, h2⟩
    cases r with
    | nil => simp at h1
    | cons x r =>
      refine ⟨x, r, rfl, h2 0 x e rfl rfl, by simpa using h1, fun i y f hy hf => h2 (i + 1) y f (by simpa using hy) (by simpa using hf)⟩
  · rintro ⟨x, r', rfl, hx, h1, h2⟩
    refine ⟨by simp [h1], fun i y f hy hf => ?_⟩
    cases i with
    | zero =>
      simp at hy hf
      subst hy; subst hf
      exact hx
    | succ i => exact h2 i y f (by simpa using hy) (by simpa using hf)
theorem inE_En {g : RS → List Rat} (hg : ∀ x q, q ∈ g x ↔ q = x.lo ∨ q = x.hi) : ∀ {A : List RS} {a : List Rat}, InE (A.map g) a ↔ En A a
  | [], a => by
    rw [List.map_nil, inE_nil]
    cases a <;> simp [En]
  | x :: A, a => by
    rw [List.map_cons, inE_cons]
    constructor
    · rintro ⟨q, r, rfl, h1, h2⟩
      exact ⟨(hg x q).mp h1, (inE_En hg).mp h2⟩
    · intro h
      cases a with
      | nil => exact h.elim
      | cons q r => exact ⟨q, r, rfl, (hg x q).mpr h.1, (inE_En hg).mpr h.2⟩
theorem endsL_mem (x : RS) (q : Rat) : q ∈ endsL x ↔ q = x.lo ∨ q = x.hi := by
  unfold endsL
  split
  · rename_i h
    rw [← h]
    simp
  · simp
def ends2 (x : RS) : List Rat := [x.lo, x.hi]
theorem ends2_mem (x : RS) (q : Rat) : q ∈ ends2 x ↔ q = x.lo ∨ q = x.hi := by
  simp [ends2]
/-- the law's ends: nothing at the free place -/
def esf (f : Nat) (l : List RS) : List (List Rat) := (l.take f).map ends2 ++ [0] :: (l.drop (f + 1)).map ends2
theorem esf_len {f : Nat} {l : List RS} (hf : f < l.length) : (esf f l).length = l.length := by
  unfold esf
  simp
  omega
theorem esf_at {f i : Nat} {l : List RS} (hf : f < l.length) {x : RS} (hi : l[i]? = some x) : (esf f l)[i]? = some (if i = f then [0] else ends2 x) := by
  unfold esf
  have hl : ((l.take f).map ends2).length = f := by simp; omega
  by_cases h1 : i < f
  · rw [List.getElem?_append_left (by omega), List.getElem?_map, List.getElem?_take, if_pos h1, hi, if_neg (by omega)]; rfl
  · rw [List.getElem?_append_right (by omega), hl]
    by_cases h2 : i = f
    · subst h2
      rw [Nat.sub_self, if_pos rfl]; rfl
    · obtain ⟨k, rfl⟩ : ∃ k, i = f + 1 + k := ⟨i - f - 1, by omega⟩
      rw [show f + 1 + k - f = k + 1 by omega, List.getElem?_cons_succ, List.getElem?_map, List.getElem?_drop, hi, if_neg h2]; rfl
theorem inE_snoc_app : ∀ {es fs : List (List Rat)} {r : List Rat}, InE (es ++ fs) r ↔ ∃ a b, r = a ++ b ∧ InE es a ∧ InE fs b
  | [], fs, r => by
    rw [List.nil_append]
    constructor
    · intro h; exact ⟨[], r, rfl, inE_nil.mpr rfl, h⟩
    · rintro ⟨a, b, rfl, h1, h2⟩
      rw [inE_nil.mp h1]
      exact h2
  | e :: es, fs, r => by
    rw [List.cons_append, inE_cons]
    constructor
    · rintro ⟨x, r', rfl, hx, h⟩
      obtain ⟨a, b, rfl, h1, h2⟩ := inE_snoc_app.mp h
      exact ⟨x :: a, b, rfl, inE_cons.mpr ⟨x, a, rfl, hx, h1⟩, h2⟩
    · rintro ⟨a, b, rfl, h1, h2⟩
      obtain ⟨x, a', rfl, hx, h1⟩ := inE_cons.mp h1
      exact ⟨x, a' ++ b, rfl, hx, inE_snoc_app.mpr ⟨a', b, rfl, h1, h2⟩⟩
theorem mem_esf {f : Nat} {l : List RS} {r : List Rat} : r ∈ pf (esf f l) ↔ ∃ a b, r = a ++ 0 :: b ∧ En (l.take f) a ∧ En (l.drop (f + 1)) b := by
  rw [mem_pf]
  unfold esf
  rw [inE_snoc_app]
  constructor
  · rintro ⟨a, c, rfl, h1, h2⟩
    obtain ⟨x, b, rfl, hx, h2⟩ := inE_cons.mp h2
    rw [List.mem_singleton.mp hx]
    exact ⟨a, b, rfl, (inE_En ends2_mem).mp h1, (inE_En ends2_mem).mp h2⟩
  · rintro ⟨a, b, rfl, h1, h2⟩
    exact ⟨a, 0 :: b, rfl, (inE_En ends2_mem).mpr h1, inE_cons.mpr ⟨0, b, rfl, by simp, (inE_En ends2_mem).mpr h2⟩⟩
theorem mem_rows {A B : List RS} {r : List Rat} : r ∈ pf ((A ++ B).map endsL) ↔ ∃ a b, r = a ++ b ∧ En A a ∧ En B b := by
  rw [mem_pf, inE_En endsL_mem]
  constructor
  · exact En.split
  · rintro ⟨a, b, rfl, h1, h2⟩; exact h1.app h2
/-- a corner with its free place -/
def Crn (l : List RS) (f : Nat) (w : List Rat) : Prop := ∃ a b, En (l.take f) a ∧ En (l.drop (f + 1)) b ∧ w = a ++ (1 - (qsum a + qsum b)) :: b ∧ (l.getD f rs0).lo ≤ 1 - (qsum a + qsum b) ∧ 1 - (qsum a + qsum b) ≤ (l.getD f rs0).hi
structure CJ (m : Nat) (F : List (List Rat)) (C : List Rat → Prop) : Prop where
  srt : F.Pairwise Lex
  mem : ∀ w, w ∈ F ↔ C w
  ok : ∀ w ∈ F, w.length = m ∧ ∀ q ∈ w, QLt 100 q
theorem CJ.congr {m : Nat} {F : List (List Rat)} {C C' : List Rat → Prop} (h : CJ m F C) (e : ∀ w, C w ↔ C' w) : CJ m F C' := ⟨h.srt, fun w => (h.mem w).trans (e w), h.ok⟩
noncomputable def insL (F : List (List Rat)) (w : List Rat) : List (List Rat) := F.take (F.filter fun r => lexB r w).length ++ w :: F.drop (F.filter fun r => lexB r w).length
theorem insL_len {F : List (List Rat)} {w : List Rat} : (insL F w).length = F.length + 1 := by
  unfold insL
  have := List.length_filter_le (fun r => lexB r w) F
  rw [List.length_append, List.length_take, List.length_cons, List.length_drop]
  omega
theorem insL_mem {F : List (List Rat)} {w v : List Rat} : v ∈ insL F w ↔ v ∈ F ∨ v = w := by
  unfold insL
  generalize (F.filter fun r => lexB r w).length = k
  rw [List.mem_append, List.mem_cons]
  have e : v ∈ F ↔ v ∈ F.take k ∨ v ∈ F.drop k := by
    rw [← List.mem_append, List.take_append_drop]
  rw [e]
  constructor
  · rintro (h | h | h)
    · exact .inl (.inl h)
    · exact .inr h
    · exact .inl (.inr h)
  · rintro ((h | h) | h)
    · exact .inl h
    · exact .inr (.inr h)
    · exact .inr (.inl h)
theorem CJ.ins {m : Nat} {F : List (List Rat)} {C : List Rat → Prop} (h : CJ m F C) {w : List Rat} (hw : w ∉ F) (hl : w.length = m) (hq : ∀ q ∈ w, QLt 100 q) : CJ m (insL F w) fun v => C v ∨ v = w := by
  refine ⟨?_, fun v => by rw [insL_mem, h.mem v], fun v hv => ?_⟩
  · refine @insert_sorted _ Lex (fun a b => Classical.propDecidable _) (fun _ _ _ => Lex.trans) w F h.srt (fun y hy => ?_) (fun y hy h1 h2 => Lex.irr (h1.trans h2))
    exact Lex.of (by rw [(h.ok y hy).1, hl]) fun e => hw (e ▸ hy)
  · rcases insL_mem.mp hv with hv | rfl
    · exact h.ok v hv
    · exact ⟨hl, hq⟩
theorem CJ.same {m : Nat} {F G : List (List Rat)} {C : List Rat → Prop} (h : CJ m F C) (g : CJ m G C) : F = G :=
  sorted_unique (R := Lex) (fun _ _ _ => Lex.trans) (fun _ => Lex.irr) h.srt g.srt fun x => (h.mem x).trans (g.mem x).symm
/-- the place found is that of the row, if it stands there -/
theorem spot_known {F : List (List Rat)} {w : List Rat} (hs : F.Pairwise Lex) {k : Nat} (hk : k = (F.filter fun r => lexB r w).length) : (F[k]? = some w) ↔ w ∈ F := by
  constructor
  · exact List.mem_of_getElem?
  · intro h
    obtain ⟨A, B, rfl⟩ := List.append_of_mem h
    rw [List.pairwise_append, List.pairwise_cons] at hs
    have e : k = A.length := by
      rw [hk, List.filter_append, List.filter_cons, if_neg (by rw [lexB_iff]; exact Lex.irr)]
      rw [List.filter_eq_self.mpr fun r hr => lexB_iff.mpr (hs.2.2 r hr w (by simp)), List.filter_eq_nil_iff.mpr fun r hr q => Lex.irr ((lexB_iff.mp q).trans (hs.2.1.1 r hr)), List.append_nil]
    rw [e, List.getElem?_append_right (Nat.le_refl _), Nat.sub_self]; rfl
end Dh
namespace WW
open PySem PySem.Spec L2 PySem.W Dh
section
variable {s : Sto}
theorem e_leach_with {F : List (List Rat)} {e : List Rat} (hF : F.length ≤ 400) (he : e.length ≤ 2) (hr : ∀ r ∈ F, r.length ≤ 8) : f_law_each_with [.d (.list (F.map pQs)), .d (.tuple (e.map pQ))] s = some (.f ((stepF F e).map pQs), s) := by
  have sn : ∀ {i r}, F[i]? = some r → stepF (F.take (i + 1)) e = stepF (F.take i) e ++ e.map fun x => r ++ [x] := fun {i r} h => by
    rw [take_snoc h]
    unfold stepF
    rw [List.flatMap_append, List.flatMap_cons, List.flatMap_nil, List.append_nil]
  have ln : ∀ i, (stepF (F.take i) e).length ≤ 800 := fun i => by
    have := stepF_len (F := F.take i) he
    rw [List.length_take] at this
    omega
  refine WF.eq (WF.body rfl ?_)
  simp [m_law_each_with, List.replicate_succ]
  refine WFor_inv pQs F (fun i ρ s' => s' = s ∧ ∃ c3 c4 : Option Cl, ρ = [some (.d (.list (F.map pQs))), some (.d (.tuple (e.map pQ))), some (.o ((stepF (F.take i) e).map pQs)), c3, c4]) ⟨rfl, none, none, rfl⟩ ?_ ?_
  · rintro i r ρ s' hi ⟨rfl, c3, c4, rfl⟩
    have hl := ln i
    have hrl := hr r (List.mem_of_getElem? hi)
    rw [sn hi]
    generalize stepF (F.take i) e = G at *
    simp
    refine WFor_inv pQ e (fun j ρ s2 => s2 = s' ∧ ∃ c4 : Option Cl, ρ = [some (.d (.list (F.map pQs))), some (.d (.tuple (e.map pQ))), some (.o ((G ++ (e.take j).map fun x => r ++ [x]).map pQs)), some (.d (pQs r)), c4]) ⟨rfl, c4, by simp⟩ ?_ ?_
    · rintro j x ρ s2 hj ⟨rfl, c4, rfl⟩
      have ht := take_snoc hj
      have hjl := (List.getElem?_eq_some_iff.mp hj).1
      have l2 : ((G ++ (e.take j).map fun x => r ++ [x]).map pQs).length ≤ 1000 := by simp; omega
      have e2 : (G ++ (e.take (j + 1)).map fun x => r ++ [x]).map pQs = (G ++ (e.take j).map fun x => r ++ [x]).map pQs ++ [pQs (r ++ [x])] := by
        rw [ht, List.map_append (l₁ := e.take j), List.map_singleton, ← List.append_assoc, List.map_append (l₂ := [r ++ [x]]), List.map_singleton]
      rw [e2]
      generalize (G ++ (e.take j).map fun x => r ++ [x]).map pQs = M at *
      simp [pQs, sz1, szle (show r.length + 1 ≤ 1000 by omega), szlt l2]
    · rintro ρ s2 ⟨rfl, c4, rfl⟩
      rw [List.take_length]
      simp
  · rintro ρ s' ⟨rfl, c3, c4, rfl⟩
    rw [List.take_length]
    simp
end
end WW
namespace Dh
open PySem PySem.Spec L2 PySem.W
theorem cut_from {xs : List PyData} {k : Nat} : cutD xs (some (k : Int)) none = xs.drop k := by
  unfold cutD
  rw [HT.sIx_nat, show HT.sIx xs.length xs.length none = xs.length from rfl]
  by_cases h : k ≤ xs.length
  · rw [Nat.min_eq_left h, List.take_of_length_le (by rw [List.length_drop]; omega)]
  · rw [Nat.min_eq_right (by omega), List.drop_eq_nil_of_le (Nat.le_refl _), List.drop_eq_nil_of_le (by omega), List.take_nil]
theorem cut_from1 {xs : List PyData} {k : Nat} : cutD xs (some ((k : Int) + 1)) none = xs.drop (k + 1) := cut_from (k := k + 1)
theorem eqvAll_qt : ∀ l m : List Rat, PyData.eqvAll (l.map pQ) (m.map pQ) = decide (l = m)
  | [], [] => by simp [PyData.eqvAll]
  | [], _ :: _ => by simp [PyData.eqvAll]
  | _ :: _, [] => by simp [PyData.eqvAll]
  | p :: l, q :: m => by
    rw [List.map_cons, List.map_cons]
    simp only [PyData.eqvAll, eqv_pQ, eqvAll_qt l m]
    by_cases e : p = q
    · by_cases e2 : l = m
      · simp [e, e2]
      · simp [e, e2]
    · simp [e]
theorem eqv_qt {l m : List Rat} : PyData.eqv (pQs l) (pQs m) = decide (l = m) := by
  unfold pQs
  rw [show PyData.eqv (.tuple (l.map pQ)) (.tuple (m.map pQ)) = PyData.eqvAll (l.map pQ) (m.map pQ) by simp only [PyData.eqv], eqvAll_qt]
theorem pn_qs {l : List Rat} (h : ∀ q ∈ l, QLt 100 q) (hl : l.length ≤ 8) : Pn 100 2 24 (pQs l) := Pn.qs0 (B := 100) (by decide) (by decide) h hl
theorem pn_rows {F : List (List Rat)} {n : Nat} (h : ∀ r ∈ F, r.length ≤ 8 ∧ ∀ q ∈ r, QLt 100 q) (hn : F.length ≤ n) : Pn 100 3 (n * 25) (.list (F.map pQs)) :=
  Pn.lst (fun x hx => by obtain ⟨r, hr, rfl⟩ := List.mem_map.mp hx; exact pn_qs (h r hr).2 (h r hr).1) (by rw [List.length_map]; exact hn)
theorem fEq_qt {l m : List Rat} {neg : Bool} (h1 : ∀ q ∈ l, QLt 100 q) (h2 : ∀ q ∈ m, QLt 100 q) (hl : l.length ≤ 8) (hm : m.length ≤ 8) : fEq neg (.d (pQs l)) (.d (pQs m)) = some (.d (.bool (if neg then !decide (l = m) else decide (l = m)))) := by
  show (if eqOk (pQs l) = true ∧ eqOk (pQs m) = true then some (R.d (.bool (if neg then !PyData.eqv (pQs l) (pQs m) else PyData.eqv (pQs l) (pQs m)))) else none) = _
  rw [if_pos ⟨(pn_qs h1 hl).eqOk (by decide), (pn_qs h2 hm).eqOk (by decide)⟩, eqv_qt]
theorem any_rows {F : List (List Rat)} {w : List Rat} : ((F.map pQs).any fun z => PyData.eqv z (pQs w)) = decide (w ∈ F) := by
  rw [Bool.eq_iff_iff, List.any_eq_true, decide_eq_true_iff]
  constructor
  · rintro ⟨z, hz, e⟩
    obtain ⟨r, hr, rfl⟩ := List.mem_map.mp hz
    rw [eqv_qt, decide_eq_true_iff] at e
    exact e ▸ hr
  · intro h
    exact ⟨_, List.mem_map_of_mem h, by rw [eqv_qt]; simp⟩
theorem fIn_rows {F : List (List Rat)} {w : List Rat} (h : ∀ r ∈ F, r.length ≤ 8 ∧ ∀ q ∈ r, QLt 100 q) (hw : ∀ q ∈ w, QLt 100 q) (hl : w.length ≤ 8) : fIn true (.d (pQs w)) (.b (F.map pQs)) = some (.d (.bool (!decide (w ∈ F)))) := by
  show (if eqOk (pQs w) = true ∧ eqOk (.list (F.map pQs)) = true then some (R.d (.bool (if true then !((F.map pQs).any fun z => PyData.eqv z (pQs w)) else (F.map pQs).any fun z => PyData.eqv z (pQs w)))) else none) = _
  rw [if_pos ⟨(pn_qs hw hl).eqOk (by decide), (pn_rows h (Nat.le_refl _)).eqOk (by decide)⟩, any_rows]
  rfl
theorem filterMap_rows {F : List (List Rat)} {c : List Rat → Bool} : (F.filterMap fun r => if c r = true then some (pQs r) else none) = (F.filter c).map pQs := by
  induction F with
  | nil => rfl
  | cons r F ih =>
    rw [List.filterMap_cons, List.filter_cons]
    cases h : c r <;> simp [ih, h]
theorem En.mem : ∀ {A : List RS} {a : List Rat}, En A a → ∀ q ∈ a, ∃ x ∈ A, q = x.lo ∨ q = x.hi
  | [], [], _, q, hq => by simp at hq
  | x :: A, p :: a, h, q, hq => by
    rcases List.mem_cons.mp hq with rfl | hq
    · exact ⟨x, by simp, h.1⟩
    · obtain ⟨y, hy, e⟩ := En.mem h.2 q hq
      exact ⟨y, List.mem_cons_of_mem _ hy, e⟩
  | [], _ :: _, h, _, _ => h.elim
  | _ :: _, [], h, _, _ => h.elim
section
variable {D : Nat} {l : List RS}
theorem corn_cd (o : StOk D l) {f : Nat} {a b : List Rat} (ha : En (l.take f) a) (hb : En (l.drop (f + 1)) b) : ∀ q ∈ a ++ b, CD D (3 * D) q := fun q hq => by
  have key : ∃ x ∈ l, q = x.lo ∨ q = x.hi := by
    rcases List.mem_append.mp hq with hq | hq
    · obtain ⟨x, hx, e⟩ := ha.mem q hq
      exact ⟨x, List.mem_of_mem_take hx, e⟩
    · obtain ⟨x, hx, e⟩ := hb.mem q hq
      exact ⟨x, List.mem_of_mem_drop hx, e⟩
  obtain ⟨x, hx, rfl | rfl⟩ := key
  · exact (o.each x hx).cl
  · exact (o.each x hx).ch
theorem corn_ql (o : StOk D l) {f : Nat} {a b : List Rat} (ha : En (l.take f) a) (hb : En (l.drop (f + 1)) b) : ∀ q ∈ a ++ b, QLt 10 q := fun q hq => by
  have D30 := o.D30
  exact (corn_cd o ha hb q hq).qlt o.D0 (by omega) (by omega)
theorem corn_len {f : Nat} {a b : List Rat} (hf : f < l.length) (ha : En (l.take f) a) (hb : En (l.drop (f + 1)) b) : a.length = f ∧ f + 1 + b.length = l.length := by
  have h1 := ha.len
  have h2 := hb.len
  rw [List.length_take] at h1
  rw [List.length_drop] at h2
  omega
theorem corn_own (o : StOk D l) {f : Nat} {a b : List Rat} (hf : f < l.length) (ha : En (l.take f) a) (hb : En (l.drop (f + 1)) b) : CD D (16 * D) (1 - (qsum a + qsum b)) := by
  have c := CD_sum_le (n := 5) (corn_cd o ha hb) (by
    have := corn_len hf ha hb
    have := o.n5
    rw [List.length_append]; omega)
  rw [qsum_append] at c
  exact ((CD_1 (Nat.le_refl D)).sub c).mono (by omega)
theorem corn_ok (o : StOk D l) {f : Nat} {a b : List Rat} (hf : f < l.length) (ha : En (l.take f) a) (hb : En (l.drop (f + 1)) b) : (a ++ (1 - (qsum a + qsum b)) :: b).length = l.length ∧ ∀ q ∈ a ++ (1 - (qsum a + qsum b)) :: b, QLt 20 q := by
  have h := corn_len hf ha hb
  have D30 := o.D30
  refine ⟨by rw [List.length_append, List.length_cons]; omega, fun q hq => ?_⟩
  have e := corn_ql o ha hb
  rw [List.mem_append, List.mem_cons] at hq
  rcases hq with hq | rfl | hq
  · exact (e q (List.mem_append_left _ hq)).mono (by omega)
  · exact (corn_own o hf ha hb).qlt o.D0 (by omega) (by omega)
  · exact (e q (List.mem_append_right _ hq)).mono (by omega)
/-- what stands so far, some rows having been gone through -/
def RowC (l : List RS) (i k : Nat) (x : RS) (rows : List (List Rat)) (j : Nat) (w : List Rat) : Prop := (∃ f, f < i ∧ Crn l f w) ∨ ∃ r ∈ rows.take j, (x.lo ≤ 1 - qsum r ∧ 1 - qsum r ≤ x.hi) ∧ w = r.take i ++ (1 - qsum r) :: r.drop k
theorem RowC_0 {i k : Nat} {x : RS} {rows : List (List Rat)} {w : List Rat} : (∃ f, f < i ∧ Crn l f w) ↔ RowC l i k x rows 0 w := by
  unfold RowC
  simp
theorem RowC_succ {i k : Nat} {x : RS} {rows : List (List Rat)} {j : Nat} {r w : List Rat} (hj : rows[j]? = some r) : RowC l i k x rows (j + 1) w ↔ RowC l i k x rows j w ∨ ((x.lo ≤ 1 - qsum r ∧ 1 - qsum r ≤ x.hi) ∧ w = r.take i ++ (1 - qsum r) :: r.drop k) := by
  unfold RowC
  rw [take_snoc hj]
  constructor
  · rintro (h | ⟨r', hr, h⟩)
    · exact .inl (.inl h)
    · rcases List.mem_append.mp hr with hr | hr
      · exact .inl (.inr ⟨r', hr, h⟩)
      · rw [List.mem_singleton.mp hr] at h
        exact .inr h
  · rintro ((h | ⟨r', hr, h⟩) | h)
    · exact .inl h
    · exact .inr ⟨r', List.mem_append_left _ hr, h⟩
    · exact .inr ⟨r, List.mem_append_right _ (by simp), h⟩
theorem RowC_end {i k : Nat} {x : RS} {rows : List (List Rat)} {w : List Rat} (hx : l.getD i rs0 = x) (hr : ∀ w, (∃ r ∈ rows, (x.lo ≤ 1 - qsum r ∧ 1 - qsum r ≤ x.hi) ∧ w = r.take i ++ (1 - qsum r) :: r.drop k) ↔ Crn l i w) : RowC l i k x rows rows.length w ↔ ∃ f, f < i + 1 ∧ Crn l f w := by
  unfold RowC
  rw [List.take_length, hr w]
  constructor
  · rintro (⟨f, hf, h⟩ | h)
    · exact ⟨f, by omega, h⟩
    · exact ⟨i, by omega, h⟩
  · rintro ⟨f, hf, h⟩
    by_cases e : f = i
    · subst e; exact .inr h
    · exact .inl ⟨f, by omega, h⟩
theorem CJ.out {m : Nat} {F : List (List Rat)} {C C' : List Rat → Prop} {w : List Rat} {B : Prop} (h : CJ m F C) (e : ∀ v, C' v ↔ C v ∨ (B ∧ v = w)) (hb : ¬ B ∨ w ∈ F) : CJ m F C' := h.congr fun v => by
  rw [e v]
  constructor
  · exact .inl
  · rintro (h' | ⟨b, rfl⟩)
    · exact h'
    · exact (h.mem v).mp (hb.resolve_left (fun n => n b))
theorem CJ.inn {m : Nat} {F : List (List Rat)} {C C' : List Rat → Prop} {w : List Rat} {B : Prop} (h : CJ m F C) (e : ∀ v, C' v ↔ C v ∨ (B ∧ v = w)) (hb : B) (hw : w ∉ F) (hl : w.length = m) (hq : ∀ q ∈ w, QLt 100 q) : CJ m (insL F w) C' := (h.ins hw hl hq).congr fun v => by
  rw [e v]
  constructor
  · rintro (h' | rfl)
    · exact .inl h'
    · exact .inr ⟨hb, rfl⟩
  · rintro (h' | ⟨_, rfl⟩)
    · exact .inl h'
    · exact .inr rfl
theorem insL_map {F : List (List Rat)} {w : List Rat} {k : Nat} (hk : k = (F.filter fun r => lexB r w).length) : (F.map pQs).take k ++ pQs w :: (F.map pQs).drop k = (insL F w).map pQs := by
  subst hk
  unfold insL
  rw [List.map_append, List.map_cons, List.map_take, List.map_drop]
end
end Dh
namespace WW
open PySem PySem.Spec L2 PySem.W Dh
section
variable {s : Sto} {D : Nat} {l : List RS}
theorem w_corners_by (o : StOk D l) : WF f_corners_by [.d (pStr l)] s fun r s' => s' = s ∧ ∃ F, r = .d (.tuple (F.map pQs)) ∧ CJ l.length F (fun w => ∃ f, f < l.length ∧ Crn l f w) ∧ F.length ≤ 160 := by
  have n5 := o.n5
  have k1 : k_ONE = pQ 1 := rfl
  refine WF.body rfl ?_
  simp [m_corners_by, List.replicate_succ, pStr, numbered_map]
  refine WFor_inv (fun p : RS × Nat => PyData.tuple [.int (p.2 : Nat), pRS p.1]) l.zipIdx (fun i ρ s' => s' = s ∧ ∃ (F : List (List Rat)) (c2 c3 c4 c5 c6 c7 c8 c9 c10 : Option Cl), ρ = [some (.d (.tuple (l.map pRS))), some (.o (F.map pQs)), c2, c3, c4, c5, c6, c7, c8, c9, c10] ∧ CJ l.length F (fun w => ∃ f, f < i ∧ Crn l f w) ∧ F.length ≤ 32 * i) ⟨rfl, [], none, none, none, none, none, none, none, none, none, rfl, ⟨by simp, fun w => by simp, by simp⟩, by simp⟩ ?_ ?_
  · rintro i ⟨x, i'⟩ ρ s' hp ⟨rfl, F, c2, c3, c4, c5, c6, c7, c8, c9, c10, rfl, cj, fl⟩
    rw [List.getElem?_zipIdx] at hp
    obtain ⟨x', hx, e⟩ := Option.map_eq_some_iff.mp hp
    rw [Nat.zero_add] at e
    cases e
    have hi := (List.getElem?_eq_some_iff.mp hx).1
    simp [pRS, fSl, cut_to, cut_from1]
    refine ⟨szle (by omega), ?_⟩
    rw [show PyData.tuple (List.take i (l.map pRS) ++ List.drop (i + 1) (l.map pRS)) = pStr (l.take i ++ l.drop (i + 1)) by unfold pStr; rw [List.map_append, List.map_take, List.map_drop]]
    refine WF.of (e_ends_of (by rw [List.length_append, List.length_take, List.length_drop]; omega)) ?_
    have rl : (pf ((l.take i ++ l.drop (i + 1)).map endsL)).length ≤ 32 := by
      refine Nat.le_trans (pf_len fun e he => ?_) (Nat.le_trans (Nat.pow_le_pow_right (by decide) (show _ ≤ 5 by rw [List.length_map, List.length_append, List.length_take, List.length_drop]; omega)) (by decide))
      obtain ⟨x, _, rfl⟩ := List.mem_map.mp he
      exact endsL_len
    have rmem := fun r => mem_rows (A := l.take i) (B := l.drop (i + 1)) (r := r)
    generalize pf ((l.take i ++ l.drop (i + 1)).map endsL) = rows at *
    have ex : l.getD i rs0 = x := by rw [List.getD_eq_getElem?_getD, hx]; rfl
    have xok := o.each x (List.mem_of_getElem? hx)
    obtain ⟨q1, q2⟩ := xok.ql o.D0 o.D30
    simp
    refine WFor_inv pQs rows (fun j ρ s2 => s2 = s' ∧ ∃ (F : List (List Rat)) (c6 c7 c8 c9 c10 : Option Cl), ρ = [some (Cl.d (PyData.tuple (List.map pRS l))), some (Cl.o (List.map pQs F)), some (Cl.d (PyData.int ↑i)), some (Cl.d (PyData.int ↑x.st)), some (Cl.d (pQ x.lo)), some (Cl.d (pQ x.hi)), c6, c7, c8, c9, c10] ∧ CJ l.length F (RowC l i i x rows j) ∧ F.length ≤ 32 * i + j) ⟨rfl, F, c6, c7, c8, c9, c10, rfl, cj.congr fun w => RowC_0, fl⟩ ?_ ?_
    · rintro j r ρ s2 hj ⟨rfl, F, c6, c7, c8, c9, c10, rfl, cj, fl⟩
      have jl := (List.getElem?_eq_some_iff.mp hj).1
      obtain ⟨a, b, er, ha, hb⟩ := (rmem r).mp (List.mem_of_getElem? hj)
      have es : qsum r = qsum a + qsum b := by rw [er, qsum_append]
      obtain ⟨la, lb⟩ := corn_len hi ha hb
      have rq := corn_ql o ha hb
      rw [← er] at rq
      have rlen : r.length ≤ 5 := by rw [er, List.length_append]; omega
      have oq : QLt 20 (1 - qsum r) := by
        rw [es]
        have D30 := o.D30
        exact (corn_own o hi ha hb).qlt o.D0 (by omega) (by omega)
      have wok := corn_ok o hi ha hb
      have ew : r.take i ++ (1 - qsum r) :: r.drop i = a ++ (1 - (qsum a + qsum b)) :: b := by
        rw [es, er, ← la, List.take_left, List.drop_left]
      rw [← ew] at wok
      have wq : ∀ q ∈ r.take i ++ (1 - qsum r) :: r.drop i, QLt 100 q := fun q hq => (wok.2 q hq).mono (by omega)
      have ht := fun w => RowC_succ (l := l) (i := i) (k := i) (x := x) (w := w) hj
      have sq : QLt 100 (qsum r) := (qsum_lt rq).mono (by omega)
      have hm := e_minus (s := s2) (p := 1) (q := qsum r) (QLt_1 (k := 10)).bd sq.bd
      simp
      refine WF.of (e_total (l := r) (k := 10) rfl rq (by omega)) ?_
      simp
      rw [k1]
      refine WF.of hm ?_
      clear hm
      generalize 1 - qsum r = O at *
      simp [fSl, cut_to, cut_from, pQs]
      refine ⟨szle (by omega), szle (by omega), szle (by omega), ?_⟩
      rw [show PyData.tuple (List.take i (List.map pQ r) ++ pQ O :: List.drop i (List.map pQ r)) = pQs (r.take i ++ O :: r.drop i) by unfold pQs; rw [List.map_append, List.map_cons, List.map_take, List.map_drop]]
      generalize r.take i ++ O :: r.drop i = w at *
      refine WF.of (e_spot_of cj.srt (fun v hv => (cj.ok v hv).2) wq (by omega)) ?_
      have sk := spot_known (w := w) cj.srt rfl
      have kl := List.length_filter_le (fun v => lexB v w) F
      have im := insL_map (F := F) (w := w) rfl
      generalize (F.filter fun v => lexB v w).length = k at *
      have e1 := fun s => e_is_less (s := s) (oq.mono (show 20 ≤ 100 by omega)).bd q1.bd
      have e2 := fun s => e_is_less (s := s) q2.bd (oq.mono (show 20 ≤ 100 by omega)).bd
      have wl5 : w.length ≤ 8 := by rw [wok.1]; omega
      simp
      by_cases hk : k < F.length
      · have ea : atI (F.map pQs) (k : Int) = some (pQs (F[k])) := by rw [atI_ofNat (by rw [List.length_map]; exact hk), List.getElem?_map, List.getElem?_eq_getElem hk]; rfl
        have mem := List.getElem_mem hk
        have ek := List.getElem?_eq_getElem hk
        generalize F[k] = v at *
        have eq := fEq_qt (neg := false) (cj.ok v mem).2 wq (by rw [(cj.ok v mem).1]; omega) wl5
        simp [hk, ea, eq]
        refine ⟨rfl, ?_⟩
        by_cases hv : v = w
        · subst hv
          simp
          exact ⟨F, rfl, cj.out ht (.inr mem), by omega⟩
        · have hw : w ∉ F := fun h => hv (by
            have := sk.mpr h
            rw [ek] at this
            exact Option.some.inj this)
          simp [hv]
          refine WF.of (e1 _) ?_
          by_cases h1 : O < x.lo
          · simp [h1]
            exact ⟨F, rfl, cj.out ht (.inl fun b => by grind), by omega⟩
          · simp [h1]
            refine WF.of (e2 _) ?_
            by_cases h2 : x.hi < O
            · simp [h2]
              exact ⟨F, rfl, cj.out ht (.inl fun b => by grind), by omega⟩
            · simp [h2]
              rw [insK_eq (k := k) (z := pQs w) rfl rfl (by rw [List.length_map]; omega) (by omega), WO_some]
              exact ⟨rfl, insL F w, _, _, _, _, _, by rw [← im]; rfl, cj.inn ht ⟨by grind, by grind⟩ hw wok.1 wq, by rw [insL_len]; omega⟩
      · have hw : w ∉ F := fun h => hk (List.getElem?_eq_some_iff.mp (sk.mpr h)).1
        simp [hk]
        refine ⟨rfl, ?_⟩
        refine WF.of (e1 _) ?_
        by_cases h1 : O < x.lo
        · simp [h1]
          exact ⟨F, rfl, cj.out ht (.inl fun b => by grind), by omega⟩
        · simp [h1]
          refine WF.of (e2 _) ?_
          by_cases h2 : x.hi < O
          · simp [h2]
            exact ⟨F, rfl, cj.out ht (.inl fun b => by grind), by omega⟩
          · simp [h2]
            rw [insK_eq (k := k) (z := pQs w) rfl rfl (by rw [List.length_map]; omega) (by omega), WO_some]
            exact ⟨rfl, insL F w, _, _, _, _, _, by rw [← im]; rfl, cj.inn ht ⟨by grind, by grind⟩ hw wok.1 wq, by rw [insL_len]; omega⟩
    · rintro ρ s2 ⟨rfl, F, c6, c7, c8, c9, c10, rfl, cj, fl⟩
      simp
      refine ⟨F, rfl, cj.congr fun w => RowC_end ex fun w => ?_, by omega⟩
      constructor
      · rintro ⟨r, hr, ⟨h1, h2⟩, rfl⟩
        obtain ⟨a, b, rfl, ha, hb⟩ := (rmem r).mp hr
        obtain ⟨la, lb⟩ := corn_len hi ha hb
        rw [qsum_append] at h1 h2 ⊢
        exact ⟨a, b, ha, hb, by rw [← la, List.take_left, List.drop_left], by rw [ex]; exact h1, by rw [ex]; exact h2⟩
      · rintro ⟨a, b, ha, hb, rfl, h1, h2⟩
        obtain ⟨la, lb⟩ := corn_len hi ha hb
        rw [ex] at h1 h2
        refine ⟨a ++ b, (rmem _).mpr ⟨a, b, rfl, ha, hb⟩, by rw [qsum_append]; exact ⟨h1, h2⟩, by rw [qsum_append, ← la, List.take_left, List.drop_left]⟩
  · rintro ρ s' ⟨rfl, F, c2, c3, c4, c5, c6, c7, c8, c9, c10, rfl, cj, fl⟩
    rw [List.length_zipIdx] at cj fl
    simp
    exact ⟨F, rfl, cj, by omega⟩
end
end WW
namespace WW
open PySem PySem.Spec L2 PySem.W Dh
section
variable {s : Sto} {D : Nat} {l : List RS}
theorem w_corners (o : StOk D l) : WF f_corners [.d (pStr l)] s fun r s' => s' = s ∧ ∃ F, r = .d (.tuple (F.map pQs)) ∧ CJ l.length F (fun w => ∃ f, f < l.length ∧ Crn l f w) ∧ F.length ≤ 160 := by
  refine WF.body rfl ?_
  simp [m_corners, List.replicate_succ]
  refine WF.of (e_check_stretches o) ?_
  simp
  refine WF.use (w_corners_by o) ?_
  rintro r s' ⟨rfl, F, rfl, h⟩
  simp
  exact ⟨F, rfl, h⟩
theorem w_lcorners (o : StOk D l) : WF f_law_corners [.d (pStr l)] s fun r s' => s' = s ∧ ∃ F, r = .f (F.map pQs) ∧ CJ l.length F (fun w => ∃ f, f < l.length ∧ Crn l f w) ∧ F.length ≤ 160 := by
  have n5 := o.n5
  have er : range1 [.d (.int (l.length : Int))] = some ((List.range l.length).map fun i => PyData.int (i : Nat)) := range1_nat (n := l.length) (by omega)
  refine WF.body rfl ?_
  simp [m_law_corners, List.replicate_succ, pStr, er]
  refine WFor_inv (fun i : Nat => PyData.int i) (List.range l.length) (fun i ρ s' => s' = s ∧ ∃ (F : List (List Rat)) (c2 c3 c4 c5 c6 c7 c8 c9 : Option Cl), ρ = [some (.d (.tuple (l.map pRS))), some (.o (F.map pQs)), c2, c3, c4, c5, c6, c7, c8, c9] ∧ CJ l.length F (fun w => ∃ f, f < i ∧ Crn l f w) ∧ F.length ≤ 32 * i) ⟨rfl, [], none, none, none, none, none, none, none, none, rfl, ⟨by simp, fun w => by simp, by simp⟩, by simp⟩ ?_ ?_
  · rintro i x ρ s' hp ⟨rfl, F, c2, c3, c4, c5, c6, c7, c8, c9, rfl, cj, fl⟩
    obtain ⟨rfl, hi⟩ := range_at hp
    have ex := at_rs hi
    have xok := o.each _ (List.mem_of_getElem? ex)
    have eat : atI (l.map pRS) (x : Int) = some (pRS (l.getD x rs0)) := by rw [atI_ofNat (by rw [List.length_map]; exact hi), List.getElem?_map, ex]; rfl
    obtain ⟨q1, q2⟩ := xok.ql o.D0 o.D30
    have rmem := fun r => mem_esf (f := x) (l := l) (r := r)
    have e2len : ∀ e ∈ esf x l, e.length ≤ 2 := fun e he => by
      unfold esf at he
      rw [List.mem_append, List.mem_cons] at he
      rcases he with he | rfl | he
      · obtain ⟨y, _, rfl⟩ := List.mem_map.mp he; exact Nat.le_refl _
      · decide
      · obtain ⟨y, _, rfl⟩ := List.mem_map.mp he; exact Nat.le_refl _
    have plen : ∀ j, (pf ((esf x l).take j)).length ≤ 32 := fun j => by
      refine Nat.le_trans (pf_len fun e he => e2len e (List.mem_of_mem_take he)) (Nat.le_trans (Nat.pow_le_pow_right (by decide) (show _ ≤ 5 by rw [List.length_take, esf_len hi]; omega)) (by decide))
    have rlen : ∀ j, ∀ r ∈ pf ((esf x l).take j), r.length ≤ 8 := fun j r hr => by
      rw [(mem_pf.mp hr).1, List.length_take, esf_len hi]; omega
    have eat2 := fun k (hk : k < l.length) => esf_at hi (at_rs hk)
    have elen := esf_len hi
    simp [sz1, er]
    refine WFor_inv (fun i : Nat => PyData.int i) (List.range l.length) (fun j ρ s2 => s2 = s' ∧ ∃ c4 : Option Cl, ρ = [some (.d (.tuple (l.map pRS))), some (.o (F.map pQs)), some (.d (.int x)), some (.o ((pf ((esf x l).take j)).map pQs)), c4, c5, c6, c7, c8, c9]) ⟨rfl, c4, rfl⟩ ?_ ?_
    · rintro j y ρ s2 hj ⟨rfl, c4, rfl⟩
      obtain ⟨rfl, hy⟩ := range_at hj
      have ey := eat2 y hy
      have ht := take_snoc ey
      have el := e_leach_with (s := s2) (F := pf ((esf x l).take y)) (e := if y = x then [0] else ends2 (l.getD y rs0)) (Nat.le_trans (plen y) (by decide)) (e2len _ (List.mem_of_getElem? ey)) (rlen y)
      have eaty : atI (l.map pRS) (y : Int) = some (pRS (l.getD y rs0)) := by rw [atI_ofNat (by rw [List.length_map]; exact hy), List.getElem?_map, at_rs hy]; rfl
      rw [ht, pf_snoc]
      generalize pf ((esf x l).take y) = G at *
      simp [frzs, frz1, fEq_int]
      by_cases e : y = x
      · rw [if_pos e] at el
        simp [e, sz2, sz1]
        refine WF.of el ?_
        simp [e]
      · rw [if_neg e] at el
        simp [show ¬ (y : Int) = (x : Int) by omega, eaty, pRS, fSl, cutD_tail, -List.getD_eq_getElem?_getD]
        refine WF.of el ?_
        simp [e]
    · rintro ρ s2 ⟨rfl, c4, rfl⟩
      rw [List.length_range, List.take_of_length_le (by rw [elen]; exact Nat.le_refl _)]
      have pl := plen l.length
      rw [List.take_of_length_le (by rw [elen]; exact Nat.le_refl _)] at pl
      generalize pf (esf x l) = rows at *
      generalize hy : l.getD x rs0 = y at *
      simp [frzs, frz1]
      refine WFor_inv pQs rows (fun j ρ s3 => s3 = s2 ∧ ∃ (F : List (List Rat)) (c5 c6 c7 c8 c9 : Option Cl), ρ = [some (.d (.tuple (l.map pRS))), some (.o (F.map pQs)), some (.d (.int x)), some (.d (.list (rows.map pQs))), c4, c5, c6, c7, c8, c9] ∧ CJ l.length F (RowC l x (x + 1) y rows j) ∧ F.length ≤ 32 * x + j) ⟨rfl, F, c5, c6, c7, c8, c9, rfl, cj.congr fun w => RowC_0, fl⟩ ?_ ?_
      · rintro j r ρ s3 hj ⟨rfl, F, c5, c6, c7, c8, c9, rfl, cj, fl⟩
        have jl := (List.getElem?_eq_some_iff.mp hj).1
        obtain ⟨a, b, er, ha, hb⟩ := (rmem r).mp (List.mem_of_getElem? hj)
        have es : qsum r = qsum a + qsum b := by rw [er, qsum_append, qsum_cons, Rat.zero_add]
        obtain ⟨la, lb⟩ := corn_len hi ha hb
        have rq' := corn_ql o ha hb
        have rq : ∀ q ∈ r, QLt 10 q := fun q hq => by
          rw [er, List.mem_append, List.mem_cons] at hq
          rcases hq with hq | rfl | hq
          · exact rq' q (List.mem_append_left _ hq)
          · exact QLt_0
          · exact rq' q (List.mem_append_right _ hq)
        have rl5 : r.length ≤ 5 := by rw [er, List.length_append, List.length_cons]; omega
        have oq : QLt 20 (1 - qsum r) := by
          rw [es]
          have D30 := o.D30
          exact (corn_own o hi ha hb).qlt o.D0 (by omega) (by omega)
        have wok := corn_ok o hi ha hb
        have ew : r.take x ++ (1 - qsum r) :: r.drop (x + 1) = a ++ (1 - (qsum a + qsum b)) :: b := by
          rw [es, er, ← la, List.take_left]
          simp
        rw [← ew] at wok
        have wq : ∀ q ∈ r.take x ++ (1 - qsum r) :: r.drop (x + 1), QLt 100 q := fun q hq => (wok.2 q hq).mono (by omega)
        have ht := fun w => RowC_succ (l := l) (i := x) (k := x + 1) (x := y) (w := w) hj
        have sq : QLt 100 (qsum r) := (qsum_lt rq).mono (by omega)
        have hm := e_lminus (s := s3) (p := 1) (q := qsum r) (QLt_1 (k := 10)).bd sq.bd
        simp [sz2]
        refine WF.of (e_ltot (l := r) (k := 10) rfl rq (by omega)) ?_
        simp
        refine WF.of hm ?_
        clear hm
        generalize 1 - qsum r = O at *
        simp [fSl, cut_to, cut_from1, pQs]
        refine ⟨szle (by omega), szle (by omega), szle (by omega), ?_⟩
        rw [show PyData.tuple (List.take x (List.map pQ r) ++ pQ O :: List.drop (x + 1) (List.map pQ r)) = pQs (r.take x ++ O :: r.drop (x + 1)) by unfold pQs; rw [List.map_append, List.map_cons, List.map_take, List.map_drop]]
        generalize r.take x ++ O :: r.drop (x + 1) = w at *
        have e1 := fun s => e_lbelow (s := s) (oq.mono (show 20 ≤ 100 by omega)).bd q1.bd
        have e2 := fun s => e_lbelow (s := s) q2.bd (oq.mono (show 20 ≤ 100 by omega)).bd
        have im := insL_map (F := F) (w := w) rfl
        have wl5 : w.length ≤ 8 := by rw [wok.1]; omega
        simp [eat, pRS]
        refine WF.of (e1 _) ?_
        by_cases h1 : O < y.lo
        · simp [h1]
          exact ⟨F, rfl, cj.out ht (.inl fun b => by grind), by omega⟩
        · simp [h1, eat, pRS]
          refine WF.of (e2 _) ?_
          by_cases h2 : y.hi < O
          · simp [h2]
            exact ⟨F, rfl, cj.out ht (.inl fun b => by grind), by omega⟩
          · simp [h2]
            have fl1 : (F.filter fun v => lexB v w).length ≤ 1000 := Nat.le_trans (List.length_filter_le _ _) (by omega)
            have fi := fIn_rows (F := F) (w := w) (fun v hv => ⟨by rw [(cj.ok v hv).1]; omega, (cj.ok v hv).2⟩) wq wl5
            simp [fi]
            by_cases hw : w ∈ F
            · simp [hw]
              exact ⟨F, rfl, cj.out ht (.inr hw), by omega⟩
            · simp [hw]
              refine WLc_opt pQs (fun v => if lexB v w = true then some (pQs v) else none) F (fun v hv => ?_) ?_
              · simp
                refine WF.of (e_lbefore (cj.ok v hv).2 wq) ?_
                cases h : lexB v w <;> simp [h]
              rw [filterMap_rows]
              refine ⟨szle (by rw [List.length_map]; exact fl1), ?_⟩
              simp
              rw [insK_eq (k := (F.filter fun v => lexB v w).length) (z := pQs w) rfl rfl (by rw [List.length_map]; omega) fl1, WO_some]
              exact ⟨rfl, insL F w, _, _, _, _, _, by rw [← im]; rfl, cj.inn ht ⟨by grind, by grind⟩ hw wok.1 wq, by rw [insL_len]; omega⟩
      · rintro ρ s3 ⟨rfl, F, c5, c6, c7, c8, c9, rfl, cj, fl⟩
        simp
        refine ⟨F, rfl, cj.congr fun w => RowC_end hy fun w => ?_, by omega⟩
        constructor
        · rintro ⟨r, hr, ⟨h1, h2⟩, rfl⟩
          obtain ⟨a, b, rfl, ha, hb⟩ := (rmem r).mp hr
          obtain ⟨la, lb⟩ := corn_len hi ha hb
          rw [qsum_append, qsum_cons, Rat.zero_add] at h1 h2 ⊢
          exact ⟨a, b, ha, hb, by rw [← la, List.take_left]; simp, by rw [hy]; exact h1, by rw [hy]; exact h2⟩
        · rintro ⟨a, b, ha, hb, rfl, h1, h2⟩
          obtain ⟨la, lb⟩ := corn_len hi ha hb
          rw [hy] at h1 h2
          refine ⟨a ++ 0 :: b, (rmem _).mpr ⟨a, b, rfl, ha, hb⟩, by rw [qsum_append, qsum_cons, Rat.zero_add]; exact ⟨h1, h2⟩, ?_⟩
          rw [qsum_append, qsum_cons, Rat.zero_add, ← la, List.take_left]
          simp
  · rintro ρ s' ⟨rfl, F, c2, c3, c4, c5, c6, c7, c8, c9, rfl, cj, fl⟩
    rw [List.length_range] at cj fl
    simp
    exact ⟨F, rfl, cj, by omega⟩
end
end WW
namespace Dh
open PySem PySem.Spec L2 PySem.W
theorem qsum_perm {l m : List Rat} (h : l.Perm m) : qsum l = qsum m := by
  induction h with
  | nil => rfl
  | cons x _ ih => rw [qsum_cons, qsum_cons, ih]
  | swap x y l => rw [qsum_cons, qsum_cons, qsum_cons, qsum_cons]; grind
  | trans _ _ a b => rw [a, b]
theorem qsum_two {α : Type} {f g h : α → Rat} : ∀ {l : List α}, (∀ y ∈ l, h y = f y + g y) → qsum (l.map h) = qsum (l.map f) + qsum (l.map g)
  | [], _ => (Rat.zero_add 0).symm
  | y :: l, e => by
    rw [List.map_cons, List.map_cons, List.map_cons, qsum_cons, qsum_cons, qsum_cons, e y (by simp), qsum_two fun z hz => e z (List.mem_cons_of_mem _ hz)]
    grind
theorem fun_of {l : List RS} (nd : l.Nodup) : ∀ {w : List Rat}, w.length = l.length → ∃ v : RS → Rat, l.map v = w := by
  induction l with
  | nil => intro w h; exact ⟨fun _ => 0, by cases w <;> simp_all⟩
  | cons x l ih =>
    intro w h
    cases w with
    | nil => simp at h
    | cons q w =>
      rw [List.nodup_cons] at nd
      obtain ⟨v, e⟩ := ih nd.2 (w := w) (by simpa using h)
      refine ⟨fun y => @ite _ (y = x) (Classical.propDecidable _) q (v y), ?_⟩
      rw [List.map_cons]
      refine congr (congrArg List.cons (if_pos rfl)) (Eq.trans (List.map_congr_left fun y hy => if_neg fun (z : y = x) => nd.1 (z ▸ hy)) e)
theorem En.of_map {v : RS → Rat} : ∀ {A : List RS}, (∀ y ∈ A, v y = y.lo ∨ v y = y.hi) → En A (A.map v)
  | [], _ => trivial
  | x :: A, h => ⟨h x (by simp), En.of_map fun y hy => h y (List.mem_cons_of_mem _ hy)⟩
theorem En.to_map {v : RS → Rat} : ∀ {A : List RS}, En A (A.map v) → ∀ y ∈ A, v y = y.lo ∨ v y = y.hi
  | [], _, y, hy => by simp at hy
  | x :: A, h, y, hy => by
    rcases List.mem_cons.mp hy with rfl | hy
    · exact h.1
    · exact En.to_map h.2 y hy
theorem split_at {l : List RS} {f : Nat} (hf : f < l.length) : l = l.take f ++ l.getD f rs0 :: l.drop (f + 1) := by
  have e : l.getD f rs0 = l[f] := by rw [List.getD_eq_getElem?_getD, List.getElem?_eq_getElem hf]; rfl
  rw [e, ← List.drop_eq_getElem_cons hf, List.take_append_drop]
section
variable {D : Nat} {l : List RS}
theorem StOk.nd (o : StOk D l) : l.Nodup := o.asc.imp fun {a b} h e => by rw [e] at h; exact Nat.lt_irrefl _ h
theorem Crn.bounds (o : StOk D l) {v : RS → Rat} {f : Nat} (hf : f < l.length) (h : Crn l f (l.map v)) : (∀ y ∈ l, y.lo ≤ v y ∧ v y ≤ y.hi) ∧ qsum (l.map v) = 1 := by
  obtain ⟨a, b, ha, hb, e, h1, h2⟩ := h
  have es := split_at hf
  have la := ha.len
  have e2 : l.map v = (l.take f).map v ++ v (l.getD f rs0) :: (l.drop (f + 1)).map v := by
    conv => lhs; rw [es]
    rw [List.map_append, List.map_cons]
  have e3 := e2.symm.trans e
  obtain ⟨r1, r2⟩ := List.append_inj e3 (by rw [List.length_map, la])
  obtain ⟨r2, r3⟩ := List.cons.inj r2
  rw [← r1] at ha
  rw [← r3] at hb
  constructor
  · intro y hy
    have lh := (o.each y hy).lh
    rw [es, List.mem_append, List.mem_cons] at hy
    rcases hy with hy | rfl | hy
    · rcases ha.to_map y hy with q | q
      · rw [q]; exact ⟨Rat.le_refl, lh⟩
      · rw [q]; exact ⟨lh, Rat.le_refl⟩
    · rw [r2]; exact ⟨h1, h2⟩
    · rcases hb.to_map y hy with q | q
      · rw [q]; exact ⟨Rat.le_refl, lh⟩
      · rw [q]; exact ⟨lh, Rat.le_refl⟩
  · rw [e, qsum_append, qsum_cons]
    grind
theorem FlJ.perm (o : StOk D l) {g : Bool} {ws : List Rat} {P : List RS} (j : FlJ g ws l P []) : P.Perm l := by
  refine (List.perm_ext_iff_of_nodup ?_ (StOk.nd o)).mpr fun x => ?_
  · exact j.srt.imp fun {a b} h e => by rw [e] at h; exact Bef.irr h
  · rw [j.all x]; simp
theorem find_st {gl : List (RS × Rat)} (h : gl.Pairwise fun p q => p.1.st ≠ q.1.st) {p : RS × Rat} (hp : p ∈ gl) : gl.find? (fun q => decide (q.1.st = p.1.st)) = some p := by
  induction gl with
  | nil => simp at hp
  | cons q gl ih =>
    rw [List.pairwise_cons] at h
    rcases List.mem_cons.mp hp with rfl | hp
    · simp
    · rw [List.find?_cons, decide_eq_false (h.1 p hp)]
      exact ih h.2 hp
theorem xAt_of {g : Bool} {ws : List Rat} {P : List RS} (o : StOk D l) (j : FlJ g ws l P []) : ∀ p ∈ gv roomS (rest0 l) P, xAt (gv roomS (rest0 l) P) p.1 = p.1.lo + p.2 := fun p hp => by
  have pw : (gv roomS (rest0 l) P).Pairwise fun p q => p.1.st ≠ q.1.st := by
    have : ((gv roomS (rest0 l) P).map (·.1)).Pairwise fun a b => a.st ≠ b.st := by
      rw [gv_fst]
      exact j.srt.imp fun {a b} h e => StOk.asc_ne o h e
    rwa [List.pairwise_map] at this
  unfold xAt
  rw [find_st pw hp]
theorem gl_sum {g : Bool} {ws : List Rat} {P : List RS} {φ : RS → Rat} : qsum ((gv roomS (rest0 l) P).map fun p => φ p.1) = qsum (P.map φ) := by
  have : (gv roomS (rest0 l) P).map (fun p => φ p.1) = ((gv roomS (rest0 l) P).map (·.1)).map φ := by rw [List.map_map]; rfl
  rw [this, gv_fst]
theorem gv_at {g : Bool} {ws : List Rat} {P : List RS} (o : StOk D l) (j : FlJ g ws l P []) {y : RS} (hy : y ∈ l) : ∃ p ∈ gv roomS (rest0 l) P, p.1 = y := by
  have hp := ((j.all y).mp hy).resolve_right (by simp)
  have e : y ∈ (gv roomS (rest0 l) P).map (·.1) := by rw [gv_fst]; exact hp
  obtain ⟨p, hp2, ep⟩ := List.mem_map.mp e
  exact ⟨p, hp2, ep⟩
end
end Dh
namespace WW
open PySem PySem.Spec L2 PySem.W Dh
section
variable {D : Nat} {l : List RS}
theorem fill_sum {g : Bool} {ws : List Rat} {P : List RS} (o : StOk D l) (j : FlJ g ws l P []) : qsum (l.map (xAt (gv roomS (rest0 l) P))) = 1 := by
  have pm := j.perm o
  have r0 := (StOk.rest o).2
  have rooms := fun z hz => (StOk.rooms o z hz).2
  have roomP : ∀ z ∈ P, 0 ≤ roomS z := fun z hz => rooms z (pm.mem_iff.mp hz)
  have e1 : qsum (l.map (·.hi)) = qsum (l.map roomS) + qsum (l.map (·.lo)) := qsum_two fun y _ => by unfold roomS; grind
  have e2 : qsum (P.map roomS) = qsum (l.map roomS) := qsum_perm (pm.map _)
  have hh := o.high
  have s1 := gv_sum (room := roomS) (r := rest0 l) (is := P) r0 roomP (by rw [e2]; unfold rest0; grind)
  rw [← qsum_perm (pm.map (xAt (gv roomS (rest0 l) P))), ← gl_sum (l := l) (g := g) (ws := ws) (φ := xAt (gv roomS (rest0 l) P))]
  have e3 : qsum ((gv roomS (rest0 l) P).map fun p => xAt (gv roomS (rest0 l) P) p.1) = qsum ((gv roomS (rest0 l) P).map fun p => p.1.lo) + qsum ((gv roomS (rest0 l) P).map (·.2)) := qsum_two fun p hp => xAt_of o j p hp
  rw [e3, s1, gl_sum (l := l) (g := g) (ws := ws) (φ := fun y => y.lo), qsum_perm (pm.map _)]
  unfold rest0
  grind
theorem fill_in {g : Bool} {ws : List Rat} {P : List RS} (o : StOk D l) (j : FlJ g ws l P []) : ∀ y ∈ l, y.lo ≤ xAt (gv roomS (rest0 l) P) y ∧ xAt (gv roomS (rest0 l) P) y ≤ y.hi := fun y hy => by
  obtain ⟨p, hp, rfl⟩ := gv_at o j hy
  rw [xAt_of o j p hp]
  have := gv_in (StOk.rest o).2 (fun z hz => (StOk.rooms o z ((j.all z).mpr (.inl hz))).2) p hp
  unfold roomS at this
  grind
theorem fill_crn {g : Bool} {ws : List Rat} {P : List RS} (o : StOk D l) (j : FlJ g ws l P []) : ∃ f, f < l.length ∧ Crn l f (l.map (xAt (gv roomS (rest0 l) P))) := by
  have pm := j.perm o
  have roomP : ∀ z ∈ P, 0 ≤ roomS z := fun z hz => (StOk.rooms o z (pm.mem_iff.mp hz)).2
  have ne : P ≠ [] := by
    have := o.n1
    intro h
    rw [h] at pm
    have := pm.length_eq
    simp at this
    omega
  obtain ⟨y, hy, q⟩ := gv_ends (StOk.rest o).2 roomP ne
  have hyl := pm.mem_iff.mp hy
  obtain ⟨f, hf, e⟩ := List.getElem_of_mem hyl
  have ey : l.getD f rs0 = y := by rw [List.getD_eq_getElem?_getD, List.getElem?_eq_getElem hf]; exact e
  have es := split_at hf
  have sm := fill_sum o j
  have fi := fill_in o j y hyl
  have at_end : ∀ z ∈ l, z ≠ y → xAt (gv roomS (rest0 l) P) z = z.lo ∨ xAt (gv roomS (rest0 l) P) z = z.hi := fun z hz hne => by
    obtain ⟨p, hp, rfl⟩ := gv_at o j hz
    rw [xAt_of o j p hp]
    rcases q p hp hne with r | r
    · rw [r]; exact .inl (by grind)
    · rw [r]; right; unfold roomS; grind
  generalize xAt (gv roomS (rest0 l) P) = X at *
  have nd := StOk.nd o
  rw [es, ey, List.nodup_append, List.nodup_cons] at nd
  have e2 : l.map X = (l.take f).map X ++ X y :: (l.drop (f + 1)).map X := by
    conv => lhs; rw [es, ey]
    rw [List.map_append, List.map_cons]
  have own : X y = 1 - (qsum ((l.take f).map X) + qsum ((l.drop (f + 1)).map X)) := by
    rw [e2, qsum_append, qsum_cons] at sm
    grind
  refine ⟨f, hf, _, _, En.of_map fun z hz => at_end z (List.mem_of_mem_take hz) fun e => nd.2.2 z hz y (by simp) e, En.of_map fun z hz => at_end z (List.mem_of_mem_drop hz) fun e => nd.2.1.1 (e ▸ hz), by rw [← own]; exact e2, ?_⟩
  rw [← own, ey]
  exact fi
theorem top_of {α : Type} (u : α → Rat) : ∀ P : List α, ∃ c, ∀ y ∈ P, u y ≤ c
  | [] => ⟨0, by simp⟩
  | y :: P => by
    obtain ⟨c, h⟩ := top_of u P
    by_cases e : u y ≤ c
    · exact ⟨c, fun z hz => by
        rcases List.mem_cons.mp hz with rfl | hz
        · exact e
        · exact h z hz⟩
    · exact ⟨u y, fun z hz => by
        rcases List.mem_cons.mp hz with rfl | hz
        · exact Rat.le_refl
        · have := h z hz; grind⟩
theorem fill_best {g : Bool} {ws : List Rat} {P : List RS} (o : StOk D l) (j : FlJ g ws l P []) {v : RS → Rat} (hb : ∀ y ∈ l, y.lo ≤ v y ∧ v y ≤ y.hi) (h1 : qsum (l.map v) = 1) :
    qsum (l.map fun y => uW g ws y.st * v y) ≤ qsum (l.map fun y => uW g ws y.st * xAt (gv roomS (rest0 l) P) y) := by
  have pm := j.perm o
  have inl : ∀ z ∈ P, z ∈ l := fun z hz => pm.mem_iff.mp hz
  obtain ⟨c, hc⟩ := top_of (fun y : RS => uW g ws y.st) P
  have sv : qsum (P.map fun y => v y - y.lo) = rest0 l := by
    have e1 : qsum (l.map v) = qsum (l.map fun y => v y - y.lo) + qsum (l.map (·.lo)) := qsum_two fun y _ => by grind
    rw [qsum_perm (pm.map _)]
    unfold rest0
    grind
  have b := gv_best (room := roomS) (w := fun y : RS => uW g ws y.st) (fun y => v y - y.lo) (r := rest0 l) (s := rest0 l) (c := c) (is := P) (StOk.rest o).2 Rat.le_refl (fun y hy => by
    have h := hb y (inl y hy)
    have r := (StOk.rooms o y (inl y hy)).2
    refine ⟨r, by grind, by unfold roomS; grind, hc y hy⟩) (j.srt.imp fun {a b} h => h.le) sv
  have e1 : qsum ((gv roomS (rest0 l) P).map fun p => uW g ws p.1.st * p.2) = qsum (P.map fun y => uW g ws y.st * (xAt (gv roomS (rest0 l) P) y - y.lo)) := by
    rw [← gl_sum (l := l) (g := g) (ws := ws) (φ := fun y => uW g ws y.st * (xAt (gv roomS (rest0 l) P) y - y.lo))]
    refine congrArg qsum (List.map_congr_left fun p hp => ?_)
    rw [xAt_of o j p hp]
    grind
  rw [e1] at b
  have e2 : qsum (l.map fun y => uW g ws y.st * v y) = qsum (l.map fun y => uW g ws y.st * (v y - y.lo)) + qsum (l.map fun y => uW g ws y.st * y.lo) := qsum_two fun y _ => by grind
  have e3 : qsum (l.map fun y => uW g ws y.st * xAt (gv roomS (rest0 l) P) y) = qsum (l.map fun y => uW g ws y.st * (xAt (gv roomS (rest0 l) P) y - y.lo)) + qsum (l.map fun y => uW g ws y.st * y.lo) := qsum_two fun y _ => by grind
  have p1 := qsum_perm (pm.map fun y => uW g ws y.st * (v y - y.lo))
  have p2 := qsum_perm (pm.map fun y => uW g ws y.st * (xAt (gv roomS (rest0 l) P) y - y.lo))
  rw [e2, e3, ← p1, ← p2]
  grind
end
end WW
namespace WW
open PySem PySem.Spec L2 PySem.W Dh
section
variable {s : Sto}
theorem e_ldot {a b : List Rat} (ha : ∀ q ∈ a, QLt 100 q) (hb : ∀ q ∈ b, QLt 70 q) (hn : a.length ≤ 8) : f_law_dot [.d (pQs a), .d (.list (b.map pQ))] s = some (.d (pQ (qdot a b)), s) := by
  have hz : ∀ q ∈ (a.zip b).map fun p => p.1 * p.2, QLt 170 q := fun q hq => by
    obtain ⟨p, hp, rfl⟩ := List.mem_map.mp hq
    have z := List.of_mem_zip (a := p.1) (b := p.2) hp
    exact (QLt_mul (ha _ z.1) (hb _ z.2)).mono (by omega)
  have hlen : ((a.zip b).map fun p => p.1 * p.2).length ≤ 8 := by rw [List.length_map, List.length_zip]; omega
  have e : qdot a b = qsum (((a.zip b).map fun p => p.1 * p.2).take (a.zip b).length) := by
    unfold qdot
    rw [List.take_of_length_le (by rw [List.length_map]; exact Nat.le_refl _)]
  refine WF.eq (WF.body rfl ?_)
  simp [m_law_dot, List.replicate_succ, pQs, pairs_map, sz2]
  refine WFor_inv (p2 pQ pQ) (a.zip b) (fun i ρ s' => s' = s ∧ ∃ c3 c4 : Option Cl, ρ = [some (.d (.tuple (a.map pQ))), some (.d (.list (b.map pQ))), some (.d (pQ (qsum (((a.zip b).map fun p => p.1 * p.2).take i)))), c3, c4]) ⟨rfl, none, none, rfl⟩ ?_ ?_
  · rintro i ⟨x, y⟩ ρ s' hi ⟨rfl, c3, c4, rfl⟩
    have z := List.of_mem_zip (List.mem_of_getElem? hi)
    have hx := ha _ z.1
    have hy := hb _ z.2
    have hs := qsum_take_lt (i := i) hz
    have ht : ((a.zip b).map fun p => p.1 * p.2).take (i + 1) = ((a.zip b).map fun p => p.1 * p.2).take i ++ [x * y] := take_snoc (by rw [List.getElem?_map, hi]; rfl)
    rw [ht, qsum_snoc]
    have hb1 : Bd (qsum (((a.zip b).map fun p => p.1 * p.2).take i)) := hs.bd (by omega)
    generalize qsum (((a.zip b).map fun p => p.1 * p.2).take i) = S at *
    simp [p2]
    refine WF.of (e_ltimes hx.bd hy.bd) ?_
    simp
    refine WF.of (e_lplus hb1 (QLt_mul hx hy).bd) ?_
    simp
  · rintro ρ s' ⟨rfl, c3, c4, rfl⟩
    rw [← e]
    simp
theorem w_lend {x : Rat} {xs : List Rat} {g : Bool} (hq : ∀ q ∈ x :: xs, QLt 4000 q) : WF f_law_end [.d (.list ((x :: xs).map pQ)), .d (.bool g)] s fun r s' => s' = s ∧ ∃ m ∈ x :: xs, r = .d (pQ m) ∧ ∀ q ∈ x :: xs, if g = true then q ≤ m else m ≤ q := by
  refine WF.body rfl ?_
  simp [m_law_end, List.replicate_succ]
  refine WFor_inv pQ (x :: xs) (fun i ρ s' => s' = s ∧ ∃ (m : Rat) (c3 c4 c5 : Option Cl), ρ = [some (.d (.list ((x :: xs).map pQ))), some (.d (.bool g)), some (.d (pQ m)), c3, c4, c5] ∧ m ∈ x :: xs ∧ ∀ q ∈ (x :: xs).take i, if g = true then q ≤ m else m ≤ q) ⟨rfl, x, none, none, none, rfl, by simp, by simp⟩ ?_ ?_
  · rintro i q ρ s' hi ⟨rfl, m, c3, c4, c5, rfl, hm, hall⟩
    have ht := take_snoc hi
    rw [ht]
    have hqm := hq q (List.mem_of_getElem? hi)
    have hmm := hq m hm
    have mem := List.mem_of_getElem? hi
    generalize x :: xs = L at *
    generalize L.take i = T at *
    cases g
    · simp [sz2]
      refine WF.of (e_lbelow hqm.bd hmm.bd) ?_
      by_cases h : q < m
      · simp [h]
        refine ⟨q, rfl, mem, fun y hy => ?_⟩
        rcases hy with hy | rfl
        · have := hall y hy
          simp at this
          grind
        · exact Rat.le_refl
      · simp [h]
        refine ⟨m, rfl, hm, fun y hy => ?_⟩
        rcases hy with hy | rfl
        · have := hall y hy
          simpa using this
        · grind
    · simp [sz2]
      refine WF.of (e_lbelow hmm.bd hqm.bd) ?_
      by_cases h : m < q
      · simp [h]
        refine ⟨q, rfl, mem, fun y hy => ?_⟩
        rcases hy with hy | rfl
        · have := hall y hy
          simp at this
          grind
        · exact Rat.le_refl
      · simp [h]
        refine ⟨m, rfl, hm, fun y hy => ?_⟩
        rcases hy with hy | rfl
        · have := hall y hy
          simpa using this
        · grind
  · rintro ρ s' ⟨rfl, m, c3, c4, c5, rfl, hm, hall⟩
    rw [List.take_length] at hall
    have fin : ∃ m' ∈ x :: xs, pQ m = pQ m' ∧ ∀ q ∈ x :: xs, if g = true then q ≤ m' else m' ≤ q := ⟨m, hm, rfl, hall⟩
    generalize x :: xs = L at *
    simp
    exact fin
end
end WW
namespace Dh
open PySem PySem.Spec L2 PySem.W
theorem qdot_two {α : Type} {v W : α → Rat} (l : List α) : qdot (l.map v) (l.map W) = qsum (l.map fun y => v y * W y) := by
  unfold qdot
  induction l with
  | nil => rfl
  | cons y l ih =>
    rw [List.map_cons, List.map_cons, List.zip_cons_cons, List.map_cons, List.map_cons, qsum_cons, qsum_cons, ih]
theorem qsum_zeros {α : Type} : ∀ l : List α, qsum (l.map fun _ => (0 : Rat)) = 0
  | [] => rfl
  | y :: l => by rw [List.map_cons, qsum_cons, qsum_zeros l, Rat.zero_add]
theorem fm_filter {α : Type} {X : α → Rat} {h : α → PyData} : ∀ l : List α, (l.filterMap fun x => if X x = 0 then none else some (h x)) = (l.filter fun x => !decide (X x = 0)).map h
  | [] => rfl
  | x :: l => by
    rw [List.filterMap_cons, List.filter_cons]
    by_cases e : X x = 0
    · simp [e, fm_filter l]
    · simp [e, fm_filter l]
theorem qsum_filter {α : Type} {X W : α → Rat} : ∀ l : List α, qsum ((l.filter fun x => !decide (X x = 0)).map fun x => X x * W x) = qsum (l.map fun x => X x * W x)
  | [] => rfl
  | x :: l => by
    rw [List.filter_cons, List.map_cons, qsum_cons]
    by_cases e : X x = 0
    · rw [if_neg (by simp [e]), qsum_filter l, e, Rat.zero_mul, Rat.zero_add]
    · rw [if_pos (by simp [e]), List.map_cons, qsum_cons, qsum_filter l]
theorem noDicts_qt : ∀ l : List Rat, noDicts (l.map pQ) = true := fun l => all_nd fun x hx => by
  obtain ⟨q, _, rfl⟩ := List.mem_map.mp hx
  simp [pQ, noDict, noDicts]
theorem canLay_qt : ∀ l : List Rat, PyData.canLayAll0 (l.map pQ) = true := fun l => all_lay fun x hx => by
  obtain ⟨q, _, rfl⟩ := List.mem_map.mp hx
  simp [pQ, PyData.canLay0, PyData.canLayAll0]
theorem depth_qt : ∀ l : List Rat, PyData.depthAll (l.map pQ) ≤ 3 := fun l => all_dep fun x hx => by
  obtain ⟨q, _, rfl⟩ := List.mem_map.mp hx
  simp [pQ, PyData.depth, PyData.depthAll]
theorem eqOk_ql {l : List Rat} : eqOk (.list (l.map pQ)) = true := by
  unfold eqOk SeqAt.shaped
  have := depth_qt l
  simp [Dh.noDict, PyData.canLay0, PyData.depth, noDicts_qt, canLay_qt]
  omega
theorem eqv_ql {l m : List Rat} : PyData.eqv (.list (l.map pQ)) (.list (m.map pQ)) = decide (l = m) := by
  rw [show PyData.eqv (.list (l.map pQ)) (.list (m.map pQ)) = PyData.eqvAll (l.map pQ) (m.map pQ) by simp only [PyData.eqv], eqvAll_qt]
theorem fEq_lbf {l m : List Rat} : fEq false (.b (l.map pQ)) (.f (m.map pQ)) = some (.d (.bool (decide (l = m)))) := by
  show (if eqOk (.list (l.map pQ)) = true ∧ eqOk (.list (m.map pQ)) = true then some (R.d (.bool (if false then !PyData.eqv (.list (l.map pQ)) (.list (m.map pQ)) else PyData.eqv (.list (l.map pQ)) (.list (m.map pQ))))) else none) = _
  rw [if_pos ⟨eqOk_ql, eqOk_ql⟩, eqv_ql]; rfl
section
variable {D : Nat} {l : List RS}
theorem fill_ql {g : Bool} {ws : List Rat} {P : List RS} (o : StOk D l) (j : FlJ g ws l P []) : ∀ y ∈ l, QLt 20 (xAt (gv roomS (rest0 l) P) y) := fun y hy => by
  obtain ⟨f, hf, a, b, ha, hb, e, _⟩ := WW.fill_crn o j
  refine (corn_ok o hf ha hb).2 _ ?_
  rw [← e]
  exact List.mem_map_of_mem hy
theorem pn_flT {g : Bool} {ws : List Rat} {P : List RS} (o : StOk D l) (j : FlJ g ws l P []) : Pn 100 3 35 (flT l P) := by
  unfold flT
  refine Pn.tup (B := 100) (k := 2) (w := 6) (n := 5) (fun x hx => ?_) (Nat.le_trans (List.length_filterMap_le _ _) o.n5)
  obtain ⟨y, hy, e⟩ := List.mem_filterMap.mp hx
  rw [← (WW.xAt_nn o j hy).2] at e
  split at e
  · cases e
  · cases e
    refine Pn.tup (B := 100) (k := 1) (w := 2) (n := 2) (fun x hx => ?_) (Nat.le_refl _)
    simp only [List.mem_cons, List.not_mem_nil, or_false] at hx
    rcases hx with rfl | rfl
    · have := (o.each y hy).s8
      exact (Pn.int0 (B := 100) (by decide) (by decide) (by rw [Int.natAbs_natCast]; exact Nat.lt_of_lt_of_le this (by decide))).mono
    · exact Pn.q0 (by decide) (by decide) ((fill_ql o j y hy).mono (by omega))
theorem flT_eq {g : Bool} {ws : List Rat} {P : List RS} (o : StOk D l) (j : FlJ g ws l P []) : flT l P = .tuple ((l.filter fun x => !decide (xAt (gv roomS (rest0 l) P) x = 0)).map fun y => .tuple [.int (y.st : Nat), pQ (xAt (gv roomS (rest0 l) P) y)]) := by
  rw [← fm_filter]
  unfold flT
  refine congrArg PyData.tuple (fm_congr fun x hx => ?_)
  rw [(WW.xAt_nn o j hx).2]
theorem sum_b {g : Bool} {ws : List Rat} {P : List RS} (o : StOk D l) (j : FlJ g ws l P []) (hw : ∀ y ∈ l, QLt 70 (ws.getD y.st 0)) : ∀ q ∈ (l.filter fun x => !decide (xAt (gv roomS (rest0 l) P) x = 0)).map fun y => xAt (gv roomS (rest0 l) P) y * ws.getD y.st 0, QLt 90 q := fun q hq => by
  obtain ⟨y, hy, rfl⟩ := List.mem_map.mp hq
  have hy := (List.mem_filter.mp hy).1
  exact (QLt_mul (fill_ql o j y hy) (hw y hy)).mono (by omega)
theorem ends_eq {g : Bool} {ws : List Rat} {P : List RS} {F : List (List Rat)} (o : StOk D l) (j : FlJ g ws l P []) (cj : CJ l.length F fun w => ∃ f, f < l.length ∧ Crn l f w) {m : Rat}
    (hm : m ∈ F.map fun w => qdot w (l.map fun y => ws.getD y.st 0)) (hx : ∀ q ∈ F.map fun w => qdot w (l.map fun y => ws.getD y.st 0), if g = true then q ≤ m else m ≤ q) :
    qsum (l.map fun y => xAt (gv roomS (rest0 l) P) y * ws.getD y.st 0) = m := by
  have hX := (cj.mem (l.map (xAt (gv roomS (rest0 l) P)))).mpr (WW.fill_crn o j)
  have a := hx _ (List.mem_map_of_mem hX)
  rw [qdot_two] at a
  obtain ⟨w, hw, rfl⟩ := List.mem_map.mp hm
  obtain ⟨v, rfl⟩ := fun_of (StOk.nd o) (cj.ok w hw).1
  obtain ⟨f, hf, hc⟩ := (cj.mem _).mp hw
  obtain ⟨b1, b2⟩ := hc.bounds o hf
  have b := WW.fill_best o j b1 b2
  rw [qdot_two] at a ⊢
  unfold uW at b
  cases g
  · simp only [Bool.false_eq_true, if_false] at a b
    have n1 : ∀ φ : RS → Rat, qsum (l.map fun y => -(ws.getD y.st 0) * φ y) = -(qsum (l.map fun y => φ y * ws.getD y.st 0)) := fun φ => by
      have := qsum_two (l := l) (h := fun _ => (0 : Rat)) (f := fun y => -(ws.getD y.st 0) * φ y) (g := fun y => φ y * ws.getD y.st 0) (fun y _ => by grind)
      rw [qsum_zeros] at this
      grind
    rw [n1, n1] at b
    grind
  · simp only [if_true] at a b
    have n1 : ∀ φ : RS → Rat, qsum (l.map fun y => ws.getD y.st 0 * φ y) = qsum (l.map fun y => φ y * ws.getD y.st 0) := fun φ => congrArg qsum (List.map_congr_left fun y _ => Rat.mul_comm _ _)
    rw [n1, n1] at b
    exact Rat.le_antisymm a b
end
end Dh
namespace Dh
open PySem PySem.Spec L2 PySem.W
theorem cut16 (xs : List PyData) : cutD xs none (some 16) = xs.take 16 := cut_to (k := 16)
theorem fEq_strs {a : Str} {neg : Bool} : fEq neg (.d (.str a)) (.d (.str a)) = some (.d (.bool (!neg))) := by
  show some (R.d (.bool (if neg then !(a == a) else a == a))) = _
  rw [beq_self_eq_true]
  cases neg <;> rfl
end Dh
namespace WW
open PySem PySem.Spec L2 PySem.W Dh
theorem w_pot {ns : List Int} {l : Nat} (hl : l ≤ 100) {s : Sto} : WF f_law_pot [.d (.list (ns.map .int)), .d (.int (l : Int))] s fun r s' => s' = s ∧ ∃ a b : Int, r = .f [.int a, .int b, .int 0] ∧ 0 ≤ b ∧ b < 2147483543 := by
  have q : mulOk 911 (l : Int) = true := mulOk_of (a := 10) (b := 7) (by decide) (by omega) (by decide)
  have key : ∀ (x c A B C : Int), 0 ≤ x → x < 2147483543 → A.natAbs < 2 ^ 20 → B.natAbs < 2 ^ 20 → mulOk x A = true ∧ mulOk (c % 2147483489) B = true ∧ 0 ≤ (x * A + c % 2147483489 * B + C) % 2147483543 ∧ (x * A + c % 2147483489 * B + C) % 2147483543 < 2147483543 := fun x c A B C h0 h1 hA hB => by
    have r0 : 0 ≤ c % 2147483489 := Int.emod_nonneg _ (by decide)
    have r1 : c % 2147483489 < 2147483489 := Int.emod_lt_of_pos _ (by decide)
    exact ⟨mulOk_of (a := 31) (by omega) hA (by decide), mulOk_of (a := 31) (by omega) hB (by decide), Int.emod_nonneg _ (by decide), Int.emod_lt_of_pos _ (by decide)⟩
  refine WF.body rfl ?_
  simp [m_law_pot, List.replicate_succ, fMul_ok q, fSl, cut16]
  rw [← List.map_take]
  refine WFor_inv (fun z : Int => PyData.int z) (ns.take 16) (fun i ρ s' => s' = s ∧ ∃ y x3, ρ = [some (.d (.list (ns.map .int))), some (.d (.int (l : Int))), some (.d (.int y)), x3, none] ∧ 0 ≤ y ∧ y < 2147483543) ⟨rfl, 104601 + 911 * (l : Int), none, rfl, by omega, by omega⟩ ?_ ?_
  · rintro i z ρ s' hz ⟨rfl, y, x3, rfl, h0, h1⟩
    obtain ⟨k1, k2, k3, k4⟩ := key y z 50021 5 23 h0 h1 (by decide) (by decide)
    simp [gMod_pos, fMul_ok k1, fMul_ok k2]
    exact ⟨k3, k4⟩
  · rintro ρ s' ⟨rfl, y, x3, rfl, h0, h1⟩
    have gp : gPow 10 15 = some (.int (10 ^ (15 : Int).toNat)) := if_pos (by decide)
    generalize (10 : Int) ^ (15 : Int).toNat = T at gp
    have fin : ∀ o : Int, mulOk y 43 = true ∧ mulOk (o % 2147483489) 17011 = true ∧ 0 ≤ (y * 43 + o % 2147483489 * 17011 + 3) % 2147483543 ∧ (y * 43 + o % 2147483489 * 17011 + 3) % 2147483543 < 2147483543 := fun o => key y o 43 17011 3 h0 h1 (by decide) (by decide)
    by_cases h : l < ns.length
    · have e : atI (ns.map PyData.int) (l : Int) = some (.int ns[l]) := by
        rw [atI_ofNat (by simpa using h)]
        simp [h]
      obtain ⟨k1, k2, k3, k4⟩ := fin ns[l]
      simp [h, e, gMod_pos, fMul_ok k1, fMul_ok k2, gp, sz3]
      generalize (y * 43 + ns[l] % 2147483489 * 17011 + 3) % 2147483543 = b at *
      by_cases h3 : ns[l] < 0
      · simp [h3, sz3]; exact ⟨k3, k4⟩
      · by_cases h2 : T ≤ ns[l]
        · simp [gp, h3, h2, sz3]; exact ⟨k3, k4⟩
        · simp [gp, h3, h2, sz3]; exact ⟨k3, k4⟩
    · obtain ⟨k1, k2, k3, k4⟩ := fin 0
      simp at k3 k4
      simp [h, gMod_pos, fMul_ok k1, fMul_ok k2, gp, sz3]
      refine ⟨by decide, ?_⟩
      by_cases h2 : T ≤ 0
      · simp [h2, sz3]; exact ⟨k3, k4⟩
      · simp [h2, sz3]; exact ⟨k3, k4⟩
theorem w_right {s : Sto} (v : Vs 1000 s) : WF f_law_right [.s] s fun r _ => r = .d (.bool true) := by
  refine WF.body rfl ?_
  simp [m_law_right, List.replicate_succ, szle (show 5 ≤ 1000 by decide)]
  refine WF.use (w_pickT (m := 900) v.mono (by decide) (by decide)) ?_
  rintro _ s1 ⟨x, hx, rfl, v1⟩
  obtain ⟨L, hL1, hL5, rfl⟩ : ∃ L : Nat, 1 ≤ L ∧ L ≤ 5 ∧ x = .int (L : Int) := by
    simp only [List.mem_cons, List.not_mem_nil, or_false] at hx
    rcases hx with rfl | rfl | rfl | rfl | rfl <;> first | exact ⟨5, by decide, by decide, rfl⟩ | exact ⟨4, by decide, by decide, rfl⟩ | exact ⟨3, by decide, by decide, rfl⟩ | exact ⟨2, by decide, by decide, rfl⟩
  simp
  refine WF.use (w_stretches (m := 800) hL1 hL5 v1.mono) ?_
  rintro _ s2 ⟨D, l, rfl, o, v2⟩
  simp
  refine WF.use (w_some_worths (m := 700) o v2.mono) ?_
  rintro _ s3 ⟨ws, rfl, hst, h8, hw, v3⟩
  have n5 := o.n5
  have hw7 : ∀ q ∈ ws, QLt 70 q := fun q hq => (hw q hq).1
  simp
  refine WF.use (w_filled (g := false) o hst h8 hw7) ?_
  rintro _ s4 ⟨rfl, P0, rfl, j0⟩
  simp [perm]
  refine WF.use (w_filled (g := true) o hst h8 hw7) ?_
  rintro _ s5 ⟨rfl, P1, rfl, j1⟩
  have l0 := fun s => e_lfilled (s := s) o hst hw7 j0
  have l1 := fun s => e_lfilled (s := s) o hst hw7 j1
  have u0 := fun s => e_ldue (s := s) o j0
  have u1 := fun s => e_ldue (s := s) o j1
  simp [sz2]
  refine WLc_map (fun b : Bool => PyData.bool b) (fun b => flT l (if b = true then P1 else P0)) [false, true] (fun b hb => ?_) ?_
  · cases b
    · simp
      refine WF.of (l0 _) ?_
      simp
      refine WF.of (u0 _) ?_
      simp
    · simp
      refine WF.of (l1 _) ?_
      simp
      refine WF.of (u1 _) ?_
      simp
  refine ⟨sz2, ?_⟩
  have pn : Pn 100 4 (2 * 36) (.list [flT l P0, flT l P1]) := Pn.lst (k := 3) (w := 35) (fun x hx => by
    simp only [List.mem_cons, List.not_mem_nil, or_false] at hx
    rcases hx with rfl | rfl
    · exact pn_flT o j0
    · exact pn_flT o j1) (Nat.le_refl _)
  have rp := Pn.repr (r := .b [flT l P0, flT l P1]) rfl rfl pn (by decide) (by decide) (by decide)
  generalize PyData.shown (.list [flT l P0, flT l P1]) = told at rp
  simp [rp, fEq_strs]
  refine WF.use (w_take (l := 2) (m := 600) v3.mono (by omega) (by omega)) ?_
  rintro _ s6 ⟨t, rfl, t0, t1, v6⟩
  by_cases hz : t = 0
  case' pos => simp [fEq_int, hz]
  case' neg => simp [fEq_int, hz, perm]
  all_goals
    refine WF.use (w_corners o) ?_
    rintro _ s7 ⟨rfl, F, rfl, cj, fl⟩
    have rp2 := Pn.repr (B := 100) (k := 3) (w := 160 * 25) (r := .d (.tuple (F.map pQs))) rfl rfl (Pn.tup (fun x hx => by
      obtain ⟨r, hr, rfl⟩ := List.mem_map.mp hx
      exact pn_qs (cj.ok r hr).2 (by rw [(cj.ok r hr).1]; omega)) (by rw [List.length_map]; exact fl)) (by decide) (by decide) (by decide)
    generalize PyData.shown (.tuple (F.map pQs)) = told2 at rp2
    simp [rp2]
    refine WF.use (w_lcorners o) ?_
    rintro _ s8 ⟨rfl, F', rfl, cj', fl'⟩
    have eF : F' = F := cj'.same cj
    subst eF
    clear cj' fl'
    have wz : ∀ y ∈ l, atI (ws.map pQ) (y.st : Int) = some (pQ (ws.getD y.st 0)) := fun y hy => atI_w (hst y hy)
    have wq : ∀ y ∈ l, QLt 70 (ws.getD y.st 0) := fun y hy => hw7 _ (by
      have h := hst y hy
      rw [List.getD_eq_getElem?_getD, List.getElem?_eq_getElem h]
      exact List.getElem_mem h)
    have Xin : l.map (xAt (gv roomS (rest0 l) P0)) ∈ F' := (cj.mem _).mpr (fill_crn o j0)
    have en0 := fun m => ends_eq o j0 cj (m := m)
    have en1 := fun m => ends_eq o j1 cj (m := m)
    have dq : ∀ r ∈ F', QLt 4000 (qdot r (l.map fun y => ws.getD y.st 0)) := fun r hr => by
      unfold qdot
      have := qsum_lt (k := 170) (l := (r.zip (l.map fun y => ws.getD y.st 0)).map fun p => p.1 * p.2) (fun q hq => by
        obtain ⟨p, hp, rfl⟩ := List.mem_map.mp hq
        have z := List.of_mem_zip (a := p.1) (b := p.2) hp
        obtain ⟨y, hy, ey⟩ := List.mem_map.mp z.2
        rw [← ey]
        exact (QLt_mul ((cj.ok r hr).2 _ z.1) (wq y hy)).mono (by omega))
      refine this.mono ?_
      rw [List.length_map, List.length_zip, List.length_map]
      have := Nat.min_le_right r.length l.length
      have : 171 * min r.length l.length ≤ 171 * 5 := Nat.mul_le_mul_left _ (by omega)
      omega
    simp [rp2, fEq_strs, pStr]
    refine WLc_map pRS (fun y => pQ (ws.getD y.st 0)) l (fun y hy => ?_) ?_
    · have e := wz y hy
      simp [pRS, pQs, e, -List.getD_eq_getElem?_getD]
    refine ⟨szle (by rw [List.length_map]; omega), ?_⟩
    have eo : l.map (fun y => pQ (ws.getD y.st 0)) = (l.map fun y => ws.getD y.st 0).map pQ := by rw [List.map_map]; rfl
    rw [eo]
    generalize hown : l.map (fun y => ws.getD y.st 0) = own at *
    simp [frzs, frz1]
    refine WLc_map pQs (fun r => pQ (qdot r own)) F' (fun r hr => ?_) ?_
    · simp
      refine WF.of (e_ldot (cj.ok r hr).2 (fun q hq => by
        rw [← hown] at hq
        obtain ⟨y, hy, rfl⟩ := List.mem_map.mp hq
        exact wq y hy) (by rw [(cj.ok r hr).1]; omega)) ?_
      simp
    refine ⟨szle (by rw [List.length_map]; omega), ?_⟩
    have eS : F'.map (fun r => pQ (qdot r own)) = (F'.map fun r => qdot r own).map pQ := by rw [List.map_map]; rfl
    rw [eS]
    have sl : (F'.map fun r => qdot r own).length ≤ 160 := by rw [List.length_map]; exact fl
    have sq : ∀ q ∈ F'.map fun r => qdot r own, QLt 4000 q := fun q hq => by
      obtain ⟨r, hr, rfl⟩ := List.mem_map.mp hq
      exact dq r hr
    have sne : F'.map (fun r => qdot r own) ≠ [] := fun e => by
      rw [List.map_eq_nil_iff] at e
      rw [e] at Xin
      cases Xin
    generalize F'.map (fun r => qdot r own) = sums at *
    have fe0 := flT_eq o j0
    have fe1 := flT_eq o j1
    have sb0 := sum_b o j0 wq
    have sb1 := sum_b o j1 wq
    have qf0 := qsum_filter (X := xAt (gv roomS (rest0 l) P0)) (W := fun y => ws.getD y.st 0) l
    have qf1 := qsum_filter (X := xAt (gv roomS (rest0 l) P1)) (W := fun y => ws.getD y.st 0) l
    have X0 := fun y (hy : y ∈ l) => (fill_ql o j0 y hy).mono (show 20 ≤ 100 by omega)
    have X1 := fun y (hy : y ∈ l) => (fill_ql o j1 y hy).mono (show 20 ≤ 100 by omega)
    generalize xAt (gv roomS (rest0 l) P0) = x0 at *
    generalize xAt (gv roomS (rest0 l) P1) = x1 at *
    have nl0 : (l.filter fun x => !decide (x0 x = 0)).length ≤ 5 := Nat.le_trans (List.length_filter_le _ _) n5
    have nl1 : (l.filter fun x => !decide (x1 x = 0)).length ≤ 5 := Nat.le_trans (List.length_filter_le _ _) n5
    have nm0 : ∀ y ∈ l.filter fun x => !decide (x0 x = 0), y ∈ l := fun y hy => (List.mem_filter.mp hy).1
    have nm1 : ∀ y ∈ l.filter fun x => !decide (x1 x = 0), y ∈ l := fun y hy => (List.mem_filter.mp hy).1
    generalize l.filter (fun x => !decide (x0 x = 0)) = L0 at *
    generalize l.filter (fun x => !decide (x1 x = 0)) = L1 at *
    simp [frzs, frz1]
    refine WLc_map (fun b : Bool => flT l (if b = true then P1 else P0)) (fun b => pQ (if b = true then qsum (l.map fun y => x1 y * ws.getD y.st 0) else qsum (l.map fun y => x0 y * ws.getD y.st 0))) [false, true] (fun b hb => ?_) ?_
    · cases b
      · simp [fe0]
        refine WLc_map (fun y : RS => PyData.tuple [.int (y.st : Nat), pQ (x0 y)]) (fun y => pQ (x0 y * ws.getD y.st 0)) L0 (fun y hy => ?_) ?_
        · have e := wz y (nm0 y hy)
          simp [pQs, e, -List.getD_eq_getElem?_getD]
          refine WF.of (e_ltimes (X0 y (nm0 y hy)).bd (wq y (nm0 y hy)).bd) ?_
          simp [-List.getD_eq_getElem?_getD]
        refine ⟨szle (by rw [List.length_map]; omega), ?_⟩
        have h := fun s => e_ltot (s := s) (l := L0.map fun y => x0 y * ws.getD y.st 0) (k := 90) (x := .list (L0.map fun y => pQ (x0 y * ws.getD y.st 0))) (by rw [List.map_map]; rfl) sb0 (by rw [List.length_map]; omega)
        simp [-List.getD_eq_getElem?_getD]
        refine WF.of (h _) ?_
        rw [qf0]
        simp [-List.getD_eq_getElem?_getD]
      · simp [fe1]
        refine WLc_map (fun y : RS => PyData.tuple [.int (y.st : Nat), pQ (x1 y)]) (fun y => pQ (x1 y * ws.getD y.st 0)) L1 (fun y hy => ?_) ?_
        · have e := wz y (nm1 y hy)
          simp [pQs, e, -List.getD_eq_getElem?_getD]
          refine WF.of (e_ltimes (X1 y (nm1 y hy)).bd (wq y (nm1 y hy)).bd) ?_
          simp [-List.getD_eq_getElem?_getD]
        refine ⟨szle (by rw [List.length_map]; omega), ?_⟩
        have h := fun s => e_ltot (s := s) (l := L1.map fun y => x1 y * ws.getD y.st 0) (k := 90) (x := .list (L1.map fun y => pQ (x1 y * ws.getD y.st 0))) (by rw [List.map_map]; rfl) sb1 (by rw [List.length_map]; omega)
        simp [-List.getD_eq_getElem?_getD]
        refine WF.of (h _) ?_
        rw [qf1]
        simp [-List.getD_eq_getElem?_getD]
    refine ⟨sz2, ?_⟩
    generalize qsum (l.map fun y => x0 y * ws.getD y.st 0) = S0 at *
    generalize qsum (l.map fun y => x1 y * ws.getD y.st 0) = S1 at *
    cases sums with
    | nil => exact absurd rfl sne
    | cons d ds =>
      have w0 := fun s => w_lend (s := s) (x := d) (xs := ds) (g := false) sq
      have w1 := fun s => w_lend (s := s) (x := d) (xs := ds) (g := true) sq
      generalize d :: ds = sums at *
      simp [frzs, frz1, -List.getD_eq_getElem?_getD]
      refine WF.use (w0 _) ?_
      rintro _ s9 ⟨rfl, m0, hm0, rfl, hx0⟩
      have e0 := en0 m0 hm0 hx0
      simp
      refine WF.use (w1 _) ?_
      rintro _ s10 ⟨rfl, m1, hm1, rfl, hx1⟩
      have e1 := en1 m1 hm1 hx1
      subst e0
      subst e1
      have fe := fEq_lbf (l := [S0, S1]) (m := [S0, S1])
      simp only [List.map_cons, List.map_nil] at fe
      simp [sz2, fe]
theorem plain (ns : List Int) (hn : ns.length ≤ 63) (hb : ∀ z ∈ ns, Builtin.Int.intBits z ≤ 1048576) : ∃ s', f_law [.d (.list (ns.map .int))] [] = some (.d (.bool true), s') := by
  refine ⟨[], WF.eq (WF.body rfl ?_)⟩
  obtain ⟨n, hn3, e⟩ : ∃ n : Nat, n ≤ 4 ∧ range1 [.d (.int (if (if (ns.length : Int) > 4 then (4 : Int) else (ns.length : Int)) > 2 then (if (ns.length : Int) > 4 then (4 : Int) else (ns.length : Int)) else 2))] = some ((List.range n).map fun i => PyData.int (i : Nat)) := by
    by_cases h : (ns.length : Int) > 4
    · exact ⟨4, by decide, by rw [if_pos h, if_pos (by decide)]; exact range1_nat (n := 4) (by decide)⟩
    · rw [if_neg h]
      by_cases h2 : (ns.length : Int) > 2
      · exact ⟨ns.length, by omega, by rw [if_pos h2]; exact range1_nat (n := ns.length) (by omega)⟩
      · exact ⟨2, by decide, by rw [if_neg h2]; exact range1_nat (n := 2) (by decide)⟩
  simp [m_law, fMin2, fMax2, List.replicate_succ]
  simp only [gt_iff_lt] at e
  rw [e, WO_some]
  refine WLc_map (fun i : Nat => PyData.int i) (fun _ => PyData.bool true) (List.range n) (fun i hi => ?_) ?_
  · rw [List.mem_range] at hi
    simp
    refine WF.use (w_pot (ns := ns) (by omega)) ?_
    rintro _ s' ⟨rfl, a, b, rfl, b0, b1⟩
    simp [callNK, stoOf, onlyD]
    refine WF.use (w_right (s := [a, b, 0]) ⟨a, b, 0, rfl, b0, b1, by decide, by decide⟩) ?_
    rintro _ s' rfl
    simp
  refine ⟨szle (by simp; omega), ?_⟩
  simp [fAll_true]
end WW
namespace WW
open PySem PySem.Spec L2 Dh
section
variable {P : Program} {w : World} {K : PySem.W.Frag} {mg : Str → Option Value} {base : Heap} {ad : Nat → Addr} {fd : Nat → FuncData}
theorem sc_is_whole : FnScope n_is_whole p_is_whole (defScope s_is_whole) := ⟨rfl, rfl, rfl, by decide +kernel, rfl, by decide +kernel, by decide +kernel⟩
theorem bd_is_whole (T : Txt K mg ad fd) : Binds K (fd 0) p_is_whole [] := T.d_is_whole.binds (ps := p_is_whole) fun _ _ _ _ _ _ us hl => match us, hl with | [_], _ => rfl
theorem ok_is_whole (T : Txt K mg ad fd) : FnG P w K mg base 1 (ad 0) (fd 0) p_is_whole (spOf K 1 f_is_whole) := (fnG_of (m := m_is_whole) T.d_is_whole sc_is_whole fun cdv A outer s H E hr hg =>
    (sl_one (ss_ret (se_and (se_isi (T := "int") (by decide) (se_var (i := 0)) T.b_isinstance T.b_int (by decide +kernel)) (se_one (se_not (se_isi (T := "bool") (by decide) (se_var (i := 0)) T.b_isinstance T.b_bool (by decide +kernel)))))))).imp fun _ _ _ _ => spOf_run'
theorem sc_is_between : FnScope n_is_between p_is_between (defScope s_is_between) := ⟨rfl, rfl, rfl, by decide +kernel, rfl, by decide +kernel, by decide +kernel⟩
theorem bd_is_between (T : Txt K mg ad fd) : Binds K (fd 1) p_is_between [] := T.d_is_between.binds (ps := p_is_between) fun _ _ _ _ _ _ us hl => match us, hl with | [_, _, _], _ => rfl
theorem ok_is_between (T : Txt K mg ad fd) : FnG P w K mg base 2 (ad 1) (fd 1) p_is_between (spOf K 3 f_is_between) := (fnG_of (m := m_is_between) T.d_is_between sc_is_between fun cdv A outer s H E hr hg =>
    (sl_one (ss_ret (se_and (se_call (ok_is_whole T) (hr.mono (by omega)) hg T.m_is_whole T.d_is_whole.kp (bd_is_whole T) (sa_cons (se_var (i := 0)) sa_nil)) (se_one (se_lele (se_var (i := 1)) (se_var (i := 0)) (se_var (i := 2)))))))).imp fun _ _ _ _ => spOf_run'
theorem sc_is_tuple_of : FnScope n_is_tuple_of p_is_tuple_of (defScope s_is_tuple_of) := ⟨rfl, rfl, rfl, by decide +kernel, rfl, by decide +kernel, by decide +kernel⟩
theorem bd_is_tuple_of (T : Txt K mg ad fd) : Binds K (fd 2) p_is_tuple_of [] := T.d_is_tuple_of.binds (ps := p_is_tuple_of) fun _ _ _ _ _ _ us hl => match us, hl with | [_, _], _ => rfl
theorem ok_is_tuple_of (T : Txt K mg ad fd) : FnG P w K mg base 1 (ad 2) (fd 2) p_is_tuple_of (spOf K 2 f_is_tuple_of) := (fnG_of (m := m_is_tuple_of) T.d_is_tuple_of sc_is_tuple_of fun cdv A outer s H E hr hg =>
    (sl_one (ss_ret (se_and (se_isi (T := "tuple") (by decide) (se_var (i := 0)) T.b_isinstance T.b_tuple (by decide +kernel)) (se_one (se_eq hr (se_len (sa_cons (se_var (i := 0)) sa_nil) T.b_len) (se_var (i := 1)))))))).imp fun _ _ _ _ => spOf_run'
theorem sc_is_ratio : FnScope n_is_ratio p_is_ratio (defScope s_is_ratio) := ⟨rfl, rfl, rfl, by decide +kernel, rfl, by decide +kernel, by decide +kernel⟩
theorem bd_is_ratio (T : Txt K mg ad fd) : Binds K (fd 3) p_is_ratio [] := T.d_is_ratio.binds (ps := p_is_ratio) fun _ _ _ _ _ _ us hl => match us, hl with | [_], _ => rfl
theorem ok_is_ratio (T : Txt K mg ad fd) : FnG P w K mg base 2 (ad 3) (fd 3) p_is_ratio (spOf K 1 f_is_ratio) := (fnG_of (m := m_is_ratio) T.d_is_ratio sc_is_ratio fun cdv A outer s H E hr hg =>
    (sl_cons (ss_if (sb_w (sw_or (sb_not (sb_val (se_call (ok_is_tuple_of T) (hr.mono (by omega)) hg T.m_is_tuple_of T.d_is_tuple_of.kp (bd_is_tuple_of T) (sa_cons (se_var (i := 0)) (sa_cons se_int sa_nil))))) (sw_or (sb_not (sb_val (se_call (ok_is_whole T) (hr.mono (by omega)) hg T.m_is_whole T.d_is_whole.kp (bd_is_whole T) (sa_cons (se_ix (se_var (i := 0)) se_int) sa_nil)))) (sw_or1 (sb_not (sb_val (se_call (ok_is_whole T) (hr.mono (by omega)) hg T.m_is_whole T.d_is_whole.kp (bd_is_whole T) (sa_cons (se_ix (se_var (i := 0)) se_int) sa_nil))))))))
    (sl_one (ss_ret se_bl))
    sl_nil)
    (sl_one (ss_ret (se_and (se_gt (se_ix (se_var (i := 0)) se_int) se_int) (se_one (se_eq hr (se_gcd (sa_cons (se_ix (se_var (i := 0)) se_int) (sa_cons (se_ix (se_var (i := 0)) se_int) sa_nil)) T.b_gcd) se_int))))))).imp fun _ _ _ _ => spOf_run'
theorem sc_ratio : FnScope n_ratio p_ratio (defScope s_ratio) := ⟨rfl, rfl, rfl, by decide +kernel, rfl, by decide +kernel, by decide +kernel⟩
theorem bd_ratio (T : Txt K mg ad fd) : Binds K (fd 4) p_ratio [] := T.d_ratio.binds (ps := p_ratio) fun _ _ _ _ _ _ us hl => match us, hl with | [_, _], _ => rfl
theorem ok_ratio (T : Txt K mg ad fd) : FnG P w K mg base 1 (ad 4) (fd 4) p_ratio (spOf K 2 f_ratio) := (fnG_of (m := m_ratio) T.d_ratio sc_ratio fun cdv A outer s H E hr hg =>
    (sl_cons (ss_set (i := 2) sc_ratio.nd rfl (.inl rfl) (se_if (sb_gt (se_var (i := 1)) se_int) (se_gcd (sa_cons (se_var (i := 0)) (sa_cons (se_var (i := 1)) sa_nil)) T.b_gcd) (se_neg (se_gcd (sa_cons (se_var (i := 0)) (sa_cons (se_var (i := 1)) sa_nil)) T.b_gcd))))
    (sl_one (ss_ret (se_tup (sa_cons (se_fdiv (se_var (i := 0)) (se_var (i := 2))) (sa_cons (se_fdiv (se_var (i := 1)) (se_var (i := 2))) sa_nil))))))).imp fun _ _ _ _ => spOf_run'
theorem sc_plus : FnScope n_plus p_plus (defScope s_plus) := ⟨rfl, rfl, rfl, by decide +kernel, rfl, by decide +kernel, by decide +kernel⟩
theorem bd_plus (T : Txt K mg ad fd) : Binds K (fd 5) p_plus [] := T.d_plus.binds (ps := p_plus) fun _ _ _ _ _ _ us hl => match us, hl with | [_, _], _ => rfl
theorem ok_plus (T : Txt K mg ad fd) : FnG P w K mg base 2 (ad 5) (fd 5) p_plus (spOf K 2 f_plus) := (fnG_of (m := m_plus) T.d_plus sc_plus fun cdv A outer s H E hr hg =>
    (sl_one (ss_ret (se_call (ok_ratio T) (hr.mono (by omega)) hg T.m_ratio T.d_ratio.kp (bd_ratio T) (sa_cons (se_add (se_mul (se_ix (se_var (i := 0)) se_int) (se_ix (se_var (i := 1)) se_int)) (se_mul (se_ix (se_var (i := 1)) se_int) (se_ix (se_var (i := 0)) se_int))) (sa_cons (se_mul (se_ix (se_var (i := 0)) se_int) (se_ix (se_var (i := 1)) se_int)) sa_nil)))))).imp fun _ _ _ _ => spOf_run'
theorem sc_minus : FnScope n_minus p_minus (defScope s_minus) := ⟨rfl, rfl, rfl, by decide +kernel, rfl, by decide +kernel, by decide +kernel⟩
theorem bd_minus (T : Txt K mg ad fd) : Binds K (fd 6) p_minus [] := T.d_minus.binds (ps := p_minus) fun _ _ _ _ _ _ us hl => match us, hl with | [_, _], _ => rfl
theorem ok_minus (T : Txt K mg ad fd) : FnG P w K mg base 2 (ad 6) (fd 6) p_minus (spOf K 2 f_minus) := (fnG_of (m := m_minus) T.d_minus sc_minus fun cdv A outer s H E hr hg =>
    (sl_one (ss_ret (se_call (ok_ratio T) (hr.mono (by omega)) hg T.m_ratio T.d_ratio.kp (bd_ratio T) (sa_cons (se_sub (se_mul (se_ix (se_var (i := 0)) se_int) (se_ix (se_var (i := 1)) se_int)) (se_mul (se_ix (se_var (i := 1)) se_int) (se_ix (se_var (i := 0)) se_int))) (sa_cons (se_mul (se_ix (se_var (i := 0)) se_int) (se_ix (se_var (i := 1)) se_int)) sa_nil)))))).imp fun _ _ _ _ => spOf_run'
theorem sc_is_less : FnScope n_is_less p_is_less (defScope s_is_less) := ⟨rfl, rfl, rfl, by decide +kernel, rfl, by decide +kernel, by decide +kernel⟩
theorem bd_is_less (T : Txt K mg ad fd) : Binds K (fd 7) p_is_less [] := T.d_is_less.binds (ps := p_is_less) fun _ _ _ _ _ _ us hl => match us, hl with | [_, _], _ => rfl
theorem ok_is_less (T : Txt K mg ad fd) : FnG P w K mg base 1 (ad 7) (fd 7) p_is_less (spOf K 2 f_is_less) := (fnG_of (m := m_is_less) T.d_is_less sc_is_less fun cdv A outer s H E hr hg =>
    (sl_one (ss_ret (se_lt (se_mul (se_ix (se_var (i := 0)) se_int) (se_ix (se_var (i := 1)) se_int)) (se_mul (se_ix (se_var (i := 1)) se_int) (se_ix (se_var (i := 0)) se_int)))))).imp fun _ _ _ _ => spOf_run'
theorem sc_total : FnScope n_total p_total (defScope s_total) := ⟨rfl, rfl, rfl, by decide +kernel, rfl, by decide +kernel, by decide +kernel⟩
theorem bd_total (T : Txt K mg ad fd) : Binds K (fd 8) p_total [] := T.d_total.binds (ps := p_total) fun _ _ _ _ _ _ us hl => match us, hl with | [_], _ => rfl
theorem ok_total (T : Txt K mg ad fd) : FnG P w K mg base 3 (ad 8) (fd 8) p_total (spOf K 1 f_total) := (fnG_of (m := m_total) T.d_total sc_total fun cdv A outer s H E hr hg =>
    (sl_cons (ss_set (i := 1) sc_total.nd rfl (.inl rfl) (se_glob T.g_ZERO (by rfl)))
    (sl_cons (ss_for PassesOwn.never rfl (si_seq (se_var (i := 0))) (sg_name (i := 2) sc_total.nd)
    (sl_one (ss_set (i := 1) sc_total.nd rfl (.inl rfl) (se_call (ok_plus T) (hr.mono (by omega)) hg T.m_plus T.d_plus.kp (bd_plus T) (sa_cons (se_var (i := 1)) (sa_cons (se_var (i := 2)) sa_nil))))))
    (sl_one (ss_retV (i := 1)))))).imp fun _ _ _ _ => spOf_run'
theorem sc_is_end : FnScope n_is_end p_is_end (defScope s_is_end) := ⟨rfl, rfl, rfl, by decide +kernel, rfl, by decide +kernel, by decide +kernel⟩
theorem bd_is_end (T : Txt K mg ad fd) : Binds K (fd 9) p_is_end [] := T.d_is_end.binds (ps := p_is_end) fun _ _ _ _ _ _ us hl => match us, hl with | [_], _ => rfl
theorem ok_is_end (T : Txt K mg ad fd) : FnG P w K mg base 3 (ad 9) (fd 9) p_is_end (spOf K 1 f_is_end) := (fnG_of (m := m_is_end) T.d_is_end sc_is_end fun cdv A outer s H E hr hg =>
    (sl_one (ss_ret (se_and (se_call (ok_is_ratio T) (hr.mono (by omega)) hg T.m_is_ratio T.d_is_ratio.kp (bd_is_ratio T) (sa_cons (se_var (i := 0)) sa_nil)) (se_one (se_lele se_int (se_ix (se_var (i := 0)) se_int) (se_ix (se_var (i := 0)) se_int))))))).imp fun _ _ _ _ => spOf_run'
theorem sc_is_stretch : FnScope n_is_stretch p_is_stretch (defScope s_is_stretch) := ⟨rfl, rfl, rfl, by decide +kernel, rfl, by decide +kernel, by decide +kernel⟩
theorem bd_is_stretch (T : Txt K mg ad fd) : Binds K (fd 10) p_is_stretch [] := T.d_is_stretch.binds (ps := p_is_stretch) fun _ _ _ _ _ _ us hl => match us, hl with | [_, _], _ => rfl
theorem ok_is_stretch (T : Txt K mg ad fd) : FnG P w K mg base 4 (ad 10) (fd 10) p_is_stretch (spOf K 2 f_is_stretch) := (fnG_of (m := m_is_stretch) T.d_is_stretch sc_is_stretch fun cdv A outer s H E hr hg =>
    (sl_cons (ss_if (sb_w (sw_or (sb_not (sb_val (se_call (ok_is_tuple_of T) (hr.mono (by omega)) hg T.m_is_tuple_of T.d_is_tuple_of.kp (bd_is_tuple_of T) (sa_cons (se_var (i := 0)) (sa_cons se_int sa_nil))))) (sw_or1 (sb_not (sb_val (se_call (ok_is_between T) (hr.mono (by omega)) hg T.m_is_between T.d_is_between.kp (bd_is_between T) (sa_cons (se_ix (se_var (i := 0)) se_int) (sa_cons se_int (sa_cons (se_sub (se_var (i := 1)) se_int) sa_nil)))))))))
    (sl_one (ss_ret se_bl))
    sl_nil)
    (sl_one (ss_ret (se_and (se_call (ok_is_end T) (hr.mono (by omega)) hg T.m_is_end T.d_is_end.kp (bd_is_end T) (sa_cons (se_ix (se_var (i := 0)) se_int) sa_nil)) (se_and (se_call (ok_is_end T) (hr.mono (by omega)) hg T.m_is_end T.d_is_end.kp (bd_is_end T) (sa_cons (se_ix (se_var (i := 0)) se_int) sa_nil)) (se_one (se_not (se_call (ok_is_less T) (hr.mono (by omega)) hg T.m_is_less T.d_is_less.kp (bd_is_less T) (sa_cons (se_ix (se_var (i := 0)) se_int) (sa_cons (se_ix (se_var (i := 0)) se_int) sa_nil))))))))))).imp fun _ _ _ _ => spOf_run'
theorem sc_are_stretches : FnScope n_are_stretches p_are_stretches (defScope s_are_stretches) := ⟨rfl, rfl, rfl, by decide +kernel, rfl, by decide +kernel, by decide +kernel⟩
theorem bd_are_stretches (T : Txt K mg ad fd) : Binds K (fd 11) p_are_stretches [] := T.d_are_stretches.binds (ps := p_are_stretches) fun _ _ _ _ _ _ us hl => match us, hl with | [_, _], _ => rfl
theorem ok_are_stretches (T : Txt K mg ad fd) : FnG P w K mg base 5 (ad 11) (fd 11) p_are_stretches (spOf K 2 f_are_stretches) := (fnG_of (m := m_are_stretches) T.d_are_stretches sc_are_stretches fun cdv A outer s H E hr hg =>
    (sl_cons (ss_if (sb_w (sw_or (sb_not (sb_val (se_isi (T := "tuple") (by decide) (se_var (i := 0)) T.b_isinstance T.b_tuple (by decide +kernel)))) (sw_or1 (sb_not (sb_val (se_all rfl (sa_cons (se_lc (own := [("each", 5)]) (is := [5]) rfl sc_are_stretches.nd (si_seq (se_var (i := 0))) (blkOk_by (own := [("each", 5)]) (N := n_are_stretches) (sc := defScope s_are_stretches) (by decide +kernel)) (by decide) (fun _ _ _ _ _ => (sg_name (i := 5) sc_are_stretches.nd)) (fun _ _ _ _ _ => sts_nil) (fun _ _ _ _ _ => (se_call (ok_is_stretch T) (hr.mono (by omega)) hg T.m_is_stretch T.d_is_stretch.kp (bd_is_stretch T) (sa_cons (se_var (i := 5)) (sa_cons (se_var (i := 1)) sa_nil))))) sa_nil) T.b_all))))))
    (sl_one (ss_ret se_bl))
    sl_nil)
    (sl_cons (ss_setLc (i := 2) (own := [("stand", 6), ("_", 7)]) (is := [6, 7, 7]) rfl sc_are_stretches.nd rfl rfl (sw_true rfl rfl rfl (by decide +kernel)) (si_seq (se_var (i := 0))) (blkOk_by (own := [("stand", 6), ("_", 7)]) (N := n_are_stretches) (sc := defScope s_are_stretches) (by decide +kernel)) (by decide) (fun _ _ _ _ _ => (sg_tup rfl (sgs_cons (sg_name (i := 6) sc_are_stretches.nd) (sgs_cons (sg_name (i := 7) sc_are_stretches.nd) (sgs_cons (sg_name (i := 7) sc_are_stretches.nd) sgs_nil))))) (fun _ _ _ _ _ => sts_nil) (fun _ _ _ _ _ => (se_var (i := 6))))
    (sl_cons (ss_frz [2] (ss_if (sb_not (sb_val (se_all rfl (sa_cons (se_lc (own := [("one", 8), ("two", 9)]) (is := [8, 9]) rfl sc_are_stretches.nd (si_z2 (sa_cons (se_var (i := 2)) (sa_cons (se_sl (se_var (i := 2)) (so_some se_int) so_none) sa_nil)) T.b_zip) (blkOk_by (own := [("one", 8), ("two", 9)]) (N := n_are_stretches) (sc := defScope s_are_stretches) (by decide +kernel)) (by decide) (fun _ _ _ _ _ => (sg_tup rfl (sgs_cons (sg_name (i := 8) sc_are_stretches.nd) (sgs_cons (sg_name (i := 9) sc_are_stretches.nd) sgs_nil)))) (fun _ _ _ _ _ => sts_nil) (fun _ _ _ _ _ => (se_lt (se_var (i := 8)) (se_var (i := 9))))) sa_nil) T.b_all)))
    (sl_one (ss_ret se_bl))
    sl_nil))
    (sl_cons (ss_par (i := 3) (j := 4) rfl sc_are_stretches.nd (sa_cons (se_call (ok_total T) (hr.mono (by omega)) hg T.m_total T.d_total.kp (bd_total T) (sa_cons (se_lc (own := [("each", 5)]) (is := [5]) rfl sc_are_stretches.nd (si_seq (se_var (i := 0))) (blkOk_by (own := [("each", 5)]) (N := n_are_stretches) (sc := defScope s_are_stretches) (by decide +kernel)) (by decide) (fun _ _ _ _ _ => (sg_name (i := 5) sc_are_stretches.nd)) (fun _ _ _ _ _ => sts_nil) (fun _ _ _ _ _ => (se_ix (se_var (i := 5)) se_int))) sa_nil)) (sa_cons (se_call (ok_total T) (hr.mono (by omega)) hg T.m_total T.d_total.kp (bd_total T) (sa_cons (se_lc (own := [("each", 5)]) (is := [5]) rfl sc_are_stretches.nd (si_seq (se_var (i := 0))) (blkOk_by (own := [("each", 5)]) (N := n_are_stretches) (sc := defScope s_are_stretches) (by decide +kernel)) (by decide) (fun _ _ _ _ _ => (sg_name (i := 5) sc_are_stretches.nd)) (fun _ _ _ _ _ => sts_nil) (fun _ _ _ _ _ => (se_ix (se_var (i := 5)) se_int))) sa_nil)) sa_nil)))
    (sl_one (ss_ret (se_and (se_not (se_call (ok_is_less T) (hr.mono (by omega)) hg T.m_is_less T.d_is_less.kp (bd_is_less T) (sa_cons (se_glob T.g_ONE (by rfl)) (sa_cons (se_var (i := 3)) sa_nil)))) (se_one (se_not (se_call (ok_is_less T) (hr.mono (by omega)) hg T.m_is_less T.d_is_less.kp (bd_is_less T) (sa_cons (se_var (i := 4)) (sa_cons (se_glob T.g_ONE (by rfl)) sa_nil))))))))))))).imp fun _ _ _ _ => spOf_run'
theorem sc_next_of : FnScope n_next_of p_next_of (defScope s_next_of) := ⟨rfl, rfl, rfl, by decide +kernel, rfl, by decide +kernel, by decide +kernel⟩
theorem bd_next_of (T : Txt K mg ad fd) : Binds K (fd 12) p_next_of [] := T.d_next_of.binds (ps := p_next_of) fun _ _ _ _ _ _ us hl => match us, hl with | [_, _, _], _ => rfl
theorem ok_next_of (T : Txt K mg ad fd) : FnG P w K mg base 2 (ad 12) (fd 12) p_next_of (spOf K 3 f_next_of) := (fnG_of (m := m_next_of) T.d_next_of sc_next_of fun cdv A outer s H E hr hg =>
    (sl_cons (ss_set (i := 3) sc_next_of.nd rfl (.inl rfl) (se_ix (se_var (i := 0)) se_int))
    (sl_cons (ss_for PassesOwn.never rfl (si_seq (se_sl (se_var (i := 0)) (so_some se_int) so_none)) (sg_name (i := 4) sc_next_of.nd)
    (sl_cons (ss_par (i := 5) (j := 6) rfl sc_next_of.nd (sa_cons (se_ix (se_var (i := 1)) (se_ix (se_var (i := 4)) se_int)) (sa_cons (se_ix (se_var (i := 1)) (se_ix (se_var (i := 3)) se_int)) sa_nil)))
    (sl_one (ss_if (sb_if (sb_val (se_var (i := 2))) (sb_val (se_call (ok_is_less T) (hr.mono (by omega)) hg T.m_is_less T.d_is_less.kp (bd_is_less T) (sa_cons (se_var (i := 6)) (sa_cons (se_var (i := 5)) sa_nil)))) (sb_val (se_call (ok_is_less T) (hr.mono (by omega)) hg T.m_is_less T.d_is_less.kp (bd_is_less T) (sa_cons (se_var (i := 5)) (sa_cons (se_var (i := 6)) sa_nil)))))
    (sl_one (ss_set (i := 3) sc_next_of.nd rfl (.inl rfl) (se_var (i := 4))))
    sl_nil))))
    (sl_one (ss_retV (i := 3)))))).imp fun _ _ _ _ => spOf_run'
theorem sc_filled_by : FnScope n_filled_by p_filled_by (defScope s_filled_by) := ⟨rfl, rfl, rfl, by decide +kernel, rfl, by decide +kernel, by decide +kernel⟩
theorem bd_filled_by (T : Txt K mg ad fd) : Binds K (fd 13) p_filled_by [] := T.d_filled_by.binds (ps := p_filled_by) fun _ _ _ _ _ _ us hl => match us, hl with | [_, _, _], _ => rfl
theorem ok_filled_by (T : Txt K mg ad fd) : FnG P w K mg base 4 (ad 13) (fd 13) p_filled_by (spOf K 3 f_filled_by) := (fnG_of (m := m_filled_by) T.d_filled_by sc_filled_by fun cdv A outer s H E hr hg =>
    (sl_cons (ss_par3t (i := 3) (j := 4) (l := 5) rfl sc_filled_by.nd (sa2_cons (se_list (sa_cons (se_var (i := 0)) sa_nil) T.b_list) (sa2_cons (se_call (ok_minus T) (hr.mono (by omega)) hg T.m_minus T.d_minus.kp (bd_minus T) (sa_cons (se_glob T.g_ONE (by rfl)) (sa_cons (se_call (ok_total T) (hr.mono (by omega)) hg T.m_total T.d_total.kp (bd_total T) (sa_cons (se_lc (own := [("_", 10), ("low", 7)]) (is := [10, 7, 10]) rfl sc_filled_by.nd (si_seq (se_var (i := 0))) (blkOk_by (own := [("_", 10), ("low", 7)]) (N := n_filled_by) (sc := defScope s_filled_by) (by decide +kernel)) (by decide) (fun _ _ _ _ _ => (sg_tup rfl (sgs_cons (sg_name (i := 10) sc_filled_by.nd) (sgs_cons (sg_name (i := 7) sc_filled_by.nd) (sgs_cons (sg_name (i := 10) sc_filled_by.nd) sgs_nil))))) (fun _ _ _ _ _ => sts_nil) (fun _ _ _ _ _ => (se_var (i := 7)))) sa_nil)) sa_nil))) (sa2_cons se_dictM sa2_nil))))
    (sl_cons (ss_while PassesOwn.never (sb_neN hr (se_var (i := 3)) (se_lst sa_nil))
    (sl_cons (ss_frz [3] (ss_asg (se_call (ok_next_of T) (hr.mono (by omega)) hg T.m_next_of T.d_next_of.kp (bd_next_of T) (sa_cons (se_var (i := 3)) (sa_cons (se_var (i := 1)) (sa_cons (se_var (i := 2)) sa_nil)))) (sg_tup rfl (sgs_cons (sg_name (i := 6) sc_filled_by.nd) (sgs_cons (sg_name (i := 7) sc_filled_by.nd) (sgs_cons (sg_name (i := 8) sc_filled_by.nd) sgs_nil))))))
    (sl_cons (ss_frz [3] (ss_setLc (i := 3) (own := [("each", 11)]) (is := [11]) rfl sc_filled_by.nd rfl rfl (sw_true rfl rfl rfl (by decide +kernel)) (si_seq (se_var (i := 3))) (blkOk_by (own := [("each", 11)]) (N := n_filled_by) (sc := defScope s_filled_by) (by decide +kernel)) (by decide) (fun _ _ _ _ _ => (sg_name (i := 11) sc_filled_by.nd)) (fun _ _ _ _ _ => sts_one (sb_ne hr (se_ix (se_var (i := 11)) se_int) (se_var (i := 6)))) (fun _ _ _ _ _ => (se_var (i := 11)))))
    (sl_cons (ss_set (i := 9) sc_filled_by.nd rfl (.inl rfl) (se_if (sb_val (se_call (ok_is_less T) (hr.mono (by omega)) hg T.m_is_less T.d_is_less.kp (bd_is_less T) (sa_cons (se_var (i := 4)) (sa_cons (se_call (ok_minus T) (hr.mono (by omega)) hg T.m_minus T.d_minus.kp (bd_minus T) (sa_cons (se_var (i := 8)) (sa_cons (se_var (i := 7)) sa_nil))) sa_nil)))) (se_var (i := 4)) (se_call (ok_minus T) (hr.mono (by omega)) hg T.m_minus T.d_minus.kp (bd_minus T) (sa_cons (se_var (i := 8)) (sa_cons (se_var (i := 7)) sa_nil)))))
    (sl_cons (ss_set (i := 4) sc_filled_by.nd rfl (.inl rfl) (se_call (ok_minus T) (hr.mono (by omega)) hg T.m_minus T.d_minus.kp (bd_minus T) (sa_cons (se_var (i := 4)) (sa_cons (se_var (i := 9)) sa_nil))))
    (sl_one (ss_putM (i := 5) (se_call (ok_plus T) (hr.mono (by omega)) hg T.m_plus T.d_plus.kp (bd_plus T) (sa_cons (se_var (i := 7)) (sa_cons (se_var (i := 9)) sa_nil))) (pg_sub (pv 5) (se_var (i := 6)) (set_dict (unitsM hr))))))))))
    (sl_one (ss_ret (se_tuple (sa_cons (se_lc (own := [("stand", 6), ("_", 10)]) (is := [6, 10, 10]) rfl sc_filled_by.nd (si_seq (se_var (i := 0))) (blkOk_by (own := [("stand", 6), ("_", 10)]) (N := n_filled_by) (sc := defScope s_filled_by) (by decide +kernel)) (by decide) (fun _ _ _ _ _ => (sg_tup rfl (sgs_cons (sg_name (i := 6) sc_filled_by.nd) (sgs_cons (sg_name (i := 10) sc_filled_by.nd) (sgs_cons (sg_name (i := 10) sc_filled_by.nd) sgs_nil))))) (fun _ _ _ _ _ => sts_one (sb_ne hr (se_ixM hr (se_var (i := 5)) (se_var (i := 6))) (se_glob T.g_ZERO (by rfl)))) (fun _ _ _ _ _ => (se_tup (sa_cons (se_var (i := 6)) (sa_cons (se_ixM hr (se_var (i := 5)) (se_var (i := 6))) sa_nil))))) sa_nil) T.b_tuple)))))).imp fun _ _ _ _ => spOf_run'
theorem sc_is_row_ahead : FnScope n_is_row_ahead p_is_row_ahead (defScope s_is_row_ahead) := ⟨rfl, rfl, rfl, by decide +kernel, rfl, by decide +kernel, by decide +kernel⟩
theorem bd_is_row_ahead (T : Txt K mg ad fd) : Binds K (fd 14) p_is_row_ahead [] := T.d_is_row_ahead.binds (ps := p_is_row_ahead) fun _ _ _ _ _ _ us hl => match us, hl with | [_, _], _ => rfl
theorem ok_is_row_ahead (T : Txt K mg ad fd) : FnG P w K mg base 2 (ad 14) (fd 14) p_is_row_ahead (spOf K 2 f_is_row_ahead) := (fnG_of (m := m_is_row_ahead) T.d_is_row_ahead sc_is_row_ahead fun cdv A outer s H E hr hg =>
    (sl_cons (ss_for PassesOwn.never rfl (si_z2 (sa_cons (se_var (i := 0)) (sa_cons (se_var (i := 1)) sa_nil)) T.b_zip) (sg_tup rfl (sgs_cons (sg_name (i := 2) sc_is_row_ahead.nd) (sgs_cons (sg_name (i := 3) sc_is_row_ahead.nd) sgs_nil)))
    (sl_one (ss_if (sb_ne hr (se_var (i := 2)) (se_var (i := 3)))
    (sl_one (ss_ret (se_call (ok_is_less T) (hr.mono (by omega)) hg T.m_is_less T.d_is_less.kp (bd_is_less T) (sa_cons (se_var (i := 2)) (sa_cons (se_var (i := 3)) sa_nil)))))
    sl_nil)))
    (sl_one (ss_ret se_bl)))).imp fun _ _ _ _ => spOf_run'
theorem sc_spot_of : FnScope n_spot_of p_spot_of (defScope s_spot_of) := ⟨rfl, rfl, rfl, by decide +kernel, rfl, by decide +kernel, by decide +kernel⟩
theorem bd_spot_of (T : Txt K mg ad fd) : Binds K (fd 15) p_spot_of [] := T.d_spot_of.binds (ps := p_spot_of) fun _ _ _ _ _ _ us hl => match us, hl with | [_, _], _ => rfl
theorem ok_spot_of (T : Txt K mg ad fd) : FnG P w K mg base 3 (ad 15) (fd 15) p_spot_of (spOf K 2 f_spot_of) := (fnG_of (m := m_spot_of) T.d_spot_of sc_spot_of fun cdv A outer s H E hr hg =>
    (sl_cons (ss_par (i := 2) (j := 3) rfl sc_spot_of.nd (sa_cons se_int (sa_cons (se_len (sa_cons (se_var (i := 0)) sa_nil) T.b_len) sa_nil)))
    (sl_cons (ss_while PassesOwn.never (sb_lt (se_var (i := 2)) (se_var (i := 3)))
    (sl_cons (ss_set (i := 4) sc_spot_of.nd rfl (.inl rfl) (se_fdiv (se_add (se_var (i := 2)) (se_var (i := 3))) se_int))
    (sl_one (ss_asg (se_if (sb_val (se_call (ok_is_row_ahead T) (hr.mono (by omega)) hg T.m_is_row_ahead T.d_is_row_ahead.kp (bd_is_row_ahead T) (sa_cons (se_ix (se_var (i := 0)) (se_var (i := 4))) (sa_cons (se_var (i := 1)) sa_nil)))) (se_tup (sa_cons (se_add (se_var (i := 4)) se_int) (sa_cons (se_var (i := 3)) sa_nil))) (se_tup (sa_cons (se_var (i := 2)) (sa_cons (se_var (i := 4)) sa_nil)))) (sg_tup rfl (sgs_cons (sg_name (i := 2) sc_spot_of.nd) (sgs_cons (sg_name (i := 3) sc_spot_of.nd) sgs_nil)))))))
    (sl_one (ss_retV (i := 2)))))).imp fun _ _ _ _ => spOf_run'
end
end WW
namespace WW
open PySem PySem.Spec L2 Dh
section
variable {P : Program} {w : World} {K : PySem.W.Frag} {mg : Str → Option Value} {base : Heap} {ad : Nat → Addr} {fd : Nat → FuncData}
theorem sc_ends_of : FnScope n_ends_of p_ends_of (defScope s_ends_of) := ⟨rfl, rfl, rfl, by decide +kernel, rfl, by decide +kernel, by decide +kernel⟩
theorem bd_ends_of (T : Txt K mg ad fd) : Binds K (fd 16) p_ends_of [] := T.d_ends_of.binds (ps := p_ends_of) fun _ _ _ _ _ _ us hl => match us, hl with | [_], _ => rfl
theorem ok_ends_of (T : Txt K mg ad fd) : FnG P w K mg base 1 (ad 16) (fd 16) p_ends_of (spOf K 1 f_ends_of) := (fnG_of (m := m_ends_of) T.d_ends_of sc_ends_of fun cdv A outer s H E hr hg =>
    (sl_cons (ss_set (i := 1) sc_ends_of.nd rfl (.inl rfl) (se_lst (sa_cons (se_tup sa_nil) sa_nil)))
    (sl_cons (ss_for PassesOwn.never rfl (si_seq (se_var (i := 0))) (sg_tup rfl (sgs_cons (sg_name (i := 2) sc_ends_of.nd) (sgs_cons (sg_name (i := 3) sc_ends_of.nd) (sgs_cons (sg_name (i := 4) sc_ends_of.nd) sgs_nil))))
    (sl_cons (ss_set (i := 5) sc_ends_of.nd rfl (.inr rfl) (se_if (sb_eq hr (se_var (i := 3)) (se_var (i := 4))) (se_tup (sa_cons (se_var (i := 3)) sa_nil)) (se_tup (sa_cons (se_var (i := 3)) (sa_cons (se_var (i := 4)) sa_nil)))))
    (sl_one (ss_frz [1] (ss_setLc2 (i := 1) (own := [("row", 6), ("end", 7)]) (is := [6]) (is1 := [7]) (vs1 := [7]) rfl sc_ends_of.nd rfl rfl (sw_true rfl rfl rfl (by decide +kernel)) (si_seq (se_var (i := 1))) (blkOk_by (own := [("row", 6), ("end", 7)]) (N := n_ends_of) (sc := defScope s_ends_of) (by decide +kernel)) (by decide) (by decide) (by decide) (gok_name 6) (fun _ _ _ _ _ => (sg_name (i := 6) sc_ends_of.nd)) (fun _ _ _ _ _ => sts_nil) (fun _ _ _ _ _ => (si_seq (se_var (i := 5)))) (fun _ _ _ _ _ => (sg_name (i := 7) sc_ends_of.nd)) (fun _ _ _ _ _ => sts_nil) (fun _ _ _ _ _ => (se_add (se_var (i := 6)) (se_tup (sa_cons (se_var (i := 7)) sa_nil)))))))))
    (sl_one (ss_retV (i := 1)))))).imp fun _ _ _ _ => spOf_run'
theorem sc_corners_by : FnScope n_corners_by p_corners_by (defScope s_corners_by) := ⟨rfl, rfl, rfl, by decide +kernel, rfl, by decide +kernel, by decide +kernel⟩
theorem bd_corners_by (T : Txt K mg ad fd) : Binds K (fd 17) p_corners_by [] := T.d_corners_by.binds (ps := p_corners_by) fun _ _ _ _ _ _ us hl => match us, hl with | [_], _ => rfl
theorem ok_corners_by (T : Txt K mg ad fd) : FnG P w K mg base 4 (ad 17) (fd 17) p_corners_by (spOf K 1 f_corners_by) := (fnG_of (m := m_corners_by) T.d_corners_by sc_corners_by fun cdv A outer s H E hr hg =>
    (sl_cons (ss_set (i := 1) sc_corners_by.nd rfl (.inl rfl) (se_lst sa_nil))
    (sl_cons (ss_for PassesOwn.never rfl (si_enum (sa_cons (se_var (i := 0)) sa_nil) T.b_enumerate) (sg_tup rfl (sgs_cons (sg_name (i := 2) sc_corners_by.nd) (sgs_cons (sg_tup rfl (sgs_cons (sg_name (i := 3) sc_corners_by.nd) (sgs_cons (sg_name (i := 4) sc_corners_by.nd) (sgs_cons (sg_name (i := 5) sc_corners_by.nd) sgs_nil)))) sgs_nil)))
    (sl_one (ss_for PassesOwn.never rfl (si_seq (se_call (ok_ends_of T) (hr.mono (by omega)) hg T.m_ends_of T.d_ends_of.kp (bd_ends_of T) (sa_cons (se_add (se_sl (se_var (i := 0)) so_none (so_some (se_var (i := 2)))) (se_sl (se_var (i := 0)) (so_some (se_add (se_var (i := 2)) se_int)) so_none)) sa_nil))) (sg_name (i := 6) sc_corners_by.nd)
    (sl_cons (ss_set (i := 7) sc_corners_by.nd rfl (.inl rfl) (se_call (ok_minus T) (hr.mono (by omega)) hg T.m_minus T.d_minus.kp (bd_minus T) (sa_cons (se_glob T.g_ONE (by rfl)) (sa_cons (se_call (ok_total T) (hr.mono (by omega)) hg T.m_total T.d_total.kp (bd_total T) (sa_cons (se_var (i := 6)) sa_nil)) sa_nil))))
    (sl_cons (ss_set (i := 8) sc_corners_by.nd rfl (.inl rfl) (se_add (se_add (se_sl (se_var (i := 6)) so_none (so_some (se_var (i := 2)))) (se_tup (sa_cons (se_var (i := 7)) sa_nil))) (se_sl (se_var (i := 6)) (so_some (se_var (i := 2))) so_none)))
    (sl_cons (ss_set (i := 9) sc_corners_by.nd rfl (.inl rfl) (se_callB (ok_spot_of T) (hr.mono (by omega)) hg T.m_spot_of T.d_spot_of.kp (bd_spot_of T) (sa_cons (se_var (i := 1)) (sa_cons (se_var (i := 8)) sa_nil))))
    (sl_cons (ss_set (i := 10) sc_corners_by.nd rfl (.inl rfl) (se_and (se_lt (se_var (i := 9)) (se_len (sa_cons (se_var (i := 1)) sa_nil) T.b_len)) (se_one (se_eq hr (se_ix (se_var (i := 1)) (se_var (i := 9))) (se_var (i := 8))))))
    (sl_one (ss_if (sb_w (sw_and (sb_not (sb_val (se_var (i := 10)))) (sw_and (sb_not (sb_val (se_call (ok_is_less T) (hr.mono (by omega)) hg T.m_is_less T.d_is_less.kp (bd_is_less T) (sa_cons (se_var (i := 7)) (sa_cons (se_var (i := 4)) sa_nil))))) (sw_and1 (sb_not (sb_val (se_call (ok_is_less T) (hr.mono (by omega)) hg T.m_is_less T.d_is_less.kp (bd_is_less T) (sa_cons (se_var (i := 5)) (sa_cons (se_var (i := 7)) sa_nil)))))))))
    (sl_one (ss_insert (i := 1) (sa_cons (se_var (i := 9)) (sa_cons (se_var (i := 8)) sa_nil))))
    sl_nil)))))))))
    (sl_one (ss_ret (se_tuple (sa_cons (se_var (i := 1)) sa_nil) T.b_tuple)))))).imp fun _ _ _ _ => spOf_run'
theorem sc_check_stretches : FnScope n_check_stretches p_check_stretches (defScope s_check_stretches) := ⟨rfl, rfl, rfl, by decide +kernel, rfl, by decide +kernel, by decide +kernel⟩
theorem bd_check_stretches (T : Txt K mg ad fd) : Binds K (fd 18) p_check_stretches [] := T.d_check_stretches.binds (ps := p_check_stretches) fun _ _ _ _ _ _ us hl => match us, hl with | [_], _ => rfl
theorem ok_check_stretches (T : Txt K mg ad fd) : FnG P w K mg base 6 (ad 18) (fd 18) p_check_stretches (spOf K 1 f_check_stretches) := (fnG_of (m := m_check_stretches) T.d_check_stretches sc_check_stretches fun cdv A outer s H E hr hg =>
    (sl_one (ss_if (sb_not (sb_val (se_call (ok_are_stretches T) (hr.mono (by omega)) hg T.m_are_stretches T.d_are_stretches.kp (bd_are_stretches T) (sa_cons (se_var (i := 0)) (sa_cons (se_glob T.g_MOST_STANDS (by rfl)) sa_nil)))))
    (sl_one ss_never)
    sl_nil))).imp fun _ _ _ _ => spOf_run'
theorem sc_filled : FnScope n_filled p_filled (defScope s_filled) := ⟨rfl, rfl, rfl, by decide +kernel, rfl, by decide +kernel, by decide +kernel⟩
theorem bd_filled (T : Txt K mg ad fd) : Binds K (fd 19) p_filled [] := T.d_filled.binds (ps := p_filled) fun _ _ _ _ _ _ us hl => match us, hl with | [_, _, _], _ => rfl
theorem kb_filled_120 (T : Txt K mg ad fd) : KB0 K (fd 19) p_filled ["is_greatest", "stretches", "worths"] [1, 2, 0] := by
  obtain ⟨oc, od, kV, doc, pm, an, cdv, ct, osl, e, _, _⟩ := T.d_filled.ex
  rw [e]
  intro s ws hK hl
  match ws, hl with
  | [_, _, _], _ => exact BindsTo.of_eq rfl
theorem ok_filled (T : Txt K mg ad fd) : FnG P w K mg base 7 (ad 19) (fd 19) p_filled (spOf K 3 f_filled) := (fnG_of (m := m_filled) T.d_filled sc_filled fun cdv A outer s H E hr hg =>
    (sl_cons (ss_drop (se_call (ok_check_stretches T) (hr.mono (by omega)) hg T.m_check_stretches T.d_check_stretches.kp (bd_check_stretches T) (sa_cons (se_var (i := 0)) sa_nil)))
    (sl_cons (ss_if (sb_w (sw_or (sb_not (sb_val (se_isi (T := "tuple") (by decide) (se_var (i := 1)) T.b_isinstance T.b_tuple (by decide +kernel)))) (sw_or1 (sb_not (sb_ltle (se_ix (se_ix (se_var (i := 0)) (se_neg se_int)) se_int) (se_len (sa_cons (se_var (i := 1)) sa_nil) T.b_len) (se_glob T.g_MOST_STANDS (by rfl)))))))
    (sl_one ss_never)
    sl_nil)
    (sl_cons (ss_for PassesOwn.never rfl (si_enum (sa_cons (se_var (i := 1)) sa_nil) T.b_enumerate) (sg_tup rfl (sgs_cons (sg_name (i := 3) sc_filled.nd) (sgs_cons (sg_name (i := 4) sc_filled.nd) sgs_nil)))
    (sl_one (ss_if (sb_not (sb_val (se_call (ok_is_ratio T) (hr.mono (by omega)) hg T.m_is_ratio T.d_is_ratio.kp (bd_is_ratio T) (sa_cons (se_var (i := 4)) sa_nil))))
    (sl_one ss_never)
    sl_nil)))
    (sl_cons (ss_if (sb_not (sb_val (se_isi (T := "bool") (by decide) (se_var (i := 2)) T.b_isinstance T.b_bool (by decide +kernel))))
    (sl_one ss_never)
    sl_nil)
    (sl_one (ss_ret (se_call (ok_filled_by T) (hr.mono (by omega)) hg T.m_filled_by T.d_filled_by.kp (bd_filled_by T) (sa_cons (se_var (i := 0)) (sa_cons (se_var (i := 1)) (sa_cons (se_var (i := 2)) sa_nil))))))))))).imp fun _ _ _ _ => spOf_run'
theorem sc_corners : FnScope n_corners p_corners (defScope s_corners) := ⟨rfl, rfl, rfl, by decide +kernel, rfl, by decide +kernel, by decide +kernel⟩
theorem bd_corners (T : Txt K mg ad fd) : Binds K (fd 20) p_corners [] := T.d_corners.binds (ps := p_corners) fun _ _ _ _ _ _ us hl => match us, hl with | [_], _ => rfl
theorem kb_corners_0 (T : Txt K mg ad fd) : KB0 K (fd 20) p_corners ["stretches"] [0] := by
  obtain ⟨oc, od, kV, doc, pm, an, cdv, ct, osl, e, _, _⟩ := T.d_corners.ex
  rw [e]
  intro s ws hK hl
  match ws, hl with
  | [_], _ => exact BindsTo.of_eq rfl
theorem ok_corners (T : Txt K mg ad fd) : FnG P w K mg base 7 (ad 20) (fd 20) p_corners (spOf K 1 f_corners) := (fnG_of (m := m_corners) T.d_corners sc_corners fun cdv A outer s H E hr hg =>
    (sl_cons (ss_drop (se_call (ok_check_stretches T) (hr.mono (by omega)) hg T.m_check_stretches T.d_check_stretches.kp (bd_check_stretches T) (sa_cons (se_var (i := 0)) sa_nil)))
    (sl_one (ss_ret (se_call (ok_corners_by T) (hr.mono (by omega)) hg T.m_corners_by T.d_corners_by.kp (bd_corners_by T) (sa_cons (se_var (i := 0)) sa_nil)))))).imp fun _ _ _ _ => spOf_run'
theorem sc_law_pot : FnScope n_law_pot p_law_pot (defScope s_law_pot) := ⟨rfl, rfl, rfl, by decide +kernel, rfl, by decide +kernel, by decide +kernel⟩
theorem bd_law_pot (T : Txt K mg ad fd) : Binds K (fd 21) p_law_pot [] := T.d_law_pot.binds (ps := p_law_pot) fun _ _ _ _ _ _ us hl => match us, hl with | [_, _], _ => rfl
theorem ok_law_pot (T : Txt K mg ad fd) : FnG P w K mg base 1 (ad 21) (fd 21) p_law_pot (spOf K 2 f_law_pot) := (fnG_of (m := m_law_pot) T.d_law_pot sc_law_pot fun cdv A outer s H E hr hg =>
    (sl_cons (ss_set (i := 2) sc_law_pot.nd rfl (.inl rfl) (se_add se_int (se_mul se_int (se_var (i := 1)))))
    (sl_cons (ss_for PassesOwn.never rfl (si_seq (se_sl (se_var (i := 0)) so_none (so_some se_int))) (sg_name (i := 3) sc_law_pot.nd)
    (sl_one (ss_set (i := 2) sc_law_pot.nd rfl (.inl rfl) (se_mod (se_toint (sa_cons (se_add (se_add (se_mul (se_var (i := 2)) se_int) (se_mul (se_mod (se_toint (sa_cons (se_var (i := 3)) sa_nil) T.b_int) se_int) se_int)) se_int) sa_nil) T.b_int) se_int))))
    (sl_cons (ss_set (i := 4) sc_law_pot.nd rfl (.inl rfl) (se_if (sb_lt (se_var (i := 1)) (se_len (sa_cons (se_var (i := 0)) sa_nil) T.b_len)) (se_toint (sa_cons (se_ix (se_var (i := 0)) (se_var (i := 1))) sa_nil) T.b_int) se_int))
    (sl_cons (ss_set (i := 2) sc_law_pot.nd rfl (.inl rfl) (se_mod (se_toint (sa_cons (se_add (se_add (se_mul (se_var (i := 2)) se_int) (se_mul (se_mod (se_toint (sa_cons (se_var (i := 4)) sa_nil) T.b_int) se_int) se_int)) se_int) sa_nil) T.b_int) se_int))
    (sl_one (ss_ret (se_lst (sa_cons (se_if (sb_w (sw_or (sb_lt (se_var (i := 4)) se_int) (sw_or1 (sb_ge (se_var (i := 4)) (se_pow se_int se_int))))) (se_abs (sa_cons (se_var (i := 4)) sa_nil) T.b_abs) se_int) (sa_cons (se_var (i := 2)) (sa_cons se_int sa_nil))))))))))).imp fun _ _ _ _ => spOf_run'
theorem sc_law_take : FnScope n_law_take p_law_take (defScope s_law_take) := ⟨rfl, rfl, rfl, by decide +kernel, rfl, by decide +kernel, by decide +kernel⟩
theorem bd_law_take (T : Txt K mg ad fd) : Binds K (fd 22) p_law_take [] := T.d_law_take.binds (ps := p_law_take) fun _ _ _ _ _ _ us hl => match us, hl with | [_, _], _ => rfl
theorem ok_law_take (T : Txt K mg ad fd) : FnG P w K mg base 1 (ad 22) (fd 22) p_law_take (spOf K 2 f_law_take) := (fnG_of (m := m_law_take) T.d_law_take sc_law_take fun cdv A outer s H E hr hg =>
    (sl_cons (ss_if (sb_gt (se_ix (se_var (i := 0)) se_int) se_int)
    (sl_cons (ss_pair (i := 0) (j := 2) rfl sc_law_take.nd (se_divmod (sa_cons (se_ix (se_var (i := 0)) se_int) (sa_cons (se_var (i := 1)) sa_nil)) T.b_divmod) (pg_sub (pv 0) se_int set_list))
    (sl_one (ss_retV (i := 2))))
    sl_nil)
    (sl_cons (ss_put (i := 0) (se_add (se_ix (se_var (i := 0)) se_int) se_int) (pg_sub (pv 0) se_int set_list))
    (sl_cons (ss_set (i := 3) sc_law_take.nd rfl (.inl rfl) (se_mod (se_toint (sa_cons (se_add (se_add (se_mul (se_ix (se_var (i := 0)) se_int) se_int) (se_mul (se_ix (se_var (i := 0)) se_int) se_int)) se_int) sa_nil) T.b_int) se_int))
    (sl_cons (ss_put (i := 0) (se_var (i := 3)) (pg_sub (pv 0) se_int set_list))
    (sl_one (ss_ret (se_mod (se_toint (sa_cons (se_fdiv (se_mod (se_toint (sa_cons (se_mul (se_var (i := 3)) (se_add (se_mod (se_toint (sa_cons (se_var (i := 3)) sa_nil) T.b_int) se_int) se_int)) sa_nil) T.b_int) se_int) se_int) sa_nil) T.b_int) (se_var (i := 1)))))))))).imp fun _ _ _ _ => spOf_run'
theorem sc_law_pick : FnScope n_law_pick p_law_pick (defScope s_law_pick) := ⟨rfl, rfl, rfl, by decide +kernel, rfl, by decide +kernel, by decide +kernel⟩
theorem bd_law_pick (T : Txt K mg ad fd) : Binds K (fd 23) p_law_pick [] := T.d_law_pick.binds (ps := p_law_pick) fun _ _ _ _ _ _ us hl => match us, hl with | [_, _], _ => rfl
theorem ok_law_pick (T : Txt K mg ad fd) : FnG P w K mg base 2 (ad 23) (fd 23) p_law_pick (spOf K 2 f_law_pick) := (fnG_of (m := m_law_pick) T.d_law_pick sc_law_pick fun cdv A outer s H E hr hg =>
    (sl_one (ss_ret (se_ix (se_var (i := 1)) (se_call (ok_law_take T) (hr.mono (by omega)) hg T.m_law_take T.d_law_take.kp (bd_law_take T) (sa_cons (se_var (i := 0)) (sa_cons (se_len (sa_cons (se_var (i := 1)) sa_nil) T.b_len) sa_nil))))))).imp fun _ _ _ _ => spOf_run'
theorem sc_law_shuffled : FnScope n_law_shuffled p_law_shuffled (defScope s_law_shuffled) := ⟨rfl, rfl, rfl, by decide +kernel, rfl, by decide +kernel, by decide +kernel⟩
theorem bd_law_shuffled (T : Txt K mg ad fd) : Binds K (fd 24) p_law_shuffled [] := T.d_law_shuffled.binds (ps := p_law_shuffled) fun _ _ _ _ _ _ us hl => match us, hl with | [_, _], _ => rfl
theorem ok_law_shuffled (T : Txt K mg ad fd) : FnG P w K mg base 2 (ad 24) (fd 24) p_law_shuffled (spOf K 2 f_law_shuffled) := (fnG_of (m := m_law_shuffled) T.d_law_shuffled sc_law_shuffled fun cdv A outer s H E hr hg =>
    (sl_cons (ss_par2f (i := 2) (j := 3) rfl sc_law_shuffled.nd (sa2_cons (se_listRange rfl (se_var (i := 1)) T.b_range T.b_list) (sa2_cons (se_lst sa_nil) sa2_nil)))
    (sl_cons (ss_for PassesOwn.never rfl (si_range1 (sa_cons (se_var (i := 1)) sa_nil) T.b_range) (sg_name (i := 4) sc_law_shuffled.nd)
    (sl_one (ss_appop (i := 3) (j := 2) (se_call (ok_law_take T) (hr.mono (by omega)) hg T.m_law_take T.d_law_take.kp (bd_law_take T) (sa_cons (se_var (i := 0)) (sa_cons (se_len (sa_cons (se_var (i := 2)) sa_nil) T.b_len) sa_nil))))))
    (sl_one (ss_retV (i := 3)))))).imp fun _ _ _ _ => spOf_run'
theorem sc_law_low : FnScope n_law_low p_law_low (defScope s_law_low) := ⟨rfl, rfl, rfl, by decide +kernel, rfl, by decide +kernel, by decide +kernel⟩
theorem bd_law_low (T : Txt K mg ad fd) : Binds K (fd 25) p_law_low [] := T.d_law_low.binds (ps := p_law_low) fun _ _ _ _ _ _ us hl => match us, hl with | [_, _], _ => rfl
theorem ok_law_low (T : Txt K mg ad fd) : FnG P w K mg base 1 (ad 25) (fd 25) p_law_low (spOf K 2 f_law_low) := (fnG_of (m := m_law_low) T.d_law_low sc_law_low fun cdv A outer s H E hr hg =>
    (sl_cons (ss_par (i := 2) (j := 3) rfl sc_law_low.nd (sa_cons (se_abs (sa_cons (se_var (i := 0)) sa_nil) T.b_abs) (sa_cons (se_abs (sa_cons (se_var (i := 1)) sa_nil) T.b_abs) sa_nil)))
    (sl_cons (ss_while PassesOwn.never (sb_gt (se_var (i := 3)) se_int)
    (sl_one (ss_par (i := 2) (j := 3) rfl sc_law_low.nd (sa_cons (se_var (i := 3)) (sa_cons (se_mod (se_toint (sa_cons (se_var (i := 2)) sa_nil) T.b_int) (se_var (i := 3))) sa_nil)))))
    (sl_one (ss_ret (se_if (sb_gt (se_var (i := 1)) se_int) (se_tup (sa_cons (se_fdiv (se_var (i := 0)) (se_var (i := 2))) (sa_cons (se_fdiv (se_var (i := 1)) (se_var (i := 2))) sa_nil))) (se_tup (sa_cons (se_sub se_int (se_fdiv (se_var (i := 0)) (se_var (i := 2)))) (sa_cons (se_sub se_int (se_fdiv (se_var (i := 1)) (se_var (i := 2)))) sa_nil))))))))).imp fun _ _ _ _ => spOf_run'
theorem sc_law_plus : FnScope n_law_plus p_law_plus (defScope s_law_plus) := ⟨rfl, rfl, rfl, by decide +kernel, rfl, by decide +kernel, by decide +kernel⟩
theorem bd_law_plus (T : Txt K mg ad fd) : Binds K (fd 26) p_law_plus [] := T.d_law_plus.binds (ps := p_law_plus) fun _ _ _ _ _ _ us hl => match us, hl with | [_, _], _ => rfl
theorem ok_law_plus (T : Txt K mg ad fd) : FnG P w K mg base 2 (ad 26) (fd 26) p_law_plus (spOf K 2 f_law_plus) := (fnG_of (m := m_law_plus) T.d_law_plus sc_law_plus fun cdv A outer s H E hr hg =>
    (sl_one (ss_ret (se_call (ok_law_low T) (hr.mono (by omega)) hg T.m_law_low T.d_law_low.kp (bd_law_low T) (sa_cons (se_add (se_mul (se_ix (se_var (i := 0)) se_int) (se_ix (se_var (i := 1)) se_int)) (se_mul (se_ix (se_var (i := 1)) se_int) (se_ix (se_var (i := 0)) se_int))) (sa_cons (se_mul (se_ix (se_var (i := 0)) se_int) (se_ix (se_var (i := 1)) se_int)) sa_nil)))))).imp fun _ _ _ _ => spOf_run'
theorem sc_law_minus : FnScope n_law_minus p_law_minus (defScope s_law_minus) := ⟨rfl, rfl, rfl, by decide +kernel, rfl, by decide +kernel, by decide +kernel⟩
theorem bd_law_minus (T : Txt K mg ad fd) : Binds K (fd 27) p_law_minus [] := T.d_law_minus.binds (ps := p_law_minus) fun _ _ _ _ _ _ us hl => match us, hl with | [_, _], _ => rfl
theorem ok_law_minus (T : Txt K mg ad fd) : FnG P w K mg base 2 (ad 27) (fd 27) p_law_minus (spOf K 2 f_law_minus) := (fnG_of (m := m_law_minus) T.d_law_minus sc_law_minus fun cdv A outer s H E hr hg =>
    (sl_one (ss_ret (se_call (ok_law_low T) (hr.mono (by omega)) hg T.m_law_low T.d_law_low.kp (bd_law_low T) (sa_cons (se_sub (se_mul (se_ix (se_var (i := 0)) se_int) (se_ix (se_var (i := 1)) se_int)) (se_mul (se_ix (se_var (i := 1)) se_int) (se_ix (se_var (i := 0)) se_int))) (sa_cons (se_mul (se_ix (se_var (i := 0)) se_int) (se_ix (se_var (i := 1)) se_int)) sa_nil)))))).imp fun _ _ _ _ => spOf_run'
theorem sc_law_times : FnScope n_law_times p_law_times (defScope s_law_times) := ⟨rfl, rfl, rfl, by decide +kernel, rfl, by decide +kernel, by decide +kernel⟩
theorem bd_law_times (T : Txt K mg ad fd) : Binds K (fd 28) p_law_times [] := T.d_law_times.binds (ps := p_law_times) fun _ _ _ _ _ _ us hl => match us, hl with | [_, _], _ => rfl
theorem ok_law_times (T : Txt K mg ad fd) : FnG P w K mg base 2 (ad 28) (fd 28) p_law_times (spOf K 2 f_law_times) := (fnG_of (m := m_law_times) T.d_law_times sc_law_times fun cdv A outer s H E hr hg =>
    (sl_one (ss_ret (se_call (ok_law_low T) (hr.mono (by omega)) hg T.m_law_low T.d_law_low.kp (bd_law_low T) (sa_cons (se_mul (se_ix (se_var (i := 0)) se_int) (se_ix (se_var (i := 1)) se_int)) (sa_cons (se_mul (se_ix (se_var (i := 0)) se_int) (se_ix (se_var (i := 1)) se_int)) sa_nil)))))).imp fun _ _ _ _ => spOf_run'
theorem sc_law_below : FnScope n_law_below p_law_below (defScope s_law_below) := ⟨rfl, rfl, rfl, by decide +kernel, rfl, by decide +kernel, by decide +kernel⟩
theorem bd_law_below (T : Txt K mg ad fd) : Binds K (fd 29) p_law_below [] := T.d_law_below.binds (ps := p_law_below) fun _ _ _ _ _ _ us hl => match us, hl with | [_, _], _ => rfl
theorem ok_law_below (T : Txt K mg ad fd) : FnG P w K mg base 1 (ad 29) (fd 29) p_law_below (spOf K 2 f_law_below) := (fnG_of (m := m_law_below) T.d_law_below sc_law_below fun cdv A outer s H E hr hg =>
    (sl_one (ss_ret (se_lt (se_mul (se_ix (se_var (i := 0)) se_int) (se_ix (se_var (i := 1)) se_int)) (se_mul (se_ix (se_var (i := 1)) se_int) (se_ix (se_var (i := 0)) se_int)))))).imp fun _ _ _ _ => spOf_run'
theorem sc_law_total : FnScope n_law_total p_law_total (defScope s_law_total) := ⟨rfl, rfl, rfl, by decide +kernel, rfl, by decide +kernel, by decide +kernel⟩
theorem bd_law_total (T : Txt K mg ad fd) : Binds K (fd 30) p_law_total [] := T.d_law_total.binds (ps := p_law_total) fun _ _ _ _ _ _ us hl => match us, hl with | [_], _ => rfl
theorem ok_law_total (T : Txt K mg ad fd) : FnG P w K mg base 3 (ad 30) (fd 30) p_law_total (spOf K 1 f_law_total) := (fnG_of (m := m_law_total) T.d_law_total sc_law_total fun cdv A outer s H E hr hg =>
    (sl_cons (ss_set (i := 1) sc_law_total.nd rfl (.inl rfl) (se_tup (sa_cons se_int (sa_cons se_int sa_nil))))
    (sl_cons (ss_for PassesOwn.never rfl (si_seq (se_var (i := 0))) (sg_name (i := 2) sc_law_total.nd)
    (sl_one (ss_set (i := 1) sc_law_total.nd rfl (.inl rfl) (se_call (ok_law_plus T) (hr.mono (by omega)) hg T.m_law_plus T.d_law_plus.kp (bd_law_plus T) (sa_cons (se_var (i := 1)) (sa_cons (se_var (i := 2)) sa_nil))))))
    (sl_one (ss_retV (i := 1)))))).imp fun _ _ _ _ => spOf_run'
theorem sc_law_dot : FnScope n_law_dot p_law_dot (defScope s_law_dot) := ⟨rfl, rfl, rfl, by decide +kernel, rfl, by decide +kernel, by decide +kernel⟩
theorem bd_law_dot (T : Txt K mg ad fd) : Binds K (fd 31) p_law_dot [] := T.d_law_dot.binds (ps := p_law_dot) fun _ _ _ _ _ _ us hl => match us, hl with | [_, _], _ => rfl
theorem ok_law_dot (T : Txt K mg ad fd) : FnG P w K mg base 3 (ad 31) (fd 31) p_law_dot (spOf K 2 f_law_dot) := (fnG_of (m := m_law_dot) T.d_law_dot sc_law_dot fun cdv A outer s H E hr hg =>
    (sl_cons (ss_set (i := 2) sc_law_dot.nd rfl (.inl rfl) (se_tup (sa_cons se_int (sa_cons se_int sa_nil))))
    (sl_cons (ss_for PassesOwn.never rfl (si_z2 (sa_cons (se_var (i := 0)) (sa_cons (se_var (i := 1)) sa_nil)) T.b_zip) (sg_tup rfl (sgs_cons (sg_name (i := 3) sc_law_dot.nd) (sgs_cons (sg_name (i := 4) sc_law_dot.nd) sgs_nil)))
    (sl_one (ss_set (i := 2) sc_law_dot.nd rfl (.inl rfl) (se_call (ok_law_plus T) (hr.mono (by omega)) hg T.m_law_plus T.d_law_plus.kp (bd_law_plus T) (sa_cons (se_var (i := 2)) (sa_cons (se_call (ok_law_times T) (hr.mono (by omega)) hg T.m_law_times T.d_law_times.kp (bd_law_times T) (sa_cons (se_var (i := 3)) (sa_cons (se_var (i := 4)) sa_nil))) sa_nil))))))
    (sl_one (ss_retV (i := 2)))))).imp fun _ _ _ _ => spOf_run'
end
end WW
namespace WW
open PySem PySem.Spec L2 Dh
section
variable {P : Program} {w : World} {K : PySem.W.Frag} {mg : Str → Option Value} {base : Heap} {ad : Nat → Addr} {fd : Nat → FuncData}
theorem sc_law_end : FnScope n_law_end p_law_end (defScope s_law_end) := ⟨rfl, rfl, rfl, by decide +kernel, rfl, by decide +kernel, by decide +kernel⟩
theorem bd_law_end (T : Txt K mg ad fd) : Binds K (fd 32) p_law_end [] := T.d_law_end.binds (ps := p_law_end) fun _ _ _ _ _ _ us hl => match us, hl with | [_, _], _ => rfl
theorem ok_law_end (T : Txt K mg ad fd) : FnG P w K mg base 2 (ad 32) (fd 32) p_law_end (spOf K 2 f_law_end) := (fnG_of (m := m_law_end) T.d_law_end sc_law_end fun cdv A outer s H E hr hg =>
    (sl_cons (ss_set (i := 2) sc_law_end.nd rfl (.inl rfl) (se_ix (se_var (i := 0)) se_int))
    (sl_cons (ss_for PassesOwn.never rfl (si_seq (se_var (i := 0))) (sg_name (i := 3) sc_law_end.nd)
    (sl_cons (ss_asg (se_if (sb_val (se_var (i := 1))) (se_tup (sa_cons (se_var (i := 2)) (sa_cons (se_var (i := 3)) sa_nil))) (se_tup (sa_cons (se_var (i := 3)) (sa_cons (se_var (i := 2)) sa_nil)))) (sg_tup rfl (sgs_cons (sg_name (i := 4) sc_law_end.nd) (sgs_cons (sg_name (i := 5) sc_law_end.nd) sgs_nil))))
    (sl_one (ss_if (sb_val (se_call (ok_law_below T) (hr.mono (by omega)) hg T.m_law_below T.d_law_below.kp (bd_law_below T) (sa_cons (se_var (i := 4)) (sa_cons (se_var (i := 5)) sa_nil))))
    (sl_one (ss_set (i := 2) sc_law_end.nd rfl (.inl rfl) (se_var (i := 3))))
    sl_nil))))
    (sl_one (ss_retV (i := 2)))))).imp fun _ _ _ _ => spOf_run'
theorem sc_law_number : FnScope n_law_number p_law_number (defScope s_law_number) := ⟨rfl, rfl, rfl, by decide +kernel, rfl, by decide +kernel, by decide +kernel⟩
theorem bd_law_number (T : Txt K mg ad fd) : Binds K (fd 33) p_law_number [] := T.d_law_number.binds (ps := p_law_number) fun _ _ _ _ _ _ us hl => match us, hl with | [_], _ => rfl
theorem ok_law_number (T : Txt K mg ad fd) : FnG P w K mg base 2 (ad 33) (fd 33) p_law_number (spOf K 1 f_law_number) := (fnG_of (m := m_law_number) T.d_law_number sc_law_number fun cdv A outer s H E hr hg =>
    (sl_cons (ss_set (i := 1) sc_law_number.nd rfl (.inl rfl) (se_call (ok_law_take T) (hr.mono (by omega)) hg T.m_law_take T.d_law_take.kp (bd_law_take T) (sa_cons (se_var (i := 0)) (sa_cons se_int sa_nil))))
    (sl_cons (ss_if (sb_eq hr (se_var (i := 1)) se_int)
    (sl_one (ss_ret (se_call (ok_law_low T) (hr.mono (by omega)) hg T.m_law_low T.d_law_low.kp (bd_law_low T) (sa_cons (se_sub (se_call (ok_law_take T) (hr.mono (by omega)) hg T.m_law_take T.d_law_take.kp (bd_law_take T) (sa_cons (se_var (i := 0)) (sa_cons se_int sa_nil))) se_int) (sa_cons (se_add se_int (se_call (ok_law_take T) (hr.mono (by omega)) hg T.m_law_take T.d_law_take.kp (bd_law_take T) (sa_cons (se_var (i := 0)) (sa_cons se_int sa_nil)))) sa_nil)))))
    sl_nil)
    (sl_cons (ss_if (sb_w (sw_and (sb_eq hr (se_var (i := 1)) se_int) (sw_and1 (sb_eq hr (se_call (ok_law_take T) (hr.mono (by omega)) hg T.m_law_take T.d_law_take.kp (bd_law_take T) (sa_cons (se_var (i := 0)) (sa_cons se_int sa_nil))) se_int))))
    (sl_one (ss_ret (se_call (ok_law_low T) (hr.mono (by omega)) hg T.m_law_low T.d_law_low.kp (bd_law_low T) (sa_cons (se_mul (se_sub (se_mul (se_call (ok_law_take T) (hr.mono (by omega)) hg T.m_law_take T.d_law_take.kp (bd_law_take T) (sa_cons (se_var (i := 0)) (sa_cons se_int sa_nil))) se_int) se_int) (se_add (se_pow se_int se_int) (se_call (ok_law_take T) (hr.mono (by omega)) hg T.m_law_take T.d_law_take.kp (bd_law_take T) (sa_cons (se_var (i := 0)) (sa_cons se_int sa_nil))))) (sa_cons se_int sa_nil)))))
    sl_nil)
    (sl_one (ss_ret (se_tup (sa_cons (se_sub (se_call (ok_law_take T) (hr.mono (by omega)) hg T.m_law_take T.d_law_take.kp (bd_law_take T) (sa_cons (se_var (i := 0)) (sa_cons se_int sa_nil))) se_int) (sa_cons se_int sa_nil))))))))).imp fun _ _ _ _ => spOf_run'
theorem sc_law_lot : FnScope n_law_lot p_law_lot (defScope s_law_lot) := ⟨rfl, rfl, rfl, by decide +kernel, rfl, by decide +kernel, by decide +kernel⟩
theorem bd_law_lot (T : Txt K mg ad fd) : Binds K (fd 34) p_law_lot [] := T.d_law_lot.binds (ps := p_law_lot) fun _ _ _ _ _ _ us hl => match us, hl with | [_, _], _ => rfl
theorem ok_law_lot (T : Txt K mg ad fd) : FnG P w K mg base 2 (ad 34) (fd 34) p_law_lot (spOf K 2 f_law_lot) := (fnG_of (m := m_law_lot) T.d_law_lot sc_law_lot fun cdv A outer s H E hr hg =>
    (sl_cons (ss_set (i := 2) sc_law_lot.nd rfl (.inl rfl) (se_lst sa_nil))
    (sl_cons (ss_for PassesOwn.never rfl (si_range1 (sa_cons (se_var (i := 1)) sa_nil) T.b_range) (sg_name (i := 3) sc_law_lot.nd)
    (sl_one (ss_append (i := 2) (se_ix (se_tup (sa_cons se_int (sa_cons se_int (sa_cons se_int (sa_cons se_int (sa_cons se_int (sa_cons se_int sa_nil))))))) (se_call (ok_law_take T) (hr.mono (by omega)) hg T.m_law_take T.d_law_take.kp (bd_law_take T) (sa_cons (se_var (i := 0)) (sa_cons se_int sa_nil)))))))
    (sl_cons (ss_if (sb_eq hr (se_maxL hr rfl (sa_cons (se_var (i := 2)) sa_nil) T.b_max) se_int)
    (sl_one (ss_put (i := 2) se_int (pg_sub (pv 2) (se_call (ok_law_take T) (hr.mono (by omega)) hg T.m_law_take T.d_law_take.kp (bd_law_take T) (sa_cons (se_var (i := 0)) (sa_cons (se_var (i := 1)) sa_nil))) set_list)))
    sl_nil)
    (sl_one (ss_retV (i := 2))))))).imp fun _ _ _ _ => spOf_run'
theorem sc_law_stretches : FnScope n_law_stretches p_law_stretches (defScope s_law_stretches) := ⟨rfl, rfl, rfl, by decide +kernel, rfl, by decide +kernel, by decide +kernel⟩
theorem bd_law_stretches (T : Txt K mg ad fd) : Binds K (fd 35) p_law_stretches [] := T.d_law_stretches.binds (ps := p_law_stretches) fun _ _ _ _ _ _ us hl => match us, hl with | [_, _, _], _ => rfl
theorem ok_law_stretches (T : Txt K mg ad fd) : FnG P w K mg base 3 (ad 35) (fd 35) p_law_stretches (spOf K 3 f_law_stretches) := (fnG_of (m := m_law_stretches) T.d_law_stretches sc_law_stretches fun cdv A outer s H E hr hg =>
    (sl_cons (ss_set (i := 3) sc_law_stretches.nd rfl (.inl rfl) (se_min2 rfl (sa_cons (se_var (i := 1)) (sa_cons (se_var (i := 2)) sa_nil)) T.b_min))
    (sl_cons (ss_set (i := 4) sc_law_stretches.nd rfl (.inl rfl) (se_sorted (sa_cons (se_sl (se_call (ok_law_shuffled T) (hr.mono (by omega)) hg T.m_law_shuffled T.d_law_shuffled.kp (bd_law_shuffled T) (sa_cons (se_var (i := 0)) (sa_cons (se_var (i := 1)) sa_nil))) so_none (so_some (se_add se_int (se_max2 rfl (sa_cons (se_call (ok_law_take T) (hr.mono (by omega)) hg T.m_law_take T.d_law_take.kp (bd_law_take T) (sa_cons (se_var (i := 0)) (sa_cons (se_var (i := 3)) sa_nil))) (sa_cons (se_call (ok_law_take T) (hr.mono (by omega)) hg T.m_law_take T.d_law_take.kp (bd_law_take T) (sa_cons (se_var (i := 0)) (sa_cons (se_var (i := 3)) sa_nil))) sa_nil)) T.b_max)))) sa_nil) T.b_sorted))
    (sl_cons (ss_par3g (i := 5) (j := 6) (l := 7) rfl sc_law_stretches.nd (sa2_cons (se_call (ok_law_lot T) (hr.mono (by omega)) hg T.m_law_lot T.d_law_lot.kp (bd_law_lot T) (sa_cons (se_var (i := 0)) (sa_cons (se_len (sa_cons (se_var (i := 4)) sa_nil) T.b_len) sa_nil))) (sa2_cons (se_call (ok_law_take T) (hr.mono (by omega)) hg T.m_law_take T.d_law_take.kp (bd_law_take T) (sa_cons (se_var (i := 0)) (sa_cons se_int sa_nil))) (sa2_cons (se_lst sa_nil) sa2_nil))))
    (sl_cons (ss_set (i := 8) sc_law_stretches.nd rfl (.inl rfl) (se_sum rfl (sa_cons (se_var (i := 5)) sa_nil) T.b_sum))
    (sl_cons (ss_frz [4, 5] (ss_for PassesOwn.never rfl (si_z2 (sa_cons (se_var (i := 4)) (sa_cons (se_var (i := 5)) sa_nil)) T.b_zip) (sg_tup rfl (sgs_cons (sg_name (i := 9) sc_law_stretches.nd) (sgs_cons (sg_name (i := 10) sc_law_stretches.nd) sgs_nil)))
    (sl_cons (ss_set (i := 11) sc_law_stretches.nd rfl (.inl rfl) (se_call (ok_law_low T) (hr.mono (by omega)) hg T.m_law_low T.d_law_low.kp (bd_law_low T) (sa_cons (se_var (i := 10)) (sa_cons (se_var (i := 8)) sa_nil))))
    (sl_cons (ss_if (sb_w (sw_and (sb_eq hr (se_var (i := 6)) se_int) (sw_and1 (sb_gt (se_var (i := 10)) se_int))))
    (sl_one (ss_append (i := 7) (se_tup (sa_cons (se_var (i := 9)) (sa_cons (se_var (i := 11)) (sa_cons (se_var (i := 11)) sa_nil))))))
    sl_nil)
    (sl_cons (ss_if (sb_eq hr (se_var (i := 6)) se_int)
    (sl_one (ss_append (i := 7) (se_tup (sa_cons (se_var (i := 9)) (sa_cons (se_tup (sa_cons se_int (sa_cons se_int sa_nil))) (sa_cons (se_tup (sa_cons se_int (sa_cons se_int sa_nil))) sa_nil))))))
    sl_nil)
    (sl_one (ss_if (sb_gt (se_var (i := 6)) se_int)
    (sl_cons (ss_set (i := 12) sc_law_stretches.nd rfl (.inl rfl) (se_call (ok_law_times T) (hr.mono (by omega)) hg T.m_law_times T.d_law_times.kp (bd_law_times T) (sa_cons (se_var (i := 11)) (sa_cons (se_call (ok_law_low T) (hr.mono (by omega)) hg T.m_law_low T.d_law_low.kp (bd_law_low T) (sa_cons (se_call (ok_law_take T) (hr.mono (by omega)) hg T.m_law_take T.d_law_take.kp (bd_law_take T) (sa_cons (se_var (i := 0)) (sa_cons se_int sa_nil))) (sa_cons se_int sa_nil))) sa_nil))))
    (sl_cons (ss_set (i := 13) sc_law_stretches.nd rfl (.inl rfl) (se_call (ok_law_times T) (hr.mono (by omega)) hg T.m_law_times T.d_law_times.kp (bd_law_times T) (sa_cons (se_call (ok_law_minus T) (hr.mono (by omega)) hg T.m_law_minus T.d_law_minus.kp (bd_law_minus T) (sa_cons (se_tup (sa_cons se_int (sa_cons se_int sa_nil))) (sa_cons (se_var (i := 11)) sa_nil))) (sa_cons (se_call (ok_law_low T) (hr.mono (by omega)) hg T.m_law_low T.d_law_low.kp (bd_law_low T) (sa_cons (se_call (ok_law_take T) (hr.mono (by omega)) hg T.m_law_take T.d_law_take.kp (bd_law_take T) (sa_cons (se_var (i := 0)) (sa_cons se_int sa_nil))) (sa_cons se_int sa_nil))) sa_nil))))
    (sl_one (ss_append (i := 7) (se_tup (sa_cons (se_var (i := 9)) (sa_cons (se_var (i := 12)) (sa_cons (se_call (ok_law_plus T) (hr.mono (by omega)) hg T.m_law_plus T.d_law_plus.kp (bd_law_plus T) (sa_cons (se_var (i := 11)) (sa_cons (se_var (i := 13)) sa_nil))) sa_nil))))))))
    sl_nil)))))))
    (sl_one (ss_ret (se_tuple (sa_cons (se_var (i := 7)) sa_nil) T.b_tuple))))))))).imp fun _ _ _ _ => spOf_run'
theorem sc_law_fill : FnScope n_law_fill p_law_fill (defScope s_law_fill) := ⟨rfl, rfl, rfl, by decide +kernel, rfl, by decide +kernel, by decide +kernel⟩
theorem bd_law_fill (T : Txt K mg ad fd) : Binds K (fd 36) p_law_fill [] := T.d_law_fill.binds (ps := p_law_fill) fun _ _ _ _ _ _ us hl => match us, hl with | [_, _], _ => rfl
theorem ok_law_fill (T : Txt K mg ad fd) : FnG P w K mg base 4 (ad 36) (fd 36) p_law_fill (spOf K 2 f_law_fill) := (fnG_of (m := m_law_fill) T.d_law_fill sc_law_fill fun cdv A outer s H E hr hg =>
    (sl_cons (ss_setLc (i := 2) (own := [("_law_each", 7)]) (is := [7]) rfl sc_law_fill.nd rfl rfl (sw_true rfl rfl rfl (by decide +kernel)) (si_seq (se_var (i := 0))) (blkOk_by (own := [("_law_each", 7)]) (N := n_law_fill) (sc := defScope s_law_fill) (by decide +kernel)) (by decide) (fun _ _ _ _ _ => (sg_name (i := 7) sc_law_fill.nd)) (fun _ _ _ _ _ => sts_nil) (fun _ _ _ _ _ => (se_ix (se_var (i := 7)) se_int)))
    (sl_cons (ss_set (i := 3) sc_law_fill.nd rfl (.inl rfl) (se_call (ok_law_minus T) (hr.mono (by omega)) hg T.m_law_minus T.d_law_minus.kp (bd_law_minus T) (sa_cons (se_tup (sa_cons se_int (sa_cons se_int sa_nil))) (sa_cons (se_callB (ok_law_total T) (hr.mono (by omega)) hg T.m_law_total T.d_law_total.kp (bd_law_total T) (sa_cons (se_var (i := 2)) sa_nil)) sa_nil))))
    (sl_cons (ss_for PassesOwn.never rfl (si_seq (se_var (i := 1))) (sg_name (i := 4) sc_law_fill.nd)
    (sl_cons (ss_set (i := 5) sc_law_fill.nd rfl (.inl rfl) (se_call (ok_law_minus T) (hr.mono (by omega)) hg T.m_law_minus T.d_law_minus.kp (bd_law_minus T) (sa_cons (se_ix (se_ix (se_var (i := 0)) (se_var (i := 4))) se_int) (sa_cons (se_ix (se_ix (se_var (i := 0)) (se_var (i := 4))) se_int) sa_nil))))
    (sl_cons (ss_set (i := 6) sc_law_fill.nd rfl (.inl rfl) (se_if (sb_val (se_call (ok_law_below T) (hr.mono (by omega)) hg T.m_law_below T.d_law_below.kp (bd_law_below T) (sa_cons (se_var (i := 5)) (sa_cons (se_var (i := 3)) sa_nil)))) (se_var (i := 5)) (se_var (i := 3))))
    (sl_cons (ss_put (i := 2) (se_call (ok_law_plus T) (hr.mono (by omega)) hg T.m_law_plus T.d_law_plus.kp (bd_law_plus T) (sa_cons (se_ix (se_var (i := 2)) (se_var (i := 4))) (sa_cons (se_var (i := 6)) sa_nil))) (pg_sub (pv 2) (se_var (i := 4)) set_list))
    (sl_one (ss_set (i := 3) sc_law_fill.nd rfl (.inl rfl) (se_call (ok_law_minus T) (hr.mono (by omega)) hg T.m_law_minus T.d_law_minus.kp (bd_law_minus T) (sa_cons (se_var (i := 3)) (sa_cons (se_var (i := 6)) sa_nil)))))))))
    (sl_one (ss_retV (i := 2))))))).imp fun _ _ _ _ => spOf_run'
theorem sc_law_order : FnScope n_law_order p_law_order (defScope s_law_order) := ⟨rfl, rfl, rfl, by decide +kernel, rfl, by decide +kernel, by decide +kernel⟩
theorem bd_law_order (T : Txt K mg ad fd) : Binds K (fd 37) p_law_order [] := T.d_law_order.binds (ps := p_law_order) fun _ _ _ _ _ _ us hl => match us, hl with | [_, _], _ => rfl
theorem ok_law_order (T : Txt K mg ad fd) : FnG P w K mg base 2 (ad 37) (fd 37) p_law_order (spOf K 2 f_law_order) := (fnG_of (m := m_law_order) T.d_law_order sc_law_order fun cdv A outer s H E hr hg =>
    (sl_cons (ss_set (i := 2) sc_law_order.nd rfl (.inl rfl) (se_lst sa_nil))
    (sl_cons (ss_for PassesOwn.never rfl (si_range1 (sa_cons (se_len (sa_cons (se_var (i := 0)) sa_nil) T.b_len) sa_nil) T.b_range) (sg_name (i := 3) sc_law_order.nd)
    (sl_cons (ss_if (sb_val (se_var (i := 1)))
    (sl_one (ss_setLcE (i := 4) (own := [("_law_k", 5)]) (is := [5]) rfl sc_law_order.nd rfl rfl (sw_true rfl rfl rfl (by decide +kernel)) (sie_own (se_var (i := 2))) (blkOk_by (own := [("_law_k", 5)]) (N := n_law_order) (sc := defScope s_law_order) (by decide +kernel)) (by decide) (fun _ _ _ _ _ => (sg_name (i := 5) sc_law_order.nd)) (fun _ _ _ _ _ => sts_one (sb_not (sb_val (se_call (ok_law_below T) (hr.mono (by omega)) hg T.m_law_below T.d_law_below.kp (bd_law_below T) (sa_cons (se_ix (se_var (i := 0)) (se_var (i := 5))) (sa_cons (se_ix (se_var (i := 0)) (se_var (i := 3))) sa_nil)))))) (fun _ _ _ _ _ => (se_var (i := 5)))))
    (sl_one (ss_setLcE (i := 4) (own := [("_law_k", 5)]) (is := [5]) rfl sc_law_order.nd rfl rfl (sw_true rfl rfl rfl (by decide +kernel)) (sie_own (se_var (i := 2))) (blkOk_by (own := [("_law_k", 5)]) (N := n_law_order) (sc := defScope s_law_order) (by decide +kernel)) (by decide) (fun _ _ _ _ _ => (sg_name (i := 5) sc_law_order.nd)) (fun _ _ _ _ _ => sts_one (sb_not (sb_val (se_call (ok_law_below T) (hr.mono (by omega)) hg T.m_law_below T.d_law_below.kp (bd_law_below T) (sa_cons (se_ix (se_var (i := 0)) (se_var (i := 3))) (sa_cons (se_ix (se_var (i := 0)) (se_var (i := 5))) sa_nil)))))) (fun _ _ _ _ _ => (se_var (i := 5))))))
    (sl_one (ss_insert (i := 2) (sa_cons (se_len (sa_cons (se_var (i := 4)) sa_nil) T.b_len) (sa_cons (se_var (i := 3)) sa_nil))))))
    (sl_one (ss_retV (i := 2)))))).imp fun _ _ _ _ => spOf_run'
theorem sc_law_filled : FnScope n_law_filled p_law_filled (defScope s_law_filled) := ⟨rfl, rfl, rfl, by decide +kernel, rfl, by decide +kernel, by decide +kernel⟩
theorem bd_law_filled (T : Txt K mg ad fd) : Binds K (fd 38) p_law_filled [] := T.d_law_filled.binds (ps := p_law_filled) fun _ _ _ _ _ _ us hl => match us, hl with | [_, _, _], _ => rfl
theorem ok_law_filled (T : Txt K mg ad fd) : FnG P w K mg base 5 (ad 38) (fd 38) p_law_filled (spOf K 3 f_law_filled) := (fnG_of (m := m_law_filled) T.d_law_filled sc_law_filled fun cdv A outer s H E hr hg =>
    (sl_one (ss_ret (se_call (ok_law_fill T) (hr.mono (by omega)) hg T.m_law_fill T.d_law_fill.kp (bd_law_fill T) (sa_cons (se_var (i := 0)) (sa_cons (se_call (ok_law_order T) (hr.mono (by omega)) hg T.m_law_order T.d_law_order.kp (bd_law_order T) (sa_cons (se_lc (own := [("_law_each", 3)]) (is := [3]) rfl sc_law_filled.nd (si_seq (se_var (i := 0))) (blkOk_by (own := [("_law_each", 3)]) (N := n_law_filled) (sc := defScope s_law_filled) (by decide +kernel)) (by decide) (fun _ _ _ _ _ => (sg_name (i := 3) sc_law_filled.nd)) (fun _ _ _ _ _ => sts_nil) (fun _ _ _ _ _ => (se_ix (se_var (i := 1)) (se_ix (se_var (i := 3)) se_int)))) (sa_cons (se_var (i := 2)) sa_nil))) sa_nil)))))).imp fun _ _ _ _ => spOf_run'
theorem sc_law_known : FnScope n_law_known p_law_known (defScope s_law_known) := ⟨rfl, rfl, rfl, by decide +kernel, rfl, by decide +kernel, by decide +kernel⟩
theorem bd_law_known (T : Txt K mg ad fd) : Binds K (fd 39) p_law_known [] := T.d_law_known.binds (ps := p_law_known) fun _ _ _ _ _ _ us hl => match us, hl with | [_, _], _ => rfl
theorem ok_law_known (T : Txt K mg ad fd) : FnG P w K mg base 1 (ad 39) (fd 39) p_law_known (spOf K 2 f_law_known) := (fnG_of (m := m_law_known) T.d_law_known sc_law_known fun cdv A outer s H E hr hg =>
    (sl_cons (ss_setLc (i := 2) (own := [("_law_each", 3), ("_law_chance", 4)]) (is := [3, 4]) rfl sc_law_known.nd rfl rfl (sw_true rfl rfl rfl (by decide +kernel)) (si_z2 (sa_cons (se_var (i := 0)) (sa_cons (se_var (i := 1)) sa_nil)) T.b_zip) (blkOk_by (own := [("_law_each", 3), ("_law_chance", 4)]) (N := n_law_known) (sc := defScope s_law_known) (by decide +kernel)) (by decide) (fun _ _ _ _ _ => (sg_tup rfl (sgs_cons (sg_name (i := 3) sc_law_known.nd) (sgs_cons (sg_name (i := 4) sc_law_known.nd) sgs_nil)))) (fun _ _ _ _ _ => sts_nil) (fun _ _ _ _ _ => (se_tup (sa_cons (se_ix (se_var (i := 3)) se_int) (sa_cons (se_var (i := 4)) sa_nil)))))
    (sl_one (ss_frz [2] (ss_ret (se_tuple (sa_cons (se_lc (own := [("_law_pair", 5)]) (is := [5]) rfl sc_law_known.nd (si_seq (se_var (i := 2))) (blkOk_by (own := [("_law_pair", 5)]) (N := n_law_known) (sc := defScope s_law_known) (by decide +kernel)) (by decide) (fun _ _ _ _ _ => (sg_name (i := 5) sc_law_known.nd)) (fun _ _ _ _ _ => sts_one (sb_gt (se_ix (se_ix (se_var (i := 5)) se_int) se_int) se_int)) (fun _ _ _ _ _ => (se_var (i := 5)))) sa_nil) T.b_tuple)))))).imp fun _ _ _ _ => spOf_run'
theorem sc_law_each_with : FnScope n_law_each_with p_law_each_with (defScope s_law_each_with) := ⟨rfl, rfl, rfl, by decide +kernel, rfl, by decide +kernel, by decide +kernel⟩
theorem bd_law_each_with (T : Txt K mg ad fd) : Binds K (fd 40) p_law_each_with [] := T.d_law_each_with.binds (ps := p_law_each_with) fun _ _ _ _ _ _ us hl => match us, hl with | [_, _], _ => rfl
theorem ok_law_each_with (T : Txt K mg ad fd) : FnG P w K mg base 1 (ad 40) (fd 40) p_law_each_with (spOf K 2 f_law_each_with) := (fnG_of (m := m_law_each_with) T.d_law_each_with sc_law_each_with fun cdv A outer s H E hr hg =>
    (sl_cons (ss_set (i := 2) sc_law_each_with.nd rfl (.inl rfl) (se_lst sa_nil))
    (sl_cons (ss_for PassesOwn.never rfl (si_seq (se_var (i := 0))) (sg_name (i := 3) sc_law_each_with.nd)
    (sl_one (ss_for PassesOwn.never rfl (si_seq (se_var (i := 1))) (sg_name (i := 4) sc_law_each_with.nd)
    (sl_one (ss_append (i := 2) (se_add (se_var (i := 3)) (se_tup (sa_cons (se_var (i := 4)) sa_nil))))))))
    (sl_one (ss_retV (i := 2)))))).imp fun _ _ _ _ => spOf_run'
theorem sc_law_is_before : FnScope n_law_is_before p_law_is_before (defScope s_law_is_before) := ⟨rfl, rfl, rfl, by decide +kernel, rfl, by decide +kernel, by decide +kernel⟩
theorem bd_law_is_before (T : Txt K mg ad fd) : Binds K (fd 41) p_law_is_before [] := T.d_law_is_before.binds (ps := p_law_is_before) fun _ _ _ _ _ _ us hl => match us, hl with | [_, _], _ => rfl
theorem ok_law_is_before (T : Txt K mg ad fd) : FnG P w K mg base 2 (ad 41) (fd 41) p_law_is_before (spOf K 2 f_law_is_before) := (fnG_of (m := m_law_is_before) T.d_law_is_before sc_law_is_before fun cdv A outer s H E hr hg =>
    (sl_cons (ss_for PassesOwn.never rfl (si_z2 (sa_cons (se_var (i := 0)) (sa_cons (se_var (i := 1)) sa_nil)) T.b_zip) (sg_tup rfl (sgs_cons (sg_name (i := 2) sc_law_is_before.nd) (sgs_cons (sg_name (i := 3) sc_law_is_before.nd) sgs_nil)))
    (sl_one (ss_if (sb_ne hr (se_var (i := 2)) (se_var (i := 3)))
    (sl_one (ss_ret (se_call (ok_law_below T) (hr.mono (by omega)) hg T.m_law_below T.d_law_below.kp (bd_law_below T) (sa_cons (se_var (i := 2)) (sa_cons (se_var (i := 3)) sa_nil)))))
    sl_nil)))
    (sl_one (ss_ret se_bl)))).imp fun _ _ _ _ => spOf_run'
theorem sc_law_corners : FnScope n_law_corners p_law_corners (defScope s_law_corners) := ⟨rfl, rfl, rfl, by decide +kernel, rfl, by decide +kernel, by decide +kernel⟩
theorem bd_law_corners (T : Txt K mg ad fd) : Binds K (fd 42) p_law_corners [] := T.d_law_corners.binds (ps := p_law_corners) fun _ _ _ _ _ _ us hl => match us, hl with | [_], _ => rfl
theorem ok_law_corners (T : Txt K mg ad fd) : FnG P w K mg base 4 (ad 42) (fd 42) p_law_corners (spOf K 1 f_law_corners) := (fnG_of (m := m_law_corners) T.d_law_corners sc_law_corners fun cdv A outer s H E hr hg =>
    (sl_cons (ss_set (i := 1) sc_law_corners.nd rfl (.inl rfl) (se_lst sa_nil))
    (sl_cons (ss_for PassesOwn.never rfl (si_range1 (sa_cons (se_len (sa_cons (se_var (i := 0)) sa_nil) T.b_len) sa_nil) T.b_range) (sg_name (i := 2) sc_law_corners.nd)
    (sl_cons (ss_set (i := 3) sc_law_corners.nd rfl (.inl rfl) (se_lst (sa_cons (se_tup sa_nil) sa_nil)))
    (sl_cons (ss_for PassesOwn.never rfl (si_range1 (sa_cons (se_len (sa_cons (se_var (i := 0)) sa_nil) T.b_len) sa_nil) T.b_range) (sg_name (i := 4) sc_law_corners.nd)
    (sl_one (ss_frz [3] (ss_set (i := 3) sc_law_corners.nd rfl (.inl rfl) (se_call (ok_law_each_with T) (hr.mono (by omega)) hg T.m_law_each_with T.d_law_each_with.kp (bd_law_each_with T) (sa_cons (se_var (i := 3)) (sa_cons (se_if (sb_eq hr (se_var (i := 4)) (se_var (i := 2))) (se_tup (sa_cons (se_tup (sa_cons se_int (sa_cons se_int sa_nil))) sa_nil)) (se_sl (se_ix (se_var (i := 0)) (se_var (i := 4))) (so_some se_int) so_none)) sa_nil)))))))
    (sl_one (ss_frz [3] (ss_for PassesOwn.never rfl (si_seq (se_var (i := 3))) (sg_name (i := 5) sc_law_corners.nd)
    (sl_cons (ss_set (i := 6) sc_law_corners.nd rfl (.inl rfl) (se_call (ok_law_minus T) (hr.mono (by omega)) hg T.m_law_minus T.d_law_minus.kp (bd_law_minus T) (sa_cons (se_tup (sa_cons se_int (sa_cons se_int sa_nil))) (sa_cons (se_call (ok_law_total T) (hr.mono (by omega)) hg T.m_law_total T.d_law_total.kp (bd_law_total T) (sa_cons (se_var (i := 5)) sa_nil)) sa_nil))))
    (sl_cons (ss_set (i := 7) sc_law_corners.nd rfl (.inr rfl) (se_add (se_add (se_sl (se_var (i := 5)) so_none (so_some (se_var (i := 2)))) (se_tup (sa_cons (se_var (i := 6)) sa_nil))) (se_sl (se_var (i := 5)) (so_some (se_add (se_var (i := 2)) se_int)) so_none)))
    (sl_cons (ss_set (i := 8) sc_law_corners.nd rfl (.inl rfl) (se_or (se_call (ok_law_below T) (hr.mono (by omega)) hg T.m_law_below T.d_law_below.kp (bd_law_below T) (sa_cons (se_var (i := 6)) (sa_cons (se_ix (se_ix (se_var (i := 0)) (se_var (i := 2))) se_int) sa_nil))) (se_one (se_call (ok_law_below T) (hr.mono (by omega)) hg T.m_law_below T.d_law_below.kp (bd_law_below T) (sa_cons (se_ix (se_ix (se_var (i := 0)) (se_var (i := 2))) se_int) (sa_cons (se_var (i := 6)) sa_nil))))))
    (sl_one (ss_if (sb_w (sw_and (sb_not (sb_val (se_var (i := 8)))) (sw_and1 (sb_notin hr (se_var (i := 7)) (se_var (i := 1))))))
    (sl_one (ss_insert (i := 1) (sa_cons (se_len (sa_cons (se_lcE (own := [("_law_each", 9)]) (is := [9]) rfl sc_law_corners.nd (sie_own (se_var (i := 1))) (blkOk_by (own := [("_law_each", 9)]) (N := n_law_corners) (sc := defScope s_law_corners) (by decide +kernel)) (by decide) (fun _ _ _ _ _ => (sg_name (i := 9) sc_law_corners.nd)) (fun _ _ _ _ _ => sts_one (sb_val (se_call (ok_law_is_before T) (hr.mono (by omega)) hg T.m_law_is_before T.d_law_is_before.kp (bd_law_is_before T) (sa_cons (se_var (i := 9)) (sa_cons (se_var (i := 7)) sa_nil))))) (fun _ _ _ _ _ => (se_var (i := 9)))) sa_nil) T.b_len) (sa_cons (se_var (i := 7)) sa_nil))))
    sl_nil)))))))))))
    (sl_one (ss_retV (i := 1)))))).imp fun _ _ _ _ => spOf_run'
theorem sc_law_some_worths : FnScope n_law_some_worths p_law_some_worths (defScope s_law_some_worths) := ⟨rfl, rfl, rfl, by decide +kernel, rfl, by decide +kernel, by decide +kernel⟩
theorem bd_law_some_worths (T : Txt K mg ad fd) : Binds K (fd 43) p_law_some_worths [] := T.d_law_some_worths.binds (ps := p_law_some_worths) fun _ _ _ _ _ _ us hl => match us, hl with | [_, _], _ => rfl
theorem ok_law_some_worths (T : Txt K mg ad fd) : FnG P w K mg base 3 (ad 43) (fd 43) p_law_some_worths (spOf K 2 f_law_some_worths) := (fnG_of (m := m_law_some_worths) T.d_law_some_worths sc_law_some_worths fun cdv A outer s H E hr hg =>
    (sl_cons (ss_par (i := 2) (j := 3) rfl sc_law_some_worths.nd (sa_cons (se_add (se_ix (se_ix (se_var (i := 1)) (se_neg se_int)) se_int) se_int) (sa_cons (se_lst sa_nil) sa_nil)))
    (sl_cons (ss_set (i := 4) sc_law_some_worths.nd rfl (.inl rfl) (se_add (se_var (i := 2)) (se_call (ok_law_take T) (hr.mono (by omega)) hg T.m_law_take T.d_law_take.kp (bd_law_take T) (sa_cons (se_var (i := 0)) (sa_cons (se_sub se_int (se_var (i := 2))) sa_nil)))))
    (sl_cons (ss_set (i := 5) sc_law_some_worths.nd rfl (.inl rfl) (se_eq hr (se_call (ok_law_take T) (hr.mono (by omega)) hg T.m_law_take T.d_law_take.kp (bd_law_take T) (sa_cons (se_var (i := 0)) (sa_cons se_int sa_nil))) se_int))
    (sl_cons (ss_for PassesOwn.never rfl (si_range1 (sa_cons (se_var (i := 4)) sa_nil) T.b_range) (sg_name (i := 6) sc_law_some_worths.nd)
    (sl_one (ss_append (i := 3) (se_if (sb_val (se_var (i := 5))) (se_tup (sa_cons (se_call (ok_law_take T) (hr.mono (by omega)) hg T.m_law_take T.d_law_take.kp (bd_law_take T) (sa_cons (se_var (i := 0)) (sa_cons se_int sa_nil))) (sa_cons se_int sa_nil))) (se_call (ok_law_number T) (hr.mono (by omega)) hg T.m_law_number T.d_law_number.kp (bd_law_number T) (sa_cons (se_var (i := 0)) sa_nil))))))
    (sl_one (ss_ret (se_tuple (sa_cons (se_var (i := 3)) sa_nil) T.b_tuple)))))))).imp fun _ _ _ _ => spOf_run'
theorem sc_law_right : FnScope n_law_right p_law_right (defScope s_law_right) := ⟨rfl, rfl, rfl, by decide +kernel, rfl, by decide +kernel, by decide +kernel⟩
theorem bd_law_right (T : Txt K mg ad fd) : Binds K (fd 44) p_law_right [] := T.d_law_right.binds (ps := p_law_right) fun _ _ _ _ _ _ us hl => match us, hl with | [_], _ => rfl
theorem ok_law_right (T : Txt K mg ad fd) : FnG P w K mg base 8 (ad 44) (fd 44) p_law_right (spOf K 1 f_law_right) := (fnG_of (m := m_law_right) T.d_law_right sc_law_right fun cdv A outer s H E hr hg =>
    (sl_cons (ss_set (i := 1) sc_law_right.nd rfl (.inr rfl) (se_call (ok_law_stretches T) (hr.mono (by omega)) hg T.m_law_stretches T.d_law_stretches.kp (bd_law_stretches T) (sa_cons (se_var (i := 0)) (sa_cons se_int (sa_cons (se_call (ok_law_pick T) (hr.mono (by omega)) hg T.m_law_pick T.d_law_pick.kp (bd_law_pick T) (sa_cons (se_var (i := 0)) (sa_cons (se_tup (sa_cons se_int (sa_cons se_int (sa_cons se_int (sa_cons se_int (sa_cons se_int sa_nil)))))) sa_nil))) sa_nil)))))
    (sl_cons (ss_set (i := 2) sc_law_right.nd rfl (.inr rfl) (se_call (ok_law_some_worths T) (hr.mono (by omega)) hg T.m_law_some_worths T.d_law_some_worths.kp (bd_law_some_worths T) (sa_cons (se_var (i := 0)) (sa_cons (se_var (i := 1)) sa_nil))))
    (sl_cons (ss_set (i := 3) sc_law_right.nd rfl (.inl rfl) (se_lst (sa_cons (se_call (ok_filled T) (hr.mono (by omega)) hg T.m_filled T.d_filled.kp (bd_filled T) (sa_cons (se_var (i := 1)) (sa_cons (se_var (i := 2)) (sa_cons se_bl sa_nil)))) (sa_cons (se_callK (ks := ["is_greatest", "stretches", "worths"]) (π := [1, 2, 0]) (ok_filled T) (hr.mono (by omega)) hg T.m_filled T.d_filled.kp (kb_filled_120 T) (sk_cons se_bl (sk_cons (se_var (i := 1)) (sk_cons (se_var (i := 2)) sk_nil)))) sa_nil))))
    (sl_cons (ss_setLc (i := 4) (own := [("_law_is_greatest", 9)]) (is := [9]) rfl sc_law_right.nd rfl rfl (sw_true rfl rfl rfl (by decide +kernel)) (si_seq (se_tup (sa_cons se_bl (sa_cons se_bl sa_nil)))) (blkOk_by (own := [("_law_is_greatest", 9)]) (N := n_law_right) (sc := defScope s_law_right) (by decide +kernel)) (by decide) (fun _ _ _ _ _ => (sg_name (i := 9) sc_law_right.nd)) (fun _ _ _ _ _ => sts_nil) (fun _ _ _ _ _ => (se_call (ok_law_known T) (hr.mono (by omega)) hg T.m_law_known T.d_law_known.kp (bd_law_known T) (sa_cons (se_var (i := 1)) (sa_cons (se_call (ok_law_filled T) (hr.mono (by omega)) hg T.m_law_filled T.d_law_filled.kp (bd_law_filled T) (sa_cons (se_var (i := 1)) (sa_cons (se_var (i := 2)) (sa_cons (se_var (i := 9)) sa_nil)))) sa_nil)))))
    (sl_cons (ss_if (sb_ne hr (se_repr hr hg (sa_cons (se_var (i := 3)) sa_nil) T.b_repr) (se_repr hr hg (sa_cons (se_var (i := 4)) sa_nil) T.b_repr))
    (sl_one (ss_ret se_bl))
    sl_nil)
    (sl_cons (ss_set (i := 5) sc_law_right.nd rfl (.inl rfl) (se_if (sb_eq hr (se_call (ok_law_take T) (hr.mono (by omega)) hg T.m_law_take T.d_law_take.kp (bd_law_take T) (sa_cons (se_var (i := 0)) (sa_cons se_int sa_nil))) se_int) (se_call (ok_corners T) (hr.mono (by omega)) hg T.m_corners T.d_corners.kp (bd_corners T) (sa_cons (se_var (i := 1)) sa_nil)) (se_callK (ks := ["stretches"]) (π := [0]) (ok_corners T) (hr.mono (by omega)) hg T.m_corners T.d_corners.kp (kb_corners_0 T) (sk_cons (se_var (i := 1)) sk_nil))))
    (sl_cons (ss_if (sb_ne hr (se_repr hr hg (sa_cons (se_var (i := 5)) sa_nil) T.b_repr) (se_repr hr hg (sa_cons (se_tuple (sa_cons (se_call (ok_law_corners T) (hr.mono (by omega)) hg T.m_law_corners T.d_law_corners.kp (bd_law_corners T) (sa_cons (se_var (i := 1)) sa_nil)) sa_nil) T.b_tuple) sa_nil) T.b_repr))
    (sl_one (ss_ret se_bl))
    sl_nil)
    (sl_cons (ss_set (i := 6) sc_law_right.nd rfl (.inr rfl) (se_lc (own := [("_law_each", 10)]) (is := [10]) rfl sc_law_right.nd (si_seq (se_var (i := 1))) (blkOk_by (own := [("_law_each", 10)]) (N := n_law_right) (sc := defScope s_law_right) (by decide +kernel)) (by decide) (fun _ _ _ _ _ => (sg_name (i := 10) sc_law_right.nd)) (fun _ _ _ _ _ => sts_nil) (fun _ _ _ _ _ => (se_ix (se_var (i := 2)) (se_ix (se_var (i := 10)) se_int)))))
    (sl_cons (ss_frz [6] (ss_setLc (i := 7) (own := [("_law_row", 11)]) (is := [11]) rfl sc_law_right.nd rfl rfl (sw_true rfl rfl rfl (by decide +kernel)) (si_seq (se_var (i := 5))) (blkOk_by (own := [("_law_row", 11)]) (N := n_law_right) (sc := defScope s_law_right) (by decide +kernel)) (by decide) (fun _ _ _ _ _ => (sg_name (i := 11) sc_law_right.nd)) (fun _ _ _ _ _ => sts_nil) (fun _ _ _ _ _ => (se_call (ok_law_dot T) (hr.mono (by omega)) hg T.m_law_dot T.d_law_dot.kp (bd_law_dot T) (sa_cons (se_var (i := 11)) (sa_cons (se_var (i := 6)) sa_nil))))))
    (sl_cons (ss_frz [3] (ss_setLc (i := 8) (own := [("_law_chances", 12)]) (is := [12]) rfl sc_law_right.nd rfl rfl (sw_true rfl rfl rfl (by decide +kernel)) (si_seq (se_var (i := 3))) (blkOk_by (own := [("_law_chances", 12)]) (N := n_law_right) (sc := defScope s_law_right) (by decide +kernel)) (by decide) (fun _ _ _ _ _ => (sg_name (i := 12) sc_law_right.nd)) (fun _ _ _ _ _ => sts_nil) (fun _ _ _ _ _ => (se_call (ok_law_total T) (hr.mono (by omega)) hg T.m_law_total T.d_law_total.kp (bd_law_total T) (sa_cons (se_lc (own := [("_law_each", 10)]) (is := [10]) rfl sc_law_right.nd (si_seq (se_var (i := 12))) (blkOk_by (own := [("_law_each", 10)]) (N := n_law_right) (sc := relS _ (defScope s_law_right)) (by decide +kernel)) (by decide) (fun _ _ _ _ _ => (sg_name (i := 10) sc_law_right.nd)) (fun _ _ _ _ _ => sts_nil) (fun _ _ _ _ _ => (se_call (ok_law_times T) (hr.mono (by omega)) hg T.m_law_times T.d_law_times.kp (bd_law_times T) (sa_cons (se_ix (se_var (i := 10)) se_int) (sa_cons (se_ix (se_var (i := 2)) (se_ix (se_var (i := 10)) se_int)) sa_nil))))) sa_nil)))))
    (sl_one (ss_frz [7] (ss_ret (se_eq hr (se_var (i := 8)) (se_lst (sa_cons (se_call (ok_law_end T) (hr.mono (by omega)) hg T.m_law_end T.d_law_end.kp (bd_law_end T) (sa_cons (se_var (i := 7)) (sa_cons se_bl sa_nil))) (sa_cons (se_call (ok_law_end T) (hr.mono (by omega)) hg T.m_law_end T.d_law_end.kp (bd_law_end T) (sa_cons (se_var (i := 7)) (sa_cons se_bl sa_nil))) sa_nil)))))))))))))))))).imp fun _ _ _ _ => spOf_run'
theorem sc_law : FnScope n_law p_law (defScope s_law) := ⟨rfl, rfl, rfl, by decide +kernel, rfl, by decide +kernel, by decide +kernel⟩
theorem ok_law (T : Txt K mg ad fd) : FnG P w K mg base 9 (ad 45) (fd 45) p_law (spOf K 1 f_law) := (fnG_of (m := m_law) T.d_law sc_law fun cdv A outer s H E hr hg =>
    (sl_one (ss_ret (se_all rfl (sa_cons (se_lc (own := [("_law_turn", 1)]) (is := [1]) rfl sc_law.nd (si_range1 (sa_cons (se_max2 rfl (sa_cons se_int (sa_cons (se_min2 rfl (sa_cons (se_len (sa_cons (se_var (i := 0)) sa_nil) T.b_len) (sa_cons se_int sa_nil)) T.b_min) sa_nil)) T.b_max) sa_nil) T.b_range) (blkOk_by (own := [("_law_turn", 1)]) (N := n_law) (sc := defScope s_law) (by decide +kernel)) (by decide) (fun _ _ _ _ _ => (sg_name (i := 1) sc_law.nd)) (fun _ _ _ _ _ => sts_nil) (fun _ _ _ _ _ => (se_callN (ok_law_right T) hr hg T.m_law_right T.d_law_right.kp (bd_law_right T) (sa_cons (se_call (ok_law_pot T) (hr.mono (by omega)) hg T.m_law_pot T.d_law_pot.kp (bd_law_pot T) (sa_cons (se_var (i := 0)) (sa_cons (se_var (i := 1)) sa_nil))) sa_nil) (by omega)))) sa_nil) T.b_all)))).imp fun _ _ _ _ => spOf_run'
end
end WW
namespace WW
open PySem PySem.Spec L2 Dh PyProof.Rows
theorem txtH {K : PySem.W.Frag} {h : Heap} {mg : Str → Option Value} (X : K.In h) (G : h.Ns mainGlobals mg) (c : SaysM csl bsl fal fnl K) : Txt K mg (fun i => He.ga K (nml.getD i "")) (fun i => fdAt K (nml.getD i "")) :=
  { d_is_whole := c.func 0 46,
    m_is_whole := He.glo_ok X G (c.sy.fact 0),
    d_is_between := c.func 1 47,
    m_is_between := He.glo_ok X G (c.sy.fact 1),
    d_is_tuple_of := c.func 2 48,
    m_is_tuple_of := He.glo_ok X G (c.sy.fact 2),
    d_is_ratio := c.func 3 49,
    m_is_ratio := He.glo_ok X G (c.sy.fact 3),
    d_ratio := c.func 4 50,
    m_ratio := He.glo_ok X G (c.sy.fact 4),
    d_plus := c.func 5 51,
    m_plus := He.glo_ok X G (c.sy.fact 5),
    d_minus := c.func 6 52,
    m_minus := He.glo_ok X G (c.sy.fact 6),
    d_is_less := c.func 7 53,
    m_is_less := He.glo_ok X G (c.sy.fact 7),
    d_total := c.func 8 54,
    m_total := He.glo_ok X G (c.sy.fact 8),
    d_is_end := c.func 9 55,
    m_is_end := He.glo_ok X G (c.sy.fact 9),
    d_is_stretch := c.func 10 56,
    m_is_stretch := He.glo_ok X G (c.sy.fact 10),
    d_are_stretches := c.func 11 57,
    m_are_stretches := He.glo_ok X G (c.sy.fact 11),
    d_next_of := c.func 12 58,
    m_next_of := He.glo_ok X G (c.sy.fact 12),
    d_filled_by := c.func 13 59,
    m_filled_by := He.glo_ok X G (c.sy.fact 13),
    d_is_row_ahead := c.func 14 60,
    m_is_row_ahead := He.glo_ok X G (c.sy.fact 14),
    d_spot_of := c.func 15 61,
    m_spot_of := He.glo_ok X G (c.sy.fact 15),
    d_ends_of := c.func 16 62,
    m_ends_of := He.glo_ok X G (c.sy.fact 16),
    d_corners_by := c.func 17 63,
    m_corners_by := He.glo_ok X G (c.sy.fact 17),
    d_check_stretches := c.func 18 64,
    m_check_stretches := He.glo_ok X G (c.sy.fact 18),
    d_filled := c.func 19 65,
    m_filled := He.glo_ok X G (c.sy.fact 19),
    d_corners := c.func 20 66,
    m_corners := He.glo_ok X G (c.sy.fact 20),
    d_law_pot := c.func 21 67,
    m_law_pot := He.glo_ok X G (c.sy.fact 21),
    d_law_take := c.func 22 68,
    m_law_take := He.glo_ok X G (c.sy.fact 22),
    d_law_pick := c.func 23 69,
    m_law_pick := He.glo_ok X G (c.sy.fact 23),
    d_law_shuffled := c.func 24 70,
    m_law_shuffled := He.glo_ok X G (c.sy.fact 24),
    d_law_low := c.func 25 71,
    m_law_low := He.glo_ok X G (c.sy.fact 25),
    d_law_plus := c.func 26 72,
    m_law_plus := He.glo_ok X G (c.sy.fact 26),
    d_law_minus := c.func 27 73,
    m_law_minus := He.glo_ok X G (c.sy.fact 27),
    d_law_times := c.func 28 74,
    m_law_times := He.glo_ok X G (c.sy.fact 28),
    d_law_below := c.func 29 75,
    m_law_below := He.glo_ok X G (c.sy.fact 29),
    d_law_total := c.func 30 76,
    m_law_total := He.glo_ok X G (c.sy.fact 30),
    d_law_dot := c.func 31 77,
    m_law_dot := He.glo_ok X G (c.sy.fact 31),
    d_law_end := c.func 32 78,
    m_law_end := He.glo_ok X G (c.sy.fact 32),
    d_law_number := c.func 33 79,
    m_law_number := He.glo_ok X G (c.sy.fact 33),
    d_law_lot := c.func 34 80,
    m_law_lot := He.glo_ok X G (c.sy.fact 34),
    d_law_stretches := c.func 35 81,
    m_law_stretches := He.glo_ok X G (c.sy.fact 35),
    d_law_fill := c.func 36 82,
    m_law_fill := He.glo_ok X G (c.sy.fact 36),
    d_law_order := c.func 37 83,
    m_law_order := He.glo_ok X G (c.sy.fact 37),
    d_law_filled := c.func 38 84,
    m_law_filled := He.glo_ok X G (c.sy.fact 38),
    d_law_known := c.func 39 85,
    m_law_known := He.glo_ok X G (c.sy.fact 39),
    d_law_each_with := c.func 40 86,
    m_law_each_with := He.glo_ok X G (c.sy.fact 40),
    d_law_is_before := c.func 41 87,
    m_law_is_before := He.glo_ok X G (c.sy.fact 41),
    d_law_corners := c.func 42 88,
    m_law_corners := He.glo_ok X G (c.sy.fact 42),
    d_law_some_worths := c.func 43 89,
    m_law_some_worths := He.glo_ok X G (c.sy.fact 43),
    d_law_right := c.func 44 90,
    m_law_right := He.glo_ok X G (c.sy.fact 44),
    d_law := c.func 45 91,
    m_law := He.glo_ok X G (c.sy.fact 45),
    b_abs := He.free_ok X G (c.sy.fact 92),
    b_all := He.free_ok X G (c.sy.fact 93),
    b_bool := He.free_ok X G (c.sy.fact 94),
    b_divmod := He.free_ok X G (c.sy.fact 95),
    b_enumerate := He.free_ok X G (c.sy.fact 96),
    b_int := He.free_ok X G (c.sy.fact 97),
    b_isinstance := He.free_ok X G (c.sy.fact 98),
    b_len := He.free_ok X G (c.sy.fact 99),
    b_list := He.free_ok X G (c.sy.fact 100),
    b_max := He.free_ok X G (c.sy.fact 101),
    b_min := He.free_ok X G (c.sy.fact 102),
    b_range := He.free_ok X G (c.sy.fact 103),
    b_repr := He.free_ok X G (c.sy.fact 104),
    b_sorted := He.free_ok X G (c.sy.fact 105),
    b_sum := He.free_ok X G (c.sy.fact 106),
    b_tuple := He.free_ok X G (c.sy.fact 107),
    b_zip := He.free_ok X G (c.sy.fact 108),
    b_gcd := c.blt X G 0,
    g_MOST_STANDS := c.con X G 0,
    g_ONE := c.con X G 1,
    g_ZERO := c.con X G 2 }
theorem all_mkH {P : Program} {w : World} {K : PySem.W.Frag} {h : Heap} {mg : Str → Option Value} {fa : Addr} (X : K.In h) (G : h.Ns mainGlobals mg) (hfa : mg "law" = some (.ref fa)) (c : SaysM csl bsl fal fnl K) :
    ∃ fd : FuncData, (∀ (s : Shared) (v : Value), BindsTo s fd ⟨[v], []⟩ [("_law_script", v)]) ∧ ∀ base : Heap, K.In base → base.Ns mainGlobals mg → FnG P w K mg base 9 fa fd ["_law_script"] (spOf K 1 f_law) := by
  have e := hfa.symm.trans (He.glo_ok X G (c.sy.fact 45 (f := .glo "law") rfl))
  have T := txtH X G c
  cases e
  refine ⟨_, fun s v => ?_, fun base _ _ => ok_law T⟩
  obtain ⟨oc, od, kV, doc, pm, an, cdv, ct, osl, e, _, _⟩ := T.d_law.ex
  rw [e]
  exact .of_eq rfl
end WW
open PySem PySem.W PySem.Calls PyProof.Rows
set_option maxHeartbeats 0 in
theorem PySem.Challenge.cw_deedhouses_k44_filled_and_corners_of_str_holds : PySem.Challenge.rw_deedhouses_k44_filled_and_corners_of_str.Holds := by
  w_on; o_law
  refine HandSHeadRun.head_imp (r := OpenLaw.row PySem.Challenge.rw_deedhouses_k44_filled_and_corners_of_str) (q := view (OpenLaw.row PySem.Challenge.rw_deedhouses_k44_filled_and_corners_of_str).prog [0, 59]) (H := WW.hkM) (ob := WW.obM) (M := 6000) (loose := WW.loose) (d := HandSHeadRun.topDef (OpenLaw.row PySem.Challenge.rw_deedhouses_k44_filled_and_corners_of_str).prog 59) (kwd := []) WW.obM_eq
    WW.runM (by kernel_rfl) (by kernel_rfl) (by kernel_rfl) (by rfl) (by first | assumption | decide +kernel) (by decide +kernel) ⟨rfl, rfl, rfl, rfl, rfl, by decide +kernel⟩ ?hw ?hc
  case hw => w_witness2
  case hc =>
    refine Dh.law_endH (l := PySem.Challenge.rw_deedhouses_k44_filled_and_corners_of_str) (n := 63) (k := 9) (x := "_law_script") (g := WW.f_law) rfl (by decide) (by kernel_rfl) ⟨rfl, by decide, by decide⟩ WW.plain ?F
    intro w mg fa h Y G hmg0
    obtain ⟨K, KX, c⟩ := Y
    have hmg : mg ("law" : PySem.Str) = some (.ref fa) := by
      have e : (HandSHeadRun.topDef (OpenLaw.row PySem.Challenge.rw_deedhouses_k44_filled_and_corners_of_str).prog 59).name = ("law" : PySem.Str) := by kernel_rfl
      rw [← e]
      exact hmg0
    obtain ⟨fd, hb, hF⟩ := WW.all_mkH KX G hmg c
    exact ⟨K, fd, KX, hb, hF⟩
