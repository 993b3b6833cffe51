import PyProof.Rows.All
import Wide.All
import OpenK.AllK
import Wide.FinOn
import HandS.ForMost
import HandS.Walk
import HandS.WideBits
import HandS.TupAny
import HandS.TupMul
import HandS.Strs
import HandS.Gcd
import HandS.IsInst
import HandS.Zip
import HandS.Iter
import KE.GoesEnum
import HandS.Style
import HandS.EndBits
import HandS.Head0
import HandS.Head1
import HandS.Head2
import HandS.Head3
import HandS.HeadHook1
import HandS.Deep
import HandS.DictComp
import PyProof.NeKinds
import HandS.Small
import HandS.WordsDict
import HandS.SortInts
import Wide.Txt2
import KE.DataMinMax
import HandS.Conv
import KE.KDictZip
import PyProof.ListNew
import PySem.Challenge.RW_deedhouses_k03_plans_of_anything
import PyProof.ReprBulk
set_option Elab.async false
set_option linter.all false
set_option maxRecDepth 100000
set_option maxHeartbeats 4000000
namespace Dh
open PySem PySem.Spec L2 PyProof.Rows
/-- Q of a tuple just made -/
abbrev TpQ (H : Hp) (xs : List V) (Q : VK) : Prop := ∀ (p : Addr) (o : Obj), H p = none → o.dict = none → Q (.ref p) (upd H p (.frz o (.tup xs)))
section
variable {X : Cx} {es : List Expr} {t : TA} {pos : Pos}
theorem obj_tup {h : Heap} {H : Hp} {a : Addr} {its : List Value} {xs : List V} {n : Nat} (e : h.get? a = some { cls := .type "tuple", data := .seq its.toArray n }) (hz : xs.length ≤ sizeLine) (r : Vals xs its) : ObjOk X.prog X.w H h a (.frz { cls := .type "tuple", data := .seq its.toArray n } (.tup xs)) :=
  ⟨e, hz, its, r, ⟨_, e, rfl, n, rfl⟩⟩
def tTupS (t : TA) : TE := fun σ H Q => t σ H fun xs H1 => xs.length ≤ sizeLine ∧ TpQ H1 xs Q
theorem pe_tupS {x1} (h : PA X es t) : PE X (.Tuple es x1 pos) (tTupS t) := by
  refine ⟨fun pins s σ H Q I hq => ?_⟩
  refine wpAny_Tuple_spliced (thn (h.run pos pins s σ H _ I hq) fun us s1 ⟨xs, H1, I1, r, z, q⟩ => ⟨by rw [← r.length]; exact z, ?_⟩)
  have hf : H1 s1.heap.objs.size = none := I1.hok.fresh (Nat.le_refl _)
  exact ⟨.ref s1.heap.objs.size, upd H1 s1.heap.objs.size (.frz { cls := .type "tuple", data := .seq us.toArray } (.tup xs)), I1.laid (t' := s1.toks) (fun b u e => Heap.get?_push_of_some _ e) (Nat.le_refl _) (obj_tup (Heap.get?_push_size _ rfl) z r), rfl, q _ _ hf rfl⟩
theorem call_tuple_ofS : CallR X (.type "tuple") (fun xs H Q => ∃ p ys, xs = [.ref p] ∧ ((SqL X.K H p ys ∧ TpQ H ys Q) ∨ (SqT X.K H p ys ∧ Q (.ref p) H))) := by
  intro pins s σ H xs us Q I r h
  obtain ⟨p, ys, rfl, h⟩ := h
  obtain ⟨u, rfl, rx⟩ := vals1 r
  cases rx
  rcases h with ⟨hq, q⟩ | ⟨hq, q⟩
  · obtain ⟨its, r', pl, hz⟩ := I.list hq
    have hlen := r'.length
    refine call_tuple_list pl.isList (fun h' kp => ?_) (by simp only [List.size_toArray] <;> omega)
    have I1 : Inv X pins σ H { s with heap := h' } := I.kept (t' := s.toks) kp
    have I2 : Inv X pins σ (upd H h'.objs.size (.frz { cls := .type "tuple", data := .seq its.toArray } (.tup ys))) { s with heap := h'.push { cls := .type "tuple", data := .seq its.toArray } } :=
      I1.laid (t' := s.toks) (fun b o e => Heap.get?_push_of_some _ e) (Nat.le_refl _) (obj_tup (Heap.get?_push_size _ rfl) hz r')
    exact ⟨.ref h'.objs.size, _, I2, rfl, q _ _ (I1.hok.fresh (Nat.le_refl _)) rfl⟩
  · obtain ⟨its, r', pl, hz⟩ := I.tuple hq
    exact call_tuple_same pl ⟨.ref p, H, I, rfl, q⟩
theorem call_divmodS : CallR X (.builtin "divmod") (fun xs H Q => ∃ i j, xs = [.int i, .int j] ∧ CDivP i j ∧ TpQ H [.int (i / j), .int (i % j)] Q) := by
  intro pins s σ H xs us Q I r h
  obtain ⟨i, j, rfl, ⟨h1, h2⟩, q⟩ := h
  obtain ⟨u, w', rfl, ⟨t, rfl⟩, ⟨t', rfl⟩⟩ := vals2 r
  refine divmod_int (by omega) ?_ (.inl h2)
  rw [Int.fdiv_eq_ediv_of_nonneg i (by omega), Int.fmod_eq_emod_of_nonneg i (by omega)]
  have hn : H s.heap.objs.size = none := I.hok.fresh (Nat.le_refl _)
  refine ⟨.ref s.heap.objs.size, _, ?_, rfl, q _ { cls := .type "tuple", data := .seq [Value.int (i / j) s.toks, Value.int (i % j) (s.toks + 1)].toArray } hn rfl⟩
  exact I.laid (fun b o e => Heap.get?_push_of_some _ e) (Nat.le_refl _) (obj_tup (its := [.int (i / j) s.toks, .int (i % j) (s.toks + 1)]) (Heap.get?_push_size s.heap rfl) (by simp only [List.length_cons, List.length_nil]; rw [sizeLine_eq]; decide) (.cons ⟨_, rfl⟩ (.cons ⟨_, rfl⟩ .nil)))
/-- t + u -/
def rCatS (K : PySem.W.Frag) : R2 := fun x y H Q => ∃ a b xs ys, x = .ref a ∧ y = .ref b ∧ SqT K H a xs ∧ SqT K H b ys ∧ xs.length + ys.length ≤ sizeLine ∧
  (xs = [] → Q (.ref b) H) ∧ (xs ≠ [] → ys = [] → Q (.ref a) H) ∧ (xs ≠ [] → ys ≠ [] → TpQ H (xs ++ ys) Q)
theorem op_catS : OpR X (binaryOp .Add) (rCatS X.K) := by
  intro pins s σ H x y v u Q I rx ry h
  obtain ⟨a, b, xs, ys, rfl, rfl, ha, hb, hz, q0, q1, q2⟩ := h
  cases rx
  cases ry
  obtain ⟨its, r1, p1, _⟩ := I.tuple ha
  obtain ⟨its2, r2, p2, _⟩ := I.tuple hb
  by_cases hx : xs = []
  · subst hx
    cases r1
    exact cat_tup0 p1 p2 ⟨.ref b, H, I, rfl, q0 rfl⟩
  · refine HT.cat_tup p1 p2 (fun z => hx (r1.nil_iff.mp z)) (fun z => ⟨.ref a, H, I, rfl, q1 hx (r2.nil_iff.mp z)⟩) (fun z => ?_) (by rw [← r1.length, ← r2.length]; exact hz)
    exact ⟨.ref s.heap.objs.size, _, I.laid (t' := s.toks) (fun b ob q => Heap.get?_push_of_some _ q) (Nat.le_refl _) (obj_tup (its := its ++ its2) (xs := xs ++ ys) (by first | exact Heap.get?_push_size _ rfl | (rw [← List.append_toArray] <;> exact Heap.get?_push_size _ rfl)) (by rw [List.length_append]; exact hz) (r1.append r2)), rfl, q2 hx (fun w => z (r2.nil_iff.mpr w)) _ _ (I.hok.fresh (Nat.le_refl _)) rfl⟩
/-- t[lo:hi]: the whole of it is t itself -/
def rSlS (K : PySem.W.Frag) : V → Option Int → Option Int → Hp → VK → Prop := fun x lo hi H Q => ∃ a xs, x = .ref a ∧ SqT K H a xs ∧
  (HT.sIx xs.length 0 lo = 0 ∧ HT.sIx xs.length xs.length hi = xs.length → Q (.ref a) H) ∧ (¬ (HT.sIx xs.length 0 lo = 0 ∧ HT.sIx xs.length xs.length hi = xs.length) → TpQ H (cutV xs lo hi) Q)
theorem sl_tupS : SlR X (rSlS X.K) := by
  intro pins s σ H x v vl vu lo hi sl Q I rx hs pl pu h
  obtain ⟨a, xs, rfl, hx, q1, q2⟩ := h
  cases rx
  obtain ⟨its, r, ht, hz⟩ := I.tuple hx
  have hlen : its.toArray.size = xs.length := by rw [List.size_toArray]; exact r.length.symm
  refine ⟨"tuple", _, PyProof.Rows.slot_tuple_getitem.lookup, ht.typeIs, ?_⟩
  by_cases hw : HT.sIx xs.length 0 lo = 0 ∧ HT.sIx xs.length xs.length hi = xs.length
  · exact getItem_tuple_whole ht hs pl pu (by rw [hlen]; exact hw) ⟨.ref a, H, I, rfl, q1 hw⟩
  · refine HT.getItem_tuple_cut ht hs pl pu (by rw [hlen]; exact hw) ?_ (by rw [hlen]; exact hz)
    rw [hlen]
    exact ⟨.ref s.heap.objs.size, _, I.laid (t' := s.toks) (fun b ob q => Heap.get?_push_of_some _ q) (Nat.le_refl _) (obj_tup (Heap.get?_push_size _ rfl) (Nat.le_trans (cutV_length xs lo hi) hz) ((r.drop (HT.sIx xs.length 0 lo)).take (HT.sIx xs.length xs.length hi - HT.sIx xs.length 0 lo))), rfl, q2 hw _ _ (I.hok.fresh (Nat.le_refl _)) rfl⟩
/-- t * k -/
def rRepS (K : PySem.W.Frag) : R2 := fun x y H Q => ∃ l k xs, x = .ref l ∧ y = .int k ∧ SqT K H l xs ∧ xs ≠ [] ∧ 2 ≤ k ∧ k ≤ 1000 ∧ xs.length ≤ 1000 ∧ TpQ H (List.replicate k.toNat xs).flatten Q
theorem op_repS : OpR X (binaryOp .Mult) (rRepS X.K) := by
  intro pins s σ H x y v u Q I rx ry h
  obtain ⟨l, k, xs, rfl, rfl, hT, hne, h1, h2, hz, q⟩ := h
  cases rx
  obtain ⟨t, rfl⟩ := ry
  obtain ⟨its, r, ⟨⟨cls, dd, data, sl⟩, ho, hc, n, hd⟩, hs⟩ := I.tuple hT
  simp only at hc hd
  subst hc hd
  have hle : its.length = xs.length := r.length.symm
  have hn : its ≠ [] := fun e => hne (by
    rw [e] at hle
    exact List.eq_nil_of_length_eq_zero hle.symm)
  have hi : its.toArray.isEmpty = false := by
    cases its with
    | nil => exact absurd rfl hn
    | cons a b => rfl
  have hsz0 : its.toArray.size = xs.length := by rw [List.size_toArray, hle]
  have hm : ((its.toArray.size : Nat) : Int) * k ≤ 1000000 := by
    rw [hsz0]
    have a1 : ((xs.length : Nat) : Int) * k ≤ 1000 * k := Int.mul_le_mul_of_nonneg_right (by omega) (by omega)
    omega
  have flen : (List.replicate k.toNat its).flatten.length ≤ sizeLine := by
    rw [PyProof.Rows.lm_len_rep_flat, hle, sizeLine_eq]
    have a1 : k.toNat * xs.length ≤ 1000 * 1000 := Nat.mul_le_mul (by omega) hz
    omega
  have c0 : (decide (k < -(2 ^ 63)) || decide (k ≥ 2 ^ 63)) = false := by
    rw [decide_eq_false (by omega), decide_eq_false (by omega)] <;> rfl
  have c1 : (its.toArray.isEmpty || k == 1) = false := by
    rw [hi, Bool.false_or]
    exact beq_eq_false_iff_ne.mpr (by omega)
  have c2 : (decide (k ≤ 0) || its.toArray.isEmpty) = false := by
    rw [hi, Bool.or_false]
    exact decide_eq_false (by omega)
  have c4 : Builtin.Tuple.tupleTooMany (((its.toArray.size : Nat) : Int) * k) = false := by
    unfold Builtin.Tuple.tupleTooMany
    rw [sizeLine_eq]
    exact decide_eq_false (by omega)
  refine wpAny_binaryOp_repeat_ref (T := "tuple") (U := "int") (by decide) ⟨_, ho, rfl⟩ (fun s' => typeIs_int s' k t) noFill_tuple_mul F.fills_int_mul F.slot_int_rmul repeat_tuple F.slot_int_index.lookup
    (call_meets F.slot_int_rmul (typeIs_int s k t) F.entry_int_rmul (F.args_int_rmul_2 _ _) (int_rmul_tuple k t l its.toArray n dd sl)
      ⟨ho, rfl, ⟨_, ho, rfl⟩, call_meets F.slot_tuple_mul ⟨_, ho, rfl⟩ F.entry_tuple_mul (F.args_tuple_mul_2 _ _) (tuple_mulW l its.toArray n dd sl k t c0 c1 c2 (by omega) c4 (by rw [size_rep, List.size_toArray]; exact flen)) ⟨ho, ?_⟩⟩)
  rw [size_rep]
  exact ⟨.ref s.heap.objs.size, _, I.laid (t' := s.toks) (fun b ob q => Heap.get?_push_of_some _ q) (Nat.le_refl _) (obj_tup (Heap.get?_push_size _ rfl) (by rw [PyProof.Rows.lm_len_rep_flat, sizeLine_eq]; have a1 : k.toNat * xs.length ≤ 1000 * 1000 := Nat.mul_le_mul (by omega) hz; omega) (r.rep k.toNat)), rfl, q _ _ (I.hok.fresh (Nat.le_refl _)) rfl⟩
end
/-- the list at a, each item with its place in a new pair -/
def IteS (K : PySem.W.Frag) (a : Addr) : It where
  go := fun i H => ∃ (xs : List V) (x : V), SqL K H a xs ∧ xs[i]? = some x
  yld := fun i H v H' => ∃ T o x, v = .ref T ∧ H T = none ∧ o.dict = none ∧ H' = upd H T (.frz o (.tup [.int (i : Nat), x])) ∧ ∀ xs, SqL K H a xs → xs[i]? = some x
  stop := fun i H => ∃ xs : List V, SqL K H a xs ∧ xs.length = i
theorem turn_enumS {P : Program} {w : World} {K : PySem.W.Frag} {elts : List Expr} {kk : Nat} {tpos : Pos} (a e it : Addr) :
    Turn P w K (.Tuple elts kk tpos) (IteS K a) [e, it] e (fun i h => (∃ old, IsEnum h e it ((i : Nat) : Int) old) ∧ h.IsListIter it a i ∧ e ≠ it) where
  mem := by simp
  obj := fun i h st b hb => by
    obtain ⟨⟨old, he⟩, ⟨o, ho, hc, hd⟩, _⟩ := st
    have e' : b = e ∨ b = it := by simpa using hb
    rcases e' with z | z
    · rw [z]; exact ⟨_, he, fun v q => nomatch q⟩
    · rw [z]; exact ⟨o, ho, fun v q => by rw [hd] at q; cases q⟩
  keep := fun i h h' st k => let ⟨⟨old, he⟩, hi, hne⟩ := st; ⟨⟨old, k e (by simp) _ he⟩, hi.at fun o q => k it (by simp) o q, hne⟩
  item := by
    intro X hP hw hK hc i pins s σ H E I hf st hg
    subst hP hw hK
    obtain ⟨⟨old, he⟩, hit, hne⟩ := st
    obtain ⟨xs, x, hq, hx⟩ := hg
    obtain ⟨its, rv, p, hz⟩ := I.list hq
    obtain ⟨u, hu, ru⟩ := rv.get hx
    have hel : e < s.heap.objs.size := Heap.lt_size he
    have hil : it < s.heap.objs.size := by obtain ⟨_, q, _⟩ := hit; exact Heap.lt_size q
    refine wpAny_pyNext_enum_item he hit p.isList (x := u) (by simpa using hu) hne fun h' ho hit' hT hsz hk => ?_
    refine ⟨_, rfl, wpAny_letOwnedTupleGo_enum (s := { s with heap := h', toks := s.toks + 1 }) ho fun h'' he' sb => ?_⟩
    have hT2 : h''.get? s.heap.objs.size = some { cls := .type "tuple", data := .seq #[.int i s.toks, u] } := (sb.2 _ (Nat.ne_of_gt hel)).trans hT
    have I1 : Inv X pins σ (upd H s.heap.objs.size (.frz { cls := .type "tuple", data := .seq #[.int i s.toks, u] } (.tup [.int (i : Nat), x]))) { s with heap := h'', toks := s.toks + 1 } :=
      I.turnedNew (ch := [e, it]) (fun b ob hb q => (sb.2 b (fun z => hb (by simp [z]))).trans (hk b ob (fun z => hb (by simp [z])) (fun z => hb (by simp [z])) q)) hf (Nat.le_refl _) (obj_tup (its := [.int i s.toks, u]) hT2 (by show 2 ≤ sizeLine; decide) (.cons ⟨_, rfl⟩ (.cons ru .nil)))
    refine ⟨.ref s.heap.objs.size, _, I1, rfl, ⟨_, _, x, rfl, I.hok.fresh (Nat.le_refl _), rfl, rfl, fun ys hy => by rw [I.list_inj hy hq]; exact hx⟩, ⟨⟨u, ?_⟩, hit'.at fun o q => (sb.2 it (Ne.symm hne)).trans q, hne⟩, fun b hb => ?_⟩
    · have e1 : ((i + 1 : Nat) : Int) = (i : Int) + 1 := by omega
      rw [e1]; exact he'
    · have hb' : b < s.heap.objs.size := by
        have e' : b = e ∨ b = it := by simpa using hb
        rcases e' with z | z
        · rw [z]; exact hel
        · rw [z]; exact hil
      rw [upd_ne (Nat.ne_of_lt hb')]
      exact (hf b hb).1
  done := by
    intro X hP hw hK hc i pins s σ H E I hf st hg
    subst hP hw hK
    obtain ⟨⟨old, he⟩, hit, hne⟩ := st
    obtain ⟨xs, hq, hx⟩ := hg
    obtain ⟨its, rv, p, hz⟩ := I.list hq
    obtain ⟨f0, f1, f2, f3, f4, f5⟩ := hf it (by simp)
    have hl := rv.length
    exact wpAny_pyNext_enum_end (I.ok.hd hc) he hit p.isList (by simp; omega) fun h' eb => ⟨rfl, I.turned (t' := s.toks) (fun b o hb q => eb b o hb q) f0 f1 f3 f4 f5⟩
  self := fun A i s Q E st h => let ⟨⟨_, he⟩, _⟩ := st; wpAny_pyIter_enum he h
def tBMT (K : PySem.W.Frag) (r : V → List V → Hp → VK → Prop) (to : TE) (t : TA) : TE := fun σ H Q => to σ H fun x H1 => ((∃ p o xs, x = V.ref p ∧ H1 p = some (.frz o (.tup xs)) ∧ o.dict = none) ∨ ∃ p o, x = V.ref p ∧ K.lookup p = some o ∧ o.cls = .type "tuple" ∧ o.dict = none) ∧ t σ H1 fun xs H2 => r x xs H2 Q
theorem pe_bmT {X : Cx} {o e : Expr} {es : List Expr} {to : TE} {t : TA} {name : Str} {apos cpos : Pos} {id : String} {r : V → List V → Hp → VK → Prop} (pa : PlainAttrs "tuple") (slot : Slot "tuple" name id) (hty : typeOf (.builtin id) = pure (.type "method_descriptor")) (hm : MtR X id r) (ho : PE X o to) (ha : PA X (e :: es) t)
    (hbase : attributeBase o name X.env (eval o X.env) = eval o X.env := by rfl)
    (hfew : ((backTo cpos (starEach (e :: es) X.env)).all (fun x => !x.1) && (backToKw cpos (keywordEach [] X.env)).all (fun x => x.1.isSome)
      && decide ((e :: es).length + ([] : List Keyword).length + (if ([] : List Keyword).isEmpty then 0 else 1) < 30)) = true := by rfl)
    (hline : (apos.endLine == cpos.line) = true := by rfl) (hs : starEach (e :: es) X.env = (false, eval e X.env) :: starEach es X.env := by rfl) (hplain : (backTo cpos (starEach es X.env)).any (·.1) = false := by rfl) :
    PE X (.Call (.Attribute o name apos) (e :: es) [] cpos) (tBMT X.K r to t) := by
  refine ⟨fun pins s σ H Q I h => ?_⟩
  refine wpAny_Call_method_late hbase hfew hline rfl (thn (ho.run pins s σ H _ I h) fun v s1 ⟨x, H1, I1, r1, ty, q1⟩ => ?_)
  have h12 : s1.TypeIs v "tuple" ∧ ∀ a, v = .ref a → ∃ ob, s1.heap.get? a = some ob ∧ ob.dict = none := by
    rcases ty with ⟨p, o, xs, rfl, hp, hd⟩ | ⟨p, o, rfl, hp, hc, hd⟩
    · cases r1
      obtain ⟨g, _, its, rv, pl⟩ := I1.hok p _ hp
      obtain ⟨o2, e2, c2, n, d2⟩ := pl
      refine ⟨⟨o2, e2, c2⟩, fun a e => ?_⟩
      cases e
      exact ⟨o, g, hd⟩
    · cases r1
      refine ⟨⟨o, I1.kIn p o hp, hc⟩, fun a e => ?_⟩
      cases e
      exact ⟨o, I1.kIn _ o hp, hd⟩
  obtain ⟨h1, h2⟩ := h12
  refine ⟨"tuple", id, pa, slot, hty, h1, h2, ?_⟩
  have hA := ha.run cpos pins s1 σ H1 _ I1 q1
  rw [hs] at hA ⊢
  refine Calls.callWith_builtin (by show (false || (backTo cpos (starEach es X.env)).any (·.1)) = false; rw [hplain] <;> rfl) (Calls.evalArgs_plain ?_)
  exact thn hA fun us s2 ⟨vs, H2, I2, r2, q2⟩ => hm pins s2 σ H2 x vs v us Q I2 r1 r2 q2
end Dh
namespace Dh
open PySem PySem.Spec L2
/-- what an expression gives: a datum that stays; a list just made; a list of the frame's own, looked at; the spring -/
inductive R where
  | d (x : PyData) | f (xs : List PyData) | b (xs : List PyData) | s | m (acc : List (Key × PyData)) | n (acc : List (Key × PyData))
/-- what a slot holds -/
inductive Cl where
  | d (x : PyData) | o (xs : List PyData) | s | m (acc : List (Key × PyData))
abbrev Ev := List (Option Cl)
abbrev Sto := List Int
abbrev Mx := Ev → Sto → Option (R × Sto)
abbrev Mt := Ev → Sto → Option (Bool × Sto)
abbrev Ma := Ev → Sto → Option (List R × Sto)
abbrev Fz := Addr → Prop
/-- a list that stays -/
def FzL (K : PySem.W.Frag) (fz : Fz) (H : Hp) (a : Addr) (xs : List V) : Prop :=
  (H a = some (.lst xs) ∧ fz a) ∨ (∃ o, H a = some (.frz o (.lst xs))) ∨
    ∃ (o : Obj) (its : Array Value) (n : Nat), K.lookup a = some o ∧ o.cls = .type "list" ∧ o.dict = none ∧ o.data = .seq its n ∧ its.size ≤ sizeLine ∧ Vals xs its.toList
theorem FzL.sq {K : PySem.W.Frag} {fz : Fz} {H : Hp} {a : Addr} {xs : List V} (h : FzL K fz H a xs) : SqL K H a xs := by
  rcases h with ⟨h, _⟩ | h | h
  · exact .inl (.inl h)
  · exact .inl (.inr h)
  · exact .inr h
/-- a tuple that stays; it bears no names of its own -/
def FzT (K : PySem.W.Frag) (H : Hp) (a : Addr) (xs : List V) : Prop :=
  (∃ o, H a = some (.frz o (.tup xs)) ∧ o.dict = none) ∨
    ∃ (o : Obj) (its : Array Value) (n : Nat), K.lookup a = some o ∧ o.cls = .type "tuple" ∧ o.dict = none ∧ o.data = .seq its n ∧ its.size ≤ sizeLine ∧ Vals xs its.toList
theorem FzT.sq {K : PySem.W.Frag} {H : Hp} {a : Addr} {xs : List V} (h : FzT K H a xs) : SqT K H a xs := by
  rcases h with ⟨o, h, _⟩ | ⟨o, its, n, h1, h2, _, h3, h4, h5⟩
  · exact .inl (.inr ⟨o, h⟩)
  · exact .inr ⟨o, its, n, h1, h2, h3, h4, h5⟩
mutual
/-- the value v is the datum d, for as long as what is frozen stays -/
inductive Im (K : PySem.W.Frag) (fz : Fz) (H : Hp) : V → PyData → Prop
  | non : Im K fz H .non .none
  | bl (b : Bool) : Im K fz H (.bl b) (.bool b)
  | int (i : Int) : Im K fz H (.int i) (.int i)
  | str (x : Str) : Im K fz H (.str x) (.str x)
  | lst {a : Addr} {xs : List V} {ds : List PyData} : FzL K fz H a xs → ImA K fz H xs ds → Im K fz H (.ref a) (.list ds)
  | tup {a : Addr} {xs : List V} {ds : List PyData} : FzT K H a xs → ImA K fz H xs ds → Im K fz H (.ref a) (.tuple ds)
  | dct {a : Addr} {kvs : List (Key × V)} {ds : List (PyData × PyData)} : H a = some (.dK kvs) → fz a → ImA K fz H (kvs.map fun p => kV p.1) (ds.map (·.1)) → ImA K fz H (kvs.map (·.2)) (ds.map (·.2)) → Im K fz H (.ref a) (.dict ds)
inductive ImA (K : PySem.W.Frag) (fz : Fz) (H : Hp) : List V → List PyData → Prop
  | nil : ImA K fz H [] []
  | cons {v : V} {vs : List V} {d : PyData} {ds : List PyData} : Im K fz H v d → ImA K fz H vs ds → ImA K fz H (v :: vs) (d :: ds)
end
/-- the entries of a dict as they are tracked, and as data -/
def ImK (K : PySem.W.Frag) (fz : Fz) (H : Hp) (kvs : List (Key × V)) (acc : List (Key × PyData)) : Prop := kvs.map (·.1) = acc.map (·.1) ∧ ImA K fz H (kvs.map (·.2)) (acc.map (·.2))
/-- from one moment to a later one: what was tracked stands, but the spring; what is newly frozen was not there -/
structure Stp (sp : Option Addr) (fz : Fz) (H : Hp) (fz' : Fz) (H' : Hp) : Prop where
  mono : ∀ a, fz a → fz' a
  ext : ∀ a o, H a = some o → some a ≠ sp → H' a = some o
  new : ∀ a, fz' a → fz a ∨ (some a ≠ sp ∧ H a = none)
  trk : (∀ a, fz a → H a ≠ none) → ∀ a, fz' a → H' a ≠ none
section
variable {K : PySem.W.Frag} {sp : Option Addr} {fz fz1 fz2 : Fz} {H H1 H2 : Hp}
theorem Stp.refl : Stp sp fz H fz H := ⟨fun _ h => h, fun _ _ h _ => h, fun _ h => .inl h, fun h => h⟩
theorem Stp.back (s : Stp sp fz H fz1 H1) {a : Addr} (n : some a ≠ sp) (h : H1 a = none) : H a = none := by
  cases q : H a with
  | none => rfl
  | some o => rw [s.ext a o q n] at h; cases h
theorem Stp.trans (s : Stp sp fz H fz1 H1) (t : Stp sp fz1 H1 fz2 H2) : Stp sp fz H fz2 H2 where
  mono := fun a h => t.mono a (s.mono a h)
  ext := fun a o h n => t.ext a o (s.ext a o h n) n
  new := fun a h => by
    rcases t.new a h with h | ⟨n, h⟩
    · exact s.new a h
    · exact .inr ⟨n, s.back n h⟩
  trk := fun h => t.trk (s.trk h)
theorem Stp.nsp (s : Stp sp fz H fz1 H1) (n : ∀ a, sp = some a → ¬ fz a) : ∀ a, sp = some a → ¬ fz1 a := fun a e h => by
  rcases s.new a h with h | ⟨h, _⟩
  · exact n a e h
  · exact h e.symm
/-- a new object -/
theorem Stp.laid {a : Addr} {o : HO} (h : H a = none) : Stp sp fz H fz (upd H a o) :=
  ⟨fun _ h => h, fun b u q _ => by rw [upd_ne (ne_of_none q h)]; exact q, fun _ h => .inl h, fun t b q z => by
    by_cases e : b = a
    · subst e; rw [upd_same] at z; cases z
    · rw [upd_ne e] at z; exact t b q z⟩
/-- a new object, frozen -/
theorem Stp.frz {a : Addr} {o : HO} (h : H a = none) (n : some a ≠ sp) : Stp sp fz H (fun b => fz b ∨ b = a) (upd H a o) :=
  ⟨fun _ h => .inl h, fun b u q _ => by rw [upd_ne (ne_of_none q h)]; exact q, fun b q => by
    rcases q with q | q
    · exact .inl q
    · subst q; exact .inr ⟨n, h⟩, fun t b q z => by
    by_cases e : b = a
    · subst e; rw [upd_same] at z; cases z
    · rw [upd_ne e] at z
      rcases q with q | q
      · exact t b q z
      · exact e q⟩
/-- a list that was just made is frozen -/
theorem Stp.freeze {a : Addr} {o : HO} (s : Stp sp fz H fz1 H1) (h0 : H a = none) (n : some a ≠ sp) (h : H1 a = some o) : Stp sp fz H (fun b => fz1 b ∨ b = a) H1 :=
  ⟨fun b q => .inl (s.mono b q), s.ext, fun b q => by
    rcases q with q | q
    · exact s.new b q
    · subst q; exact .inr ⟨n, h0⟩, fun t b q z => by
    rcases q with q | q
    · exact s.trk t b q z
    · subst q; rw [h] at z; cases z⟩
def SpL (sp : Option Addr) (H : Hp) (sto : Sto) : Prop := ∀ a, sp = some a → H a = some (.lst (sto.map V.int))
theorem SpL.ne {sto : Sto} {a : Addr} {o : Option HO} (l : SpL sp H sto) (h : H a = o) (n : o ≠ some (.lst (sto.map V.int))) : some a ≠ sp := fun e => n (h.symm.trans (l a e.symm))
theorem SpL.upd {sto : Sto} {a : Addr} {o : HO} (l : SpL sp H sto) (n : some a ≠ sp) : SpL sp (L2.upd H a o) sto := fun p e => by
  have : p ≠ a := fun z => n (by rw [← z, e])
  rw [upd_ne this]
  exact l p e
/-- the value is the spring -/
def IsS (sp : Option Addr) (v : V) : Prop := ∃ a, sp = some a ∧ v = .ref a
/-- the spring stands, it is not frozen, what is frozen is tracked -/
structure Bs (sp : Option Addr) (fz : Fz) (H : Hp) (sto : Sto) : Prop where
  spl : SpL sp H sto
  nsp : ∀ a, sp = some a → ¬ fz a
  trk : ∀ a, fz a → H a ≠ none
theorem Bs.step {sto sto' : Sto} (B : Bs sp fz H sto) (s : Stp sp fz H fz1 H1) (l : SpL sp H1 sto') : Bs sp fz1 H1 sto' := ⟨l, s.nsp B.nsp, s.trk B.trk⟩
theorem ne_spring {sto : Sto} {a : Addr} {xs : List V} (l : SpL sp H sto) (h : H a = some (.tup xs)) : some a ≠ sp := by
  exact l.ne h (by intro z; cases z)
theorem SqT.stp {sto : Sto} {a : Addr} {xs : List V} (s : Stp sp fz H fz1 H1) (B : Bs sp fz H sto) (h : SqT K H a xs) : SqT K H1 a xs := by
  rcases h with (h | ⟨o, h⟩) | h
  · exact .inl (.inl (s.ext _ _ h (ne_spring B.spl h)))
  · exact .inl (.inr ⟨o, s.ext _ _ h (B.spl.ne h (by intro z; cases z))⟩)
  · exact .inr h
theorem FzT.stp {sto : Sto} {a : Addr} {xs : List V} (s : Stp sp fz H fz1 H1) (B : Bs sp fz H sto) (h : FzT K H a xs) : FzT K H1 a xs := by
  rcases h with ⟨o, h, d⟩ | h
  · exact .inl ⟨o, s.ext _ _ h (B.spl.ne h (by intro z; cases z)), d⟩
  · exact .inr h
theorem FzL.stp {sto : Sto} {a : Addr} {xs : List V} (s : Stp sp fz H fz1 H1) (B : Bs sp fz H sto) (h : FzL K fz H a xs) : FzL K fz1 H1 a xs := by
  rcases h with ⟨h, f⟩ | ⟨o, h⟩ | h
  · exact .inl ⟨s.ext _ _ h (by intro e; exact B.nsp _ e.symm f), s.mono _ f⟩
  · exact .inr (.inl ⟨o, s.ext _ _ h (B.spl.ne h (by intro z; cases z))⟩)
  · exact .inr (.inr h)
mutual
theorem Im.stp {sto : Sto} (s : Stp sp fz H fz1 H1) (B : Bs sp fz H sto) : ∀ {v : V} {d : PyData}, Im K fz H v d → Im K fz1 H1 v d
  | _, _, .non => .non
  | _, _, .bl b => .bl b
  | _, _, .int i => .int i
  | _, _, .str x => .str x
  | _, _, .lst h a => .lst (h.stp s B) (ImA.stp s B a)
  | _, _, .tup h a => .tup (FzT.stp s B h) (ImA.stp s B a)
  | _, _, .dct h f a b => .dct (s.ext _ _ h (by intro e; exact B.nsp _ e.symm f)) (s.mono _ f) (ImA.stp s B a) (ImA.stp s B b)
theorem ImA.stp {sto : Sto} (s : Stp sp fz H fz1 H1) (B : Bs sp fz H sto) : ∀ {v : List V} {d : List PyData}, ImA K fz H v d → ImA K fz1 H1 v d
  | _, _, .nil => .nil
  | _, _, .cons h t => .cons (Im.stp s B h) (ImA.stp s B t)
end
mutual
theorem Im.fzm (g : ∀ a, fz a → fz1 a) : ∀ {v : V} {d : PyData}, Im K fz H v d → Im K fz1 H v d
  | _, _, .non => .non
  | _, _, .bl b => .bl b
  | _, _, .int i => .int i
  | _, _, .str x => .str x
  | _, _, .lst h a => .lst (by
      rcases h with ⟨h, f⟩ | h | h
      · exact .inl ⟨h, g _ f⟩
      · exact .inr (.inl h)
      · exact .inr (.inr h)) (ImA.fzm g a)
  | _, _, .tup h a => .tup h (ImA.fzm g a)
  | _, _, .dct h f a b => .dct h (g _ f) (ImA.fzm g a) (ImA.fzm g b)
theorem ImA.fzm (g : ∀ a, fz a → fz1 a) : ∀ {v : List V} {d : List PyData}, ImA K fz H v d → ImA K fz1 H v d
  | _, _, .nil => .nil
  | _, _, .cons h t => .cons (Im.fzm g h) (ImA.fzm g t)
end
theorem ImA.length : ∀ {v : List V} {d : List PyData}, ImA K fz H v d → v.length = d.length
  | _, _, .nil => rfl
  | _, _, .cons _ t => by rw [List.length_cons, List.length_cons, ImA.length t]
theorem ImA.at : ∀ {v : List V} {d : List PyData}, ImA K fz H v d → ∀ (i : Nat) (x : PyData), d[i]? = some x → ∃ w, v[i]? = some w ∧ Im K fz H w x
  | _, _, .nil, i, x, h => by simp at h
  | _, _, .cons h t, 0, x, e => by
    simp only [List.getElem?_cons_zero, Option.some.injEq] at e
    subst e
    exact ⟨_, rfl, h⟩
  | _, _, .cons h t, i + 1, x, e => by
    simp only [List.getElem?_cons_succ] at e ⊢
    exact ImA.at t i x e
theorem ImA.get : ∀ {v : List V} {d : List PyData}, ImA K fz H v d → ∀ (i : Nat) (w : V), v[i]? = some w → ∃ x, d[i]? = some x ∧ Im K fz H w x
  | _, _, .nil, i, x, h => by simp at h
  | _, _, .cons h t, 0, x, e => by
    simp only [List.getElem?_cons_zero, Option.some.injEq] at e
    subst e
    exact ⟨_, rfl, h⟩
  | _, _, .cons h t, i + 1, x, e => by
    simp only [List.getElem?_cons_succ] at e ⊢
    exact ImA.get t i x e
theorem ImA.append : ∀ {v : List V} {d : List PyData}, ImA K fz H v d → ∀ {v' : List V} {d' : List PyData}, ImA K fz H v' d' → ImA K fz H (v ++ v') (d ++ d')
  | _, _, .nil, _, _, h => h
  | _, _, .cons h t, _, _, h' => .cons h (t.append h')
theorem ImA.drop : ∀ {v : List V} {d : List PyData} (n : Nat), ImA K fz H v d → ImA K fz H (v.drop n) (d.drop n)
  | _, _, 0, h => by simpa using h
  | _, _, n + 1, .nil => by simpa using ImA.nil
  | _, _, n + 1, .cons h t => by simpa using ImA.drop n t
theorem ImA.take : ∀ {v : List V} {d : List PyData} (n : Nat), ImA K fz H v d → ImA K fz H (v.take n) (d.take n)
  | _, _, 0, h => by simpa using ImA.nil
  | _, _, n + 1, .nil => by simpa using ImA.nil
  | _, _, n + 1, .cons h t => by simpa using ImA.cons h (ImA.take n t)
theorem ImA.set : ∀ {v : List V} {d : List PyData} (i : Nat) {w : V} {x : PyData}, ImA K fz H v d → Im K fz H w x → ImA K fz H (v.set i w) (d.set i x)
  | _, _, i, _, _, .nil, _ => by simpa using ImA.nil
  | _, _, 0, _, _, .cons h t, q => by simpa using ImA.cons q t
  | _, _, i + 1, _, _, .cons h t, q => by simpa using ImA.cons h (ImA.set i t q)
theorem ImA.ints : ∀ (ns : List Int), ImA K fz H (ns.map V.int) (ns.map PyData.int)
  | [] => .nil
  | n :: r => .cons (.int n) (ImA.ints r)
end
/-- the context of a frame: the spring's place, what was frozen and the heap at the entry -/
structure Cn where
  sp : Option Addr
  fz0 : Fz
  H0 : Hp
def CellOk (K : PySem.W.Frag) (C : Cn) (fz : Fz) (H : Hp) (σ : St) (i : Nat) : Cl → Prop
  | .d x => ∃ v, σ[i]? = some (some v) ∧ Im K fz H v x
  | .o xs => ∃ a vs, σ[i]? = some (some (.ref a)) ∧ H a = some (.lst vs) ∧ ImA K fz H vs xs ∧ ¬ fz a ∧ some a ≠ C.sp ∧ C.H0 a = none
  | .s => ∃ a, C.sp = some a ∧ σ[i]? = some (some (.ref a))
  | .m acc => ∃ a kvs, σ[i]? = some (some (.ref a)) ∧ H a = some (.dK kvs) ∧ ImK K fz H kvs acc ∧ ¬ fz a ∧ some a ≠ C.sp ∧ C.H0 a = none
structure Fm (K : PySem.W.Frag) (C : Cn) (fz : Fz) (ρ : Ev) (sto : Sto) (σ : St) (H : Hp) : Prop where
  len : ρ.length = σ.length
  st : Stp C.sp C.fz0 C.H0 fz H
  bs : Bs C.sp fz H sto
  vars : ∀ (i : Nat) (c : Cl), ρ[i]? = some (some c) → CellOk K C fz H σ i c
  sep : ∀ (i j : Nat) (xs ys : List PyData) (a : Addr), i ≠ j → ρ[i]? = some (some (.o xs)) → ρ[j]? = some (some (.o ys)) → σ[i]? = some (some (.ref a)) → σ[j]? ≠ some (some (.ref a))
section
variable {K : PySem.W.Frag} {C : Cn} {fz fz1 : Fz} {ρ : Ev} {sto sto' : Sto} {σ : St} {H H1 : Hp}
theorem Fm.step (F : Fm K C fz ρ sto σ H) (s : Stp C.sp fz H fz1 H1) (l : SpL C.sp H1 sto') : Fm K C fz1 ρ sto' σ H1 where
  len := F.len
  st := F.st.trans s
  bs := F.bs.step s l
  vars := fun i c h => by
    have q := F.vars i c h
    cases c with
    | d x => obtain ⟨v, e, q⟩ := q; exact ⟨v, e, q.stp s F.bs⟩
    | o xs =>
      obtain ⟨a, vs, e, h1, h2, h3, h4, h5⟩ := q
      refine ⟨a, vs, e, s.ext _ _ h1 h4, h2.stp s F.bs, fun z => ?_, h4, h5⟩
      rcases s.new a z with z | ⟨_, z⟩
      · exact h3 z
      · rw [h1] at z; cases z
    | s => exact q
    | m acc =>
      obtain ⟨a, vs, e, h1, h2, h3, h4, h5⟩ := q
      refine ⟨a, vs, e, s.ext _ _ h1 h4, ⟨h2.1, h2.2.stp s F.bs⟩, fun z => ?_, h4, h5⟩
      rcases s.new a z with z | ⟨_, z⟩
      · exact h3 z
      · rw [h1] at z; cases z
  sep := F.sep
end
/-- what an expression gives, seen from the heap H at its start -/
def ImR (K : PySem.W.Frag) (sp : Option Addr) (H : Hp) (fz' : Fz) (H' : Hp) (v : V) : R → Prop
  | .d x => Im K fz' H' v x
  | .f xs => ∃ a vs, v = .ref a ∧ H' a = some (.lst vs) ∧ ImA K fz' H' vs xs ∧ ¬ fz' a ∧ some a ≠ sp ∧ H a = none
  | .b xs => ∃ a vs, v = .ref a ∧ H' a = some (.lst vs) ∧ ImA K fz' H' vs xs ∧ some a ≠ sp
  | .s => IsS sp v
  | .m acc => ∃ a kvs, v = .ref a ∧ H' a = some (.dK kvs) ∧ ImK K fz' H' kvs acc ∧ ¬ fz' a ∧ some a ≠ sp ∧ H a = none
  | .n acc => ∃ a kvs, v = .ref a ∧ H' a = some (.dK kvs) ∧ ImK K fz' H' kvs acc ∧ some a ≠ sp
section
variable {K : PySem.W.Frag} {sp : Option Addr} {fz fz1 fz2 : Fz} {H H1 H2 : Hp} {sto : Sto} {v : V} {r : R}
/-- later on -/
theorem ImR.stp (h : ImR K sp H fz1 H1 v r) (s : Stp sp fz1 H1 fz2 H2) (B : Bs sp fz1 H1 sto) : ImR K sp H fz2 H2 v r := by
  cases r with
  | d x => exact Im.stp s B h
  | f xs =>
    obtain ⟨a, vs, e, h1, h2, h3, h4, h5⟩ := h
    refine ⟨a, vs, e, s.ext _ _ h1 h4, h2.stp s B, fun z => ?_, h4, h5⟩
    rcases s.new a z with z | ⟨_, z⟩
    · exact h3 z
    · rw [h1] at z; cases z
  | b xs =>
    obtain ⟨a, vs, e, h1, h2, h4⟩ := h
    exact ⟨a, vs, e, s.ext _ _ h1 h4, h2.stp s B, h4⟩
  | s => exact h
  | m acc =>
    obtain ⟨a, vs, e, h1, h2, h3, h4, h5⟩ := h
    refine ⟨a, vs, e, s.ext _ _ h1 h4, ⟨h2.1, h2.2.stp s B⟩, fun z => ?_, h4, h5⟩
    rcases s.new a z with z | ⟨_, z⟩
    · exact h3 z
    · rw [h1] at z; cases z
  | n acc =>
    obtain ⟨a, vs, e, h1, h2, h4⟩ := h
    exact ⟨a, vs, e, s.ext _ _ h1 h4, ⟨h2.1, h2.2.stp s B⟩, h4⟩
/-- seen from an earlier start -/
theorem ImR.early (h : ImR K sp H1 fz2 H2 v r) (s : Stp sp fz H fz1 H1) : ImR K sp H fz2 H2 v r := by
  cases r with
  | d x => exact h
  | f xs =>
    obtain ⟨a, vs, e, h1, h2, h3, h4, h5⟩ := h
    exact ⟨a, vs, e, h1, h2, h3, h4, s.back h4 h5⟩
  | b xs => exact h
  | s => exact h
  | m acc =>
    obtain ⟨a, vs, e, h1, h2, h3, h4, h5⟩ := h
    exact ⟨a, vs, e, h1, h2, h3, h4, s.back h4 h5⟩
  | n acc => exact h
end
def rdE (K : PySem.W.Frag) (m : Mx) : TE := fun σ H Q => ∃ (C : Cn) (fz : Fz) (ρ : Ev) (sto : Sto) (r : R) (sto' : Sto), Fm K C fz ρ sto σ H ∧ m ρ sto = some (r, sto') ∧
  ∀ v fz' H', Stp C.sp fz H fz' H' → SpL C.sp H' sto' → ImR K C.sp H fz' H' v r → Q v H'
def rdT (K : PySem.W.Frag) (m : Mt) : TT := fun σ H Q => ∃ (C : Cn) (fz : Fz) (ρ : Ev) (sto : Sto) (r : Bool) (sto' : Sto), Fm K C fz ρ sto σ H ∧ m ρ sto = some (r, sto') ∧
  ∀ fz' H', Stp C.sp fz H fz' H' → SpL C.sp H' sto' → Q r H'
abbrev ImRs (K : PySem.W.Frag) (sp : Option Addr) (H : Hp) (fz' : Fz) (H' : Hp) : List V → List R → Prop := Paired (ImR K sp H fz' H')
def rdA (K : PySem.W.Frag) (m : Ma) : TA := fun σ H Q => ∃ (C : Cn) (fz : Fz) (ρ : Ev) (sto : Sto) (r : List R) (sto' : Sto), Fm K C fz ρ sto σ H ∧ m ρ sto = some (r, sto') ∧
  ∀ vs fz' H', Stp C.sp fz H fz' H' → SpL C.sp H' sto' → ImRs K C.sp H fz' H' vs r → Q vs H'
def SE (X : Cx) (e : Expr) (m : Mx) : Prop := PE X e (rdE X.K m)
def SB (X : Cx) (e : Expr) (m : Mt) : Prop := PT X e (rdT X.K m)
/-- a test among and | or -/
def SW (X : Cx) (e : Expr) (m : Mt) : Prop := PW X e (rdT X.K m)
def SA (X : Cx) (es : List Expr) (m : Ma) : Prop := PA X es (rdA X.K m)
theorem PE.imp {X : Cx} {e : Expr} {t t' : TE} (h : PE X e t) (q : ∀ σ H Q, t' σ H Q → t σ H Q) : PE X e t' := ⟨fun pins s σ H Q I w => h.run pins s σ H Q I (q _ _ _ w)⟩
theorem PT.imp {X : Cx} {e : Expr} {t t' : TT} (h : PT X e t) (q : ∀ σ H Q, t' σ H Q → t σ H Q) : PT X e t' := ⟨fun pins s σ H Q I w => h.run pins s σ H Q I (q _ _ _ w)⟩
theorem PW.imp {X : Cx} {e : Expr} {t t' : TT} (h : PW X e t) (q : ∀ σ H Q, t' σ H Q → t σ H Q) : PW X e t' := ⟨fun wh pins s σ H Q I w => h.run wh pins s σ H Q I (q _ _ _ w)⟩
theorem PA.imp {X : Cx} {e : List Expr} {t t' : TA} (h : PA X e t) (q : ∀ σ H Q, t' σ H Q → t σ H Q) : PA X e t' := ⟨fun p pins s σ H Q I w => h.run p pins s σ H Q I (q _ _ _ w)⟩
theorem PS.imp {X : Cx} {e : Stmt} {t t' : TS} (h : PS X e t) (q : ∀ D σ H, t' D σ H → t D σ H) : PS X e t' := ⟨fun pins s σ H D I w => h.run pins s σ H D I (q _ _ _ w)⟩
theorem PSs.imp {X : Cx} {e : List Stmt} {t t' : TS} (h : PSs X e t) (q : ∀ D σ H, t' D σ H → t D σ H) : PSs X e t' := ⟨fun pins s σ H D I w => h.run pins s σ H D I (q _ _ _ w)⟩
def bnd {α β : Type} (a : Ev → Sto → Option (α × Sto)) (f : α → Ev → Sto → Option (β × Sto)) : Ev → Sto → Option (β × Sto) := fun ρ s =>
  match a ρ s with
  | some (x, s1) => f x ρ s1
  | none => none
theorem bnd_some {α β : Type} {a : Ev → Sto → Option (α × Sto)} {f : α → Ev → Sto → Option (β × Sto)} {ρ : Ev} {s : Sto} {y : β} {s2 : Sto} (h : bnd a f ρ s = some (y, s2)) : ∃ x s1, a ρ s = some (x, s1) ∧ f x ρ s1 = some (y, s2) := by
  unfold bnd at h
  split at h
  · rename_i x s1 e
    exact ⟨x, s1, e, h⟩
  · cases h
def ret {α : Type} (x : Option α) : Sto → Option (α × Sto) := fun s => match x with | some y => some (y, s) | none => none
theorem ret_some {α : Type} {x : Option α} {s : Sto} {y : α} {s2 : Sto} (h : ret x s = some (y, s2)) : x = some y ∧ s2 = s := by
  unfold ret at h
  split at h
  · rename_i z
    cases h
    exact ⟨rfl, rfl⟩
  · cases h
/-- one value, then a rule by values -/
def m1 (f : R → Option R) (a : Mx) : Mx := bnd a fun x _ => ret (f x)
def m2 (f : R → R → Option R) (a b : Mx) : Mx := bnd a fun x => bnd b fun y _ => ret (f x y)
def mA (f : List R → Option R) (a : Ma) : Mx := bnd a fun x _ => ret (f x)
/-- by values: from a heap with the spring, the rule's reading r follows from the function f -/
def Ok1 (K : PySem.W.Frag) (r : V → Hp → VK → Prop) (f : R → Option R) : Prop := ∀ (sp : Option Addr) (fz : Fz) (H H0 : Hp) (sto : Sto) (v : V) (x z : R) (Q : VK), Bs sp fz H sto → ImR K sp H0 fz H v x → f x = some z →
  (∀ u fz' H', Stp sp fz H fz' H' → SpL sp H' sto → ImR K sp H fz' H' u z ∨ (x = z ∧ u = v) → Q u H') → r v H Q
def Ok2 (K : PySem.W.Frag) (r : R2) (f : R → R → Option R) : Prop := ∀ (sp : Option Addr) (fz : Fz) (H H0 : Hp) (sto : Sto) (v w : V) (x y z : R) (Q : VK), Bs sp fz H sto → ImR K sp H0 fz H v x → ImR K sp H0 fz H w y → f x y = some z →
  (∀ u fz' H', Stp sp fz H fz' H' → SpL sp H' sto → ImR K sp H fz' H' u z → Q u H') → r v w H Q
def OkA (K : PySem.W.Frag) (r : List V → Hp → VK → Prop) (f : List R → Option R) : Prop := ∀ (sp : Option Addr) (fz fzS : Fz) (H H0 : Hp) (sto : Sto) (vs : List V) (xs : List R) (z : R) (Q : VK), Stp sp fzS H0 fz H → Bs sp fz H sto → ImRs K sp H0 fz H vs xs → f xs = some z →
  (∀ u fz' H', Stp sp fzS H0 fz' H' → SpL sp H' sto → ImR K sp H0 fz' H' u z → Q u H') → r vs H Q
section
variable {K : PySem.W.Frag} {sp : Option Addr} {fz fz1 fz2 : Fz} {H H1 H2 : Hp} {sto : Sto}
theorem ImRs.stp : ∀ {vs : List V} {rs : List R}, ImRs K sp H fz1 H1 vs rs → Stp sp fz1 H1 fz2 H2 → Bs sp fz1 H1 sto → ImRs K sp H fz2 H2 vs rs
  | _, _, .nil, _, _ => .nil
  | _, _, .cons h t, s, B => .cons (h.stp s B) (ImRs.stp t s B)
theorem ImRs.early : ∀ {vs : List V} {rs : List R}, ImRs K sp H1 fz2 H2 vs rs → Stp sp fz H fz1 H1 → ImRs K sp H fz2 H2 vs rs
  | _, _, .nil, _ => .nil
  | _, _, .cons h t, s => .cons (h.early s) (ImRs.early t s)
end
section
variable {X : Cx} {a b : Expr} {ma mb : Mx}
/-- two expressions, then a rule -/
theorem rd_two {K : PySem.W.Frag} {r : R2} {f : R → R → Option R} (hf : Ok2 K r f) {σ : St} {H : Hp} {Q : VK} (h : rdE K (m2 f ma mb) σ H Q) : tOp r (rdE K ma) (rdE K mb) σ H Q := by
  obtain ⟨C, fz, ρ, sto, z, sto', F, e, k⟩ := h
  obtain ⟨x, s1, ea, e⟩ := bnd_some e
  obtain ⟨y, s2, eb, e⟩ := bnd_some e
  obtain ⟨ef, rfl⟩ := ret_some e
  refine ⟨C, fz, ρ, sto, x, s1, F, ea, fun v fz1 H1 st1 l1 i1 => ?_⟩
  refine ⟨C, fz1, ρ, s1, y, sto', F.step st1 l1, eb, fun w fz2 H2 st2 l2 i2 => ?_⟩
  have B1 := F.bs.step st1 l1
  refine hf C.sp fz2 H2 H sto' v w x y z Q (B1.step st2 l2) (i1.stp st2 B1) (i2.early st1) ef fun u fz3 H3 st3 l3 i3 => ?_
  exact k u fz3 H3 ((st1.trans st2).trans st3) l3 (i3.early (st1.trans st2))
theorem rd_one {K : PySem.W.Frag} {r : V → Hp → VK → Prop} {f : R → Option R} (hf : Ok1 K r f) {σ : St} {H : Hp} {Q : VK} (h : rdE K (m1 f ma) σ H Q) : tUn r (rdE K ma) σ H Q := by
  obtain ⟨C, fz, ρ, sto, z, sto', F, e, k⟩ := h
  obtain ⟨x, s1, ea, e⟩ := bnd_some e
  obtain ⟨ef, rfl⟩ := ret_some e
  refine ⟨C, fz, ρ, sto, x, sto', F, ea, fun v fz1 H1 st1 l1 i1 => ?_⟩
  refine hf C.sp fz1 H1 H sto' v x z Q (F.bs.step st1 l1) i1 ef fun u fz3 H3 st3 l3 i3 => ?_
  refine k u fz3 H3 (st1.trans st3) l3 ?_
  rcases i3 with i3 | ⟨rfl, rfl⟩
  · exact i3.early st1
  · exact i1.stp st3 (F.bs.step st1 l1)
theorem rd_args {K : PySem.W.Frag} {r : List V → Hp → VK → Prop} {f : List R → Option R} {m : Ma} (hf : OkA K r f) {σ : St} {H : Hp} {Q : VK} (h : rdE K (mA f m) σ H Q) : tCB r (rdA K m) σ H Q := by
  obtain ⟨C, fz, ρ, sto, z, sto', F, e, k⟩ := h
  obtain ⟨x, s1, ea, e⟩ := bnd_some e
  obtain ⟨ef, rfl⟩ := ret_some e
  refine ⟨C, fz, ρ, sto, x, sto', F, ea, fun v fz1 H1 st1 l1 i1 => ?_⟩
  exact hf C.sp fz1 fz H1 H sto' v x z Q st1 (F.bs.step st1 l1) i1 ef fun u fz3 H3 st3 l3 i3 => k u fz3 H3 st3 l3 i3
end
def maNil : Ma := fun _ s => some ([], s)
def maCons (a : Mx) (r : Ma) : Ma := bnd a fun x => bnd r fun xs _ s => some (x :: xs, s)
section
variable {X : Cx} {e : Expr} {es : List Expr} {me : Mx} {mr : Ma}
theorem sa_nil : SA X [] maNil := PA.imp pa_nil fun σ H Q h => by
  obtain ⟨C, fz, ρ, sto, r, sto', F, e, k⟩ := h
  cases e
  exact k [] fz H .refl F.bs.spl .nil
theorem sa_cons (he : SE X e me) (hr : SA X es mr) (hs : starEach (e :: es) X.env = (false, eval e X.env) :: starEach es X.env := by rfl) : SA X (e :: es) (maCons me mr) := PA.imp (pa_cons he hr hs) fun σ H Q h => by
  obtain ⟨C, fz, ρ, sto, r, sto', F, e, k⟩ := h
  obtain ⟨x, s1, ea, e⟩ := bnd_some e
  obtain ⟨xs, s2, eb, e⟩ := bnd_some e
  cases e
  refine ⟨C, fz, ρ, sto, x, s1, F, ea, fun v fz1 H1 st1 l1 i1 => ?_⟩
  refine ⟨C, fz1, ρ, s1, xs, sto', F.step st1 l1, eb, fun vs fz2 H2 st2 l2 i2 => ?_⟩
  exact k (v :: vs) fz2 H2 (st1.trans st2) l2 (.cons (i1.stp st2 (F.bs.step st1 l1)) (i2.early st1))
end
def rdCl : Cl → R
  | .d x => .d x
  | .o xs => .b xs
  | .s => .s
  | .m acc => .n acc
def mVar (i : Nat) : Mx := fun ρ s => match ρ[i]? with
  | some (some c) => some (rdCl c, s)
  | _ => none
def mKon (x : PyData) : Mx := fun _ s => some (.d x, s)
section
variable {X : Cx}
theorem se_var {i : Nat} {x : Str} {pos : Pos} (hN : X.N[i]? = some x := by rfl) (hv : Vis X.env.scope x := by first | exact Or.inl rfl | exact Or.inr (Or.inl rfl) | exact Or.inr (Or.inr rfl)) (hd : (x == ("__debug__" : Str)) = false := by decide)
    (hcd : (x == ("__classdict__" : Str)) = false := by decide) : SE X (.Name x pos) (mVar i) := PE.imp (pe_var hN hv hd hcd) fun σ H Q h => by
  obtain ⟨C, fz, ρ, sto, r, sto', F, e, k⟩ := h
  unfold mVar at e
  split at e
  · rename_i c hc
    cases e
    have q := F.vars i c hc
    cases c with
    | d x => obtain ⟨v, e, q⟩ := q; exact ⟨v, e, k v fz H .refl F.bs.spl q⟩
    | o xs =>
      obtain ⟨a, vs, e, h1, h2, h3, h4, h5⟩ := q
      exact ⟨_, e, k _ fz H .refl F.bs.spl ⟨a, vs, rfl, h1, h2, h4⟩⟩
    | s => obtain ⟨a, ea, q⟩ := q; exact ⟨_, q, k _ fz H .refl F.bs.spl ⟨a, ea, rfl⟩⟩
    | m acc =>
      obtain ⟨a, vs, e, h1, h2, h3, h4, h5⟩ := q
      exact ⟨_, e, k _ fz H .refl F.bs.spl ⟨a, vs, rfl, h1, h2, h4⟩⟩
  · cases e
theorem rd_kon {K : PySem.W.Frag} {v : V} {x : PyData} (hv : ∀ fz H, Im K fz H v x) {σ : St} {H : Hp} {Q : VK} (h : rdE K (mKon x) σ H Q) : tC v σ H Q := by
  obtain ⟨C, fz, ρ, sto, r, sto', F, e, k⟩ := h
  cases e
  exact k v fz H .refl F.bs.spl (hv _ _)
theorem se_int {i : Int} {j pos} : SE X (.Constant (.int i) j pos) (mKon (.int i)) := PE.imp pe_int fun _ _ _ h => rd_kon (fun _ _ => .int i) h
theorem se_bl {i : Bool} {j pos} : SE X (.Constant (.bool i) j pos) (mKon (.bool i)) := PE.imp pe_bl fun _ _ _ h => rd_kon (fun _ _ => .bl i) h
theorem se_non {j pos} : SE X (.Constant .none j pos) (mKon .none) := PE.imp pe_non fun _ _ _ h => rd_kon (fun _ _ => .non) h
theorem se_str {i : Str} {j pos} : SE X (.Constant (.str i) j pos) (mKon (.str i)) := PE.imp pe_str fun _ _ _ h => rd_kon (fun _ _ => .str i) h
/-- a constant of the text -/
structure GlK (K : PySem.W.Frag) (mg : Str → Option Value) (x : Str) (d : PyData) : Prop where
  ex : ∃ v u, mg x = some u ∧ RelV v u ∧ ∀ fz H, Im K fz H v d
theorem se_glob {x : Str} {d : PyData} {pos : Pos} (hk : GlK X.K X.mg x d) (hg : Gl X x) (hd : (x == ("__debug__" : Str)) = false := by decide) : SE X (.Name x pos) (mKon d) := by
  obtain ⟨v, u, hm, r, q⟩ := hk.ex
  exact PE.imp (pe_glob hg hm r hd) fun _ _ _ h => rd_kon q h
end
end Dh
namespace Dh
open PySem PySem.Spec L2 PyProof.Rows
theorem tuple_mul1 (l : Addr) (items : Array Value) (n : Nat) (dd : Option Addr) (sl : Array (Option Value)) (u : Tok) :
    Meets (Builtin.«tuple.__mul__» ⟨[.ref l, .int 1 u], []⟩) (fun _ R s => s.heap.get? l = some { cls := .type "tuple", dict := dd, data := .seq items n, slots := sl } ∧ R (.ok (.ret (Value.ref l))) s) :=
  .of_wp fun prog w A R s h => by
    obtain ⟨hp, g, d, tk, os⟩ := s
    obtain ⟨hl, h⟩ := h
    have f1 := AutoSeq1.idx_int
    wp_walk using wpAny_loadPart' hl
    exact ⟨_, rfl, h⟩
def rRepT1 (K : PySem.W.Frag) : R2 := fun x y H Q => ∃ l xs, x = .ref l ∧ y = .int 1 ∧ SqT K H l xs ∧ Q (.ref l) H
section
variable {X : Cx}
theorem op_repT1 : OpR X (binaryOp .Mult) (rRepT1 X.K) := by
  intro pins s σ H x y v u Q I rx ry h
  obtain ⟨l, xs, rfl, rfl, hT, q⟩ := h
  cases rx
  obtain ⟨t, rfl⟩ := ry
  obtain ⟨its, r, ⟨⟨cls, dd, data, sl⟩, ho, hc, n, hd⟩, hs⟩ := I.tuple hT
  simp only at hc hd
  subst hc hd
  refine wpAny_binaryOp_repeat_ref (T := "tuple") (U := "int") (by decide) ⟨_, ho, rfl⟩ (fun s' => typeIs_int s' 1 t) noFill_tuple_mul F.fills_int_mul F.slot_int_rmul repeat_tuple F.slot_int_index.lookup
    (call_meets F.slot_int_rmul (typeIs_int s 1 t) F.entry_int_rmul (F.args_int_rmul_2 _ _) (int_rmul_tuple 1 t l its.toArray n dd sl)
      ⟨ho, rfl, ⟨_, ho, rfl⟩, call_meets F.slot_tuple_mul ⟨_, ho, rfl⟩ F.entry_tuple_mul (F.args_tuple_mul_2 _ _) (tuple_mul1 l its.toArray n dd sl t) ⟨ho, ?_⟩⟩)
  exact ⟨.ref l, H, I, rfl, q⟩
end
end Dh
namespace Dh
open PySem PySem.Spec L2
theorem OpR.or {X : Cx} {f : Value → Value → Sem Value} {r r' : R2} (h : OpR X f r) (h' : OpR X f r') : OpR X f (fun x y H Q => r x y H Q ∨ r' x y H Q) := fun pins s σ H x y v u Q I rx ry q => by
  rcases q with q | q
  · exact h pins s σ H x y v u Q I rx ry q
  · exact h' pins s σ H x y v u Q I rx ry q
theorem CallR.or {X : Cx} {f : Value} {r r' : List V → Hp → VK → Prop} (h : CallR X f r) (h' : CallR X f r') : CallR X f (fun x H Q => r x H Q ∨ r' x H Q) := fun pins s σ H x v Q I rx q => by
  rcases q with q | q
  · exact h pins s σ H x v Q I rx q
  · exact h' pins s σ H x v Q I rx q
section
variable {X : Cx} {a b : Expr} {ma mb : Mx} {pos : Pos}
theorem se_op {op : Operator} {r : R2} {f : R → R → Option R} (ho : OpR X (binaryOp op) r) (hf : Ok2 X.K r f) (ha : SE X a ma) (hb : SE X b mb) : SE X (.BinOp a op b pos) (m2 f ma mb) := PE.imp (pe_op ho ha hb) fun _ _ _ h => rd_two hf h
theorem se_un {op : UnaryOp} {r : V → Hp → VK → Prop} {f : R → Option R} (ho : UnR X (unaryOp op) r) (hf : Ok1 X.K r f) (ha : SE X a ma) : SE X (.UnaryOp op a pos) (m1 f ma) := PE.imp (pe_un ho ha) fun _ _ _ h => rd_one hf h
theorem se_cmp {op : CmpOp} {r : R2} {f : R → R → Option R} (ho : OpR X (compareOp op) r) (hf : Ok2 X.K r f) (ha : SE X a ma) (hb : SE X b mb) (hm : behindInMarks op b = false) : SE X (.Compare a [op] [b] pos) (m2 f ma mb) := PE.imp (pe_cmpR ho ha hb hm) fun _ _ _ h => rd_two hf h
/-- the truth of a bool -/
def bT (a : Mx) : Mt := bnd a fun x _ s => match x with | .d (.bool k) => some (k, s) | _ => none
theorem rd_bT {K : PySem.W.Frag} {m : Mx} {σ : L2.St} {H : Hp} {Q : Bool → Hp → Prop} (h : rdT K (bT m) σ H Q) : rdE K m σ H fun x H1 => ∃ c, x = .bl c ∧ Q c H1 := by
  obtain ⟨C, fz, ρ, sto, z, sto', F, e, k⟩ := h
  obtain ⟨x, s1, ea, e⟩ := bnd_some e
  split at e
  · rename_i k'
    cases e
    exact ⟨C, fz, ρ, sto, _, _, F, ea, fun v fz1 H1 st1 l1 i1 => by cases i1; exact ⟨_, rfl, k fz1 H1 st1 l1⟩⟩
  · cases e
theorem sb_val (h : SE X a ma) (he : ∀ whole, isTrue a X.env whole = (do let v ← whole; standAt a.pos; holding [v] (truthy v)) := by intro _; rfl) : SB X a (bT ma) := PT.imp (pt_val h he) fun _ _ _ q => rd_bT q
theorem sb_cmp {op : CmpOp} {r : R2} {f : R → R → Option R} (ho : OpR X (compareOp op) r) (hf : Ok2 X.K r f) (ha : SE X a ma) (hb : SE X b mb) (hm : behindInMarks op b = false) : SB X (.Compare a [op] [b] pos) (bT (m2 f ma mb)) :=
  PT.imp (pt_cmpR ho ha hb hm) fun σ H Q q => rd_two (Q := fun x H' => ∃ k, x = .bl k ∧ Q k H') hf (rd_bT q)
end
def fI (g : Int → Int → Option PyData) : R → R → Option R
  | .d (.int i), .d (.int j) => (g i j).map .d
  | _, _ => none
theorem fI_some {g : Int → Int → Option PyData} {x y z : R} (h : fI g x y = some z) : ∃ i j d, x = .d (.int i) ∧ y = .d (.int j) ∧ g i j = some d ∧ z = .d d := by
  unfold fI at h
  split at h
  · rename_i i j
    cases q : g i j with
    | none => rw [q] at h; cases h
    | some d => rw [q] at h; cases h; exact ⟨i, j, d, rfl, rfl, q, rfl⟩
  · cases h
theorem ok_I {K : PySem.W.Frag} {C : Int → Int → Prop} {gv : Int → Int → V} {g : Int → Int → Option PyData} (hg : ∀ i j d, g i j = some d → C i j ∧ ∀ fz H, Im K fz H (gv i j) d) : Ok2 K (rI C gv) (fI g) := by
  intro sp fz H H0 sto v w x y z Q B ix iy e k
  obtain ⟨i, j, d, rfl, rfl, q, rfl⟩ := fI_some e
  cases ix
  cases iy
  obtain ⟨c, im⟩ := hg i j d q
  exact ⟨i, j, rfl, rfl, c, k _ fz H .refl B.spl (im _ _)⟩
theorem ok_I0 {K : PySem.W.Frag} {gv : Int → Int → V} {g : Int → Int → Option PyData} (hg : ∀ i j d, g i j = some d → ∀ fz H, Im K fz H (gv i j) d) : Ok2 K (rI0 gv) (fI g) := by
  intro sp fz H H0 sto v w x y z Q B ix iy e k
  obtain ⟨i, j, d, rfl, rfl, q, rfl⟩ := fI_some e
  cases ix
  cases iy
  exact ⟨i, j, rfl, rfl, k _ fz H .refl B.spl (hg i j d q _ _)⟩
def gMns (i j : Int) : Option PyData := some (.int (i - j))
def gLt (i j : Int) : Option PyData := some (.bool (decide (i < j)))
def gLe (i j : Int) : Option PyData := some (.bool (decide (i ≤ j)))
def gGt (i j : Int) : Option PyData := some (.bool (decide (j < i)))
def gGe (i j : Int) : Option PyData := some (.bool (decide (j ≤ i)))
def gFdiv (i j : Int) : Option PyData := if j ≠ 0 ∧ Builtin.divisionGoesByPylong i j = false then some (.int (i.fdiv j)) else none
def gMod (i j : Int) : Option PyData := if j ≠ 0 then some (.int (i.fmod j)) else none
def gPow (i j : Int) : Option PyData := if 0 ≤ j ∧ j ≤ 1000000 ∧ i.natAbs < 2 ^ 64 then some (.int (i ^ j.toNat)) else none
/-- two factors of together at most 2^27 bits -/
def mulOk (i j : Int) : Bool := Nat.ble (Builtin.Int.intBits i + Builtin.Int.intBits j) 134217728
def CFdivP (i j : Int) : Prop := j ≠ 0 ∧ Builtin.divisionGoesByPylong i j = false
section
variable {X : Cx} {a b : Expr} {ma mb : Mx} {pos : Pos}
theorem op_fdivP : OpR X (binaryOp .FloorDiv) (rI CFdivP fun i j => .int (i.fdiv j)) := opI fun _ _ _ _ _ _ _ hc q => PyProof.Rows.floordiv_int hc.1 q (.inl hc.2)
theorem se_sub (ha : SE X a ma) (hb : SE X b mb) : SE X (.BinOp a .Sub b pos) (m2 (fI gMns) ma mb) := se_op op_sub (ok_I0 fun i j d e _ _ => by cases e; exact .int _) ha hb
theorem se_fdiv (ha : SE X a ma) (hb : SE X b mb) : SE X (.BinOp a .FloorDiv b pos) (m2 (fI gFdiv) ma mb) := se_op op_fdivP (ok_I fun i j d e => by
  unfold gFdiv at e
  split at e
  · rename_i c; cases e; exact ⟨c, fun _ _ => .int _⟩
  · cases e) ha hb
theorem se_mod (ha : SE X a ma) (hb : SE X b mb) : SE X (.BinOp a .Mod b pos) (m2 (fI gMod) ma mb) := se_op op_modN (ok_I fun i j d e => by
  unfold gMod at e
  split at e
  · rename_i c; cases e; exact ⟨c, fun _ _ => .int _⟩
  · cases e) ha hb
theorem se_pow (ha : SE X a ma) (hb : SE X b mb) : SE X (.BinOp a .Pow b pos) (m2 (fI gPow) ma mb) := se_op op_pow (ok_I fun i j d e => by
  unfold gPow at e
  split at e
  · rename_i c; cases e; exact ⟨c, fun _ _ => .int _⟩
  · cases e) ha hb
theorem ok_lt {K : PySem.W.Frag} : Ok2 K (rI0 fun i j => .bl (decide (i < j))) (fI gLt) := ok_I0 fun i j d e _ _ => by cases e; exact .bl _
theorem ok_le {K : PySem.W.Frag} : Ok2 K (rI0 fun i j => .bl (decide (i ≤ j))) (fI gLe) := ok_I0 fun i j d e _ _ => by cases e; exact .bl _
theorem ok_gt {K : PySem.W.Frag} : Ok2 K (rI0 fun i j => .bl (decide (j < i))) (fI gGt) := ok_I0 fun i j d e _ _ => by cases e; exact .bl _
theorem ok_ge {K : PySem.W.Frag} : Ok2 K (rI0 fun i j => .bl (decide (j ≤ i))) (fI gGe) := ok_I0 fun i j d e _ _ => by cases e; exact .bl _
theorem se_lt (ha : SE X a ma) (hb : SE X b mb) : SE X (.Compare a [.Lt] [b] pos) (m2 (fI gLt) ma mb) := se_cmp op_lt ok_lt ha hb (nomark _)
theorem se_gt (ha : SE X a ma) (hb : SE X b mb) : SE X (.Compare a [.Gt] [b] pos) (m2 (fI gGt) ma mb) := se_cmp op_gt ok_gt ha hb (nomark _)
theorem se_ge (ha : SE X a ma) (hb : SE X b mb) : SE X (.Compare a [.GtE] [b] pos) (m2 (fI gGe) ma mb) := se_cmp op_ge ok_ge ha hb (nomark _)
theorem sb_lt (ha : SE X a ma) (hb : SE X b mb) : SB X (.Compare a [.Lt] [b] pos) (bT (m2 (fI gLt) ma mb)) := sb_cmp op_lt ok_lt ha hb (nomark _)
theorem sb_gt (ha : SE X a ma) (hb : SE X b mb) : SB X (.Compare a [.Gt] [b] pos) (bT (m2 (fI gGt) ma mb)) := sb_cmp op_gt ok_gt ha hb (nomark _)
theorem sb_ge (ha : SE X a ma) (hb : SE X b mb) : SB X (.Compare a [.GtE] [b] pos) (bT (m2 (fI gGe) ma mb)) := sb_cmp op_ge ok_ge ha hb (nomark _)
def fNeg : R → Option R
  | .d (.int i) => some (.d (.int (-i)))
  | _ => none
theorem se_neg (ha : SE X a ma) : SE X (.UnaryOp .USub a pos) (m1 fNeg ma) := se_un un_neg (by
  intro sp fz H H0 sto v x z Q B ix e k
  unfold fNeg at e
  split at e
  · cases e
    cases ix
    exact ⟨_, rfl, k _ fz H .refl B.spl (.inl (.int _))⟩
  · cases e) ha
end
/-- a list that is looked at -/
def rdL : R → Option (List PyData)
  | .d (.list xs) => some xs
  | .f xs => some xs
  | .b xs => some xs
  | _ => none
/-- where it stands -/
theorem ImR.list {K : PySem.W.Frag} {sp : Option Addr} {fz : Fz} {H H0 : Hp} {v : V} {x : R} {xs : List PyData} (i : ImR K sp H0 fz H v x) (e : rdL x = some xs) : ∃ a vs, v = .ref a ∧ SqL K H a vs ∧ ImA K fz H vs xs := by
  unfold rdL at e
  split at e
  · cases e
    cases i with
    | lst h a => exact ⟨_, _, rfl, h.sq, a⟩
  · cases e
    obtain ⟨a, vs, e, h1, h2, _⟩ := i
    exact ⟨a, vs, e, .inl (.inl h1), h2⟩
  · cases e
    obtain ⟨a, vs, e, h1, h2, _⟩ := i
    exact ⟨a, vs, e, .inl (.inl h1), h2⟩
  · cases e
def rdQ : R → Option (List PyData)
  | .d (.tuple xs) => some xs
  | r => rdL r
theorem ImR.seq {K : PySem.W.Frag} {sp : Option Addr} {fz : Fz} {H H0 : Hp} {v : V} {x : R} {xs : List PyData} (i : ImR K sp H0 fz H v x) (e : rdQ x = some xs) : ∃ a vs, v = .ref a ∧ (SqL K H a vs ∨ SqT K H a vs) ∧ ImA K fz H vs xs := by
  unfold rdQ at e
  split at e
  · cases e
    cases i with
    | tup h a => exact ⟨_, _, rfl, .inr h.sq, a⟩
  · obtain ⟨a, vs, e1, h1, h2⟩ := i.list e
    exact ⟨a, vs, e1, .inl h1, h2⟩
theorem ImR.tup {K : PySem.W.Frag} {sp : Option Addr} {fz : Fz} {H H0 : Hp} {v : V} {xs : List PyData} (i : ImR K sp H0 fz H v (.d (.tuple xs))) : ∃ a vs, v = .ref a ∧ SqT K H a vs ∧ ImA K fz H vs xs := by
  cases i with
  | tup h a => exact ⟨_, _, rfl, h.sq, a⟩
theorem ImR.tupF {K : PySem.W.Frag} {sp : Option Addr} {fz : Fz} {H H0 : Hp} {v : V} {xs : List PyData} (i : ImR K sp H0 fz H v (.d (.tuple xs))) : ∃ a vs, v = .ref a ∧ FzT K H a vs ∧ ImA K fz H vs xs := by
  cases i with
  | tup h a => exact ⟨_, _, rfl, h, a⟩
/-- a new tuple of data -/
theorem new_tup {K : PySem.W.Frag} {sp : Option Addr} {fz : Fz} {H : Hp} {sto : Sto} {p : Addr} {vs : List V} {xs : List PyData} {o : Obj} (B : Bs sp fz H sto) (a : ImA K fz H vs xs) (hp : H p = none) (hd : o.dict = none) :
    Stp sp fz H fz (upd H p (.frz o (.tup vs))) ∧ SpL sp (upd H p (.frz o (.tup vs))) sto ∧ Im K fz (upd H p (.frz o (.tup vs))) (.ref p) (.tuple xs) := by
  have s : Stp sp fz H fz (upd H p (.frz o (.tup vs))) := .laid hp
  have e : some p ≠ sp := B.spl.ne hp (by intro z; cases z)
  exact ⟨s, B.spl.upd e, .tup (.inl ⟨o, upd_same, hd⟩) (a.stp s B)⟩
/-- a new list of data -/
theorem new_lst {K : PySem.W.Frag} {sp : Option Addr} {fz : Fz} {H : Hp} {sto : Sto} {p : Addr} {vs : List V} {xs : List PyData} (B : Bs sp fz H sto) (a : ImA K fz H vs xs) (hp : H p = none) :
    Stp sp fz H fz (upd H p (.lst vs)) ∧ SpL sp (upd H p (.lst vs)) sto ∧ ImR K sp H fz (upd H p (.lst vs)) (.ref p) (.f xs) := by
  have s : Stp sp fz H fz (upd H p (.lst vs)) := .laid hp
  have e : some p ≠ sp := B.spl.ne hp (by intro z; cases z)
  exact ⟨s, B.spl.upd e, ⟨p, vs, rfl, upd_same, a.stp s B, fun q => B.trk p q hp, e, hp⟩⟩
def fAdd : R → R → Option R
  | .d (.int i), .d (.int j) => some (.d (.int (i + j)))
  | .d (.str x), .d (.str y) => if x.length + y.length ≤ sizeLine then some (.d (.str (x ++ y))) else none
  | .d (.tuple xs), .d (.tuple ys) => if xs.length + ys.length ≤ sizeLine then some (.d (.tuple (xs ++ ys))) else none
  | .f xs, .f ys => if xs.length + ys.length ≤ sizeLine then some (.f (xs ++ ys)) else none
  | .f xs, .b ys => if xs.length + ys.length ≤ sizeLine then some (.f (xs ++ ys)) else none
  | .b xs, .f ys => if xs.length + ys.length ≤ sizeLine then some (.f (xs ++ ys)) else none
  | .b xs, .b ys => if xs.length + ys.length ≤ sizeLine then some (.f (xs ++ ys)) else none
  | _, _ => none
def rAdd (K : PySem.W.Frag) : R2 := fun x y H Q => rI0 (fun i j => .int (i + j)) x y H Q ∨ (∃ i j, x = .str i ∧ y = .str j ∧ i.length + j.length ≤ sizeLine ∧ Q (.str (i ++ j)) H) ∨ rCatS K x y H Q ∨ rCat x y H Q
/-- a tracked list (own, or just made) -/
def trL : R → Option (List PyData)
  | .f xs => some xs
  | .b xs => some xs
  | _ => none
theorem ImR.trk {K : PySem.W.Frag} {sp : Option Addr} {fz : Fz} {H H0 : Hp} {v : V} {x : R} {xs : List PyData} (i : ImR K sp H0 fz H v x) (e : trL x = some xs) : ∃ a vs, v = .ref a ∧ H a = some (.lst vs) ∧ ImA K fz H vs xs := by
  unfold trL at e
  split at e
  · cases e
    obtain ⟨a, vs, e, h1, h2, _⟩ := i
    exact ⟨a, vs, e, h1, h2⟩
  · cases e
    obtain ⟨a, vs, e, h1, h2, _⟩ := i
    exact ⟨a, vs, e, h1, h2⟩
  · cases e
theorem ok_cat {K : PySem.W.Frag} {sp : Option Addr} {fz : Fz} {H H0 : Hp} {sto : Sto} {v w : V} {x y : R} {xs ys : List PyData} {Q : VK} (B : Bs sp fz H sto) (ix : ImR K sp H0 fz H v x) (iy : ImR K sp H0 fz H w y) (ex : trL x = some xs) (ey : trL y = some ys) (hz : xs.length + ys.length ≤ sizeLine)
    (k : ∀ u fz' H', Stp sp fz H fz' H' → SpL sp H' sto → ImR K sp H fz' H' u (.f (xs ++ ys)) → Q u H') : rCat v w H Q := by
  obtain ⟨a, vs, rfl, h1, h2⟩ := ix.trk ex
  obtain ⟨b, ws, rfl, h3, h4⟩ := iy.trk ey
  refine ⟨a, b, vs, ws, rfl, rfl, h1, h3, by rw [h2.length, h4.length]; exact hz, fun p hp => ?_⟩
  obtain ⟨s, l, i⟩ := new_lst B (h2.append h4) hp
  exact k _ fz _ s l i
theorem ok_add {K : PySem.W.Frag} : Ok2 K (rAdd K) fAdd := by
  intro sp fz H H0 sto v w x y z Q B ix iy e k
  unfold fAdd at e
  split at e
  · cases e; cases ix; cases iy
    exact .inl ⟨_, _, rfl, rfl, k _ fz H .refl B.spl (.int _)⟩
  · split at e
    · rename_i hz
      cases e; cases ix; cases iy
      exact .inr (.inl ⟨_, _, rfl, rfl, hz, k _ fz H .refl B.spl (.str _)⟩)
    · cases e
  · split at e
    · rename_i xs ys hz
      cases e
      obtain ⟨a, vs, rfl, h1, h2⟩ := ix.tupF
      obtain ⟨b, ws, rfl, h3, h4⟩ := iy.tupF
      refine .inr (.inr (.inl ⟨a, b, vs, ws, rfl, rfl, h1.sq, h3.sq, by rw [h2.length, h4.length]; exact hz, fun q => ?_, fun _ q => ?_, fun _ _ p o hp ho => ?_⟩))
      · subst q
        have q2 : xs = [] := List.length_eq_zero_iff.mp h2.length.symm
        subst q2
        exact k _ fz H .refl B.spl (show Im K fz H _ _ from .tup h3 h4)
      · subst q
        have q2 : ys = [] := List.length_eq_zero_iff.mp h4.length.symm
        subst q2
        exact k _ fz H .refl B.spl (show Im K fz H _ _ from .tup h1 (by rw [List.append_nil]; exact h2))
      · obtain ⟨s, l, i⟩ := new_tup B (h2.append h4) hp ho
        exact k _ fz _ s l i
    · cases e
  · split at e
    · rename_i hz; cases e
      exact .inr (.inr (.inr (ok_cat B ix iy rfl rfl hz k)))
    · cases e
  · split at e
    · rename_i hz; cases e
      exact .inr (.inr (.inr (ok_cat B ix iy rfl rfl hz k)))
    · cases e
  · split at e
    · rename_i hz; cases e
      exact .inr (.inr (.inr (ok_cat B ix iy rfl rfl hz k)))
    · cases e
  · split at e
    · rename_i hz; cases e
      exact .inr (.inr (.inr (ok_cat B ix iy rfl rfl hz k)))
    · cases e
  · cases e
section
variable {X : Cx} {a b : Expr} {ma mb : Mx} {pos : Pos}
theorem se_add (ha : SE X a ma) (hb : SE X b mb) : SE X (.BinOp a .Add b pos) (m2 fAdd ma mb) := se_op (op_add.or (op_add_str.or (op_catS.or op_cat))) ok_add ha hb
end
def fMul : R → R → Option R
  | .d (.int i), .d (.int j) => if mulOk i j = true then some (.d (.int (i * j))) else none
  | .d (.tuple xs), .d (.int k) => if k = 1 then some (.d (.tuple xs)) else if xs ≠ [] ∧ 2 ≤ k ∧ k ≤ 1000 ∧ xs.length ≤ 1000 then some (.d (.tuple (List.replicate k.toNat xs).flatten)) else none
  | .f xs, .d (.int k) => if 0 ≤ k ∧ k < 2 ^ 63 ∧ xs.length * k.toNat ≤ sizeLine then some (.f (List.replicate k.toNat xs).flatten) else none
  | .b xs, .d (.int k) => if 0 ≤ k ∧ k < 2 ^ 63 ∧ xs.length * k.toNat ≤ sizeLine then some (.f (List.replicate k.toNat xs).flatten) else none
  | _, _ => none
theorem ImA.rep {K : PySem.W.Frag} {fz : Fz} {H : Hp} {vs : List V} {xs : List PyData} (h : ImA K fz H vs xs) : ∀ n : Nat, ImA K fz H (List.replicate n vs).flatten (List.replicate n xs).flatten
  | 0 => by simpa using ImA.nil
  | n + 1 => by
    rw [List.replicate_succ, List.replicate_succ, List.flatten_cons, List.flatten_cons]
    exact h.append (h.rep n)
theorem ok_rep {K : PySem.W.Frag} {sp : Option Addr} {fz : Fz} {H H0 : Hp} {sto : Sto} {v : V} {x : R} {xs : List PyData} {j : Int} {Q : VK} (B : Bs sp fz H sto) (ix : ImR K sp H0 fz H v x) (ex : trL x = some xs) (hz : 0 ≤ j ∧ j < 2 ^ 63 ∧ xs.length * j.toNat ≤ sizeLine)
    (k : ∀ u fz' H', Stp sp fz H fz' H' → SpL sp H' sto → ImR K sp H fz' H' u (.f (List.replicate j.toNat xs).flatten) → Q u H') : rRep v (.int j) H Q := by
  obtain ⟨a, vs, rfl, h1, h2⟩ := ix.trk ex
  refine ⟨a, j, vs, rfl, rfl, h1, by omega, hz.2.1, by rw [h2.length]; exact hz.2.2, fun p hp => ?_⟩
  obtain ⟨s, l, i⟩ := new_lst B (h2.rep j.toNat) hp
  exact k _ fz _ s l i
theorem ok_mul {K : PySem.W.Frag} : Ok2 K (fun x y H Q => rI CMulX (fun i j => .int (i * j)) x y H Q ∨ rRepS K x y H Q ∨ rRepT1 K x y H Q ∨ rRep x y H Q) fMul := by
  intro sp fz H H0 sto v w x y z Q B ix iy e k
  unfold fMul at e
  split at e
  · split at e
    · rename_i hz; cases e; cases ix; cases iy
      exact .inl ⟨_, _, rfl, rfl, (by unfold CMulX; have := Nat.le_of_ble_eq_true hz; omega), k _ fz H .refl B.spl (.int _)⟩
    · cases e
  · split at e
    · rename_i xs j hk
      subst hk
      cases e; cases iy
      obtain ⟨a, vs, rfl, h1, h2⟩ := ix.tupF
      exact .inr (.inr (.inl ⟨a, vs, rfl, rfl, h1.sq, k _ fz H .refl B.spl (show Im K fz H _ _ from .tup h1 h2)⟩))
    · split at e
      · rename_i xs j _ hz
        cases e; cases iy
        obtain ⟨a, vs, rfl, h1, h2⟩ := ix.tup
        refine .inr (.inl ⟨a, j, vs, rfl, rfl, h1, fun q => ?_, hz.2.1, hz.2.2.1, by rw [h2.length]; exact hz.2.2.2, fun p o hp ho => ?_⟩)
        · subst q; exact hz.1 (List.length_eq_zero_iff.mp h2.length.symm)
        · obtain ⟨s, l, i⟩ := new_tup B (h2.rep j.toNat) hp ho
          exact k _ fz _ s l i
      · cases e
  · split at e
    · rename_i hz; cases e; cases iy
      exact .inr (.inr (.inr (ok_rep B ix rfl hz k)))
    · cases e
  · split at e
    · rename_i hz; cases e; cases iy
      exact .inr (.inr (.inr (ok_rep B ix rfl hz k)))
    · cases e
  · cases e
section
variable {X : Cx} {a b : Expr} {ma mb : Mx} {pos : Pos}
theorem se_mul (ha : SE X a ma) (hb : SE X b mb) : SE X (.BinOp a .Mult b pos) (m2 fMul ma mb) := se_op (op_mulX.or (op_repS.or (op_repT1.or op_rep))) ok_mul ha hb
end
section
variable {X : Cx} {pins : List (Addr × Obj)} {σ : L2.St} {H : Hp} {s : Shared} {fz : Fz}
mutual
def noDict : PyData → Bool
  | .list xs => noDicts xs
  | .tuple xs => noDicts xs
  | .dict _ => false
  | _ => true
def noDicts : List PyData → Bool
  | [] => true
  | x :: xs => noDict x && noDicts xs
end
mutual
theorem Im.dp : ∀ {v : V} {d : PyData}, Im X.K fz H v d → noDict d = true → Dp X.K H v d
  | _, _, .non, _ => .non
  | _, _, .bl b, _ => .bl b
  | _, _, .int i, _ => .int i
  | _, _, .str x, _ => .str x
  | _, _, .lst h a, q => .lst h.sq (ImA.dp a (by simpa [noDict] using q))
  | _, _, .tup h a, q => .tup h.sq (ImA.dp a (by simpa [noDict] using q))
  | _, _, .dct _ _ _ _, q => by simp [noDict] at q
theorem ImA.dp : ∀ {v : List V} {d : List PyData}, ImA X.K fz H v d → noDicts d = true → DpAll X.K H v d
  | _, _, .nil, _ => .nil
  | _, _, .cons h t, q => by
    simp only [noDicts, Bool.and_eq_true] at q
    exact .cons (Im.dp h q.1) (ImA.dp t q.2)
end
/-- any datum that is looked at -/
def rdD : R → Option PyData
  | .d x => some x
  | .f xs => some (.list xs)
  | .b xs => some (.list xs)
  | _ => none
theorem ImR.dp {sp : Option Addr} {H0 : Hp} {v : V} {x : R} {d : PyData} (i : ImR X.K sp H0 fz H v x) (e : rdD x = some d) (hn : noDict d = true) : Dp X.K H v d := by
  cases x with
  | d x => cases e; exact Im.dp i hn
  | f xs =>
    cases e
    obtain ⟨a, vs, rfl, h1, h2, _⟩ := i
    exact .lst (.inl (.inl h1)) (ImA.dp h2 (by simpa [noDict] using hn))
  | b xs =>
    cases e
    obtain ⟨a, vs, rfl, h1, h2, _⟩ := i
    exact .lst (.inl (.inl h1)) (ImA.dp h2 (by simpa [noDict] using hn))
  | s => cases e
  | m _ => cases e
  | n _ => cases e
end
/-- data that == may be asked of here -/
def eqOk (d : PyData) : Bool := noDict d && SeqAt.shaped d
def fEqD (neg : Bool) : R → R → Option R := fun x y => match rdD x, rdD y with
  | some d, some e => if eqOk d = true ∧ eqOk e = true then some (.d (.bool (if neg then !PyData.eqv d e else PyData.eqv d e))) else none
  | _, _ => none
def strOf : R → Option Str
  | .d (.str x) => some x
  | _ => none
/-- ==; of any two texts, or of two data without a dict that are not too deep -/
def fEq (neg : Bool) : R → R → Option R := fun x y => match strOf x, strOf y with
  | some a, some b => some (.d (.bool (if neg then !(a == b) else a == b)))
  | _, _ => fEqD neg x y
section
variable {X : Cx} {a b : Expr} {ma mb : Mx} {pos : Pos}
theorem strOf_some {x : R} {a : Str} (h : strOf x = some a) : x = .d (.str a) := by
  unfold strOf at h
  split at h
  · cases h; rfl
  · cases h
theorem fEq_some {neg : Bool} {x y z : R} (h : fEqD neg x y = some z) : ∃ d e, rdD x = some d ∧ rdD y = some e ∧ noDict d = true ∧ noDict e = true ∧ SeqAt.shaped d = true ∧ SeqAt.shaped e = true ∧ z = .d (.bool (if neg then !PyData.eqv d e else PyData.eqv d e)) := by
  unfold fEqD at h
  split at h
  · rename_i d e h1 h2
    split at h
    · rename_i hz
      cases h
      simp only [eqOk, Bool.and_eq_true] at hz
      exact ⟨d, e, h1, h2, hz.1.1, hz.2.1, hz.1.2, hz.2.2, rfl⟩
    · cases h
  · cases h
theorem ok_eq : Ok2 X.K (fun x y H Q => rEq x y H Q ∨ rEqD X.K x y H Q) (fEq false) := by
  intro sp fz H H0 sto v w x y z Q B ix iy h k
  unfold fEq at h
  split at h
  · rename_i a b ea eb
    cases strOf_some ea
    cases strOf_some eb
    cases h
    cases ix
    cases iy
    exact .inl ⟨rfl, k _ fz H .refl B.spl (by rw [dec_str]; exact .bl _)⟩
  · obtain ⟨d, e, h1, h2, n1, n2, s1, s2, rfl⟩ := fEq_some h
    exact .inr ⟨d, e, ix.dp h1 n1, iy.dp h2 n2, s1, s2, k _ fz H .refl B.spl (.bl _)⟩
theorem ok_ne : Ok2 X.K (fun x y H Q => rNe x y H Q ∨ rNeD X.K x y H Q) (fEq true) := by
  intro sp fz H H0 sto v w x y z Q B ix iy h k
  unfold fEq at h
  split at h
  · rename_i a b ea eb
    cases strOf_some ea
    cases strOf_some eb
    cases h
    cases ix
    cases iy
    exact .inl ⟨rfl, k _ fz H .refl B.spl (by rw [dec_str]; exact .bl _)⟩
  · obtain ⟨d, e, h1, h2, n1, n2, s1, s2, rfl⟩ := fEq_some h
    exact .inr ⟨d, e, ix.dp h1 n1, iy.dp h2 n2, s1, s2, k _ fz H .refl B.spl (.bl _)⟩
theorem se_eq {k : Nat} (hr : Room k X.A) (ha : SE X a ma) (hb : SE X b mb) : SE X (.Compare a [.Eq] [b] pos) (m2 (fEq false) ma mb) := se_cmp (op_eq.or (op_eqD hr.units)) ok_eq ha hb (nomark _)
theorem sb_eq {k : Nat} (hr : Room k X.A) (ha : SE X a ma) (hb : SE X b mb) : SB X (.Compare a [.Eq] [b] pos) (bT (m2 (fEq false) ma mb)) := sb_cmp (op_eq.or (op_eqD hr.units)) ok_eq ha hb (nomark _)
theorem sb_ne {k : Nat} (hr : Room k X.A) (ha : SE X a ma) (hb : SE X b mb) : SB X (.Compare a [.NotEq] [b] pos) (bT (m2 (fEq true) ma mb)) := sb_cmp (op_ne.or (op_neD hr.units)) ok_ne ha hb (nomark _)
end
/-- two comparisons of ints -/
def mChain (g1 g2 : Int → Int → Option PyData) (a b c : Mx) : Mx := bnd a fun x => bnd b fun y => bnd (fun _ => ret (fI g1 x y)) fun z => match z with
  | .d (.bool true) => bnd c fun w _ => ret (fI g2 y w)
  | .d (.bool false) => fun _ s => some (.d (.bool false), s)
  | _ => fun _ _ => none
theorem rd_chain {K : PySem.W.Frag} {r r' : R2} {g1 g2 : Int → Int → Option PyData} (h1 : Ok2 K r (fI g1)) (h2 : Ok2 K r' (fI g2)) {ma mb mc : Mx} {σ : L2.St} {H : Hp} {Q : VK} (h : rdE K (mChain g1 g2 ma mb mc) σ H Q) :
    tChain r r' (rdE K ma) (rdE K mb) (rdE K mc) σ H Q := by
  obtain ⟨C, fz, ρ, sto, z, sto', F, e, k⟩ := h
  obtain ⟨x, s1, ea, e1⟩ := bnd_some e
  obtain ⟨y, s2, eb, e2⟩ := bnd_some e1
  obtain ⟨z1, s3, ec, e3⟩ := bnd_some e2
  clear e e1 e2
  obtain ⟨ef, rfl⟩ := ret_some ec
  refine ⟨C, fz, ρ, sto, x, s1, F, ea, fun v fz1 H1 st1 l1 i1 => ?_⟩
  refine ⟨C, fz1, ρ, s1, y, s3, F.step st1 l1, eb, fun w fz2 H2 st2 l2 i2 => ?_⟩
  have B1 := F.bs.step st1 l1
  have B2 := B1.step st2 l2
  refine h1 C.sp fz2 H2 H s3 v w x y z1 _ B2 (i1.stp st2 B1) (i2.early st1) ef fun u fz3 H3 st3 l3 i3 => ?_
  have B3 := B2.step st3 l3
  split at e3
  · cases i3
    obtain ⟨y', s4, ed, e4⟩ := bnd_some e3
    obtain ⟨eg, rfl⟩ := ret_some e4
    refine ⟨true, rfl, ?_⟩
    refine ⟨C, fz3, ρ, s3, y', sto', ((F.step st1 l1).step st2 l2).step st3 l3, ed, fun w' fz4 H4 st4 l4 i4 => ?_⟩
    have B4 := B3.step st4 l4
    refine h2 C.sp fz4 H4 H sto' w w' y y' z _ B4 ((i2.early st1).stp (st3.trans st4) B2) (i4.early ((st1.trans st2).trans st3)) eg fun u fz5 H5 st5 l5 i5 => ?_
    exact k u fz5 H5 ((((st1.trans st2).trans st3).trans st4).trans st5) l5 (i5.early (((st1.trans st2).trans st3).trans st4))
  · cases i3
    cases e3
    exact ⟨false, rfl, k _ fz3 H3 ((st1.trans st2).trans st3) l3 (.bl _)⟩
  · cases e3
section
variable {X : Cx} {a b c : Expr} {ma mb mc : Mx} {pos : Pos}
theorem se_lelt (ha : SE X a ma) (hb : SE X b mb) (hc : SE X c mc) (hm : lastMarks [.LtE, .Lt] [b, c] = false := by rfl) : SE X (.Compare a [.LtE, .Lt] [b, c] pos) (mChain gLe gLt ma mb mc) := PE.imp (pe_chain op_le op_lt ha hb hc hm) fun _ _ _ h => rd_chain ok_le ok_lt h
theorem se_lele (ha : SE X a ma) (hb : SE X b mb) (hc : SE X c mc) (hm : lastMarks [.LtE, .LtE] [b, c] = false := by rfl) : SE X (.Compare a [.LtE, .LtE] [b, c] pos) (mChain gLe gLe ma mb mc) := PE.imp (pe_chain op_le op_le ha hb hc hm) fun _ _ _ h => rd_chain ok_le ok_le h
theorem sb_lele (ha : SE X a ma) (hb : SE X b mb) (hc : SE X c mc) (hm : lastMarks [.LtE, .LtE] [b, c] = false := by rfl) : SB X (.Compare a [.LtE, .LtE] [b, c] pos) (bT (mChain gLe gLe ma mb mc)) := PT.imp (pt_chain op_le op_le ha hb hc hm) fun σ H Q h => rd_chain (Q := fun x H' => ∃ k, x = .bl k ∧ Q k H') ok_le ok_le (rd_bT h)
end
end Dh
namespace Dh
open PySem PySem.Spec L2
def mAnd (a b : Mx) : Mx := bnd a fun x => match x with
  | .d (.bool true) => b
  | .d (.bool false) => fun _ s => some (.d (.bool false), s)
  | _ => fun _ _ => none
def mOr (a b : Mx) : Mx := bnd a fun x => match x with
  | .d (.bool false) => b
  | .d (.bool true) => fun _ s => some (.d (.bool true), s)
  | _ => fun _ _ => none
def fNot : R → Option R
  | .d (.bool k) => some (.d (.bool (!k)))
  | _ => none
def tAnd2 (a b : Mt) : Mt := bnd a fun x => match x with
  | true => b
  | false => fun _ s => some (false, s)
def tOr2 (a b : Mt) : Mt := bnd a fun x => match x with
  | false => b
  | true => fun _ s => some (true, s)
def tNot2 (a : Mt) : Mt := bnd a fun x _ s => some (!x, s)
def mIf (c : Mt) (a b : Mx) : Mx := bnd c fun x => match x with
  | true => a
  | false => b
section
variable {X : Cx} {a b c : Expr} {rest : List Expr} {ma mb : Mx} {ta tb tc : Mt} {pos : Pos}
theorem rd_and {K : PySem.W.Frag} {σ : L2.St} {H : Hp} {Q : VK} (h : rdE K (mAnd ma mb) σ H Q) : tAndV (rdE K ma) (rdE K mb) σ H Q := by
  obtain ⟨C, fz, ρ, sto, z, sto', F, e, k⟩ := h
  obtain ⟨x, s1, ea, e1⟩ := bnd_some e
  clear e
  refine ⟨C, fz, ρ, sto, x, s1, F, ea, fun v fz1 H1 st1 l1 i1 => ?_⟩
  split at e1
  · cases i1
    refine ⟨true, rfl, ?_⟩
    rw [if_pos rfl]
    exact ⟨C, fz1, ρ, s1, z, sto', F.step st1 l1, e1, fun u fz2 H2 st2 l2 i2 => k u fz2 H2 (st1.trans st2) l2 (i2.early st1)⟩
  · cases i1
    cases e1
    refine ⟨false, rfl, ?_⟩
    rw [if_neg Bool.false_ne_true]
    exact k _ fz1 H1 st1 l1 (.bl _)
  · cases e1
theorem se_one {op : BoolOp} (ha : SE X a ma) : SE X (.BoolOp op [a] pos) ma := pe_one ha
theorem se_and (ha : SE X a ma) (hb : SE X (.BoolOp .And (b :: rest) pos) mb) : SE X (.BoolOp .And (a :: b :: rest) pos) (mAnd ma mb) := PE.imp (pe_and ha hb) fun _ _ _ h => rd_and h
theorem rd_not {K : PySem.W.Frag} {σ : L2.St} {H : Hp} {Q : VK} (h : rdE K (m1 fNot ma) σ H Q) : tNotV (rdE K ma) σ H Q := by
  refine rd_one (r := fun x H Q => ∃ c, x = .bl c ∧ Q (.bl (!c)) H) ?_ h
  intro sp fz H H0 sto v x z Q B ix e k
  unfold fNot at e
  split at e
  · cases e
    cases ix
    exact ⟨_, rfl, k _ fz H .refl B.spl (.inl (.bl _))⟩
  · cases e
theorem se_not (ha : SE X a ma) : SE X (.UnaryOp .Not a pos) (m1 fNot ma) := PE.imp (pe_not ha) fun _ _ _ h => rd_not h
theorem rt_and {K : PySem.W.Frag} {σ : L2.St} {H : Hp} {Q : Bool → Hp → Prop} (h : rdT K (tAnd2 ta tb) σ H Q) : tAnd (rdT K ta) (rdT K tb) σ H Q := by
  obtain ⟨C, fz, ρ, sto, z, sto', F, e, k⟩ := h
  obtain ⟨x, s1, ea, e1⟩ := bnd_some e
  clear e
  refine ⟨C, fz, ρ, sto, x, s1, F, ea, fun fz1 H1 st1 l1 => ?_⟩
  cases x with
  | true =>
    rw [if_pos rfl]
    exact ⟨C, fz1, ρ, s1, z, sto', F.step st1 l1, e1, fun fz2 H2 st2 l2 => k fz2 H2 (st1.trans st2) l2⟩
  | false =>
    rw [if_neg Bool.false_ne_true]
    cases e1
    exact k fz1 H1 st1 l1
theorem rt_or {K : PySem.W.Frag} {σ : L2.St} {H : Hp} {Q : Bool → Hp → Prop} (h : rdT K (tOr2 ta tb) σ H Q) : tOr (rdT K ta) (rdT K tb) σ H Q := by
  obtain ⟨C, fz, ρ, sto, z, sto', F, e, k⟩ := h
  obtain ⟨x, s1, ea, e1⟩ := bnd_some e
  clear e
  refine ⟨C, fz, ρ, sto, x, s1, F, ea, fun fz1 H1 st1 l1 => ?_⟩
  cases x with
  | false =>
    rw [if_neg Bool.false_ne_true]
    exact ⟨C, fz1, ρ, s1, z, sto', F.step st1 l1, e1, fun fz2 H2 st2 l2 => k fz2 H2 (st1.trans st2) l2⟩
  | true =>
    rw [if_pos rfl]
    cases e1
    exact k fz1 H1 st1 l1
theorem rt_not {K : PySem.W.Frag} {σ : L2.St} {H : Hp} {Q : Bool → Hp → Prop} (h : rdT K (tNot2 ta) σ H Q) : tNot (rdT K ta) σ H Q := by
  obtain ⟨C, fz, ρ, sto, z, sto', F, e, k⟩ := h
  obtain ⟨x, s1, ea, e1⟩ := bnd_some e
  cases e1
  exact ⟨C, fz, ρ, sto, x, _, F, ea, fun fz1 H1 st1 l1 => k fz1 H1 st1 l1⟩
theorem sw_and1 (ha : SB X a ta) : SW X (.BoolOp .And [a] pos) ta := pw_and1 ha
theorem sw_or1 (ha : SB X a ta) : SW X (.BoolOp .Or [a] pos) ta := pw_or1 ha
theorem sw_and (ha : SB X a ta) (hb : SW X (.BoolOp .And (b :: rest) pos) tb) : SW X (.BoolOp .And (a :: b :: rest) pos) (tAnd2 ta tb) := PW.imp (pw_and ha hb) fun _ _ _ h => rt_and h
theorem sw_or (ha : SB X a ta) (hb : SW X (.BoolOp .Or (b :: rest) pos) tb) : SW X (.BoolOp .Or (a :: b :: rest) pos) (tOr2 ta tb) := PW.imp (pw_or ha hb) fun _ _ _ h => rt_or h
theorem sb_w {e : Expr} {t : Mt} (h : SW X e t) : SB X e t := PW.pt h
theorem sb_not (ha : SB X a ta) : SB X (.UnaryOp .Not a pos) (tNot2 ta) := PT.imp (pt_not ha) fun _ _ _ h => rt_not h
theorem rd_if {K : PySem.W.Frag} {σ : L2.St} {H : Hp} {Q : VK} (h : rdE K (mIf ta ma mb) σ H Q) : tIf (rdT K ta) (rdE K ma) (rdE K mb) σ H Q := by
  obtain ⟨C, fz, ρ, sto, z, sto', F, e, k⟩ := h
  obtain ⟨x, s1, ea, e1⟩ := bnd_some e
  clear e
  refine ⟨C, fz, ρ, sto, x, s1, F, ea, fun fz1 H1 st1 l1 => ?_⟩
  cases x with
  | true =>
    rw [if_pos rfl]
    exact ⟨C, fz1, ρ, s1, z, sto', F.step st1 l1, e1, fun u fz2 H2 st2 l2 i2 => k u fz2 H2 (st1.trans st2) l2 (i2.early st1)⟩
  | false =>
    rw [if_neg Bool.false_ne_true]
    exact ⟨C, fz1, ρ, s1, z, sto', F.step st1 l1, e1, fun u fz2 H2 st2 l2 i2 => k u fz2 H2 (st1.trans st2) l2 (i2.early st1)⟩
theorem se_if (hc : SB X c ta) (ha : SE X a ma) (hb : SE X b mb) : SE X (.IfExp c a b pos) (mIf ta ma mb) := PE.imp (pe_ifExp hc ha hb) fun _ _ _ h => rd_if h
end
/-- a datum to be kept (a list that was just made is frozen) -/
def toD : R → Option PyData
  | .d x => some x
  | .f xs => some (.list xs)
  | _ => none
def toDs : List R → Option (List PyData)
  | [] => some []
  | r :: rs => match toD r, toDs rs with
    | some x, some xs => some (x :: xs)
    | _, _ => none
section
variable {K : PySem.W.Frag} {sp : Option Addr} {fz fz1 : Fz} {H H1 : Hp} {sto : Sto}
/-- keeping one -/
theorem ImR.keep {v : V} {r : R} {x : PyData} (i : ImR K sp H fz1 H1 v r) (e : toD r = some x) (s : Stp sp fz H fz1 H1) (B : Bs sp fz1 H1 sto) :
    ∃ fz2 : Fz, Stp sp fz H fz2 H1 ∧ Bs sp fz2 H1 sto ∧ (∀ a, fz1 a → fz2 a) ∧ Im K fz2 H1 v x := by
  unfold toD at e
  split at e
  · cases e
    exact ⟨fz1, s, B, fun _ h => h, i⟩
  · cases e
    obtain ⟨a, vs, rfl, h1, h2, h3, h4, h5⟩ := i
    have s2 := s.freeze h5 h4 h1
    refine ⟨_, s2, ⟨B.spl, fun c ec q => ?_, fun b q z => ?_⟩, fun b q => .inl q, .lst (.inl ⟨h1, .inr rfl⟩) (h2.fzm fun b q => .inl q)⟩
    · rcases q with q | q
      · exact B.nsp c ec q
      · exact h4 (by subst q; exact ec.symm)
    · rcases q with q | q
      · exact B.trk b q z
      · subst q; rw [h1] at z; cases z
  · cases e
theorem ImRs.keep : ∀ {vs : List V} {rs : List R} {xs : List PyData} {fz1 : Fz}, ImRs K sp H fz1 H1 vs rs → toDs rs = some xs → Stp sp fz H fz1 H1 → Bs sp fz1 H1 sto →
    ∀ fzA : Fz, Stp sp fz H fzA H1 → Bs sp fzA H1 sto → (∀ a, fz1 a → fzA a) → ∃ fz2 : Fz, Stp sp fz H fz2 H1 ∧ Bs sp fz2 H1 sto ∧ (∀ a, fzA a → fz2 a) ∧ ImA K fz2 H1 vs xs
  | _, _, _, _, .nil, e, s, B, fzA, sA, BA, g => by
    cases e
    exact ⟨fzA, sA, BA, fun _ h => h, .nil⟩
  | _, _, _, fz1, .cons (a := v) (b := r) h t, e, s, B, fzA, sA, BA, g => by
    unfold toDs at e
    split at e
    · rename_i x xs e1 e2
      cases e
      -- the head, frozen beside what is frozen already
      have : ∃ fzB : Fz, Stp sp fz H fzB H1 ∧ Bs sp fzB H1 sto ∧ (∀ a, fzA a → fzB a) ∧ Im K fzB H1 v x := by
        unfold toD at e1
        split at e1
        · cases e1
          exact ⟨fzA, sA, BA, fun _ h => h, Im.fzm g h⟩
        · cases e1
          obtain ⟨a, vs, rfl, h1, h2, h3, h4, h5⟩ := h
          refine ⟨_, sA.freeze h5 h4 h1, ⟨BA.spl, fun c ec q => ?_, fun b q z => ?_⟩, fun b q => .inl q, .lst (.inl ⟨h1, .inr rfl⟩) (h2.fzm fun b q => .inl (g b q))⟩
          · rcases q with q | q
            · exact BA.nsp c ec q
            · exact h4 (by subst q; exact ec.symm)
          · rcases q with q | q
            · exact BA.trk b q z
            · subst q; rw [h1] at z; cases z
        · cases e1
      obtain ⟨fzB, sB, BB, gB, iB⟩ := this
      obtain ⟨fz2, s2, B2, g2, i2⟩ := ImRs.keep t e2 s B fzB sB BB fun a q => gB a (g a q)
      exact ⟨fz2, s2, B2, fun a q => g2 a (gB a q), .cons (iB.fzm g2) i2⟩
    · cases e
end
def fTup (rs : List R) : Option R := match toDs rs with
  | some xs => if xs.length ≤ sizeLine then some (.d (.tuple xs)) else none
  | none => none
def fLst (rs : List R) : Option R := match toDs rs with
  | some xs => if xs.length ≤ sizeLine then some (.f xs) else none
  | none => none
section
variable {X : Cx} {es : List Expr} {m : Ma} {pos : Pos}
theorem se_tup {x1} (h : SA X es m) : SE X (.Tuple es x1 pos) (mA fTup m) := PE.imp (pe_tupS (x1 := x1) h) fun σ H Q q => by
  refine rd_args (r := fun xs H1 Q => xs.length ≤ sizeLine ∧ TpQ H1 xs Q) ?_ q
  intro sp fz fzS H H0 sto vs xs z Q s B i e k
  unfold fTup at e
  split at e
  · rename_i ds hd
    split at e
    · rename_i hz
      cases e
      obtain ⟨fz2, s2, B2, g2, a⟩ := ImRs.keep i hd s B fz s B fun _ h => h
      refine ⟨by rw [a.length]; exact hz, fun p o hp ho => ?_⟩
      obtain ⟨s3, l3, i3⟩ := new_tup B2 a hp ho
      exact k _ fz2 _ (s2.trans s3) l3 i3
    · cases e
  · cases e
theorem se_lst (h : SA X es m) : SE X (.List es pos) (mA fLst m) := PE.imp (pe_lst h) fun σ H Q q => by
  refine rd_args (r := fun xs H1 Q => xs.length ≤ sizeLine ∧ ∀ p, H1 p = none → Q (.ref p) (upd H1 p (.lst xs))) ?_ q
  intro sp fz fzS H H0 sto vs xs z Q s B i e k
  unfold fLst at e
  split at e
  · rename_i ds hd
    split at e
    · rename_i hz
      cases e
      obtain ⟨fz2, s2, B2, g2, a⟩ := ImRs.keep i hd s B fz s B fun _ h => h
      refine ⟨by rw [a.length]; exact hz, fun p hp => ?_⟩
      obtain ⟨s3, l3, i3⟩ := new_lst B2 a hp
      exact k _ fz2 _ (s2.trans s3) l3 (i3.early s2)
    · cases e
  · cases e
end
def fIx (sto : Sto) : R → R → Option R
  | .s, .d (.int i) => (atI sto i).map fun j => .d (.int j)
  | x, .d (.int i) => match rdQ x with
    | some xs => (atI xs i).map .d
    | none => none
  | _, _ => none
/-- an item: of the spring, too -/
def mIx (a b : Mx) : Mx := bnd a fun x => bnd b fun y _ s => match fIx s x y with
  | some z => some (z, s)
  | none => none
theorem atI_some {α : Type} {xs : List α} {i : Int} {x : α} (h : atI xs i = some x) : ∃ j, ixN xs.length i = some j ∧ xs[j]? = some x := by
  unfold atI at h
  cases q : ixN xs.length i with
  | none => rw [q] at h; cases h
  | some j => rw [q] at h; exact ⟨j, rfl, h⟩
theorem atI_im {K : PySem.W.Frag} {fz : Fz} {H : Hp} {vs : List V} {xs : List PyData} {i : Int} {x : PyData} (a : ImA K fz H vs xs) (h : atI xs i = some x) : ∃ w, atI vs i = some w ∧ Im K fz H w x := by
  obtain ⟨j, h1, h2⟩ := atI_some h
  obtain ⟨w, h3, h4⟩ := a.at j x h2
  refine ⟨w, ?_, h4⟩
  unfold atI
  rw [a.length, h1]
  exact h3
theorem atI_map {i : Int} {sto : Sto} {j : Int} (h : atI sto i = some j) : atI (sto.map V.int) i = some (.int j) := by
  obtain ⟨k, h1, h2⟩ := atI_some h
  unfold atI
  rw [List.length_map, h1]
  show (sto.map V.int)[k]? = _
  rw [List.getElem?_map, h2]
  rfl
def rIxQ (K : PySem.W.Frag) : R2 := fun x y H Q => rIxL K x y H Q ∨ rIxT K x y H Q
section
variable {X : Cx} {a b : Expr} {ma mb : Mx} {pos : Pos}
theorem fIx_ok {K : PySem.W.Frag} {sp : Option Addr} {fz : Fz} {H H0 : Hp} {sto : Sto} {v w : V} {x y z : R} {Q : VK} (B : Bs sp fz H sto) (ix : ImR K sp H0 fz H v x) (iy : ImR K sp H0 fz H w y) (e : fIx sto x y = some z) (k : ∀ u, ImR K sp H fz H u z → Q u H) : rIxQ K v w H Q := by
  unfold fIx at e
  split at e
  · rename_i i
    cases iy
    cases q : atI sto i with
    | none => rw [q] at e; cases e
    | some j =>
      rw [q] at e; cases e
      obtain ⟨a, ea, rfl⟩ := (show IsS sp v from ix)
      exact .inl ⟨a, _, i, _, rfl, rfl, .inl (.inl (B.spl a ea)), atI_map q, k _ (.int j)⟩
  · rename_i i _
    cases iy
    split at e
    · rename_i xs hx
      cases q : atI xs i with
      | none => rw [q] at e; cases e
      | some d =>
        rw [q] at e; cases e
        obtain ⟨a, vs, rfl, h, im⟩ := ix.seq hx
        obtain ⟨u, hu, iu⟩ := atI_im im q
        rcases h with h | h
        · exact .inl ⟨a, vs, i, u, rfl, rfl, h, hu, k _ iu⟩
        · exact .inr ⟨a, vs, i, u, rfl, rfl, h, hu, k _ iu⟩
    · cases e
  · cases e
theorem se_ix (ha : SE X a ma) (hb : SE X b mb) (hs : PlainIx b := by exact fun _ _ => rfl) : SE X (.Subscript a b pos) (mIx ma mb) := PE.imp (pe_ix (ix_list.or ix_tup) ha hb hs) fun σ H Q h => by
  obtain ⟨C, fz, ρ, sto, z, sto', F, e, k⟩ := h
  obtain ⟨x, s1, ea, e1⟩ := bnd_some e
  obtain ⟨y, s2, eb, e2⟩ := bnd_some e1
  clear e e1
  split at e2
  · rename_i z' ez
    cases e2
    refine ⟨C, fz, ρ, sto, x, s1, F, ea, fun v fz1 H1 st1 l1 i1 => ?_⟩
    refine ⟨C, fz1, ρ, s1, y, sto', F.step st1 l1, eb, fun w fz2 H2 st2 l2 i2 => ?_⟩
    have B1 := F.bs.step st1 l1
    exact fIx_ok (B1.step st2 l2) (i1.stp st2 B1) (i2.early st1) ez fun u iu => k u fz2 H2 (st1.trans st2) l2 (iu.early (st1.trans st2))
  · cases e2
end
end Dh
namespace Dh
open PySem PySem.Spec L2
inductive Out where
  | nx | bk | ct | rt (r : R)
abbrev Ms := Ev → Sto → Option (Out × Ev × Sto)
/-- what is no list and no dict -/
def Stay (o : HO) : Prop := (∀ xs, o ≠ .lst xs) ∧ ∀ kvs, o ≠ .dK kvs
/-- through a statement: what is frozen, and all that is no list and no dict, stands -/
structure Sts (sp : Option Addr) (fz : Fz) (H : Hp) (fz' : Fz) (H' : Hp) : Prop where
  mono : ∀ a, fz a → fz' a
  kept : ∀ a o, H a = some o → some a ≠ sp → (fz a ∨ Stay o) → H' a = some o
section
variable {K : PySem.W.Frag} {sp : Option Addr} {fz fz1 fz2 : Fz} {H H1 H2 : Hp} {sto : Sto}
theorem Sts.refl : Sts sp fz H fz H := ⟨fun _ h => h, fun _ _ h _ _ => h⟩
theorem Sts.trans (s : Sts sp fz H fz1 H1) (t : Sts sp fz1 H1 fz2 H2) : Sts sp fz H fz2 H2 :=
  ⟨fun a h => t.mono a (s.mono a h), fun a o h n c => t.kept a o (s.kept a o h n c) n (c.imp (s.mono a) id)⟩
theorem Stp.sts (s : Stp sp fz H fz1 H1) : Sts sp fz H fz1 H1 := ⟨s.mono, fun a o h n _ => s.ext a o h n⟩
theorem SqT.sts {a : Addr} {xs : List V} (s : Sts sp fz H fz1 H1) (B : Bs sp fz H sto) (h : SqT K H a xs) : SqT K H1 a xs := by
  rcases h with (h | ⟨o, h⟩) | h
  · exact .inl (.inl (s.kept _ _ h (ne_spring B.spl h) (.inr ⟨(fun _ z => nomatch z), (fun _ z => nomatch z)⟩)))
  · exact .inl (.inr ⟨o, s.kept _ _ h (B.spl.ne h (by intro z; cases z)) (.inr ⟨(fun _ z => nomatch z), (fun _ z => nomatch z)⟩)⟩)
  · exact .inr h
theorem FzT.sts {a : Addr} {xs : List V} (s : Sts sp fz H fz1 H1) (B : Bs sp fz H sto) (h : FzT K H a xs) : FzT K H1 a xs := by
  rcases h with ⟨o, h, d⟩ | h
  · exact .inl ⟨o, s.kept _ _ h (B.spl.ne h (by intro z; cases z)) (.inr ⟨(fun _ z => nomatch z), (fun _ z => nomatch z)⟩), d⟩
  · exact .inr h
theorem FzL.sts {a : Addr} {xs : List V} (s : Sts sp fz H fz1 H1) (B : Bs sp fz H sto) (h : FzL K fz H a xs) : FzL K fz1 H1 a xs := by
  rcases h with ⟨h, f⟩ | ⟨o, h⟩ | h
  · exact .inl ⟨s.kept _ _ h (by intro e; exact B.nsp _ e.symm f) (.inl f), s.mono _ f⟩
  · exact .inr (.inl ⟨o, s.kept _ _ h (B.spl.ne h (by intro z; cases z)) (.inr ⟨(fun _ z => nomatch z), (fun _ z => nomatch z)⟩)⟩)
  · exact .inr (.inr h)
mutual
theorem Im.sts (s : Sts sp fz H fz1 H1) (B : Bs sp fz H sto) : ∀ {v : V} {d : PyData}, Im K fz H v d → Im K fz1 H1 v d
  | _, _, .non => .non
  | _, _, .bl b => .bl b
  | _, _, .int i => .int i
  | _, _, .str x => .str x
  | _, _, .lst h a => .lst (h.sts s B) (ImA.sts s B a)
  | _, _, .tup h a => .tup (FzT.sts s B h) (ImA.sts s B a)
  | _, _, .dct h f a b => .dct (s.kept _ _ h (by intro e; exact B.nsp _ e.symm f) (.inl f)) (s.mono _ f) (ImA.sts s B a) (ImA.sts s B b)
theorem ImA.sts (s : Sts sp fz H fz1 H1) (B : Bs sp fz H sto) : ∀ {v : List V} {d : List PyData}, ImA K fz H v d → ImA K fz1 H1 v d
  | _, _, .nil => .nil
  | _, _, .cons h t => .cons (Im.sts s B h) (ImA.sts s B t)
end
end
def Fin (K : PySem.W.Frag) (C : Cn) (D : Ends) (out : Out) (fz' : Fz) (σ' : L2.St) (H' : Hp) : Prop := match out with
  | .nx => D.nx σ' H'
  | .bk => D.bk σ' H'
  | .ct => D.ct σ' H'
  | .rt r => ∀ v, ImR K C.sp C.H0 fz' H' v r → D.rt v H'
def rdS (K : PySem.W.Frag) (m : Ms) : TS := fun D σ H => ∃ (C : Cn) (fz : Fz) (ρ : Ev) (sto : Sto) (out : Out) (ρ' : Ev) (sto' : Sto), Fm K C fz ρ sto σ H ∧ m ρ sto = some (out, ρ', sto') ∧
  ∀ fz' σ' H', Fm K C fz' ρ' sto' σ' H' → Sts C.sp fz H fz' H' → Fin K C D out fz' σ' H'
def SS (X : Cx) (st : Stmt) (m : Ms) : Prop := PS X st (rdS X.K m)
def SL (X : Cx) (st : List Stmt) (m : Ms) : Prop := PSs X st (rdS X.K m)
def mNil : Ms := fun ρ s => some (.nx, ρ, s)
def mSeq (a b : Ms) : Ms := fun ρ s => match a ρ s with
  | some (.nx, ρ1, s1) => b ρ1 s1
  | some r => some r
  | none => none
def mIfS (c : Mt) (a b : Ms) : Ms := fun ρ s => match c ρ s with
  | some (true, s1) => a ρ s1
  | some (false, s1) => b ρ s1
  | none => none
def mRet (a : Mx) : Ms := fun ρ s => match a ρ s with
  | some (.d x, s1) => some (.rt (.d x), ρ, s1)
  | some (.f xs, s1) => some (.rt (.f xs), ρ, s1)
  | _ => none
/-- return of a name -/
def mRetV (i : Nat) : Ms := fun ρ s => match ρ[i]? with
  | some (some (.d x)) => some (.rt (.d x), ρ, s)
  | some (some (.o xs)) => some (.rt (.f xs), ρ, s)
  | _ => none
def mNever : Ms := fun _ _ => none
def toCl : R → Option Cl
  | .d x => some (.d x)
  | .f xs => some (.o xs)
  | .s => some .s
  | .m acc => some (.m acc)
  | _ => none
def mSet (i : Nat) (a : Mx) : Ms := fun ρ s => match a ρ s with
  | some (r, s1) => match toCl r with
    | some c => some (.nx, ρ.set i (some c), s1)
    | none => none
  | none => none
section
variable {K : PySem.W.Frag} {C : Cn} {fz fz1 : Fz} {ρ : Ev} {sto sto' : Sto} {σ : L2.St} {H H1 : Hp}
/-- what is owned was not there at the entry -/
theorem Fm.owned (F : Fm K C fz ρ sto σ H) {i : Nat} {xs : List PyData} (h : ρ[i]? = some (some (.o xs))) : ∃ a vs, σ[i]? = some (some (.ref a)) ∧ H a = some (.lst vs) ∧ ImA K fz H vs xs ∧ ¬ fz a ∧ some a ≠ C.sp ∧ C.H0 a = none := F.vars i _ h
/-- a slot gets a value -/
theorem Fm.put (F : Fm K C fz ρ sto σ H) (i : Nat) {v : V} {c : Cl} (hi : i < σ.length) (ok : CellOk K C fz H (σ.set i (some v)) i c)
    (ap : ∀ xs a, c = .o xs → v = .ref a → ∀ j ys, j ≠ i → ρ[j]? = some (some (.o ys)) → σ[j]? ≠ some (some (.ref a))) : Fm K C fz (ρ.set i (some c)) sto (σ.set i (some v)) H where
  len := by rw [List.length_set, List.length_set, F.len]
  st := F.st
  bs := F.bs
  vars := fun j c' h => by
    by_cases e : j = i
    · subst e
      rw [List.getElem?_set_self (by rw [F.len]; exact hi)] at h
      cases h
      exact ok
    · rw [List.getElem?_set_ne (Ne.symm e)] at h
      have q := F.vars j c' h
      have ge : (σ.set i (some v))[j]? = σ[j]? := List.getElem?_set_ne (Ne.symm e)
      cases c' with
      | d x => obtain ⟨u, e1, e2⟩ := q; exact ⟨u, ge.trans e1, e2⟩
      | o xs => obtain ⟨a, vs, e1, e2⟩ := q; exact ⟨a, vs, ge.trans e1, e2⟩
      | s => obtain ⟨a, ea, q⟩ := q; exact ⟨a, ea, ge.trans q⟩
      | m acc => obtain ⟨a, vs, e1, e2⟩ := q; exact ⟨a, vs, ge.trans e1, e2⟩
  sep := fun j k xs ys a hjk h1 h2 h3 h4 => by
    by_cases e : j = i
    · subst e
      rw [List.getElem?_set_self (by rw [F.len]; exact hi)] at h1
      rw [List.getElem?_set_ne hjk] at h2 h4
      rw [List.getElem?_set_self hi] at h3
      cases h1; cases h3
      exact ap xs a rfl rfl k ys (Ne.symm hjk) h2 h4
    · by_cases e2 : k = i
      · subst e2
        rw [List.getElem?_set_self (by rw [F.len]; exact hi)] at h2
        rw [List.getElem?_set_ne (Ne.symm hjk)] at h1 h3
        rw [List.getElem?_set_self hi] at h4
        cases h2; cases h4
        exact ap ys a rfl rfl j xs hjk h1 h3
      · rw [List.getElem?_set_ne (Ne.symm e)] at h1 h3
        rw [List.getElem?_set_ne (Ne.symm e2)] at h2 h4
        exact F.sep j k xs ys a hjk h1 h2 h3 h4
/-- a slot gets what an expression gave (seen from a heap H0 where F stood) -/
theorem Fm.give (F : Fm K C fz ρ sto σ H) (s : Stp C.sp fz H fz1 H1) (l : SpL C.sp H1 sto') {v : V} {r : R} {c : Cl} (i : ImR K C.sp H fz1 H1 v r) (e : toCl r = some c) {n : Nat} (hn : n < σ.length) : Fm K C fz1 (ρ.set n (some c)) sto' (σ.set n (some v)) H1 := by
  have F1 := F.step s l
  refine F1.put n hn ?_ ?_
  · have g : (σ.set n (some v))[n]? = some (some v) := List.getElem?_set_self hn
    cases r with
    | d x => cases e; exact ⟨v, g, i⟩
    | f xs =>
      cases e
      obtain ⟨a, vs, rfl, h1, h2, h3, h4, h5⟩ := i
      exact ⟨a, vs, g, h1, h2, h3, h4, F.st.back h4 h5⟩
    | b xs => cases e
    | s => cases e; obtain ⟨a, ea, rfl⟩ := (show IsS C.sp v from i); exact ⟨a, ea, g⟩
    | m acc =>
      cases e
      obtain ⟨a, vs, rfl, h1, h2, h3, h4, h5⟩ := i
      exact ⟨a, vs, g, h1, h2, h3, h4, F.st.back h4 h5⟩
    | n acc => cases e
  · intro xs a ec ev j ys hj h1 h2
    subst ec
    cases r with
    | d x => cases e
    | f zs =>
      cases e
      obtain ⟨b, vs, eb, h3, h4, h5, h6, h7⟩ := i
      rw [ev] at eb; cases eb
      obtain ⟨b, ws, q1, q2, _⟩ := F.owned h1
      rw [h2] at q1; cases q1
      rw [h7] at q2; cases q2
    | b zs => cases e
    | s => cases e
    | m _ => cases e
    | n _ => cases e
end
section
variable {X : Cx} {st : Stmt} {rest : List Stmt} {e : Expr} {me : Mx} {ma mb : Ms} {tc : Mt} {pos : Pos}
theorem sl_nil : SL X [] mNil := PSs.imp pss_nil fun D σ H h => by
  obtain ⟨C, fz, ρ, sto, out, ρ', sto', F, e, k⟩ := h
  cases e
  exact k fz σ H F .refl
theorem rs_seq {K : PySem.W.Frag} {D : Ends} {σ : L2.St} {H : Hp} (h : rdS K (mSeq ma mb) D σ H) : tSeq (rdS K ma) (rdS K mb) D σ H := by
  obtain ⟨C, fz, ρ, sto, out, ρ', sto', F, e, k⟩ := h
  unfold mSeq at e
  split at e
  · rename_i ρ1 s1 e1
    refine ⟨C, fz, ρ, sto, .nx, ρ1, s1, F, e1, fun fz1 σ1 H1 F1 q1 => ?_⟩
    exact ⟨C, fz1, ρ1, s1, out, ρ', sto', F1, e, fun fz2 σ2 H2 F2 q2 => k fz2 σ2 H2 F2 (q1.trans q2)⟩
  · rename_i r hr e1
    cases e
    refine ⟨C, fz, ρ, sto, out, ρ', sto', F, e1, fun fz1 σ1 H1 F1 q1 => ?_⟩
    have q := k fz1 σ1 H1 F1 q1
    cases out with
    | nx => exact absurd rfl (hr ρ' sto')
    | bk => exact q
    | ct => exact q
    | rt r => exact q
  · cases e
theorem sl_cons (h1 : SS X st ma) (h2 : SL X rest mb) : SL X (st :: rest) (mSeq ma mb) := PSs.imp (pss_cons h1 h2) fun _ _ _ h => rs_seq h
theorem sl_one (h1 : SS X st ma) : SL X [st] ma := pss_one h1
theorem ss_never : SS X st mNever := PS.imp ps_never fun D σ H h => by
  obtain ⟨C, fz, ρ, sto, out, ρ', sto', F, e, k⟩ := h
  cases e
theorem ss_if {c : Expr} {a b : List Stmt} (hc : SB X c tc) (ha : SL X a ma) (hb : SL X b mb) : SS X (.If c a b pos) (mIfS tc ma mb) := PS.imp (ps_if hc ha hb) fun D σ H h => by
  obtain ⟨C, fz, ρ, sto, out, ρ', sto', F, e, k⟩ := h
  unfold mIfS at e
  split at e
  · rename_i s1 e1
    refine ⟨C, fz, ρ, sto, true, s1, F, e1, fun fz1 H1 st1 l1 => ?_⟩
    refine iteT ?_
    exact ⟨C, fz1, ρ, s1, out, ρ', sto', F.step st1 l1, e, fun fz2 σ2 H2 F2 q2 => k fz2 σ2 H2 F2 (st1.sts.trans q2)⟩
  · rename_i s1 e1
    refine ⟨C, fz, ρ, sto, false, s1, F, e1, fun fz1 H1 st1 l1 => ?_⟩
    refine iteF ?_
    exact ⟨C, fz1, ρ, s1, out, ρ', sto', F.step st1 l1, e, fun fz2 σ2 H2 F2 q2 => k fz2 σ2 H2 F2 (st1.sts.trans q2)⟩
  · cases e
theorem ss_ret (he : SE X e me) : SS X (.Return (some e) pos) (mRet me) := PS.imp (ps_ret he) fun D σ H h => by
  obtain ⟨C, fz, ρ, sto, out, ρ', sto', F, e, k⟩ := h
  unfold mRet at e
  split at e
  · rename_i x s1 e1
    cases e
    exact ⟨C, fz, ρ, sto, _, _, F, e1, fun v fz1 H1 st1 l1 i1 => k fz1 σ H1 (F.step st1 l1) st1.sts v (i1.early F.st)⟩
  · rename_i x s1 e1
    cases e
    exact ⟨C, fz, ρ, sto, _, _, F, e1, fun v fz1 H1 st1 l1 i1 => k fz1 σ H1 (F.step st1 l1) st1.sts v (i1.early F.st)⟩
  · cases e
theorem ss_retV {i : Nat} {x : Str} {p : Pos} (hN : X.N[i]? = some x := by rfl) (hv : Vis X.env.scope x := by first | exact Or.inl rfl | exact Or.inr (Or.inl rfl) | exact Or.inr (Or.inr rfl)) (hd : (x == ("__debug__" : Str)) = false := by decide)
    (hcd : (x == ("__classdict__" : Str)) = false := by decide) : SS X (.Return (some (.Name x p)) pos) (mRetV i) := PS.imp (ps_ret (pe_var hN hv hd hcd)) fun D σ H h => by
  obtain ⟨C, fz, ρ, sto, out, ρ', sto', F, e, k⟩ := h
  unfold mRetV at e
  split at e
  · rename_i x h1
    cases e
    obtain ⟨v, e1, e2⟩ := F.vars _ _ h1
    exact ⟨v, e1, k fz σ H F .refl v e2⟩
  · rename_i xs h1
    cases e
    obtain ⟨a, vs, e1, h2, h3, h4, h5, h6⟩ := F.owned h1
    exact ⟨_, e1, k fz σ H F .refl _ ⟨a, vs, rfl, h2, h3, h4, h5, h6⟩⟩
  · cases e
theorem PS.impI {X : Cx} {e : Stmt} {t t' : TS} (h : PS X e t) (q : ∀ D σ H, σ.length = X.N.length → t' D σ H → t D σ H) : PS X e t' := ⟨fun pins s σ H D I w => h.run pins s σ H D I (q _ _ _ I.len w)⟩
theorem rs_set {K : PySem.W.Frag} {i : Nat} {D : Ends} {σ : L2.St} {H : Hp} (hs : i < σ.length) (h : rdS K (mSet i me) D σ H) : tAsg (rdE K me) (gName i) D σ H := by
  obtain ⟨C, fz, ρ, sto, out, ρ', sto', F, e, k⟩ := h
  unfold mSet at e
  split at e
  · rename_i r s1 e1
    split at e
    · rename_i c ec
      cases e
      exact ⟨C, fz, ρ, sto, r, _, F, e1, fun v fz1 H1 st1 l1 i1 => k fz1 _ H1 (F.give st1 l1 i1 ec hs) st1.sts⟩
    · cases e
  · cases e
theorem lt_of_slot {i : Nat} {N : List Str} {x : Str} {σ : L2.St} (hi : N[i]? = some x) (hl : σ.length = N.length) : i < σ.length := by
  rw [hl]; exact (List.getElem?_eq_some_iff.mp hi).1
theorem ss_set {i : Nat} {x : Str} {p : Pos} (hN : X.N.Nodup) (hi : X.N[i]? = some x) (hx : Loc X.env.scope x) (he : SE X e me)
    (hs : swapsWith e (some (.Name x p)) pos.line X.env = pure false := by rfl) (hw : swappedStores [.Name x p] e X.env = pure none := by rfl)
    (hf : X.fn x = true ∨ X.env.scope.names.lookup x = some .local := by first | exact .inl rfl | exact .inr rfl) : SS X (.Assign [.Name x p] e pos) (mSet i me) :=
  PS.impI (ps_asg he (pg_name hN hi hx hf) hs hw) fun D σ H hl h => rs_set (lt_of_slot hi hl) h
def frz1 (ρ : Ev) (i : Nat) : Ev := match ρ[i]? with
  | some (some (.o xs)) => ρ.set i (some (.d (.list xs)))
  | _ => ρ
def frzs (ρ : Ev) : List Nat → Ev
  | [] => ρ
  | i :: r => frzs (frz1 ρ i) r
def mFrz (is : List Nat) (m : Ms) : Ms := fun ρ s => m (frzs ρ is) s
theorem Fm.frz1 {K : PySem.W.Frag} {C : Cn} {fz : Fz} {ρ : Ev} {sto : Sto} {σ : L2.St} {H : Hp} (F : Fm K C fz ρ sto σ H) (i : Nat) : ∃ fz2, Fm K C fz2 (Dh.frz1 ρ i) sto σ H ∧ Sts C.sp fz H fz2 H := by
  unfold Dh.frz1
  split
  · rename_i xs hx
    obtain ⟨a, vs, e1, h2, h3, h4, h5, h6⟩ := F.owned hx
    have hi : i < σ.length := (List.getElem?_eq_some_iff.mp e1).1
    refine ⟨fun b => fz b ∨ b = a, ⟨by rw [List.length_set, F.len], F.st.freeze h6 h5 h2, ⟨F.bs.spl, fun c ec q => ?_, fun b q z => ?_⟩, fun j c h => ?_, fun j k xs ys b hjk q1 q2 => ?_⟩, ⟨fun b q => .inl q, fun _ _ h _ _ => h⟩⟩
    · rcases q with q | q
      · exact F.bs.nsp c ec q
      · exact h5 (by subst q; exact ec.symm)
    · rcases q with q | q
      · exact F.bs.trk b q z
      · subst q; rw [h2] at z; cases z
    · by_cases ej : j = i
      · subst ej
        rw [List.getElem?_set_self (by rw [F.len]; exact hi)] at h
        cases h
        exact ⟨_, e1, .lst (.inl ⟨h2, .inr rfl⟩) (h3.fzm fun b q => .inl q)⟩
      · rw [List.getElem?_set_ne (Ne.symm ej)] at h
        have q := F.vars j c h
        cases c with
        | d x => obtain ⟨u, e1, e2⟩ := q; exact ⟨u, e1, e2.fzm fun b q => .inl q⟩
        | o ys =>
          obtain ⟨b, ws, g1, g2, g3, g4, g5, g6⟩ := q
          refine ⟨b, ws, g1, g2, g3.fzm fun b q => .inl q, fun z => ?_, g5, g6⟩
          rcases z with z | z
          · exact g4 z
          · subst z; exact F.sep j i ys xs _ ej h hx g1 e1
        | s => exact q
        | m acc =>
          obtain ⟨b, ws, g1, g2, g3, g4, g5, g6⟩ := q
          refine ⟨b, ws, g1, g2, ⟨g3.1, g3.2.fzm fun b q => .inl q⟩, fun z => ?_, g5, g6⟩
          rcases z with z | z
          · exact g4 z
          · subst z; rw [h2] at g2; cases g2
    · have ej : j ≠ i := fun z => by
        subst z
        rw [List.getElem?_set_self (by rw [F.len]; exact hi)] at q1
        cases q1
      have ek : k ≠ i := fun z => by
        subst z
        rw [List.getElem?_set_self (by rw [F.len]; exact hi)] at q2
        cases q2
      rw [List.getElem?_set_ne (Ne.symm ej)] at q1
      rw [List.getElem?_set_ne (Ne.symm ek)] at q2
      exact F.sep j k xs ys b hjk q1 q2
  · exact ⟨fz, F, .refl⟩
theorem Fm.frzs {K : PySem.W.Frag} {C : Cn} {sto : Sto} {σ : L2.St} {H : Hp} : ∀ (is : List Nat) {fz : Fz} {ρ : Ev}, Fm K C fz ρ sto σ H → ∃ fz2, Fm K C fz2 (Dh.frzs ρ is) sto σ H ∧ Sts C.sp fz H fz2 H
  | [], fz, ρ, F => ⟨fz, F, .refl⟩
  | i :: r, fz, ρ, F => by
    obtain ⟨fz1, F1, s1⟩ := F.frz1 i
    obtain ⟨fz2, F2, s2⟩ := Fm.frzs r F1
    exact ⟨fz2, F2, s1.trans s2⟩
theorem ss_frz (is : List Nat) (h : SS X st ma) : SS X st (mFrz is ma) := PS.imp h fun D σ H h => by
  obtain ⟨C, fz, ρ, sto, out, ρ', sto', F, e, k⟩ := h
  obtain ⟨fz2, F2, s2⟩ := F.frzs is
  exact ⟨C, fz2, _, sto, out, ρ', sto', F2, e, fun fz3 σ3 H3 F3 s3 => k fz3 σ3 H3 F3 (s2.trans s3)⟩
end
end Dh
namespace Dh
open PySem PySem.Spec L2
section
variable {K : PySem.W.Frag} {C : Cn} {fz fz1 : Fz} {ρ : Ev} {sto sto' : Sto} {σ : L2.St} {H H1 : Hp}
/-- an own list is written -/
theorem Fm.write (F : Fm K C fz ρ sto σ H) {i : Nat} {xs ys : List PyData} {a : Addr} {ws : List V} (h : ρ[i]? = some (some (.o xs))) (ha : σ[i]? = some (some (.ref a))) (im : ImA K fz H ws ys) :
    Fm K C fz (ρ.set i (some (.o ys))) sto σ (upd H a (.lst ws)) ∧ Sts C.sp fz H fz (upd H a (.lst ws)) := by
  obtain ⟨b, vs, e1, h2, h3, h4, h5, h6⟩ := F.owned h
  rw [ha] at e1; cases e1
  have hi : i < ρ.length := (List.getElem?_eq_some_iff.mp h).1
  have S : Sts C.sp fz H fz (upd H a (.lst ws)) := ⟨fun _ q => q, fun b o q n c => by
    have : b ≠ a := fun z => by
      subst z
      rcases c with c | c
      · exact h4 c
      · rw [h2] at q; cases q; exact c.1 _ rfl
    rw [upd_ne this]; exact q⟩
  refine ⟨⟨by rw [List.length_set, F.len], ⟨F.st.mono, fun b o q n => ?_, F.st.new, fun t b q z => ?_⟩, ⟨?_, F.bs.nsp, fun b q z => ?_⟩, fun j c q => ?_, fun j k us zs b hjk q1 q2 => ?_⟩, S⟩
  · have : b ≠ a := fun z => by subst z; rw [h6] at q; cases q
    rw [upd_ne this]; exact F.st.ext b o q n
  · by_cases e : b = a
    · subst e; rw [upd_same] at z; cases z
    · rw [upd_ne e] at z; exact F.st.trk t b q z
  · exact F.bs.spl.upd h5
  · by_cases e : b = a
    · subst e; rw [upd_same] at z; cases z
    · rw [upd_ne e] at z; exact F.bs.trk b q z
  · by_cases ej : j = i
    · subst ej
      rw [List.getElem?_set_self hi] at q
      cases q
      exact ⟨a, ws, ha, upd_same, im.sts S F.bs, h4, h5, h6⟩
    · rw [List.getElem?_set_ne (Ne.symm ej)] at q
      have g := F.vars j c q
      cases c with
      | d x => obtain ⟨u, g1, g2⟩ := g; exact ⟨u, g1, g2.sts S F.bs⟩
      | o us =>
        obtain ⟨b, ts, g1, g2, g3, g4, g5, g6⟩ := g
        have : b ≠ a := fun z => by subst z; exact F.sep j i us xs _ ej q h g1 ha
        exact ⟨b, ts, g1, by rw [upd_ne this]; exact g2, g3.sts S F.bs, g4, g5, g6⟩
      | s => exact g
      | m acc =>
        obtain ⟨b, ts, g1, g2, g3, g4, g5, g6⟩ := g
        have : b ≠ a := fun z => by subst z; rw [h2] at g2; cases g2
        exact ⟨b, ts, g1, by rw [upd_ne this]; exact g2, ⟨g3.1, g3.2.sts S F.bs⟩, g4, g5, g6⟩
  · by_cases ej : j = i
    · subst ej
      rw [List.getElem?_set_ne hjk] at q2
      exact F.sep j k xs zs b hjk h q2
    · rw [List.getElem?_set_ne (Ne.symm ej)] at q1
      by_cases ek : k = i
      · subst ek
        exact F.sep j k us xs b hjk q1 h
      · rw [List.getElem?_set_ne (Ne.symm ek)] at q2
        exact F.sep j k us zs b hjk q1 q2
/-- the spring is written -/
theorem Fm.spring (F : Fm K C fz ρ sto σ H) (sto' : Sto) {p : Addr} (hp : C.sp = some p) : Fm K C fz ρ sto' σ (upd H p (.lst (sto'.map V.int))) ∧ Sts C.sp fz H fz (upd H p (.lst (sto'.map V.int))) := by
  have ne : ∀ b, some b ≠ C.sp → b ≠ p := fun b n e => n (by rw [e, hp])
  have S : Sts C.sp fz H fz (upd H p (.lst (sto'.map V.int))) := ⟨fun _ q => q, fun b o q n _ => by rw [upd_ne (ne b n)]; exact q⟩
  refine ⟨⟨F.len, ⟨F.st.mono, fun b o q n => by rw [upd_ne (ne b n)]; exact F.st.ext b o q n, F.st.new, fun t b q z => ?_⟩, ⟨fun b eb => ?_, F.bs.nsp, fun b q z => ?_⟩, fun j c q => ?_, F.sep⟩, S⟩
  · by_cases e : b = p
    · subst e; rw [upd_same] at z; cases z
    · rw [upd_ne e] at z; exact F.st.trk t b q z
  · rw [hp] at eb; cases eb; exact upd_same
  · by_cases e : b = p
    · subst e; rw [upd_same] at z; cases z
    · rw [upd_ne e] at z; exact F.bs.trk b q z
  · have g := F.vars j c q
    cases c with
    | d x => obtain ⟨u, g1, g2⟩ := g; exact ⟨u, g1, g2.sts S F.bs⟩
    | o us =>
      obtain ⟨b, ts, g1, g2, g3, g4, g5, g6⟩ := g
      exact ⟨b, ts, g1, by rw [upd_ne (ne b g5)]; exact g2, g3.sts S F.bs, g4, g5, g6⟩
    | s => exact g
    | m acc =>
      obtain ⟨b, ts, g1, g2, g3, g4, g5, g6⟩ := g
      exact ⟨b, ts, g1, by rw [upd_ne (ne b g5)]; exact g2, ⟨g3.1, g3.2.sts S F.bs⟩, g4, g5, g6⟩
/-- what was given is kept: the frame, with more frozen -/
theorem Fm.keep (F : Fm K C fz ρ sto σ H) (s : Stp C.sp fz H fz1 H1) (l : SpL C.sp H1 sto') {v : V} {r : R} {x : PyData} (i : ImR K C.sp H fz1 H1 v r) (e : toD r = some x) : ∃ fz2, Fm K C fz2 ρ sto' σ H1 ∧ Stp C.sp fz H fz2 H1 ∧ Im K fz2 H1 v x := by
  obtain ⟨fz2, s2, B2, g, im⟩ := i.keep e s (F.bs.step s l)
  exact ⟨fz2, F.step s2 l, s2, im⟩
end
def mApp (i : Nat) (a : Mx) : Ms := fun ρ s => match a ρ s with
  | some (r, s1) => match toD r, ρ[i]? with
    | some x, some (some (.o xs)) => if xs.length < sizeLine then some (.nx, ρ.set i (some (.o (xs ++ [x]))), s1) else none
    | _, _ => none
  | none => none
def mPut (i : Nat) (ix a : Mx) : Ms := fun ρ s => match a ρ s with
  | some (r, s1) => match ix ρ s1 with
    | some (.d (.int k), s2) => match ρ[i]? with
      | some (some (.o xs)) => match toD r, ixN xs.length k with
        | some x, some j => some (.nx, ρ.set i (some (.o (xs.set j x))), s2)
        | _, _ => none
      | some (some .s) => match r, ixN s2.length k with
        | .d (.int v), some j => some (.nx, ρ, s2.set j v)
        | _, _ => none
      | _ => none
    | _ => none
  | none => none
section
variable {X : Cx} {st : Stmt} {rest : List Stmt} {e : Expr} {me mi : Mx} {ma mb : Ms} {tc : Mt} {pos : Pos}
theorem ss_append {i : Nat} {x : Str} {p apos cpos : Pos} (he : SE X e me) (hN : X.N[i]? = some x := by rfl) (hv : Vis X.env.scope x := by first | exact Or.inl rfl | exact Or.inr (Or.inl rfl) | exact Or.inr (Or.inr rfl))
    (hse : starEach [e] X.env = (false, eval e X.env) :: starEach [] X.env := by rfl)
    (hfew : ((backTo cpos (starEach [e] X.env)).all (fun x => !x.1) && (backToKw cpos (keywordEach [] X.env)).all (fun x => x.1.isSome)
      && decide (([e] : List Expr).length + ([] : List Keyword).length + (if ([] : List Keyword).isEmpty then 0 else 1) < 30)) = true := by rfl)
    (hline : (apos.endLine == cpos.line) = true := by rfl)
    (hd : (x == ("__debug__" : Str)) = false := by decide) (hcd : (x == ("__classdict__" : Str)) = false := by decide) (hbase : attributeBase (.Name x p) "append" X.env (eval (.Name x p) X.env) = eval (.Name x p) X.env := by rfl)
    (hs : swapsWith (.Call (.Attribute (.Name x p) "append" apos) [e] [] cpos) none pos.line X.env = pure false := by rfl) : SS X (.Expr (.Call (.Attribute (.Name x p) "append" apos) [e] [] cpos) pos) (mApp i me) :=
  PS.imp (ps_expr (pe_bm PySem.F.plainAttrs_list PySem.F.slot_list_append PySem.F.type_list_append mt_append (pe_var hN hv hd hcd) (pa_cons he pa_nil hse) hbase hfew hline hse) hs) fun D σ H h => by
  obtain ⟨C, fz, ρ, sto, out, ρ', sto', F, e, k⟩ := h
  unfold mApp at e
  split at e
  · rename_i r s1 e1
    split at e
    · rename_i x xs er ex
      split at e
      · rename_i hz
        cases e
        obtain ⟨a, vs, ha, h2, h3, h4, h5, h6⟩ := F.owned ex
        refine ⟨_, ha, .inl ⟨rfl, vs, .inl (.inl h2)⟩, C, fz, ρ, sto, r, _, F, e1, fun v fz1 H1 st1 l1 i1 => ?_⟩
        obtain ⟨fz2, F2, st2, im⟩ := F.keep st1 l1 i1 er
        obtain ⟨a', vs', ha', q2, q3, q4, q5, q6⟩ := F2.owned ex
        rw [ha] at ha'; cases ha'
        refine ⟨a, vs', v, rfl, rfl, q2, by rw [q3.length]; exact hz, ?_⟩
        obtain ⟨F3, S3⟩ := F2.write (ys := xs ++ [x]) ex ha (q3.append (.cons im .nil))
        exact k fz2 σ _ F3 (st2.sts.trans S3)
      · cases e
    · cases e
  · cases e
/-- x[i] = e; hg is pg_sub (pv i) hix set_list -/
theorem ss_put {i : Nat} {tg : Expr} (he : SE X e me) (hg : PG X tg (gSub (tVar i) (rdE X.K mi) rSetL))
    (hs : swapsWithSole [tg] e pos.line X.env = pure false := by rfl) (hw : swappedStores [tg] e X.env = pure none := by rfl) (h1 : (assignEach [tg] X.env).map (·.2) = [assign tg X.env] := by rfl) : SS X (.Assign [tg] e pos) (mPut i mi me) :=
  PS.imp (ps_asg he hg hs hw h1) fun D σ H h => by
  obtain ⟨C, fz, ρ, sto, out, ρ', sto', F, e, k⟩ := h
  unfold mPut at e
  split at e
  · rename_i r s1 e1
    split at e
    · rename_i kk s2 e2
      refine ⟨C, fz, ρ, sto, r, s1, F, e1, fun v fz1 H1 st1 l1 i1 => ?_⟩
      have F1 := F.step st1 l1
      split at e
      · rename_i xs ex
        split at e
        · rename_i x j er ej
          cases e
          obtain ⟨a, vs, ha, h2, h3, h4, h5, h6⟩ := F.owned ex
          refine ⟨_, ha, C, fz1, ρ, s1, _, _, F1, e2, fun w fz2 H2 st2 l2 i2 => ?_⟩
          cases i2
          obtain ⟨fz3, F3, st3, im⟩ := F.keep (st1.trans st2) l2 (i1.stp st2 F1.bs) er
          obtain ⟨a', vs', ha', q2, q3, q4, q5, q6⟩ := F3.owned ex
          rw [ha] at ha'; cases ha'
          refine ⟨a, vs', kk, j, rfl, rfl, q2, by rw [q3.length]; exact ej, ?_⟩
          obtain ⟨F4, S4⟩ := F3.write (ys := xs.set j x) ex ha (q3.set j im)
          exact k fz3 σ _ F4 (st3.sts.trans S4)
        · cases e
      · rename_i ex
        split at e
        · rename_i v' j ej
          cases e
          obtain ⟨p, hp, hs⟩ := F.vars _ _ ex
          refine ⟨_, hs, C, fz1, ρ, s1, _, _, F1, e2, fun w fz2 H2 st2 l2 i2 => ?_⟩
          cases i2
          cases i1
          refine ⟨p, _, kk, j, rfl, rfl, l2 p hp, by rw [List.length_map]; exact ej, ?_⟩
          obtain ⟨F4, S4⟩ := (F1.step st2 l2).spring (s2.set j v') hp
          rw [← List.map_set]
          exact k fz2 σ _ F4 ((st1.trans st2).sts.trans S4)
        · cases e
      · cases e
    · cases e
  · cases e
end
abbrev Gx := PyData → Ev → Option Ev
def rdG (K : PySem.W.Frag) (is : List Nat) (g : Gx) : TG := fun v σ H Q => ∃ (C : Cn) (fz : Fz) (ρ : Ev) (sto : Sto) (x : PyData) (ρ' : Ev), Fm K C fz ρ sto σ H ∧ Im K fz H v x ∧ g x ρ = some ρ' ∧
  ∀ σ', σ'.length = σ.length → (∀ i, i ∉ is → σ'[i]? = σ[i]?) → Fm K C fz ρ' sto σ' H → Q σ' H
theorem PG.impI {X : Cx} {e : Expr} {t t' : TG} (h : PG X e t) (q : ∀ v σ H Q, σ.length = X.N.length → t' v σ H Q → t v σ H Q) : PG X e t' := ⟨fun pins s σ H v u Q I r w => h.run pins s σ H v u Q I r (q _ _ _ _ I.len w)⟩
theorem PGs.impI {X : Cx} {e : List Expr} {t t' : TGs} (h : PGs X e t) (q : ∀ v σ H Q, σ.length = X.N.length → t' v σ H Q → t v σ H Q) : PGs X e t' := ⟨fun pins s σ H v u Q I r w => h.run pins s σ H v u Q I r (q _ _ _ _ I.len w)⟩
def SG (X : Cx) (tg : Expr) (is : List Nat) (g : Gx) : Prop := PG X tg (rdG X.K is g)
abbrev Gxs := List PyData → Ev → Option Ev
def rdGs (K : PySem.W.Frag) (is : List Nat) (g : Gxs) : TGs := fun vs σ H Q => ∃ (C : Cn) (fz : Fz) (ρ : Ev) (sto : Sto) (xs : List PyData) (ρ' : Ev), Fm K C fz ρ sto σ H ∧ ImA K fz H vs xs ∧ g xs ρ = some ρ' ∧
  ∀ σ', σ'.length = σ.length → (∀ i, i ∉ is → σ'[i]? = σ[i]?) → Fm K C fz ρ' sto σ' H → Q σ' H
def SGs (X : Cx) (tg : List Expr) (is : List Nat) (g : Gxs) : Prop := PGs X tg (rdGs X.K is g)
def gN (i : Nat) : Gx := fun x ρ => some (ρ.set i (some (.d x)))
def gT (n : Nat) (g : Gxs) : Gx := fun x ρ => match x with
  | .tuple xs => if xs.length = n then g xs ρ else none
  | _ => none
def gsNil : Gxs := fun xs ρ => match xs with | [] => some ρ | _ => none
def gsCons (g : Gx) (r : Gxs) : Gxs := fun xs ρ => match xs with
  | x :: ys => match g x ρ with | some ρ1 => r ys ρ1 | none => none
  | [] => none
theorem Fm.name {K : PySem.W.Frag} {C : Cn} {fz : Fz} {ρ : Ev} {sto : Sto} {σ : L2.St} {H : Hp} (F : Fm K C fz ρ sto σ H) {v : V} {x : PyData} (im : Im K fz H v x) {i : Nat} (hi : i < σ.length) : Fm K C fz (ρ.set i (some (.d x))) sto (σ.set i (some v)) H :=
  F.put i hi ⟨v, List.getElem?_set_self hi, im⟩ fun xs a e => nomatch e
section
variable {X : Cx} {tg : Expr} {tgs : List Expr} {is js : List Nat} {g : Gx} {gs : Gxs} {pos : Pos}
theorem sg_name {i : Nat} {x : Str} (hN : X.N.Nodup) (hi : X.N[i]? = some x := by rfl) (hx : Loc X.env.scope x := by first | exact Or.inl rfl | exact Or.inr rfl)
    (hf : X.fn x = true ∨ X.env.scope.names.lookup x = some .local := by first | exact .inl rfl | exact .inr rfl) : SG X (.Name x pos) [i] (gN i) := PG.impI (pg_name hN hi hx hf) fun v σ H Q hl h => by
  obtain ⟨C, fz, ρ, sto, x, ρ', F, im, e, k⟩ := h
  cases e
  exact k _ (by rw [List.length_set]) (fun j hj => List.getElem?_set_ne fun z => hj (by rw [z]; exact List.mem_singleton.mpr rfl)) (F.name im (lt_of_slot hi hl))
theorem sgs_nil : SGs X [] [] gsNil := PGs.impI pgs_nil fun v σ H Q hl h => by
  obtain ⟨C, fz, ρ, sto, x, ρ', F, im, e, k⟩ := h
  cases im with
  | nil => cases e; exact ⟨rfl, k σ rfl (fun _ _ => rfl) F⟩
  | cons _ _ => cases e
theorem sgs_cons (h1 : SG X tg is g) (h2 : SGs X tgs js gs) (hs : (assignEach (tg :: tgs) X.env).map (·.2) = assign tg X.env :: (assignEach tgs X.env).map (·.2) := by rfl) : SGs X (tg :: tgs) (is ++ js) (gsCons g gs) := PGs.impI (pgs_cons h1 h2 hs) fun v σ H Q hl h => by
  obtain ⟨C, fz, ρ, sto, x, ρ', F, im, e, k⟩ := h
  cases im with
  | nil => cases e
  | cons a b =>
    unfold gsCons at e
    simp only at e
    split at e
    · rename_i ρ1 e1
      refine ⟨_, _, rfl, C, fz, ρ, sto, _, ρ1, F, a, e1, fun σ1 l1 o1 F1 => ?_⟩
      refine ⟨C, fz, ρ1, sto, _, ρ', F1, b, e, fun σ2 l2 o2 F2 => ?_⟩
      refine k σ2 (l2.trans l1) (fun i hi => ?_) F2
      rw [List.mem_append, not_or] at hi
      exact (o2 i hi.2).trans (o1 i hi.1)
    · cases e
theorem sg_tup {n k : Nat} (hc : X.calm = true) (h : SGs X tgs is gs) (hn : (assignEach tgs X.env).length = n := by rfl) (hst : (assignEach tgs X.env).findIdx? (·.1) = none := by rfl) : SG X (.Tuple tgs k pos) is (gT n gs) := PG.impI (pg_tup hc h hn hst) fun v σ H Q hl h => by
  obtain ⟨C, fz, ρ, sto, x, ρ', F, im, e, k⟩ := h
  unfold gT at e
  split at e
  · rename_i xs
    split at e
    · rename_i hz
      cases im with
      | tup hs ha => exact ⟨_, _, rfl, hs.sq, by rw [ha.length]; exact hz, C, fz, ρ, sto, xs, ρ', F, ha, e, k⟩
    · cases e
  · cases e
/-- target = value -/
def mAsg (g : Gx) (a : Mx) : Ms := fun ρ s => match a ρ s with
  | some (r, s1) => match toD r with
    | some x => match g x ρ with
      | some ρ1 => some (.nx, ρ1, s1)
      | none => none
    | none => none
  | none => none
theorem ss_asg {e : Expr} {me : Mx} (he : SE X e me) (hg : SG X tg is g) (hs : swapsWithSole [tg] e pos.line X.env = pure false := by rfl) (hw : swappedStores [tg] e X.env = pure none := by rfl) (h1 : (assignEach [tg] X.env).map (·.2) = [assign tg X.env] := by rfl) : SS X (.Assign [tg] e pos) (mAsg g me) := PS.imp (ps_asg he hg hs hw h1) fun D σ H h => by
  obtain ⟨C, fz, ρ, sto, out, ρ', sto', F, e, k⟩ := h
  unfold mAsg at e
  split at e
  · rename_i r s1 e1
    split at e
    · rename_i x ex
      split at e
      · rename_i ρ1 eg
        cases e
        refine ⟨C, fz, ρ, sto, r, _, F, e1, fun v fz1 H1 st1 l1 i1 => ?_⟩
        obtain ⟨fz2, F2, st2, im⟩ := F.keep st1 l1 i1 ex
        exact ⟨C, fz2, ρ, _, x, ρ', F2, im, eg, fun σ1 _ _ F3 => k fz2 σ1 H1 F3 st2.sts⟩
      · cases e
    · cases e
  · cases e
/-- a, b = e1, e2 (two names of the def) -/
def mPar (i j : Nat) (a : Ma) : Ms := fun ρ s => match a ρ s with
  | some ([r, q], s1) => match toCl r, toCl q with
    | some c, some d => match c, d with
      | .o _, .o _ => none
      | c, d => some (.nx, (ρ.set i (some c)).set j (some d), s1)
    | _, _ => none
  | _ => none
theorem ss_par {i j : Nat} {x y : Str} {a b : Expr} {m : Ma} {px py pt : Pos} {kt k2 pt2} (hc : X.calm = true) (hN : X.N.Nodup) (ha : SA X [a, b] m) (hi : X.N[i]? = some x := by rfl) (hj : X.N[j]? = some y := by rfl) (hij : i ≠ j := by decide)
    (hx : X.env.scope.names.lookup x = some .local := by rfl) (hy : X.env.scope.names.lookup y = some .local := by rfl)
    (hw : swappedStores [.Tuple [.Name x px, .Name y py] kt pt] (.Tuple [a, b] k2 pt2) X.env = pure (some [x, y]) := by rfl)
    (hs : swapsWithSole [.Tuple [.Name x px, .Name y py] kt pt] (.Tuple [a, b] k2 pt2) pos.line X.env = pure false := by rfl) :
    SS X (.Assign [.Tuple [.Name x px, .Name y py] kt pt] (.Tuple [a, b] k2 pt2) pos) (mPar i j m) := PS.impI (ps_par hc hN hi hj hij hx hy ha hw hs) fun D σ H hl h => by
  obtain ⟨C, fz, ρ, sto, out, ρ', sto', F, e, k⟩ := h
  unfold mPar at e
  split at e
  · rename_i r q s1 e1
    split at e
    · rename_i c d ec ed
      split at e
      · cases e
      · rename_i no
        cases e
        refine ⟨C, fz, ρ, sto, _, _, F, e1, fun vs fz1 H1 st1 l1 i1 => ?_⟩
        cases i1 with
        | cons iv t =>
          cases t with
          | cons iw t =>
            cases t
            rename_i v w
            refine ⟨v, w, rfl, ?_⟩
            have hi' := lt_of_slot hi hl
            have hj' := lt_of_slot hj hl
            have F1 := F.give st1 l1 iv ec hi'
            -- the second one, its address apart from the first one's
            refine k fz1 _ H1 (F1.put j (by rw [List.length_set]; exact hj') ?_ ?_) st1.sts
            · have g : ((σ.set i (some v)).set j (some w))[j]? = some (some w) := List.getElem?_set_self (by rw [List.length_set]; exact hj')
              cases q with
              | d x => cases ed; exact ⟨w, g, iw⟩
              | f xs =>
                cases ed
                obtain ⟨a, vs, rfl, h1, h2, h3, h4, h5⟩ := iw
                exact ⟨a, vs, g, h1, h2, h3, h4, F.st.back h4 h5⟩
              | b xs => cases ed
              | s => cases ed; obtain ⟨a, ea, rfl⟩ := (show IsS C.sp w from iw); exact ⟨a, ea, g⟩
              | m acc =>
                cases ed
                obtain ⟨a, vs, rfl, h1, h2, h3, h4, h5⟩ := iw
                exact ⟨a, vs, g, h1, h2, h3, h4, F.st.back h4 h5⟩
              | n acc => cases ed
            · intro xs a edx ew n ys hn h1 h2
              subst edx
              cases q with
              | d x => cases ed
              | b x => cases ed
              | s => cases ed
              | m _ => cases ed
              | n _ => cases ed
              | f zs =>
                cases ed
                obtain ⟨b, vs, eb, h3, h4, h5, h6, h7⟩ := iw
                rw [ew] at eb; cases eb
                by_cases en : n = i
                · subst en
                  rw [List.getElem?_set_self (by rw [F.len]; exact hi')] at h1
                  cases h1
                  exact no ys _ rfl rfl
                · rw [List.getElem?_set_ne (Ne.symm en)] at h1 h2
                  obtain ⟨b, ws, q1, q2, _⟩ := F.owned h1
                  rw [h2] at q1; cases q1
                  rw [h7] at q2; cases q2
    · cases e
  · cases e
end
end Dh
namespace Dh
open PySem PySem.Spec L2
abbrev Mi := Ev → Sto → Option (List PyData × Sto)
/-- J goes through the data xs, for as long as what is frozen stands -/
structure Goes (K : PySem.W.Frag) (sp : Option Addr) (fz : Fz) (H : Hp) (J : It) (xs : List PyData) : Prop where
  go : ∀ (i : Nat) fz1 H1 sto, i < xs.length → Sts sp fz H fz1 H1 → Bs sp fz1 H1 sto → J.go i H1
  stop : ∀ fz1 H1 sto, Sts sp fz H fz1 H1 → Bs sp fz1 H1 sto → J.stop xs.length H1
  yld : ∀ (i : Nat) (x : PyData) fz1 H1 sto v H2, xs[i]? = some x → Sts sp fz H fz1 H1 → Bs sp fz1 H1 sto → J.yld i H1 v H2 → Stp sp fz1 H1 fz1 H2 ∧ SpL sp H2 sto ∧ Im K fz1 H2 v x
def rdI (K : PySem.W.Frag) (m : Mi) : TI := fun σ H R => ∃ (C : Cn) (fz : Fz) (ρ : Ev) (sto : Sto) (xs : List PyData) (sto' : Sto), Fm K C fz ρ sto σ H ∧ m ρ sto = some (xs, sto') ∧
  ∀ J fz' H', Stp C.sp fz H fz' H' → SpL C.sp H' sto' → Goes K C.sp fz' H' J xs → R J H'
def SI (X : Cx) (tg iter : Expr) (m : Mi) : Prop := PI X tg iter (rdI X.K m)
theorem PI.imp {X : Cx} {tg e : Expr} {t t' : TI} (h : PI X tg e t) (q : ∀ σ H R, t' σ H R → t σ H R) : PI X tg e t' := ⟨fun pins s σ H R I w => h.run pins s σ H R I (q _ _ _ w)⟩
def forRun (g : Gx) (body : Ms) : List PyData → Ms
  | [] => fun ρ s => some (.nx, ρ, s)
  | x :: xs => fun ρ s => match g x ρ with
    | none => none
    | some ρ1 => match body ρ1 s with
      | some (.nx, ρ2, s2) => forRun g body xs ρ2 s2
      | some (.ct, ρ2, s2) => forRun g body xs ρ2 s2
      | some (.bk, ρ2, s2) => some (.nx, ρ2, s2)
      | some (.rt r, ρ2, s2) => some (.rt r, ρ2, s2)
      | none => none
def mFor (it : Mi) (g : Gx) (body : Ms) : Ms := fun ρ s => match it ρ s with
  | some (xs, s1) => forRun g body xs ρ s1
  | none => none
section
variable {X : Cx} {tg iter : Expr} {is : List Nat} {g : Gx} {mi : Mi} {body : List Stmt} {mb : Ms} {pos : Pos}
theorem rs_for {K : PySem.W.Frag} {D : Ends} {σ : L2.St} {H : Hp} (h : rdS K (mFor mi g mb) D σ H) : tFor (rdI K mi) (rdG K is g) (rdS K mb) D σ H := by
  obtain ⟨C, fz, ρ, sto, out, ρ', sto', F, e, k⟩ := h
  unfold mFor at e
  split at e
  · rename_i xs s1 e1
    refine ⟨C, fz, ρ, sto, xs, s1, F, e1, fun J fz1 H1 st1 l1 G => ?_⟩
    have F1 := F.step st1 l1
    let W : Nat → Nat → L2.St → Hp → Prop := fun i m σ' H' => m = xs.length - i ∧ i ≤ xs.length ∧ ∃ fz2 ρ2 s2, Fm K C fz2 ρ2 s2 σ' H' ∧ Sts C.sp fz1 H1 fz2 H' ∧ forRun g mb (xs.drop i) ρ2 s2 = some (out, ρ', sto')
    refine ⟨W, ⟨xs.length, by simp, Nat.zero_le _, fz1, ρ, s1, F1, .refl, e⟩, ?_⟩
    rintro i m σ2 H2 ⟨rfl, hi, fz2, ρ2, s2, F2, S2, e2⟩
    by_cases hlt : i < xs.length
    · have hx : xs[i]? = some xs[i] := List.getElem?_eq_getElem hlt
      rw [List.drop_eq_getElem_cons hlt] at e2
      unfold forRun at e2
      split at e2
      · cases e2
      · rename_i ρ3 e3
        refine .inr ⟨G.go i fz2 H2 s2 hlt S2 F2.bs, fun σ' H' => W (i + 1) (xs.length - (i + 1)) σ' H', fun σ' H' w => ⟨xs.length - (i + 1), by omega, w⟩, fun v H3 y => ?_⟩
        obtain ⟨st3, l3, im⟩ := G.yld i _ fz2 H2 s2 v H3 hx S2 F2.bs y
        refine ⟨C, fz2, ρ2, s2, xs[i], ρ3, F2.step st3 l3, im, e3, fun σ4 hl4 ho4 F4 => ?_⟩
        have S3 := S2.trans st3.sts
        split at e2
        · rename_i ρ5 s5 e5
          refine ⟨C, fz2, ρ3, s2, .nx, ρ5, s5, F4, e5, fun fz6 σ6 H6 F6 S6 => ?_⟩
          exact ⟨rfl, hlt, fz6, ρ5, s5, F6, S3.trans S6, e2⟩
        · rename_i ρ5 s5 e5
          refine ⟨C, fz2, ρ3, s2, .ct, ρ5, s5, F4, e5, fun fz6 σ6 H6 F6 S6 => ?_⟩
          exact ⟨rfl, hlt, fz6, ρ5, s5, F6, S3.trans S6, e2⟩
        · rename_i ρ5 s5 e5
          cases e2
          refine ⟨C, fz2, ρ3, s2, .bk, ρ', sto', F4, e5, fun fz6 σ6 H6 F6 S6 => ?_⟩
          exact k fz6 σ6 H6 F6 (st1.sts.trans (S3.trans S6))
        · rename_i r ρ5 s5 e5
          cases e2
          refine ⟨C, fz2, ρ3, s2, .rt r, ρ', sto', F4, e5, fun fz6 σ6 H6 F6 S6 => ?_⟩
          exact k fz6 σ6 H6 F6 (st1.sts.trans (S3.trans S6))
        · cases e2
    · have ei : i = xs.length := by omega
      subst ei
      rw [List.drop_length] at e2
      cases e2
      exact .inl ⟨G.stop fz2 H2 _ S2 F2.bs, k fz2 σ2 H2 F2 (st1.sts.trans S2)⟩
  · cases e
theorem ss_for (hp : PassesOwn (model X.prog X.w) X.A X.env X.xe) (hc : X.calm = true) (hi : SI X tg iter mi) (hg : SG X tg is g) (hb : SL X body mb) (hs : ∀ x, foldedSetIterable iter X.env x = pure x := by intro _; rfl) :
    SS X (.For tg iter body [] pos) (mFor mi g mb) := PS.imp (ps_for hp hc hi hg hb hs) fun _ _ _ h => rs_for h
end
def whRun (c : Mt) (body : Ms) : Nat → Ms
  | 0 => fun _ _ => none
  | n + 1 => fun ρ s => match c ρ s with
    | none => none
    | some (false, s1) => some (.nx, ρ, s1)
    | some (true, s1) => match body ρ s1 with
      | some (.nx, ρ2, s2) => whRun c body n ρ2 s2
      | some (.ct, ρ2, s2) => whRun c body n ρ2 s2
      | some (.bk, ρ2, s2) => some (.nx, ρ2, s2)
      | some (.rt r, ρ2, s2) => some (.rt r, ρ2, s2)
      | none => none
theorem whRun_eq {c : Mt} {body : Ms} {n : Nat} {ρ : Ev} {s : Sto} : whRun c body (n + 1) ρ s = (match c ρ s with
    | none => none
    | some (false, s1) => some (.nx, ρ, s1)
    | some (true, s1) => match body ρ s1 with
      | some (.nx, ρ2, s2) => whRun c body n ρ2 s2
      | some (.ct, ρ2, s2) => whRun c body n ρ2 s2
      | some (.bk, ρ2, s2) => some (.nx, ρ2, s2)
      | some (.rt r, ρ2, s2) => some (.rt r, ρ2, s2)
      | none => none) := rfl
theorem whRun_succ {c : Mt} {body : Ms} : ∀ {n : Nat} {ρ : Ev} {s : Sto} {r : Out × Ev × Sto}, whRun c body n ρ s = some r → whRun c body (n + 1) ρ s = some r
  | 0, _, _, _, h => by cases h
  | n + 1, ρ, s, r, h => by
    rw [whRun_eq] at h
    rw [whRun_eq]
    cases hc : c ρ s with
    | none => rw [hc] at h; cases h
    | some p =>
      obtain ⟨k, s1⟩ := p
      rw [hc] at h
      cases k with
      | false => exact h
      | true =>
        cases hb : body ρ s1 with
        | none => simp only [hb] at h; cases h
        | some q =>
          obtain ⟨out, ρ2, s2⟩ := q
          simp only [hb] at h ⊢
          cases out with
          | nx => exact whRun_succ h
          | ct => exact whRun_succ h
          | bk => exact h
          | rt r' => exact h
theorem whRun_le {c : Mt} {body : Ms} {n m : Nat} (h : n ≤ m) {ρ : Ev} {s : Sto} {r : Out × Ev × Sto} (e : whRun c body n ρ s = some r) : whRun c body m ρ s = some r := by
  induction h with
  | refl => exact e
  | step _ ih => exact whRun_succ ih
open Classical in
noncomputable def mWhile (c : Mt) (body : Ms) : Ms := fun ρ s => if h : ∃ (n : Nat) (r : Out × Ev × Sto), whRun c body n ρ s = some r then some (choose (choose_spec h)) else none
theorem mWhile_of {c : Mt} {body : Ms} {n : Nat} {ρ : Ev} {s : Sto} {r : Out × Ev × Sto} (e : whRun c body n ρ s = some r) : mWhile c body ρ s = some r := by
  have h : ∃ (n : Nat) (r : Out × Ev × Sto), whRun c body n ρ s = some r := ⟨n, r, e⟩
  unfold mWhile
  rw [dif_pos h]
  have q := Classical.choose_spec (Classical.choose_spec h)
  have a := whRun_le (Nat.le_max_left n (Classical.choose h)) e
  have b := whRun_le (Nat.le_max_right n (Classical.choose h)) q
  rw [a] at b
  exact b.symm
theorem mWhile_some {c : Mt} {body : Ms} {ρ : Ev} {s : Sto} {r : Out × Ev × Sto} (h : mWhile c body ρ s = some r) : ∃ n, whRun c body n ρ s = some r := by
  unfold mWhile at h
  split at h
  · rename_i q
    have p := Classical.choose_spec (Classical.choose_spec q)
    cases h
    exact ⟨_, p⟩
  · cases h
section
variable {X : Cx} {c : Expr} {tc : Mt} {body : List Stmt} {mb : Ms} {pos : Pos}
theorem rs_while {K : PySem.W.Frag} {D : Ends} {σ : L2.St} {H : Hp} (h : rdS K (mWhile tc mb) D σ H) : tWhile (rdT K tc) (rdS K mb) D σ H := by
  obtain ⟨C, fz, ρ, sto, out, ρ', sto', F, e, k⟩ := h
  obtain ⟨n, e⟩ := mWhile_some e
  let W : Nat → L2.St → Hp → Prop := fun m σ' H' => ∃ fz2 ρ2 s2, Fm K C fz2 ρ2 s2 σ' H' ∧ Sts C.sp fz H fz2 H' ∧ whRun tc mb m ρ2 s2 = some (out, ρ', sto')
  refine ⟨W, ⟨n, fz, ρ, sto, F, .refl, e⟩, ?_⟩
  rintro m σ2 H2 ⟨fz2, ρ2, s2, F2, S2, e2⟩
  cases m with
  | zero => cases e2
  | succ m =>
    unfold whRun at e2
    split at e2
    · cases e2
    · rename_i s3 e3
      cases e2
      exact ⟨C, fz2, ρ', s2, false, _, F2, e3, fun fz4 H4 st4 l4 => k fz4 σ2 H4 (F2.step st4 l4) (S2.trans st4.sts)⟩
    · rename_i s3 e3
      refine ⟨C, fz2, ρ2, s2, true, s3, F2, e3, fun fz4 H4 st4 l4 => ?_⟩
      have F4 := F2.step st4 l4
      have S4 := S2.trans st4.sts
      show ∃ N : L2.St → Hp → Prop, (∀ σ' H', N σ' H' → ∃ m', m' < m + 1 ∧ W m' σ' H') ∧ _
      refine ⟨fun σ' H' => W m σ' H', fun σ' H' w => ⟨m, Nat.lt_succ_self m, w⟩, ?_⟩
      split at e2
      · rename_i ρ5 s5 e5
        exact ⟨C, fz4, ρ2, s3, .nx, ρ5, s5, F4, e5, fun fz6 σ6 H6 F6 S6 => ⟨fz6, ρ5, s5, F6, S4.trans S6, e2⟩⟩
      · rename_i ρ5 s5 e5
        exact ⟨C, fz4, ρ2, s3, .ct, ρ5, s5, F4, e5, fun fz6 σ6 H6 F6 S6 => ⟨fz6, ρ5, s5, F6, S4.trans S6, e2⟩⟩
      · rename_i ρ5 s5 e5
        cases e2
        exact ⟨C, fz4, ρ2, s3, .bk, ρ', sto', F4, e5, fun fz6 σ6 H6 F6 S6 => k fz6 σ6 H6 F6 (S4.trans S6)⟩
      · rename_i r ρ5 s5 e5
        cases e2
        exact ⟨C, fz4, ρ2, s3, .rt r, ρ', sto', F4, e5, fun fz6 σ6 H6 F6 S6 => k fz6 σ6 H6 F6 (S4.trans S6)⟩
      · cases e2
theorem ss_while (hp : PassesOwn (model X.prog X.w) X.A X.env X.xe) (hc : SB X c tc) (hb : SL X body mb) : SS X (.While c body [] pos) (mWhile tc mb) := PS.imp (ps_while hp hc hb) fun _ _ _ h => rs_while h
end
def wipeE (ρ : Ev) : List Nat → Ev
  | [] => ρ
  | v :: vs => (wipeE ρ vs).set v none
theorem wipeE_length (ρ : Ev) : ∀ vs : List Nat, (wipeE ρ vs).length = ρ.length
  | [] => rfl
  | v :: vs => by unfold wipeE; rw [List.length_set, wipeE_length ρ vs]
theorem wipeE_some {ρ : Ev} {i : Nat} {c : Cl} : ∀ {vs : List Nat}, (wipeE ρ vs)[i]? = some (some c) → ρ[i]? = some (some c) ∧ i ∉ vs
  | [], h => ⟨h, by simp⟩
  | v :: vs, h => by
    unfold wipeE at h
    by_cases e : i = v
    · subst e
      by_cases hi : i < (wipeE ρ vs).length
      · rw [List.getElem?_set_self hi] at h; cases h
      · rw [List.getElem?_eq_none (by rw [List.length_set]; omega)] at h; cases h
    · rw [List.getElem?_set_ne (Ne.symm e)] at h
      obtain ⟨h1, h2⟩ := wipeE_some h
      exact ⟨h1, by simp [e, h2]⟩
section
variable {K : PySem.W.Frag} {C : Cn} {fz fz1 : Fz} {ρ : Ev} {sto sto' : Sto} {σ : L2.St} {H H1 : Hp}
theorem Fm.wipe (F : Fm K C fz ρ sto σ H) (vs : List Nat) : Fm K C fz (wipeE ρ vs) sto (L2.wipe σ vs) H where
  len := by rw [wipeE_length, wipe_length, F.len]
  st := F.st
  bs := F.bs
  vars := fun i c h => by
    obtain ⟨h1, h2⟩ := wipeE_some h
    have q := F.vars i c h1
    cases c with
    | d x => obtain ⟨u, e1, e2⟩ := q; exact ⟨u, (wipe_out h2).trans e1, e2⟩
    | o xs => obtain ⟨a, vs, e1, e2⟩ := q; exact ⟨a, vs, (wipe_out h2).trans e1, e2⟩
    | s => obtain ⟨a, ea, q⟩ := q; exact ⟨a, ea, (wipe_out h2).trans q⟩
    | m acc => obtain ⟨a, vs, e1, e2⟩ := q; exact ⟨a, vs, (wipe_out h2).trans e1, e2⟩
  sep := fun i j xs ys a hij h1 h2 h3 h4 => by
    obtain ⟨g1, n1⟩ := wipeE_some h1
    obtain ⟨g2, n2⟩ := wipeE_some h2
    rw [wipe_out n1] at h3
    rw [wipe_out n2] at h4
    exact F.sep i j xs ys a hij g1 g2 h3 h4
/-- a list that nobody owns is written -/
theorem Fm.side (F : Fm K C fz ρ sto σ H) {D : Addr} {ws : List V} (hD : ∃ us, H D = some (.lst us)) (nf : ¬ fz D) (ns : some D ≠ C.sp) (n0 : C.H0 D = none) (no : ∀ (i : Nat) (xs : List PyData), ρ[i]? = some (some (Cl.o xs)) → σ[i]? ≠ some (some (V.ref D))) :
    Fm K C fz ρ sto σ (upd H D (.lst ws)) ∧ Sts C.sp fz H fz (upd H D (.lst ws)) := by
  obtain ⟨us, hD⟩ := hD
  have S : Sts C.sp fz H fz (upd H D (.lst ws)) := ⟨fun _ q => q, fun b o q n c => by
    have : b ≠ D := fun z => by
      subst z
      rcases c with c | c
      · exact nf c
      · rw [hD] at q; cases q; exact c.1 _ rfl
    rw [upd_ne this]; exact q⟩
  refine ⟨⟨F.len, ⟨F.st.mono, fun b o q n => ?_, F.st.new, fun t b q z => ?_⟩, ⟨?_, F.bs.nsp, fun b q z => ?_⟩, fun j c q => ?_, F.sep⟩, S⟩
  · have : b ≠ D := fun z => by subst z; rw [n0] at q; cases q
    rw [upd_ne this]; exact F.st.ext b o q n
  · by_cases e : b = D
    · subst e; rw [upd_same] at z; cases z
    · rw [upd_ne e] at z; exact F.st.trk t b q z
  · exact F.bs.spl.upd ns
  · by_cases e : b = D
    · subst e; rw [upd_same] at z; cases z
    · rw [upd_ne e] at z; exact F.bs.trk b q z
  · have g := F.vars j c q
    cases c with
    | d x => obtain ⟨u, g1, g2⟩ := g; exact ⟨u, g1, g2.sts S F.bs⟩
    | o us =>
      obtain ⟨b, ts, g1, g2, g3, g4, g5, g6⟩ := g
      have : b ≠ D := fun z => by subst z; exact no j us q g1
      exact ⟨b, ts, g1, by rw [upd_ne this]; exact g2, g3.sts S F.bs, g4, g5, g6⟩
    | s => exact g
    | m acc =>
      obtain ⟨b, ts, g1, g2, g3, g4, g5, g6⟩ := g
      have : b ≠ D := fun z => by subst z; rw [hD] at g2; cases g2
      exact ⟨b, ts, g1, by rw [upd_ne this]; exact g2, ⟨g3.1, g3.2.sts S F.bs⟩, g4, g5, g6⟩
end
def lcRun (vs : List Nat) (g : Gx) (t : Mt) (e : Mx) : List PyData → Ev → Sto → Option (List PyData × Sto)
  | [] => fun _ s => some ([], s)
  | x :: xs => fun ρ s => match g x (wipeE ρ vs) with
    | none => none
    | some ρ1 => match t ρ1 s with
      | none => none
      | some (false, s1) => lcRun vs g t e xs ρ s1
      | some (true, s1) => match e ρ1 s1 with
        | none => none
        | some (r, s2) => match toD r, lcRun vs g t e xs ρ s2 with
          | some y, some (ys, s3) => some (y :: ys, s3)
          | _, _ => none
def mLc (it : Mi) (vs : List Nat) (g : Gx) (t : Mt) (e : Mx) : Mx := fun ρ s => match it ρ s with
  | some (xs, s1) => match lcRun vs g t e xs ρ s1 with
    | some (ys, s2) => if ys.length ≤ sizeLine then some (.f ys, s2) else none
    | none => none
  | none => none
def mYes : Mt := fun _ s => some (true, s)
theorem wipe_agree {σ σ2 : L2.St} {vs is : List Nat} (hl : σ2.length = (wipe σ vs).length) (ho : ∀ i, i ∉ is → σ2[i]? = (wipe σ vs)[i]?) (hs : ∀ i, i ∈ is → i ∈ vs) : wipe σ2 vs = wipe σ vs := by
  have key : ∀ (τ : L2.St) (ws : List Nat) (i : Nat), (wipe τ ws)[i]? = if i ∈ ws then (if i < τ.length then some none else none) else τ[i]? := by
    intro τ ws
    induction ws with
    | nil => intro i; simp [wipe]
    | cons w ws ih =>
      intro i
      unfold wipe
      by_cases e : i = w
      · subst e
        by_cases hi : i < τ.length
        · rw [List.getElem?_set_self (by rw [wipe_length]; exact hi)]; simp [hi]
        · rw [List.getElem?_eq_none (by rw [List.length_set, wipe_length]; omega)]; simp [hi]
      · rw [List.getElem?_set_ne (Ne.symm e), ih i]
        simp [e]
  have hl' : σ2.length = σ.length := by rw [hl, wipe_length]
  apply List.ext_getElem?
  intro i
  rw [key σ2 vs i, key σ vs i, hl']
  by_cases hi : i ∈ vs
  · simp [hi]
  · simp only [hi, if_false]
    rw [ho i fun z => hi (hs i z), key σ vs i]
    simp [hi]
section
variable {K : PySem.W.Frag} {mi : Mi} {g : Gx} {is vs : List Nat} {mt : Mt} {me : Mx}
theorem rd_lc (hs : ∀ i, i ∈ is → i ∈ vs) {σ : L2.St} {H : Hp} {Q : VK} (h : rdE K (mLc mi vs g mt me) σ H Q) : tLc (rdI K mi) (rdG K is g) (rdT K mt) (rdE K me) vs σ H Q := by
  obtain ⟨C, fz, ρ, sto, z, sto', F, e, k⟩ := h
  unfold mLc at e
  split at e
  · rename_i xs s1 e1
    split at e
    · rename_i ys s2 e2
      split at e
      · rename_i hz
        cases e
        refine ⟨C, fz, ρ, sto, xs, s1, F, e1, fun J fz1 H1 st1 l1 G => ?_⟩
        have F1 := F.step st1 l1
        intro D hD
        have nD : some D ≠ C.sp := l1.ne hD (by intro z; cases z)
        have n0 : C.H0 D = none := F1.st.back nD hD
        have nfz : ¬ fz1 D := fun z => F1.bs.trk D z hD
        have noD : ∀ (i : Nat) (us : List PyData), ρ[i]? = some (some (Cl.o us)) → σ[i]? ≠ some (some (V.ref D)) := fun i us q1 q2 => by
          obtain ⟨a, ws, g1, g2, _⟩ := F1.owned q1
          rw [q2] at g1; cases g1
          rw [hD] at g2; cases g2
        let W : Nat → Nat → Hp → Prop := fun i m H' => m = xs.length - i ∧ i ≤ xs.length ∧ ∃ (fz2 : Fz) (s3 : Sto) (acc : List V) (ya yb : List PyData), Fm K C fz2 ρ s3 σ H' ∧ Stp C.sp fz1 H1 fz2 H' ∧ H' D = some (.lst acc) ∧ ImA K fz2 H' acc ya ∧ ¬ fz2 D ∧
          lcRun vs g mt me (xs.drop i) ρ s3 = some (yb, sto') ∧ ys = ya ++ yb
        have st2 : Stp C.sp fz1 H1 fz1 (upd H1 D (.lst [])) := .laid hD
        have l2 : SpL C.sp (upd H1 D (.lst [])) s1 := l1.upd nD
        refine ⟨W, ⟨xs.length, by simp, Nat.zero_le _, fz1, s1, [], [], ys, F1.step st2 l2, st2, upd_same, .nil, nfz, e2, rfl⟩, ?_⟩
        rintro i m H2 ⟨rfl, hi, fz2, s3, acc, ya, yb, F2, S2, hD2, im2, nf2, e3, ey⟩
        by_cases hlt : i < xs.length
        · have hx : xs[i]? = some xs[i] := List.getElem?_eq_getElem hlt
          rw [List.drop_eq_getElem_cons hlt] at e3
          unfold lcRun at e3
          split at e3
          · cases e3
          · rename_i ρ4 e4
            refine .inr ⟨G.go i fz2 H2 s3 hlt S2.sts F2.bs, fun H' => W (i + 1) (xs.length - (i + 1)) H', fun H' w => ⟨xs.length - (i + 1), by omega, w⟩, fun v H3 y => ?_⟩
            obtain ⟨st3, l3, im⟩ := G.yld i _ fz2 H2 s3 v H3 hx S2.sts F2.bs y
            have F3 := F2.step st3 l3
            refine ⟨C, fz2, wipeE ρ vs, s3, xs[i], ρ4, F3.wipe vs, im, e4, fun σ4 hl4 ho4 F4 => ?_⟩
            refine ⟨wipe_agree hl4 ho4 hs, ?_⟩
            have hD3 : H3 D = some (.lst acc) := st3.ext _ _ hD2 nD
            split at e3
            · cases e3
            · rename_i s5 e5
              refine ⟨C, fz2, ρ4, s3, false, s5, F4, e5, fun fz6 H6 st6 l6 => ?_⟩
              refine iteF ?_
              have F6 := F3.step st6 l6
              refine ⟨rfl, hlt, fz6, s5, acc, ya, yb, F6, (S2.trans st3).trans st6, st6.ext _ _ hD3 nD, (im2.stp st3 F2.bs).stp st6 F3.bs, fun z => ?_, e3, ey⟩
              rcases st6.new D z with z | ⟨_, z⟩
              · exact nf2 z
              · rw [hD3] at z; cases z
            · rename_i s5 e5
              refine ⟨C, fz2, ρ4, s3, true, s5, F4, e5, fun fz6 H6 st6 l6 => ?_⟩
              refine iteT ?_
              have F6 := F3.step st6 l6
              have F46 := F4.step st6 l6
              have hD6 : H6 D = some (.lst acc) := st6.ext _ _ hD3 nD
              split at e3
              · cases e3
              · rename_i r s7 e7
                split at e3
                · rename_i y ys' s8 ey' e8
                  cases e3
                  refine ⟨C, fz6, ρ4, s5, r, s7, F46, e7, fun w fz8 H8 st8 l8 i8 => ?_⟩
                  obtain ⟨fz9, F9, st9, im9⟩ := F6.keep st8 l8 i8 ey'
                  have hD8 : H8 D = some (.lst acc) := st8.ext _ _ hD6 nD
                  have nf9 : ¬ fz9 D := fun z => by
                    rcases st9.new D z with z | ⟨_, z⟩
                    · rcases st6.new D z with z | ⟨_, z⟩
                      · exact nf2 z
                      · rw [hD3] at z; cases z
                    · rw [hD6] at z; cases z
                  have ia : ImA K fz9 H8 acc ya := ((im2.stp st3 F2.bs).stp st6 F3.bs).stp st9 F6.bs
                  have il : acc.length = ya.length := ia.length
                  refine ⟨acc, hD8, ?_, rfl, hlt, fz9, s7, acc ++ [w], ya ++ [y], ys', ?_⟩
                  · rw [il]
                    have := congrArg List.length ey
                    rw [List.length_append, List.length_cons] at this
                    omega
                  · obtain ⟨F10, S10⟩ := F9.side (ws := acc ++ [w]) ⟨acc, hD8⟩ nf9 nD n0 noD
                    have st10 : Stp C.sp fz1 H1 fz9 (upd H8 D (.lst (acc ++ [w]))) := by
                      have q := (((S2.trans st3).trans st6).trans st9)
                      refine ⟨q.mono, fun b o qb n => ?_, q.new, fun t b qb z => ?_⟩
                      · have : b ≠ D := fun z => by subst z; rw [hD] at qb; cases qb
                        rw [upd_ne this]; exact q.ext b o qb n
                      · by_cases eb : b = D
                        · subst eb; rw [upd_same] at z; cases z
                        · rw [upd_ne eb] at z; exact q.trk t b qb z
                    exact ⟨F10, st10, upd_same, (ia.append (.cons im9 .nil)).sts S10 F9.bs, nf9, e8, by rw [ey, List.append_assoc]; rfl⟩
                · cases e3
        · have ei : i = xs.length := by omega
          subst ei
          rw [List.drop_length] at e3
          cases e3
          refine .inl ⟨G.stop fz2 H2 _ S2.sts F2.bs, ?_⟩
          refine k _ fz2 H2 (st1.trans S2) F2.bs.spl ⟨D, acc, rfl, hD2, ?_, nf2, nD, st1.back nD hD⟩
          rw [ey, List.append_nil]
          exact im2
      · cases e
    · cases e
  · cases e
end
section
variable {X : Cx} {elt tg iter : Expr} {ifs : List Expr} {scope : Scope} {own : List (Str × Nat)} {pos : Pos} {is : List Nat} {mi : Mi} {g : Gx} {mt : Mt} {me : Mx}
def STs (X : Cx) (ifs : List Expr) (t : Mt) : Prop := PTs X ifs (rdT X.K t)
theorem sts_nil : STs X [] mYes := ⟨fun pins s σ H Q I w => pts_nil.run pins s σ H Q I (by
  obtain ⟨C, fz, ρ, sto, r, sto', F, e, k⟩ := w
  cases e
  exact k fz H .refl F.bs.spl)⟩
theorem sts_one {c : Expr} {t : Mt} (h : SB X c t) : STs X [c] t := pts_one h
theorem se_lc (hc : X.calm = true) (hN : X.N.Nodup) (hi : SI X tg iter mi) (ok : BlkOk X.N X.env.scope scope own) (hs : ∀ i, i ∈ is → i ∈ own.map (·.2))
    (hg : ∀ (s : Shared) (H : Hp) (C : Addr) (cl : List (Str × Addr)) (fp : List Addr), SG (X.blk s H scope (compEnvC scope cl C X.env) fp) tg is g) (ht : ∀ (s : Shared) (H : Hp) (C : Addr) (cl : List (Str × Addr)) (fp : List Addr), STs (X.blk s H scope (compEnvC scope cl C X.env) fp) ifs mt)
    (he : ∀ (s : Shared) (H : Hp) (C : Addr) (cl : List (Str × Addr)) (fp : List Addr), SE (X.blk s H scope (compEnvC scope cl C X.env) fp) elt me) (hf : ∀ x, foldedSetIterable iter X.env x = pure x := by intro _; rfl) :
    SE X (.ListComp elt [⟨tg, iter, ifs, 0⟩] scope pos) (mLc mi (own.map (·.2)) g mt me) := PE.imp (pe_lc (g := rdG X.K is g) (tt := rdT X.K mt) (te := rdE X.K me) hc hN hi ok hg ht he hf) fun _ _ _ h => rd_lc hs h
/-- name = [..] -/
theorem ss_setLc {i : Nat} {y : Str} {py spos : Pos} (hc : X.calm = true) (hN : X.N.Nodup) (hy : X.N[i]? = some y) (hyl : X.env.scope.names.lookup y = some .local)
    (hsw : swapsWith (.ListComp elt [⟨tg, iter, ifs, 0⟩] scope pos) (some (.Name y py)) spos.line X.env = pure true) (hi : SI X tg iter mi) (ok : BlkOk X.N X.env.scope scope own) (hs : ∀ i, i ∈ is → i ∈ own.map (·.2))
    (hg : ∀ (s : Shared) (H : Hp) (C : Addr) (cl : List (Str × Addr)) (fp : List Addr), SG (X.blk s H scope (compEnvC scope cl C X.env) fp) tg is g) (ht : ∀ (s : Shared) (H : Hp) (C : Addr) (cl : List (Str × Addr)) (fp : List Addr), STs (X.blk s H scope (compEnvC scope cl C X.env) fp) ifs mt)
    (he : ∀ (s : Shared) (H : Hp) (C : Addr) (cl : List (Str × Addr)) (fp : List Addr), SE (X.blk s H scope (compEnvC scope cl C X.env) fp) elt me) (hf : ∀ x, foldedSetIterable iter X.env x = pure x := by intro _; rfl) :
    SS X (.Assign [.Name y py] (.ListComp elt [⟨tg, iter, ifs, 0⟩] scope pos) spos) (mSet i (mLc mi (own.map (·.2)) g mt me)) :=
  PS.impI (ps_setLc (g := rdG X.K is g) (tt := rdT X.K mt) (te := rdE X.K me) hc hN hy hyl hsw hi ok hg ht he hf) fun D σ H hl h => by
    obtain ⟨C, fz, ρ, sto, out, ρ', sto', F, e, k⟩ := h
    have : rdE X.K (mLc mi (own.map (·.2)) g mt me) σ H (fun x H1 => gName i x σ H1 D.nx) := by
      unfold mSet at e
      split at e
      · rename_i r s1 e1
        split at e
        · rename_i c ec
          cases e
          exact ⟨C, fz, ρ, sto, r, _, F, e1, fun v fz1 H1 st1 l1 i1 => k fz1 _ H1 (F.give st1 l1 i1 ec (lt_of_slot hy hl)) st1.sts⟩
        · cases e
      · cases e
    exact rd_lc hs this
end
end Dh
namespace Dh
open PySem PySem.Spec L2 RZ
section
variable {K : PySem.W.Frag} {sp : Option Addr} {fz fz1 : Fz} {H H1 : Hp} {sto : Sto}
theorem Goes.of {J : It} {n : Nat} {G : Hp → Prop} {Y : Nat → Hp → V → Hp → Prop} {xs : List PyData} (w : Walk J n G Y) (hn : xs.length = n) (hg : ∀ fz1 H1 sto, Sts sp fz H fz1 H1 → Bs sp fz1 H1 sto → G H1)
    (hy : ∀ (i : Nat) (x : PyData) fz1 H1 sto v H2, xs[i]? = some x → Sts sp fz H fz1 H1 → Bs sp fz1 H1 sto → Y i H1 v H2 → Stp sp fz1 H1 fz1 H2 ∧ SpL sp H2 sto ∧ Im K fz1 H2 v x) : Goes K sp fz H J xs where
  go := fun i fz1 H1 sto hi s B => w.goes i H1 (by rw [← hn]; exact hi) (hg fz1 H1 sto s B)
  stop := fun fz1 H1 sto s B => by rw [hn]; exact w.stops H1 (hg fz1 H1 sto s B)
  yld := fun i x fz1 H1 sto v H2 hx s B y => hy i x fz1 H1 sto v H2 hx s B (w.yields i H1 v H2 (by rw [← hn]; exact (List.getElem?_eq_some_iff.mp hx).1) (hg fz1 H1 sto s B) y)
theorem goes_list {a : Addr} {vs : List V} {xs : List PyData} (h : FzL K fz H a vs) (im : ImA K fz H vs xs) (B0 : Bs sp fz H sto) : Goes K sp fz H (Itl K a) xs :=
  .of (walk_list (xs := vs)) im.length.symm (fun fz1 H1 sto s B => (h.sts s B0).sq) fun i x fz1 H1 sto v H2 hx s B y => by
    obtain ⟨rfl, e⟩ := y
    obtain ⟨w, hw, iw⟩ := im.at i x hx
    rw [e] at hw; cases hw
    exact ⟨.refl, B.spl, iw.sts s B0⟩
theorem goes_tup {a : Addr} {vs : List V} {xs : List PyData} (h : SqT K H a vs) (im : ImA K fz H vs xs) (B0 : Bs sp fz H sto) : Goes K sp fz H (Itt K a) xs :=
  .of (walk_tup (xs := vs)) im.length.symm (fun fz1 H1 sto s B => SqT.sts s B0 h) fun i x fz1 H1 sto v H2 hx s B y => by
    obtain ⟨rfl, e⟩ := y
    obtain ⟨w, hw, iw⟩ := im.at i x hx
    rw [e] at hw; cases hw
    exact ⟨.refl, B.spl, iw.sts s B0⟩
def rangeL (lo : Int) (n : Nat) : List PyData := (List.range n).map fun i => PyData.int (lo + (i : Nat))
theorem goes_range {lo : Int} {n : Nat} : Goes K sp fz H (Itr lo n) (rangeL lo n) :=
  .of walk_range (by unfold rangeL; rw [List.length_map, List.length_range]) (fun _ _ _ _ _ => trivial) fun i x fz1 H1 sto v H2 hx s B y => by
    obtain ⟨rfl, rfl⟩ := y
    unfold rangeL at hx
    rw [List.getElem?_map] at hx
    cases q : (List.range n)[i]? with
    | none => rw [q] at hx; cases hx
    | some j =>
      rw [q] at hx
      cases hx
      have : j = i := by
        obtain ⟨h1, h2⟩ := List.getElem?_eq_some_iff.mp q
        rw [List.getElem_range] at h2
        exact h2.symm
      subst this
      exact ⟨.refl, B.spl, .int _⟩
def pairs (xs ys : List PyData) : List PyData := (xs.zip ys).map fun p => PyData.tuple [p.1, p.2]
theorem pairs_at {xs ys : List PyData} {i : Nat} {z : PyData} (h : (pairs xs ys)[i]? = some z) : ∃ x y, xs[i]? = some x ∧ ys[i]? = some y ∧ z = .tuple [x, y] := by
  unfold pairs at h
  rw [List.getElem?_map] at h
  cases q : (xs.zip ys)[i]? with
  | none => rw [q] at h; cases h
  | some p =>
    rw [q] at h; cases h
    rw [List.getElem?_zip_eq_some] at q
    exact ⟨p.1, p.2, q.1, q.2, rfl⟩
/-- a new pair -/
theorem pair_new {H2 : Hp} {v w : V} {x y : PyData} {T : Addr} {o : Obj} (B : Bs sp fz H sto) (i1 : Im K fz H v x) (i2 : Im K fz H w y) (hT : H T = none) (hd : o.dict = none) (e : H2 = upd H T (.frz o (.tup [v, w]))) : Stp sp fz H fz H2 ∧ SpL sp H2 sto ∧ Im K fz H2 (.ref T) (.tuple [x, y]) := by
  subst e
  exact new_tup B (.cons i1 (.cons i2 .nil)) hT hd
end
section
variable {X : Cx} {tg l : Expr} {ml : Mx} {pos : Pos}
theorem pi_seq {tl : TE} (hl : PE X l tl) : PI X tg l (fun σ H R => tl σ H fun x H1 => ∃ a, x = .ref a ∧ (((∃ xs, SqL X.K H1 a xs) ∧ R (Itl X.K a) H1) ∨ ((∃ xs, SqT X.K H1 a xs) ∧ R (Itt X.K a) H1))) := ⟨fun pins s σ H R I h => by
  refine thn (hl.run pins s σ H _ I h) ?_
  rintro v s1 ⟨x, H1, I1, r1, a, rfl, q⟩
  cases r1
  have fr : ∀ b ∈ [s1.heap.objs.size], FpOk X pins H1 b := fun b hb => by
    rw [List.mem_singleton] at hb
    subst hb
    exact I1.fpOk (Nat.le_refl _) (I1.hok.fresh (Nat.le_refl _))
  rcases q with ⟨⟨xs, hq⟩, q⟩ | ⟨⟨xs, hq⟩, q⟩
  · obtain ⟨its, _, p, _⟩ := I1.list hq
    exact wpAny_pyIter_list p.isList ⟨_, _, _, _, H1, rfl, I1.kept (t' := s1.toks) (fun b o e => Heap.get?_push_of_some _ e), turn_list a _, ⟨_, Heap.get?_push_size _ rfl, rfl, rfl⟩, fr, q⟩
  · obtain ⟨its, _, p, _⟩ := I1.tuple hq
    exact wpAny_pyIter_tuple (show s1.heap.IsTuple a its.toArray from p) ⟨_, _, _, _, H1, rfl, I1.kept (t' := s1.toks) (fun b o e => Heap.get?_push_of_some _ e), turn_tuple a _, ⟨_, Heap.get?_push_size _ rfl, rfl, rfl⟩, fr, q⟩⟩
/-- the items of a list that stays, of one just made, of a tuple -/
def itemsOf : R → Option (List PyData)
  | .d (.list xs) => some xs
  | .d (.tuple xs) => some xs
  | .f xs => some xs
  | _ => none
def mSeqI (a : Mx) : Mi := bnd a fun x _ => ret (itemsOf x)
theorem si_seq (hl : SE X l ml) : SI X tg l (mSeqI ml) := PI.imp (pi_seq hl) fun σ H R h => by
  obtain ⟨C, fz, ρ, sto, xs, sto', F, e, k⟩ := h
  obtain ⟨x, s1, ea, e1⟩ := bnd_some e
  obtain ⟨ef, rfl⟩ := ret_some e1
  clear e e1
  refine ⟨C, fz, ρ, sto, x, _, F, ea, fun v fz1 H1 st1 l1 i1 => ?_⟩
  have B1 := F.bs.step st1 l1
  unfold itemsOf at ef
  split at ef
  · cases ef
    cases i1 with
    | lst h im => exact ⟨_, rfl, .inl ⟨⟨_, h.sq⟩, k _ fz1 H1 st1 l1 (goes_list h im B1)⟩⟩
  · cases ef
    cases i1 with
    | tup h im => exact ⟨_, rfl, .inr ⟨⟨_, h.sq⟩, k _ fz1 H1 st1 l1 (goes_tup h.sq im B1)⟩⟩
  · cases ef
    obtain ⟨a, vs, rfl, h1, h2, h3, h4, h5⟩ := i1
    have st2 := st1.freeze h5 h4 h1
    exact ⟨a, rfl, .inl ⟨⟨vs, .inl (.inl h1)⟩, k _ _ H1 st2 l1 (goes_list (.inl ⟨h1, .inr rfl⟩) (h2.fzm fun b q => .inl q) (F.bs.step st2 l1))⟩⟩
  · cases ef
def range1 : List R → Option (List PyData)
  | [.d (.int j)] => if -(2 ^ 62) ≤ j ∧ j < 2 ^ 62 then some (rangeL 0 j.toNat) else none
  | _ => none
def mArgI (f : List R → Option (List PyData)) (a : Ma) : Mi := bnd a fun x _ => ret (f x)
variable {a b : Expr} {m : Ma} {p : Pos}
theorem si_range1 (ha : SA X [a] m) (hm : X.mg "range" = none) (hg : Gl X "range" := by rfl) (hs : starEach [a] X.env = [(false, eval a X.env)] := by rfl) : SI X tg (.Call (.Name "range" p) [a] [] pos) (mArgI range1 m) := PI.imp (pi_range1 hg hm ha hs) fun σ H R h => by
  obtain ⟨C, fz, ρ, sto, xs, sto', F, e, k⟩ := h
  obtain ⟨x, s1, ea, e1⟩ := bnd_some e
  obtain ⟨ef, rfl⟩ := ret_some e1
  clear e e1
  refine ⟨C, fz, ρ, sto, x, _, F, ea, fun v fz1 H1 st1 l1 i1 => ?_⟩
  unfold range1 at ef
  split at ef
  · split at ef
    · rename_i hz
      cases ef
      cases i1 with
      | cons i1 t =>
        cases t; cases i1
        exact ⟨_, rfl, hz.1, hz.2, k _ fz1 H1 st1 l1 goes_range⟩
    · cases ef
  · cases ef
end
end Dh
namespace Dh
open PySem PySem.Spec L2 PySem.W
/-- a def's promise, called where no repr is under way -/
structure FnG (P : Program) (w : World) (K : PySem.W.Frag) (mg : Str → Option Value) (base : Heap) (k : Nat) (f : Addr) (fd : FuncData) (ps : List Str) (sp : Sp) : Prop where
  len : ∀ vs H Q E, sp vs H Q E → vs.length = ps.length
  run : ∀ (A : Around) (outer : List Env) (s : Shared) (H : Hp) (args : Args) (us : List Value) (vs : List V) (Q : VK), Room k A → A.guards = some [] → Env0 P w K mg base A outer s H → BindsTo s fd args (ps.zip us) → Vals vs us → sp vs H Q E0 →
    codeAny (model P w) A (.call (.ref f) args) (CR CX0 outer P w H s Q E0) s
theorem FnG.mono {P : Program} {w : World} {K : PySem.W.Frag} {mg : Str → Option Value} {base : Heap} {j k : Nat} {f : Addr} {fd : FuncData} {ps : List Str} {sp : Sp} (F : FnG P w K mg base j f fd ps sp) (h : j ≤ k) : FnG P w K mg base k f fd ps sp :=
  ⟨F.len, fun A outer s H args us vs Q hr => F.run A outer s H args us vs Q (hr.mono h)⟩
def ArgOk (K : PySem.W.Frag) (fz : Fz) (sp : Option Addr) (H : Hp) (v : V) : Cl → Prop
  | .d x => Im K fz H v x
  | .s => IsS sp v
  | .o _ => False
  | .m _ => False
abbrev Fx := List Cl → Sto → Option (R × Sto)
/-- the promise of a def that computes g -/
def spOf (K : PySem.W.Frag) (n : Nat) (g : Fx) : Sp := fun vs H Q _ => ∃ (sp : Option Addr) (fz : Fz) (cs : List Cl) (sto : Sto) (r : R) (sto' : Sto), cs.length = n ∧ Paired (ArgOk K fz sp H) vs cs ∧ Bs sp fz H sto ∧ g cs sto = some (r, sto') ∧
  ∀ v fz' H', Stp sp fz H fz' H' → SpL sp H' sto' → ImR K sp H fz' H' v r → Q v H'
/-- a body as a function of its arguments; n slots -/
def run (n : Nat) (m : Ms) : Fx := fun cs s => match m (cs.map some ++ List.replicate (n - cs.length) none) s with
  | some (.rt r, _, s') => some (r, s')
  | some (.nx, _, s') => some (.d .none, s')
  | _ => none
theorem start_cells (N : List Str) (cs : List Cl) (vs : List V) (h : vs.length = cs.length) : (cs.map some ++ List.replicate (N.length - cs.length) (none : Option Cl)).length = (L2.start N vs).length := by
  unfold L2.start
  simp only [List.length_append, List.length_map, List.length_replicate, h]
theorem pLen {α β : Type} {R : α → β → Prop} : ∀ {l₁ : List α} {l₂ : List β}, Paired R l₁ l₂ → l₁.length = l₂.length
  | _, _, .nil => rfl
  | _, _, .cons _ t => by rw [List.length_cons, List.length_cons, pLen t]
theorem pAt {α β : Type} {R : α → β → Prop} : ∀ {l₁ : List α} {l₂ : List β}, Paired R l₁ l₂ → ∀ (i : Nat) (b : β), l₂[i]? = some b → ∃ a, l₁[i]? = some a ∧ R a b
  | _, _, .nil, i, b, h => by simp at h
  | _, _, .cons r t, 0, b, h => by simp at h; subst h; exact ⟨_, rfl, r⟩
  | _, _, .cons r t, i + 1, b, h => by
    simp only [List.getElem?_cons_succ] at h ⊢
    exact pAt t i b h
section
variable {P : Program} {w : World} {K : PySem.W.Frag} {mg : Str → Option Value} {base : Heap}
/-- the frame at a def's entry -/
theorem fm_start {N : List Str} {sp : Option Addr} {fz : Fz} {cs : List Cl} {sto : Sto} {vs : List V} {H : Hp} (a : Paired (ArgOk K fz sp H) vs cs) (B : Bs sp fz H sto) : Fm K ⟨sp, fz, H⟩ fz (cs.map some ++ List.replicate (N.length - cs.length) none) sto (L2.start N vs) H := by
  have key : ∀ (i : Nat) (c : Cl), (cs.map some ++ List.replicate (N.length - cs.length) (none : Option Cl))[i]? = some (some c) → cs[i]? = some c ∧ ∃ v, (L2.start N vs)[i]? = some (some v) ∧ ArgOk K fz sp H v c := by
    intro i c h
    by_cases hi : i < cs.length
    · rw [List.getElem?_append_left (by rw [List.length_map]; exact hi), List.getElem?_map] at h
      cases q : cs[i]? with
      | none => rw [q] at h; cases h
      | some d =>
        rw [q] at h
        cases h
        obtain ⟨v, hv, r⟩ := pAt a i c q
        refine ⟨rfl, v, ?_, r⟩
        unfold L2.start
        rw [List.getElem?_append_left (by rw [List.length_map, (pLen a)]; exact hi), List.getElem?_map, hv]
        rfl
    · rw [List.getElem?_append_right (by rw [List.length_map]; omega), List.getElem?_replicate] at h
      split at h <;> cases h
  refine ⟨start_cells N cs vs (pLen a), .refl, B, fun i c h => ?_, fun i j xs ys b hij h1 h2 => ?_⟩
  · obtain ⟨_, v, hv, r⟩ := key i c h
    cases c with
    | d x => exact ⟨v, hv, r⟩
    | o xs => exact False.elim r
    | s => obtain ⟨a, ea, rfl⟩ := (show IsS sp v from r); exact ⟨a, ea, hv⟩
    | m acc => exact False.elim r
  · obtain ⟨_, v, hv, r⟩ := key i _ h1
    exact False.elim r
/-- A DEF: its body as the function m -/
theorem fnG_of {x qual : Str} {st : Stmt} {f : Addr} {fd : FuncData} {N ps : List Str} {k : Nat} {m : Ms} (F : Fun K x qual st f fd) (S : FnScope N ps (defScope st))
    (hb : ∀ (cdv : Value) (A : Around) (outer : List Env) (s : Shared) (H : Hp) (E : XK), Room k (A.deeper (PyProof.Rows.envOfC qual (defScope st) s.heap.objs.size f cdv)) → A.guards = some [] → SL (cxOf CX0 P w K mg base N qual (defScope st) f cdv A outer s H E).nox (defBody st) m) :
    FnG P w K mg base (k + 1) f fd ps (spOf K ps.length (run N.length m)) := by
  obtain ⟨oc, od, kV, doc, pm, an, cdv, ct, osl, rfl, lk, hcd⟩ := F.ex
  have hlen : ∀ vs H Q E, spOf K ps.length (run N.length m) vs H Q E → vs.length = ps.length := by
    rintro vs H Q E ⟨sp, fz, cs, sto, r, sto', hl, a, _⟩
    rw [(pLen a), hl]
  refine ⟨hlen, fun A outer s H args us vs Q hr hg e0 bd rv hsp => ?_⟩
  have hl : vs.length = ps.length := hlen vs H Q E0 hsp
  have hK : K.In s.heap := e0.mod.kin.keeps fun b o q => (e0.bs b o q).1
  have hkind : ∀ y ∈ ps.zip us, (defScope st).names.lookup y.1 = some .local ∨ ((defScope st).names.lookup y.1 = some .cell ∧ ((cellsFrom (s.heap.objs.size + 1) (defScope st).names []).lookup y.1).isSome = true) := by
    rintro ⟨n, v⟩ hy
    rcases S.par n (List.of_mem_zip hy).1 with q | q
    · left; exact q
    · right; exact ⟨q, PySem.W.cellsFrom_some _ _ _ (.inl q)⟩
  have lim := e0.mod.nolimit.keeps fun b o q => (e0.bs b o q).1
  refine codeAny_call_function hr.depth (hK _ _ lk) rfl S.co S.gen rfl (PySem.W.codeRec_of hK hcd) (bd _ _ _ _ (wpAny_newFunctionEnv_cells S.kind hkind ?_))
  rintro env rfl s1 hx
  refine ⟨lim.keeps hx.toInCall.keep, codeAny_func ?_⟩
  obtain ⟨sp, fz, cs, sto, r, sto', hc, a, B, e, q⟩ := hsp
  have I0 := inv_start (CX := CX0) (P := P) (K := K) (mg := mg) (base := base) (E := E0) S hr.hd e0 hl rv hx
  have hbody := (hb cdv A outer s H E0 (hr.deeper _) hg).nox
  have F0 : Fm K ⟨sp, fz, H⟩ fz (cs.map some ++ List.replicate (N.length - cs.length) none) sto (L2.start N vs) H := fm_start a B
  have hrd : rdS K m { nx := fun _ H' => Q .non H', rt := Q } (L2.start N vs) H := by
    unfold run at e
    split at e
    · rename_i r' ρ' s' em
      cases e
      exact ⟨⟨sp, fz, H⟩, fz, _, sto, .rt r, ρ', sto', F0, em, fun fz' σ' H' F' S' v i => q v fz' H' F'.st F'.bs.spl i⟩
    · rename_i ρ' s' em
      cases e
      exact ⟨⟨sp, fz, H⟩, fz, _, sto, .nx, ρ', sto', F0, em, fun fz' σ' H' F' S' => q .non fz' H' F'.st F'.bs.spl .non⟩
    · cases e
  refine wpAny_mono (hbody.run [] s1 (L2.start N vs) H _ I0 hrd) (fun fl s' hs => ?_) fun _ _ z => z
  cases fl with
  | ret u =>
    obtain ⟨v, σ', H', J, rv', qv⟩ := hs
    exact ⟨v, H', J.os, J.bare, J.base, J.hok, rv', qv⟩
  | next =>
    obtain ⟨σ', H', J, qv⟩ := hs
    exact ⟨.non, H', J.os, J.bare, J.base, J.hok, rfl, qv⟩
  | brk => obtain ⟨_, _, _, z⟩ := hs; exact z.elim
  | cont => obtain ⟨_, _, _, z⟩ := hs; exact z.elim
end
def toArg : R → Option Cl
  | .d x => some (.d x)
  | .f xs => some (.d (.list xs))
  | .s => some .s
  | _ => none
def toArgs : List R → Option (List Cl)
  | [] => some []
  | r :: rs => match toArg r, toArgs rs with
    | some x, some xs => some (x :: xs)
    | _, _ => none
/-- a call; π: where each parameter's value stands among the written ones -/
def mCall (g : Fx) (a : Ma) : Mx := bnd a fun rs _ s => match toArgs rs with
  | some cs => g cs s
  | none => none
section
variable {K : PySem.W.Frag} {sp : Option Addr} {fz fz1 : Fz} {H H1 : Hp} {sto : Sto}
theorem ArgOk.fzm {v : V} {c : Cl} (h : ArgOk K fz sp H v c) (g : ∀ a, fz a → fz1 a) : ArgOk K fz1 sp H v c := by
  cases c with
  | d x => exact Im.fzm g h
  | o x => exact h
  | s => exact h
  | m x => exact h
theorem ImRs.args : ∀ {vs : List V} {rs : List R} {cs : List Cl} {fz1 : Fz}, ImRs K sp H fz1 H1 vs rs → toArgs rs = some cs → ∀ fzA : Fz, Stp sp fz H fzA H1 → Bs sp fzA H1 sto → (∀ a, fz1 a → fzA a) →
    ∃ fz2 : Fz, Stp sp fz H fz2 H1 ∧ Bs sp fz2 H1 sto ∧ (∀ a, fzA a → fz2 a) ∧ Paired (ArgOk K fz2 sp H1) vs cs
  | _, _, _, _, .nil, e, fzA, sA, BA, g => by
    cases e
    exact ⟨fzA, sA, BA, fun _ h => h, .nil⟩
  | _, _, _, fz1, .cons (a := v) (b := r) h t, e, fzA, sA, BA, g => by
    unfold toArgs at e
    split at e
    · rename_i x xs e1 e2
      cases e
      have : ∃ fzB : Fz, Stp sp fz H fzB H1 ∧ Bs sp fzB H1 sto ∧ (∀ a, fzA a → fzB a) ∧ ArgOk K fzB sp H1 v x := by
        unfold toArg at e1
        split at e1
        · cases e1
          exact ⟨fzA, sA, BA, fun _ h => h, Im.fzm g h⟩
        · cases e1
          obtain ⟨a, vs, rfl, h1, h2, h3, h4, h5⟩ := h
          refine ⟨_, sA.freeze h5 h4 h1, ⟨BA.spl, fun c ec q => ?_, fun b q z => ?_⟩, fun b q => .inl q, .lst (.inl ⟨h1, .inr rfl⟩) (h2.fzm fun b q => .inl (g b q))⟩
          · rcases q with q | q
            · exact BA.nsp c ec q
            · exact h4 (by subst q; exact ec.symm)
          · rcases q with q | q
            · exact BA.trk b q z
            · subst q; rw [h1] at z; cases z
        · cases e1
          exact ⟨fzA, sA, BA, fun _ h => h, h⟩
        · cases e1
      obtain ⟨fzB, sB, BB, gB, iB⟩ := this
      obtain ⟨fz2, s2, B2, g2, i2⟩ := ImRs.args t e2 fzB sB BB fun a q => gB a (g a q)
      exact ⟨fz2, s2, B2, fun a q => g2 a (gB a q), .cons (iB.fzm g2) i2⟩
    · cases e
end
section
variable {X : Cx} {k : Nat} {f : Addr} {fd : FuncData} {ps : List Str} {x : Str} {p pos : Pos} {e : Expr} {es : List Expr} {m : Ma} {g : Fx}
theorem run_fnG {sp : Sp} {pins : List (Addr × Obj)} {σ : L2.St} {H : Hp} {s : Shared} {Q : VK} {us : List Value} {vs : List V} {args : Args} (F : FnG X.prog X.w X.K X.mg X.base k f fd ps sp) (hr : Room k X.A) (hg : X.A.guards = some [])
    (I : Inv X pins σ H s) (hb : BindsTo s fd args (ps.zip us)) (r : Vals vs us) (h : sp vs H Q E0) : codeAny (model X.prog X.w) X.A (.call (.ref f) args) (fun r s' => match r with | .ok (.ret u) => EP X pins σ Q u s' | .ok _ => False | .error e => X.xe e s') s := by
  refine codeAny_mono (F.run X.A X.stack s H args us vs Q hr hg I.env0 hb r h) fun res s' hq => ?_
  match res, hq with
  | .error e, hq => exact False.elim hq
  | .ok (.ret u), hq => exact I.after hq
  | .ok .next, hq => exact False.elim hq
  | .ok .brk, hq => exact False.elim hq
  | .ok .cont, hq => exact False.elim hq
def tCallG (sp : Sp) (t : TA) : TE := fun σ H Q => t σ H fun vs H1 => sp vs H1 Q E0
theorem pe_callG {sp : Sp} {t : TA} (F : FnG X.prog X.w X.K X.mg X.base k f fd ps sp) (hr : Room k X.A) (hgd : X.A.guards = some []) (hm : X.mg x = some (.ref f)) (hk : PySem.W.keepIn X.K (.ref f) = true) (hb : Binds X.K fd ps []) (ha : PA X (e :: es) t) (hg : Gl X x)
    (hdb : (x == ("__debug__" : Str)) = false := by decide) (he : starEach (e :: es) X.env = (false, eval e X.env) :: starEach es X.env := by rfl) (hpl : (backTo pos (starEach es X.env)).any (·.1) = false := by rfl) :
    PE X (.Call (.Name x p) (e :: es) [] pos) (tCallG sp t) := ⟨fun pins s σ H Q I h => by
  refine wpAny_Call_Name_kw (ld_glob I hg hm (PySem.W.callWith_K (h₀ := X.base) I.ok.mod.kin hk (thn (ha.run pos pins s σ H _ I h) ?_) he hpl) hdb)
  rintro us s1 ⟨vs, H1, I1, r, q⟩
  have hl : (us ++ []).length = ps.length := by rw [List.append_nil, ← r.length]; exact F.len _ _ _ _ q
  have b := hb s1 us I1.kIn hl
  rw [List.append_nil] at b
  refine ⟨I1.kIn, wpAny_call (codeAny_mono (run_fnG F hr hgd I1 b r q) fun res s' hq => ?_)⟩
  match res, hq with
  | .error e, hq => exact hq
  | .ok (.ret u), hq => exact hq
  | .ok .next, hq => exact False.elim hq
  | .ok .brk, hq => exact False.elim hq
  | .ok .cont, hq => exact False.elim hq⟩
theorem rd_call {K : PySem.W.Frag} {n : Nat} {σ : L2.St} {H : Hp} {Q : VK} (hn : ∀ cs s r, g cs s = some r → cs.length = n) (h : rdE K (mCall g m) σ H Q) : tCallG (spOf K n g) (rdA K m) σ H Q := by
  obtain ⟨C, fz, ρ, sto, z, sto', F, e, k⟩ := h
  obtain ⟨rs, s1, ea, e1⟩ := bnd_some e
  clear e
  split at e1
  · rename_i cs ec
    refine ⟨C, fz, ρ, sto, rs, s1, F, ea, fun vs fz1 H1 st1 l1 i1 => ?_⟩
    obtain ⟨fz2, st2, B2, _, a⟩ := ImRs.args i1 ec fz1 st1 (F.bs.step st1 l1) fun _ h => h
    exact ⟨C.sp, fz2, cs, s1, z, sto', hn cs s1 _ e1, a, B2, e1, fun v fz3 H3 st3 l3 i3 => k v fz3 H3 (st2.trans st3) l3 (i3.early st2)⟩
  · cases e1
/-- a def of n parameters -/
def run' (n l : Nat) (m : Ms) : Fx := fun cs s => if cs.length = n then run l m cs s else none
theorem run'_len {n l : Nat} {m : Ms} : ∀ cs s r, run' n l m cs s = some r → cs.length = n := fun cs s r h => by
  unfold run' at h
  split at h
  · assumption
  · cases h
theorem spOf_run' {K : PySem.W.Frag} {n l : Nat} {m : Ms} {vs : List V} {H : Hp} {Q : VK} {E : XK} (h : spOf K n (run' n l m) vs H Q E) : spOf K n (run l m) vs H Q E := by
  obtain ⟨sp, fz, cs, sto, r, sto', hl, a, B, e, q⟩ := h
  unfold run' at e
  rw [if_pos hl] at e
  exact ⟨sp, fz, cs, sto, r, sto', hl, a, B, e, q⟩
theorem FnG.imp {P : Program} {w : World} {K : PySem.W.Frag} {mg : Str → Option Value} {base : Heap} {j : Nat} {f : Addr} {fd : FuncData} {ps : List Str} {sp sp' : Sp} (F : FnG P w K mg base j f fd ps sp) (h : ∀ vs H Q E, sp' vs H Q E → sp vs H Q E) : FnG P w K mg base j f fd ps sp' :=
  ⟨fun vs H Q E q => F.len vs H Q E (h _ _ _ _ q), fun A outer s H args us vs Q hr hg e0 bd rv q => F.run A outer s H args us vs Q hr hg e0 bd rv (h _ _ _ _ q)⟩
theorem se_call {n l : Nat} {mb : Ms} (F : FnG X.prog X.w X.K X.mg X.base k f fd ps (spOf X.K n (run' n l mb))) (hr : Room k X.A) (hgd : X.A.guards = some []) (hm : X.mg x = some (.ref f)) (hk : PySem.W.keepIn X.K (.ref f) = true) (hb : Binds X.K fd ps []) (ha : SA X (e :: es) m) (hg : Gl X x := by rfl)
    (hdb : (x == ("__debug__" : Str)) = false := by decide) (he : starEach (e :: es) X.env = (false, eval e X.env) :: starEach es X.env := by rfl) (hpl : (backTo pos (starEach es X.env)).any (·.1) = false := by rfl) :
    SE X (.Call (.Name x p) (e :: es) [] pos) (mCall (run' n l mb) m) := PE.imp (pe_callG F hr hgd hm hk hb ha hg hdb he hpl) fun _ _ _ h => rd_call run'_len h
end
end Dh
namespace Dh
open PySem PySem.Spec L2
section
variable {X : Cx} {x : Str} {p pos : Pos} {e : Expr} {es : List Expr} {m : Ma} {id T : String} {r : List V → Hp → VK → Prop} {f : List R → Option R}
theorem se_bi (hc : CallR X (.builtin id) r) (hf : OkA X.K r f) (ha : SA X (e :: es) m) (hm : X.mg x = none) (hv : bootBuiltins x = some (.builtin id)) (hg : Gl X x := by rfl) (hn : x ≠ "__name__" := by decide) (hdb : (x == ("__debug__" : Str)) = false := by decide)
    (he : starEach (e :: es) X.env = (false, eval e X.env) :: starEach es X.env := by rfl) (hpl : (backTo pos (starEach es X.env)).any (·.1) = false := by rfl) : SE X (.Call (.Name x p) (e :: es) [] pos) (mA f m) :=
  PE.imp (pe_callB hc hg hm hv ha hn hdb he hpl) fun _ _ _ h => rd_args hf h
theorem se_ty (hc : CallR X (.type T) r) (hf : OkA X.K r f) (ha : SA X (e :: es) m) (hm : X.mg x = none) (hv : bootBuiltins x = some (.type T)) (hg : Gl X x := by rfl) (hn : x ≠ "__name__" := by decide) (hdb : (x == ("__debug__" : Str)) = false := by decide)
    (he : starEach (e :: es) X.env = (false, eval e X.env) :: starEach es X.env := by rfl) (hpl : (backTo pos (starEach es X.env)).any (·.1) = false := by rfl) : SE X (.Call (.Name x p) (e :: es) [] pos) (mA f m) :=
  PE.imp (pe_callTy hc hg hm hv ha hn hdb he hpl) fun _ _ _ h => rd_args hf h
theorem se_bf (hc : CallR X (.builtin id) r) (hf : OkA X.K r f) (ha : SA X (e :: es) m) (hm : X.mg x = some (.builtin id)) (hg : Gl X x := by rfl) (hdb : (x == ("__debug__" : Str)) = false := by decide)
    (he : starEach (e :: es) X.env = (false, eval e X.env) :: starEach es X.env := by rfl) (hpl : (backTo pos (starEach es X.env)).any (·.1) = false := by rfl) : SE X (.Call (.Name x p) (e :: es) [] pos) (mA f m) :=
  PE.imp (pe_callBfun hc hg hm ha hdb he hpl) fun _ _ _ h => rd_args hf h
end
def fLen : List R → Option R
  | [x] => (rdQ x).map fun xs => .d (.int xs.length)
  | _ => none
def fTupOf : List R → Option R
  | [.d (.tuple xs)] => some (.d (.tuple xs))
  | [x] => (rdL x).map fun xs => .d (.tuple xs)
  | _ => none
def fLstOf : List R → Option R
  | [x] => (rdQ x).map fun xs => .f xs
  | _ => none
def boolsOf : List PyData → Option (List Bool)
  | [] => some []
  | .bool b :: r => (boolsOf r).map (b :: ·)
  | _ => none
def intsOf : List PyData → Option (List Int)
  | [] => some []
  | .int b :: r => (intsOf r).map (b :: ·)
  | _ => none
def fAll : List R → Option R
  | [x] => match rdL x with | some xs => (boolsOf xs).map fun bs => .d (.bool (bs.all id)) | none => none
  | _ => none
def fSum : List R → Option R
  | [x] => match rdL x with | some xs => (intsOf xs).map fun ns => .d (.int ns.sum) | none => none
  | _ => none
def fAbs : List R → Option R
  | [.d (.int i)] => some (.d (.int (if i < 0 then -i else i)))
  | _ => none
def fInt : List R → Option R
  | [.d (.int i)] => some (.d (.int i))
  | [.d (.bool k)] => some (.d (.int (if k then 1 else 0)))
  | _ => none
def fGcd : List R → Option R
  | [.d (.int i), .d (.int j)] => some (.d (.int ((Nat.gcd i.natAbs j.natAbs : Nat) : Int)))
  | _ => none
def fDivmod : List R → Option R
  | [.d (.int i), .d (.int j)] => if 0 < j ∧ Builtin.divisionGoesByPylong i j = false then some (.d (.tuple [.int (i / j), .int (i % j)])) else none
  | _ => none
def fStr : List R → Option R
  | [.d (.int i)] => if i.natAbs.log2 < 1920 then some (.d (.str (toString i))) else none
  | _ => none
def fMax2 : List R → Option R
  | [.d (.int m), .d (.int n)] => some (.d (.int (if n > m then n else m)))
  | _ => none
def fMin2 : List R → Option R
  | [.d (.int m), .d (.int n)] => some (.d (.int (if n < m then n else m)))
  | _ => none
section
variable {K : PySem.W.Frag} {fz : Fz} {H : Hp}
theorem boolsOf_im : ∀ {vs : List V} {xs : List PyData} {bs : List Bool}, ImA K fz H vs xs → boolsOf xs = some bs → vs = bs.map V.bl
  | _, _, _, .nil, e => by cases e; rfl
  | _, d :: ds, _, .cons h t, e => by
    cases d with
    | bool b =>
      simp only [boolsOf] at e
      cases q2 : boolsOf ds with
      | none => rw [q2] at e; cases e
      | some bs => rw [q2] at e; cases e; cases h; rw [boolsOf_im t q2]; rfl
    | _ => simp [boolsOf] at e
theorem intsOf_im : ∀ {vs : List V} {xs : List PyData} {bs : List Int}, ImA K fz H vs xs → intsOf xs = some bs → vs = bs.map V.int
  | _, _, _, .nil, e => by cases e; rfl
  | _, d :: ds, _, .cons h t, e => by
    cases d with
    | int b =>
      simp only [intsOf] at e
      cases q2 : intsOf ds with
      | none => rw [q2] at e; cases e
      | some bs => rw [q2] at e; cases e; cases h; rw [intsOf_im t q2]; rfl
    | _ => simp [intsOf] at e
end
section
variable {X : Cx} {x : Str} {p pos : Pos} {e : Expr} {es : List Expr} {m : Ma}
theorem ok_len : OkA X.K (fun xs H Q => ∃ p ys, xs = [.ref p] ∧ (SqL X.K H p ys ∨ SqT X.K H p ys) ∧ Q (.int ys.length) H) fLen := by
  intro sp fz fzS H H0 sto vs xs z Q s B i e k
  unfold fLen at e
  split at e
  · rename_i r
    cases q : rdQ r with
    | none => rw [q] at e; cases e
    | some ds =>
      rw [q] at e; cases e
      cases i with
      | cons i t =>
        cases t
        obtain ⟨a, ws, rfl, h, im⟩ := i.seq q
        refine ⟨a, ws, rfl, h, k _ fz H s B.spl ?_⟩
        rw [im.length]
        exact .int _
  · cases e
theorem ok_tupOf : OkA X.K (fun xs H Q => ∃ p ys, xs = [.ref p] ∧ ((SqL X.K H p ys ∧ TpQ H ys Q) ∨ (SqT X.K H p ys ∧ Q (.ref p) H))) fTupOf := by
  intro sp fz fzS H H0 sto vs xs z Q s B i e k
  unfold fTupOf at e
  split at e
  · cases e
    cases i with
    | cons i t =>
      cases t
      cases i with
      | tup h im => exact ⟨_, _, rfl, .inr ⟨h.sq, k _ fz H s B.spl (show Im _ _ _ _ _ from .tup h im)⟩⟩
  · rename_i r _
    cases q : rdL r with
    | none => rw [q] at e; cases e
    | some ds =>
      rw [q] at e; cases e
      cases i with
      | cons i t =>
        cases t
        obtain ⟨a, ws, rfl, h, im⟩ := i.list q
        refine ⟨a, ws, rfl, .inl ⟨h, fun l o hl ho => ?_⟩⟩
        obtain ⟨s3, l3, i3⟩ := new_tup B im hl ho
        exact k _ fz _ (s.trans s3) l3 i3
  · cases e
theorem ok_lstOf : OkA X.K (fun xs H Q => ∃ p ys, xs = [.ref p] ∧ (SqL X.K H p ys ∨ SqT X.K H p ys) ∧ ∀ l, H l = none → Q (.ref l) (upd H l (.lst ys))) fLstOf := by
  intro sp fz fzS H H0 sto vs xs z Q s B i e k
  unfold fLstOf at e
  split at e
  · rename_i r
    cases q : rdQ r with
    | none => rw [q] at e; cases e
    | some ds =>
      rw [q] at e; cases e
      cases i with
      | cons i t =>
        cases t
        obtain ⟨a, ws, rfl, h, im⟩ := i.seq q
        refine ⟨a, ws, rfl, h, fun l hl => ?_⟩
        obtain ⟨s3, l3, i3⟩ := new_lst B im hl
        exact k _ fz _ (s.trans s3) l3 (i3.early s)
  · cases e
theorem ok_all : OkA X.K (rAll X.K) fAll := by
  intro sp fz fzS H H0 sto vs xs z Q s B i e k
  unfold fAll at e
  split at e
  · rename_i r
    split at e
    · rename_i ds q
      cases q2 : boolsOf ds with
      | none => rw [q2] at e; cases e
      | some bs =>
        rw [q2] at e; cases e
        cases i with
        | cons i t =>
          cases t
          obtain ⟨a, ws, rfl, h, im⟩ := i.list q
          rw [boolsOf_im im q2] at h
          exact ⟨a, bs, rfl, h, k _ fz H s B.spl (.bl _)⟩
    · cases e
  · cases e
theorem ok_sum : OkA X.K (rSum X.K) fSum := by
  intro sp fz fzS H H0 sto vs xs z Q s B i e k
  unfold fSum at e
  split at e
  · rename_i r
    split at e
    · rename_i ds q
      cases q2 : intsOf ds with
      | none => rw [q2] at e; cases e
      | some bs =>
        rw [q2] at e; cases e
        cases i with
        | cons i t =>
          cases t
          obtain ⟨a, ws, rfl, h, im⟩ := i.list q
          rw [intsOf_im im q2] at h
          exact ⟨a, bs, rfl, h, k _ fz H s B.spl (.int _)⟩
    · cases e
  · cases e
theorem ok_abs : OkA X.K (fun xs H Q => ∃ i, xs = [.int i] ∧ Q (.int (if i < 0 then -i else i)) H) fAbs := by
  intro sp fz fzS H H0 sto vs xs z Q s B i e k
  unfold fAbs at e
  split at e
  · cases e
    cases i with
    | cons i t => cases t; cases i; exact ⟨_, rfl, k _ fz H s B.spl (.int _)⟩
  · cases e
theorem ok_int : OkA X.K (fun xs H Q => (∃ i, xs = [.int i] ∧ Q (.int i) H) ∨ ∃ k, xs = [.bl k] ∧ Q (.int (if k then 1 else 0)) H) fInt := by
  intro sp fz fzS H H0 sto vs xs z Q s B i e k
  unfold fInt at e
  split at e
  · cases e
    cases i with
    | cons i t => cases t; cases i; exact .inl ⟨_, rfl, k _ fz H s B.spl (.int _)⟩
  · cases e
    cases i with
    | cons i t => cases t; cases i; exact .inr ⟨_, rfl, k _ fz H s B.spl (.int _)⟩
  · cases e
theorem ok_gcd : OkA X.K rGcd fGcd := by
  intro sp fz fzS H H0 sto vs xs z Q s B i e k
  unfold fGcd at e
  split at e
  · cases e
    cases i with
    | cons i t =>
      cases t with
      | cons j t => cases t; cases i; cases j; exact ⟨_, _, rfl, k _ fz H s B.spl (.int _)⟩
  · cases e
theorem ok_max2 : OkA X.K (fun xs H Q => ∃ i j, xs = [.int i, .int j] ∧ Q (.int (if j > i then j else i)) H) fMax2 := by
  intro sp fz fzS H H0 sto vs xs z Q s B i e k
  unfold fMax2 at e
  split at e
  · cases e
    cases i with
    | cons i t =>
      cases t with
      | cons j t => cases t; cases i; cases j; exact ⟨_, _, rfl, k _ fz H s B.spl (.int _)⟩
  · cases e
theorem ok_min2 : OkA X.K (fun xs H Q => ∃ i j, xs = [.int i, .int j] ∧ Q (.int (if j < i then j else i)) H) fMin2 := by
  intro sp fz fzS H H0 sto vs xs z Q s B i e k
  unfold fMin2 at e
  split at e
  · cases e
    cases i with
    | cons i t =>
      cases t with
      | cons j t => cases t; cases i; cases j; exact ⟨_, _, rfl, k _ fz H s B.spl (.int _)⟩
  · cases e
theorem ok_divmod : OkA X.K (fun xs H Q => ∃ i j, xs = [.int i, .int j] ∧ CDivP i j ∧ TpQ H [.int (i / j), .int (i % j)] Q) fDivmod := by
  intro sp fz fzS H H0 sto vs xs z Q s B i e k
  unfold fDivmod at e
  split at e
  · split at e
    · rename_i hz
      cases e
      cases i with
      | cons i t =>
        cases t with
        | cons j t =>
          cases t; cases i; cases j
          refine ⟨_, _, rfl, hz, fun q o hq ho => ?_⟩
          obtain ⟨s3, l3, i3⟩ := new_tup (K := X.K) B (.cons (.int _) (.cons (.int _) .nil)) hq ho
          exact k _ fz _ (s.trans s3) l3 i3
    · cases e
  · cases e
theorem ok_str : OkA X.K (fun xs H Q => ∃ i, xs = [.int i] ∧ i.natAbs.log2 < 1920 ∧ Q (.str (toString i)) H) fStr := by
  intro sp fz fzS H H0 sto vs xs z Q s B i e k
  unfold fStr at e
  split at e
  · split at e
    · rename_i hz
      cases e
      cases i with
      | cons i t => cases t; cases i; exact ⟨_, rfl, hz, k _ fz H s B.spl (.str _)⟩
    · cases e
  · cases e
theorem se_len (ha : SA X (e :: es) m) (hm : X.mg "len" = none) (hg : Gl X "len" := by rfl) (he : starEach (e :: es) X.env = (false, eval e X.env) :: starEach es X.env := by rfl) (hpl : (backTo pos (starEach es X.env)).any (·.1) = false := by rfl) : SE X (.Call (.Name "len" p) (e :: es) [] pos) (mA fLen m) :=
  se_bi call_len_seq ok_len ha hm PySem.boot_len hg (by decide) (by decide) he hpl
theorem se_all (hc : X.calm = true) (ha : SA X (e :: es) m) (hm : X.mg "all" = none) (hg : Gl X "all" := by rfl) (he : starEach (e :: es) X.env = (false, eval e X.env) :: starEach es X.env := by rfl) (hpl : (backTo pos (starEach es X.env)).any (·.1) = false := by rfl) : SE X (.Call (.Name "all" p) (e :: es) [] pos) (mA fAll m) :=
  se_bi (cr_all hc) ok_all ha hm (by decide +kernel) hg (by decide) (by decide) he hpl
theorem se_sum (hc : X.calm = true) (ha : SA X (e :: es) m) (hm : X.mg "sum" = none) (hg : Gl X "sum" := by rfl) (he : starEach (e :: es) X.env = (false, eval e X.env) :: starEach es X.env := by rfl) (hpl : (backTo pos (starEach es X.env)).any (·.1) = false := by rfl) : SE X (.Call (.Name "sum" p) (e :: es) [] pos) (mA fSum m) :=
  se_bi (cr_sum hc) ok_sum ha hm (by decide +kernel) hg (by decide) (by decide) he hpl
theorem se_abs (ha : SA X (e :: es) m) (hm : X.mg "abs" = none) (hg : Gl X "abs" := by rfl) (he : starEach (e :: es) X.env = (false, eval e X.env) :: starEach es X.env := by rfl) (hpl : (backTo pos (starEach es X.env)).any (·.1) = false := by rfl) : SE X (.Call (.Name "abs" p) (e :: es) [] pos) (mA fAbs m) :=
  se_bi call_abs ok_abs ha hm (by decide +kernel) hg (by decide) (by decide) he hpl
theorem se_divmod (ha : SA X (e :: es) m) (hm : X.mg "divmod" = none) (hg : Gl X "divmod" := by rfl) (he : starEach (e :: es) X.env = (false, eval e X.env) :: starEach es X.env := by rfl) (hpl : (backTo pos (starEach es X.env)).any (·.1) = false := by rfl) : SE X (.Call (.Name "divmod" p) (e :: es) [] pos) (mA fDivmod m) :=
  se_bi call_divmodS ok_divmod ha hm (by decide +kernel) hg (by decide) (by decide) he hpl
theorem se_max2 (hc : X.calm = true) (ha : SA X (e :: es) m) (hm : X.mg "max" = none) (hg : Gl X "max" := by rfl) (he : starEach (e :: es) X.env = (false, eval e X.env) :: starEach es X.env := by rfl) (hpl : (backTo pos (starEach es X.env)).any (·.1) = false := by rfl) : SE X (.Call (.Name "max" p) (e :: es) [] pos) (mA fMax2 m) :=
  se_bi (call_max2 hc) ok_max2 ha hm (by decide +kernel) hg (by decide) (by decide) he hpl
theorem se_min2 (hc : X.calm = true) (ha : SA X (e :: es) m) (hm : X.mg "min" = none) (hg : Gl X "min" := by rfl) (he : starEach (e :: es) X.env = (false, eval e X.env) :: starEach es X.env := by rfl) (hpl : (backTo pos (starEach es X.env)).any (·.1) = false := by rfl) : SE X (.Call (.Name "min" p) (e :: es) [] pos) (mA fMin2 m) :=
  se_bi (call_min2 hc) ok_min2 ha hm (by decide +kernel) hg (by decide) (by decide) he hpl
theorem se_tuple (ha : SA X (e :: es) m) (hm : X.mg "tuple" = none) (hg : Gl X "tuple" := by rfl) (he : starEach (e :: es) X.env = (false, eval e X.env) :: starEach es X.env := by rfl) (hpl : (backTo pos (starEach es X.env)).any (·.1) = false := by rfl) : SE X (.Call (.Name "tuple" p) (e :: es) [] pos) (mA fTupOf m) :=
  se_ty call_tuple_ofS ok_tupOf ha hm (by decide +kernel) hg (by decide) (by decide) he hpl
theorem se_list (ha : SA X (e :: es) m) (hm : X.mg "list" = none) (hg : Gl X "list" := by rfl) (he : starEach (e :: es) X.env = (false, eval e X.env) :: starEach es X.env := by rfl) (hpl : (backTo pos (starEach es X.env)).any (·.1) = false := by rfl) : SE X (.Call (.Name "list" p) (e :: es) [] pos) (mA fLstOf m) :=
  se_ty call_list_of ok_lstOf ha hm (by decide +kernel) hg (by decide) (by decide) he hpl
theorem se_toint (ha : SA X (e :: es) m) (hm : X.mg "int" = none) (hg : Gl X "int" := by rfl) (he : starEach (e :: es) X.env = (false, eval e X.env) :: starEach es X.env := by rfl) (hpl : (backTo pos (starEach es X.env)).any (·.1) = false := by rfl) : SE X (.Call (.Name "int" p) (e :: es) [] pos) (mA fInt m) :=
  se_ty call_int1 ok_int ha hm (by decide +kernel) hg (by decide) (by decide) he hpl
theorem se_tostr (ha : SA X (e :: es) m) (hm : X.mg "str" = none) (hg : Gl X "str" := by rfl) (he : starEach (e :: es) X.env = (false, eval e X.env) :: starEach es X.env := by rfl) (hpl : (backTo pos (starEach es X.env)).any (·.1) = false := by rfl) : SE X (.Call (.Name "str" p) (e :: es) [] pos) (mA fStr m) :=
  se_ty call_str_int ok_str ha hm (by decide +kernel) hg (by decide) (by decide) he hpl
theorem se_gcd (ha : SA X (e :: es) m) (hm : X.mg "gcd" = some (.builtin "math.gcd")) (hg : Gl X "gcd" := by rfl) (he : starEach (e :: es) X.env = (false, eval e X.env) :: starEach es X.env := by rfl) (hpl : (backTo pos (starEach es X.env)).any (·.1) = false := by rfl) : SE X (.Call (.Name "gcd" p) (e :: es) [] pos) (mA fGcd m) :=
  se_bf cr_gcd ok_gcd ha hm hg (by decide) he hpl
end
mutual
theorem noDict_has : ∀ d : PyData, noDict d = true → d.hasDict = false
  | .none, _ => rfl
  | .bool _, _ => rfl
  | .int _, _ => rfl
  | .str _, _ => rfl
  | .list xs, h => by simp only [PyData.hasDict]; exact noDicts_has xs (by simpa [noDict] using h)
  | .tuple xs, h => by simp only [PyData.hasDict]; exact noDicts_has xs (by simpa [noDict] using h)
  | .dict _, h => by simp [noDict] at h
theorem noDicts_has : ∀ d : List PyData, noDicts d = true → PyData.hasDictAll d = false
  | [], _ => by simp [PyData.hasDictAll]
  | x :: xs, h => by
    simp only [noDicts, Bool.and_eq_true] at h
    simp only [PyData.hasDictAll, noDict_has x h.1, noDicts_has xs h.2, Bool.or_self]
end
def isSeq : PyData → Bool
  | .list _ => true
  | .tuple _ => true
  | _ => false
def reprOk (d : PyData) : Bool := isSeq d && noDict d && d.showable && decide (d.depth ≤ 60) && decide (d.shown.length ≤ sizeLine)
def fRepr : List R → Option R
  | [x] => match rdD x with
    | some d => if reprOk d = true then some (.d (.str d.shown)) else none
    | none => none
  | _ => none
section
variable {X : Cx} {p pos : Pos} {e : Expr} {es : List Expr} {m : Ma} {k : Nat}
def rRepr (K : PySem.W.Frag) : List V → Hp → VK → Prop := fun xs H Q => ∃ a d, xs = [.ref a] ∧ Dp K H (.ref a) d ∧ reprOk d = true ∧ Q (.str d.shown) H
theorem call_reprD (hr : Room k X.A) (hg : X.A.guards = some []) : CallR X (.builtin "repr") (rRepr X.K) := by
  intro pins s σ H vs us Q I r h
  obtain ⟨a, d, rfl, hd, ok, q⟩ := h
  simp only [reprOk, Bool.and_eq_true, decide_eq_true_eq] at ok
  obtain ⟨⟨⟨⟨_, nd⟩, sh⟩, dp⟩, sz⟩ := ok
  cases r with
  | cons r t =>
    cases t
    cases r
    obtain ⟨as, rd⟩ := Dp.reads I d _ _ hd rfl
    have hu := hr.units
    exact repr_of_reads' rd sh (PyData.noDict_hsm (noDict_has d nd)) hg (by omega) (fun b o e => e) (fun h' u tk kk => ⟨.str d.shown, H, I.kept (t' := tk) kk, ⟨_, rfl⟩, q⟩) sz
theorem ok_repr : OkA X.K (rRepr X.K) fRepr := by
  intro sp fz fzS H H0 sto vs xs z Q s B i e k
  unfold fRepr at e
  split at e
  · rename_i r
    split at e
    · rename_i d q
      split at e
      · rename_i ok
        cases e
        cases i with
        | cons i t =>
          cases t
          have ok2 := ok
          simp only [reprOk, Bool.and_eq_true, decide_eq_true_eq] at ok2
          obtain ⟨⟨⟨⟨sq, nd⟩, _⟩, _⟩, _⟩ := ok2
          have dp := i.dp q nd
          have : ∃ a, ‹V› = .ref a := by
            cases dp <;> first | exact ⟨_, rfl⟩ | (simp [isSeq] at sq)
          obtain ⟨a, rfl⟩ := this
          exact ⟨a, d, rfl, dp, ok, k _ fz H s B.spl (.str _)⟩
      · cases e
    · cases e
  · cases e
theorem se_repr (hr : Room k X.A) (hgd : X.A.guards = some []) (ha : SA X (e :: es) m) (hm : X.mg "repr" = none) (hg : Gl X "repr" := by rfl) (he : starEach (e :: es) X.env = (false, eval e X.env) :: starEach es X.env := by rfl) (hpl : (backTo pos (starEach es X.env)).any (·.1) = false := by rfl) : SE X (.Call (.Name "repr" p) (e :: es) [] pos) (mA fRepr m) :=
  se_bi (call_reprD hr hgd) ok_repr ha hm (by decide +kernel) hg (by decide) (by decide) he hpl
end
def tyName : PyData → String
  | .none => "NoneType"
  | .bool _ => "bool"
  | .int _ => "int"
  | .str _ => "str"
  | .list _ => "list"
  | .tuple _ => "tuple"
  | .dict _ => "dict"
def isN (T S : String) : Bool := S == T || (T == "int" && S == "bool")
def isA (T : String) (d : PyData) : Bool := isN T (tyName d)
def fIsi (T : String) (x : R) : Option R := (rdD x).map fun d => .d (.bool (isA T d))
section
variable {K : PySem.W.Frag} {sp : Option Addr} {fz : Fz} {H H0 : Hp} {v : V} {x : R} {d : PyData}
theorem ImR.ty (i : ImR K sp H0 fz H v x) (e : rdD x = some d) : TyX K H v (.type (tyName d)) := by
  cases x with
  | d y =>
    cases e
    cases i with
    | non => exact .base .non
    | bl b => exact .base (.bl b)
    | int b => exact .base (.int b)
    | str b => exact .base (.str b)
    | lst h _ =>
      rcases h with ⟨h, _⟩ | ⟨o, h⟩ | ⟨o, its, n, h, c, _⟩
      · exact .base (.lst h)
      · exact .base (.frz h)
      · exact .kList h c
    | tup h _ =>
      rcases h with ⟨o, h, _⟩ | ⟨o, its, n, h, c, _⟩
      · exact .fTuple h
      · exact .kTuple h c
    | dct h _ _ _ => exact .base (.dK h)
  | f xs => cases e; obtain ⟨a, vs, rfl, h, _⟩ := i; exact .base (.lst h)
  | b xs => cases e; obtain ⟨a, vs, rfl, h, _⟩ := i; exact .base (.lst h)
  | s => cases e
  | m _ => cases e
  | n _ => cases e
end
/-- the built-in classes that are asked for -/
def known (T : String) : Bool := ["int", "bool", "tuple", "str", "list", "dict"].contains T
theorem kit_names : ∀ S ∈ ["NoneType", "bool", "int", "str", "list", "tuple", "dict"], ∀ T ∈ ["int", "bool", "tuple", "str", "list", "dict"], kitB S T = some (isN T S) := by decide +kernel
theorem tyName_mem (d : PyData) : tyName d ∈ ["NoneType", "bool", "int", "str", "list", "tuple", "dict"] := by cases d <;> simp [tyName]
theorem kit_known {K : PySem.W.Frag} {T : String} (h : known T = true) (d : PyData) : PySem.W.kitOne K (.type (tyName d)) (.type T) = some (isA T d) :=
  kit_ty (kit_names _ (tyName_mem d) T (by simpa [known] using h))
section
variable {X : Cx} {p p2 pos : Pos} {e : Expr} {T : String} {x : Str} {me : Mx}
theorem se_isi (hT : known T = true) (he : SE X e me) (hm : X.mg "isinstance" = none) (hm2 : X.mg x = none) (hv : bootBuiltins x = some (.type T)) (hg : Gl X "isinstance" := by rfl) (hg2 : Gl X x := by rfl) (hn2 : x ≠ "__name__" := by decide) (hd2 : (x == ("__debug__" : Str)) = false := by decide)
    (h1 : starEach [e, .Name x p2] X.env = (false, eval e X.env) :: starEach [.Name x p2] X.env := by rfl) (hpl : (backTo pos (starEach [.Name x p2] X.env)).any (·.1) = false := by rfl) : SE X (.Call (.Name "isinstance" p) [e, .Name x p2] [] pos) (m1 (fIsi T) me) :=
  PE.imp (pe_callB call_isi hg hm (by decide +kernel) (pa_cons he (pa_cons (pe_bltn (v := .ty T) hg2 hm2 hv rfl hn2 hd2) pa_nil) h1) (by decide) (by decide) h1 hpl) fun σ H Q h => by
    refine rd_one (r := fun v H Q => rIsi X.K [v, .ty T] H Q) ?_ h
    intro sp fz H H0 sto v x z Q B ix e k
    unfold fIsi at e
    cases q : rdD x with
    | none => rw [q] at e; cases e
    | some d =>
      rw [q] at e; cases e
      exact ⟨v, .ty T, _, _, _, rfl, .ty T, ix.ty q, kit_known hT d, k _ fz H .refl B.spl (.inl (.bl _))⟩
end
abbrev Mo := Ev → Sto → Option (Option Int × Sto)
def rdO (K : PySem.W.Frag) (m : Mo) : TO := fun σ H Q => ∃ (C : Cn) (fz : Fz) (ρ : Ev) (sto : Sto) (r : Option Int) (sto' : Sto), Fm K C fz ρ sto σ H ∧ m ρ sto = some (r, sto') ∧ ∀ fz' H', Stp C.sp fz H fz' H' → SpL C.sp H' sto' → Q r H'
def SO (X : Cx) (e : Option Expr) (m : Mo) : Prop := PO X e (rdO X.K m)
def moNone : Mo := fun _ s => some (none, s)
def moSome (a : Mx) : Mo := bnd a fun x _ => ret (match x with | .d (.int i) => some (some i) | _ => none)
theorem PO.imp {X : Cx} {e : Option Expr} {t t' : TO} (h : PO X e t) (q : ∀ σ H Q, t' σ H Q → t σ H Q) : PO X e t' := ⟨fun pins s σ H Q I w => h.run pins s σ H Q I (q _ _ _ w)⟩
def cutD (xs : List PyData) (lo hi : Option Int) : List PyData := (xs.drop (HT.sIx xs.length 0 lo)).take (HT.sIx xs.length xs.length hi - HT.sIx xs.length 0 lo)
theorem ImA.cut {K : PySem.W.Frag} {fz : Fz} {H : Hp} {vs : List V} {xs : List PyData} (h : ImA K fz H vs xs) (lo hi : Option Int) : ImA K fz H (cutV vs lo hi) (cutD xs lo hi) := by
  unfold cutV cutD
  rw [h.length]
  exact (h.drop _).take _
def fSl (x : R) (lo hi : Option Int) : Option R := match x with
  | .d (.tuple xs) => some (.d (.tuple (cutD xs lo hi)))
  | x => (rdL x).map fun xs => .f (cutD xs lo hi)
def mSl (a : Mx) (l h : Mo) : Mx := bnd a fun x => bnd l fun lo => bnd h fun hi _ => ret (fSl x lo hi)
section
variable {X : Cx} {e : Expr} {a b : Option Expr} {me : Mx} {ma mb : Mo} {p2 pos : Pos}
theorem so_none : SO X none moNone := PO.imp po_none fun σ H Q h => by
  obtain ⟨C, fz, ρ, sto, r, sto', F, e, k⟩ := h
  cases e
  exact k fz H .refl F.bs.spl
theorem so_some (he : SE X e me) : SO X (some e) (moSome me) := PO.imp (po_some he) fun σ H Q h => by
  obtain ⟨C, fz, ρ, sto, r, sto', F, e, k⟩ := h
  obtain ⟨x, s1, ea, e1⟩ := bnd_some e
  obtain ⟨ef, rfl⟩ := ret_some e1
  clear e e1
  refine ⟨C, fz, ρ, sto, x, _, F, ea, fun v fz1 H1 st1 l1 i1 => ?_⟩
  split at ef
  · cases ef; cases i1
    exact ⟨_, rfl, k fz1 H1 st1 l1⟩
  · cases ef
theorem cut_whole {xs : List PyData} {lo hi : Option Int} (h : HT.sIx xs.length 0 lo = 0 ∧ HT.sIx xs.length xs.length hi = xs.length) : cutD xs lo hi = xs := by
  unfold cutD
  rw [h.1, h.2, List.drop_zero, Nat.sub_zero, List.take_length]
theorem se_sl (he : SE X e me) (ha : SO X a ma) (hb : SO X b mb) : SE X (.Subscript e (.Slice a b none p2) pos) (mSl me ma mb) := PE.imp (pe_slice (sl_list.or sl_tupS) he ha hb) fun σ H Q h => by
  obtain ⟨C, fz, ρ, sto, z, sto', F, e, k⟩ := h
  obtain ⟨x, s1, ea, e1⟩ := bnd_some e
  obtain ⟨lo, s2, eb, e2⟩ := bnd_some e1
  obtain ⟨hi, s3, ec, e3⟩ := bnd_some e2
  obtain ⟨ef, rfl⟩ := ret_some e3
  clear e e1 e2 e3
  refine ⟨C, fz, ρ, sto, x, s1, F, ea, fun v fz1 H1 st1 l1 i1 => ?_⟩
  have F1 := F.step st1 l1
  refine ⟨C, fz1, ρ, s1, lo, s2, F1, eb, fun fz2 H2 st2 l2 => ?_⟩
  have F2 := F1.step st2 l2
  refine ⟨C, fz2, ρ, s2, hi, _, F2, ec, fun fz3 H3 st3 l3 => ?_⟩
  have F3 := F2.step st3 l3
  have st := (st1.trans st2).trans st3
  have i3 := (i1.stp st2 F1.bs).stp st3 F2.bs
  unfold fSl at ef
  split at ef
  · cases ef
    obtain ⟨q, vs, rfl, h1, h2⟩ := i3.tup
    refine .inr ⟨q, vs, rfl, h1, fun hw => ?_, fun _ p o hp ho => ?_⟩
    · rw [h2.length] at hw
      refine k _ fz3 H3 st l3 ?_
      rw [cut_whole hw]
      exact i3
    · obtain ⟨s4, l4, i4⟩ := new_tup F3.bs (h2.cut lo hi) hp ho
      exact k _ fz3 _ (st.trans s4) l4 i4
  · rename_i x' _
    cases q : rdL x with
    | none => rw [q] at ef; cases ef
    | some xs =>
      rw [q] at ef; cases ef
      obtain ⟨q, vs, rfl, h1, h2⟩ := i3.list q
      refine .inl ⟨q, vs, rfl, h1, fun p hp => ?_⟩
      obtain ⟨s4, l4, i4⟩ := new_lst F3.bs (h2.cut lo hi) hp
      exact k _ fz3 _ (st.trans s4) l4 (i4.early st)
end
end Dh
namespace Dh
open PySem PySem.Spec L2 PySem.W
/-- the values of the parameters, by the places of the keywords -/
def perm {α : Type} (d : α) (π : List Nat) (xs : List α) : List α := π.map fun i => xs.getD i d
def KB0 (K : PySem.W.Frag) (fd : FuncData) (ps ks : List Str) (π : List Nat) : Prop := ∀ (s : Shared) (ws : List Value), K.In s.heap → ws.length = ks.length → BindsTo s fd ⟨[], ks.zip ws⟩ (ps.zip (perm Value.none π ws))
def mCallK (g : Fx) (π : List Nat) (n : Nat) (a : Ma) : Mx := bnd a fun rs _ s => match toArgs rs with
  | some cs => if cs.length = n then g (perm (.d .none) π cs) s else none
  | none => none
theorem perm_vals {π : List Nat} {vs : List V} {us : List Value} (r : Vals vs us) : Vals (perm V.non π vs) (perm Value.none π us) := by
  induction π with
  | nil => exact .nil
  | cons i π ih =>
    refine .cons ?_ ih
    show RelV (vs.getD i V.non) (us.getD i Value.none)
    rw [List.getD_eq_getElem?_getD, List.getD_eq_getElem?_getD]
    cases q : vs[i]? with
    | none =>
      have h1 := Vals.none_of r q
      rw [h1]
      rfl
    | some v =>
      obtain ⟨u, hu, ru⟩ := r.get q
      rw [hu]
      exact ru
theorem perm_args {K : PySem.W.Frag} {fz : Fz} {sp : Option Addr} {H : Hp} {π : List Nat} {vs : List V} {cs : List Cl} (r : Paired (ArgOk K fz sp H) vs cs) : Paired (ArgOk K fz sp H) (perm V.non π vs) (perm (.d .none) π cs) := by
  induction π with
  | nil => exact .nil
  | cons i π ih =>
    refine .cons ?_ ih
    show ArgOk K fz sp H (vs.getD i V.non) (cs.getD i (.d .none))
    rw [List.getD_eq_getElem?_getD, List.getD_eq_getElem?_getD]
    cases q : cs[i]? with
    | none =>
      have : vs[i]? = none := List.getElem?_eq_none_iff.mpr (by rw [pLen r]; exact List.getElem?_eq_none_iff.mp q)
      rw [this]
      exact .non
    | some c =>
      obtain ⟨v, hv, rv⟩ := pAt r i c q
      rw [hv]
      exact rv
def SK (X : Cx) (kws : List Keyword) (m : Ma) : Prop := PK X kws (rdA X.K m)
theorem PK.imp {X : Cx} {e : List Keyword} {t t' : TA} (h : PK X e t) (q : ∀ σ H Q, t' σ H Q → t σ H Q) : PK X e t' := ⟨fun p pins s σ H Q I w => h.run p pins s σ H Q I (q _ _ _ w)⟩
section
variable {X : Cx} {k : Nat} {f : Addr} {fd : FuncData} {ps ks : List Str} {π : List Nat} {x : Str} {p pos kpos : Pos} {e : Expr} {kws : List Keyword} {m mr : Ma} {me : Mx} {g : Fx} {nm : Option Str}
theorem sk_nil : SK X [] maNil := PK.imp pk_nil fun σ H Q h => by
  obtain ⟨C, fz, ρ, sto, r, sto', F, e, k⟩ := h
  cases e
  exact k [] fz H .refl F.bs.spl .nil
theorem sk_cons (he : SE X e me) (hr : SK X kws mr) : SK X (⟨nm, e, kpos⟩ :: kws) (maCons me mr) := PK.imp (pk_cons he hr) fun σ H Q h => by
  obtain ⟨C, fz, ρ, sto, r, sto', F, e, k⟩ := h
  obtain ⟨x, s1, ea, e1⟩ := bnd_some e
  obtain ⟨xs, s2, eb, e2⟩ := bnd_some e1
  clear e e1
  cases e2
  refine ⟨C, fz, ρ, sto, x, s1, F, ea, fun v fz1 H1 st1 l1 i1 => ?_⟩
  refine ⟨C, fz1, ρ, s1, xs, sto', F.step st1 l1, eb, fun vs fz2 H2 st2 l2 i2 => ?_⟩
  exact k (v :: vs) fz2 H2 (st1.trans st2) l2 (.cons (i1.stp st2 (F.bs.step st1 l1)) (i2.early st1))
def tCallK0 (sp : Sp) (π : List Nat) (n : Nat) (t : TA) : TE := fun σ H Q => t σ H fun vs H1 => vs.length = n ∧ sp (perm V.non π vs) H1 Q E0
theorem pe_callK0 {sp : Sp} {t : TA} (F : FnG X.prog X.w X.K X.mg X.base k f fd ps sp) (hr : Room k X.A) (hgd : X.A.guards = some []) (hm : X.mg x = some (.ref f)) (hk : PySem.W.keepIn X.K (.ref f) = true) (hb : KB0 X.K fd ps ks π) (ha : PK X kws t) (hg : Gl X x)
    (hall : (backToKw pos (keywordEach kws X.env)).all (·.1.isSome) = true := by rfl) (hks : (backToKw pos (keywordEach kws X.env)).filterMap (·.1) = ks := by rfl)
    (hdb : (x == ("__debug__" : Str)) = false := by decide) (hpl : ((backTo pos (starEach [] X.env)).any (·.1) || (backToKw pos (keywordEach kws X.env)).any (·.1.isNone)) = false := by rfl) :
    PE X (.Call (.Name x p) [] kws pos) (tCallK0 sp π ks.length t) := ⟨fun pins s σ H Q I h => by
  refine wpAny_Call_Name_kw (ld_glob I hg hm (PySem.W.callWith_KW0 (h₀ := X.base) I.ok.mod.kin hk hall (thn (ha.run pos pins s σ H _ I h) ?_) hpl) hdb)
  rintro us s1 ⟨vs, H1, I1, r, hl, q⟩
  rw [hks]
  have b := hb s1 us I1.kIn (by rw [← r.length]; exact hl)
  refine ⟨I1.kIn, wpAny_call (codeAny_mono (run_fnG F hr hgd I1 b (perm_vals r) q) fun res s' hq => ?_)⟩
  match res, hq with
  | .error e, hq => exact hq
  | .ok (.ret u), hq => exact hq
  | .ok .next, hq => exact False.elim hq
  | .ok .brk, hq => exact False.elim hq
  | .ok .cont, hq => exact False.elim hq⟩
theorem se_callK {n l : Nat} {mb : Ms} (F : FnG X.prog X.w X.K X.mg X.base k f fd ps (spOf X.K n (run' n l mb))) (hr : Room k X.A) (hgd : X.A.guards = some []) (hm : X.mg x = some (.ref f)) (hk : PySem.W.keepIn X.K (.ref f) = true) (hb : KB0 X.K fd ps ks π) (ha : SK X kws m) (hg : Gl X x := by rfl)
    (hall : (backToKw pos (keywordEach kws X.env)).all (·.1.isSome) = true := by rfl) (hks : (backToKw pos (keywordEach kws X.env)).filterMap (·.1) = ks := by rfl)
    (hdb : (x == ("__debug__" : Str)) = false := by decide) (hpl : ((backTo pos (starEach [] X.env)).any (·.1) || (backToKw pos (keywordEach kws X.env)).any (·.1.isNone)) = false := by rfl) :
    SE X (.Call (.Name x p) [] kws pos) (mCallK (run' n l mb) π ks.length m) := PE.imp (pe_callK0 F hr hgd hm hk hb ha hg hall hks hdb hpl) fun σ H Q h => by
  obtain ⟨C, fz, ρ, sto, z, sto', F, e, k⟩ := h
  obtain ⟨rs, s1, ea, e1⟩ := bnd_some e
  clear e
  split at e1
  · rename_i cs ec
    split at e1
    · rename_i hn
      refine ⟨C, fz, ρ, sto, rs, s1, F, ea, fun vs fz1 H1 st1 l1 i1 => ?_⟩
      obtain ⟨fz2, st2, B2, _, a⟩ := ImRs.args i1 ec fz1 st1 (F.bs.step st1 l1) fun _ h => h
      exact ⟨(pLen a).trans hn, C.sp, fz2, _, s1, z, sto', run'_len _ s1 _ e1, perm_args a, B2, e1, fun v fz3 H3 st3 l3 i3 => k v fz3 H3 (st2.trans st3) l3 (i3.early st2)⟩
    · cases e1
  · cases e1
end
def mPair (i : Nat) (ix : Mx) (j : Nat) (a : Mx) : Ms := fun ρ s => match a ρ s with
  | some (.d (.tuple [.int q, y]), s1) => match ix ρ s1, ρ[i]? with
    | some (.d (.int k), s2), some (some .s) => match ixN s2.length k with
      | some n => some (.nx, ρ.set j (some (.d y)), s2.set n q)
      | none => none
    | _, _ => none
  | _ => none
section
variable {X : Cx} {i j : Nat} {y : Str} {e : Expr} {tgs : Expr} {me mi : Mx} {py pos tpos : Pos} {kk : Nat}
/-- hg is pg_sub (pv i) hix set_list -/
theorem ss_pair (hc : X.calm = true) (hN : X.N.Nodup) (he : SE X e me) (hg : PG X tgs (gSub (tVar i) (rdE X.K mi) rSetL)) (hj : X.N[j]? = some y := by rfl) (hy : Loc X.env.scope y := by first | exact Or.inl rfl | exact Or.inr rfl)
    (hf : X.fn y = true ∨ X.env.scope.names.lookup y = some .local := by first | exact .inl rfl | exact .inr rfl)
    (h1 : (assignEach (tgs :: [.Name y py]) X.env).map (·.2) = assign tgs X.env :: (assignEach [.Name y py] X.env).map (·.2) := by rfl) (h2 : (assignEach (.Name y py :: []) X.env).map (·.2) = assign (.Name y py) X.env :: (assignEach [] X.env).map (·.2) := by rfl)
    (hn : (assignEach [tgs, .Name y py] X.env).length = 2 := by rfl) (hst : (assignEach [tgs, .Name y py] X.env).findIdx? (·.1) = none := by rfl)
    (hs : swapsWithSole [.Tuple [tgs, .Name y py] kk tpos] e pos.line X.env = pure false := by rfl) (hw : swappedStores [.Tuple [tgs, .Name y py] kk tpos] e X.env = pure none := by rfl)
    (h3 : (assignEach [.Tuple [tgs, .Name y py] kk tpos] X.env).map (·.2) = [assign (.Tuple [tgs, .Name y py] kk tpos) X.env] := by rfl) :
    SS X (.Assign [.Tuple [tgs, .Name y py] kk tpos] e pos) (mPair i mi j me) :=
  PS.impI (ps_asg he (pg_tup hc (pgs_cons hg (pgs_cons (pg_name hN hj hy hf) pgs_nil h2) h1) hn hst) hs hw h3) fun D σ H hl h => by
    obtain ⟨C, fz, ρ, sto, out, ρ', sto', F, e, k⟩ := h
    unfold mPair at e
    split at e
    · rename_i q yy s1 e1
      split at e
      · rename_i kk' s2 e2 ei
        split at e
        · rename_i n en
          cases e
          refine ⟨C, fz, ρ, sto, _, s1, F, e1, fun v fz1 H1 st1 l1 i1 => ?_⟩
          cases i1 with
          | tup ht ha =>
            rename_i a xs
            cases ha with
            | cons hq ha =>
              cases ha with
              | cons hyv ha =>
                cases ha
                cases hq
                have F1 := F.step st1 l1
                refine ⟨a, _, rfl, ht.sq, rfl, _, _, rfl, ?_⟩
                obtain ⟨p, hp, hs⟩ := F1.vars _ _ ei
                refine ⟨_, hs, C, fz1, ρ, s1, _, _, F1, e2, fun w fz2 H2 st2 l2 i2 => ?_⟩
                cases i2
                refine ⟨p, _, kk', n, rfl, rfl, l2 p hp, by rw [List.length_map]; exact en, ?_⟩
                have F2 := F1.step st2 l2
                obtain ⟨F4, S4⟩ := F2.spring (s2.set n q) hp
                refine ⟨_, _, rfl, rfl, ?_⟩
                rw [← List.map_set]
                exact k fz2 _ _ (F4.name ((hyv.stp st2 F1.bs).sts S4 F2.bs) (lt_of_slot hj hl)) ((st1.trans st2).sts.trans S4)
        · cases e
      · cases e
    · cases e
end
end Dh
namespace Dh
open PySem PySem.Spec L2
/-- the tuple at a, each item with its place in a new pair -/
def IteT (K : PySem.W.Frag) (a : Addr) : It where
  go := fun i H => ∃ (xs : List V) (x : V), SqT K H a xs ∧ xs[i]? = some x
  yld := fun i H v H' => ∃ T o x, v = .ref T ∧ H T = none ∧ o.dict = none ∧ H' = upd H T (.frz o (.tup [.int (i : Nat), x])) ∧ ∀ xs, SqT K H a xs → xs[i]? = some x
  stop := fun i H => ∃ xs : List V, SqT K H a xs ∧ xs.length = i
theorem turn_enumT {P : Program} {w : World} {K : PySem.W.Frag} {elts : List Expr} {kk : Nat} {tpos : Pos} (a e it : Addr) (hai : a ≠ it) :
    Turn P w K (.Tuple elts kk tpos) (IteT K a) [e, it] e (fun i h => (∃ old, IsEnum h e it ((i : Nat) : Int) old) ∧ h.IsTupleIter it a i ∧ e ≠ it ∧ a ≠ e) where
  mem := List.mem_cons_self
  obj := by
    rintro i h ⟨⟨old, he⟩, ⟨o, ho, hc, hd⟩, _⟩ b hb
    simp only [List.mem_cons, List.not_mem_nil, or_false] at hb
    rcases hb with rfl | rfl
    · exact ⟨_, he, fun v q => nomatch q⟩
    · exact ⟨o, ho, fun v q => by rw [hd] at q; cases q⟩
  keep := by
    rintro i h h' ⟨⟨old, he⟩, hi, hne⟩ k
    exact ⟨⟨old, k e (by simp) _ he⟩, hi.at fun o q => k it (by simp) o q, hne⟩
  item := by
    rintro X rfl rfl rfl hc i pins s σ H E I hf ⟨⟨old, he⟩, hit, hne, hae⟩ ⟨xs, x, hq, hx⟩
    obtain ⟨its, rv, p, hz⟩ := I.tuple hq
    obtain ⟨u, hu, ru⟩ := rv.get hx
    have hlt : i < its.toArray.size := by simpa using (List.getElem?_eq_some_iff.mp hu).1
    have hel : e < s.heap.objs.size := Heap.lt_size he
    have hil : it < s.heap.objs.size := by obtain ⟨_, q, _⟩ := hit; exact Heap.lt_size q
    have D := Draws.tuple (prog := X.prog) (w := X.w) (A := X.A.in1) (I.ok.hd hc) it a hai its.toArray
    refine wpAny_pyNext_enum_itemC D he ⟨hit, p⟩ hlt hne (by simp [hne, Ne.symm hae]) fun x' h' tk hP ho hs' hT hsz hk => ?_
    have ex : x' = u := by
      have q : its.toArray[i]? = some u := by simpa using hu
      rw [show its.toArray[i]? = some x' from hP] at q
      exact Option.some.inj q
    subst ex
    refine ⟨_, rfl, wpAny_letOwnedTupleGo_enum (s := { s with heap := h', toks := tk + 1 }) ho fun h2 he' sb => ?_⟩
    have hT2 : h2.get? s.heap.objs.size = some { cls := .type "tuple", data := .seq #[.int i tk, x'] } := (sb.2 _ (Nat.ne_of_gt hel)).trans hT
    have I1 : Inv X pins σ (upd H s.heap.objs.size (.frz { cls := .type "tuple", data := .seq #[.int i tk, x'] } (.tup [.int (i : Nat), x]))) { s with heap := h2, toks := tk + 1 } := by
      refine I.turnedNew (ch := [e, it]) (fun b ob hb q => ?_) hf (Nat.le_refl _) (obj_tup (its := [.int i tk, x']) hT2 (by show 2 ≤ sizeLine; decide) (.cons ⟨_, rfl⟩ (.cons ru .nil)))
      simp only [List.mem_cons, List.not_mem_nil, or_false, not_or] at hb
      exact (sb.2 b hb.1).trans (hk b ob hb.1 hb.2 q)
    refine ⟨.ref s.heap.objs.size, _, I1, rfl, ⟨_, _, x, rfl, I.hok.fresh (Nat.le_refl _), rfl, rfl, fun ys hy => ?_⟩, ⟨⟨x', ?_⟩, hs'.1.at fun o q => (sb.2 it (Ne.symm hne)).trans q, hne, hae⟩, fun b hb => ?_⟩
    · rw [I.tuple_inj hy hq]; exact hx
    · rw [show ((i + 1 : Nat) : Int) = (i : Int) + 1 from by omega]; exact he'
    · have hb' : b < s.heap.objs.size := by
        simp only [List.mem_cons, List.not_mem_nil, or_false] at hb
        rcases hb with rfl | rfl
        · exact hel
        · exact hil
      rw [upd_ne (Nat.ne_of_lt hb')]
      exact (hf b hb).1
  done := by
    rintro X rfl rfl rfl hc i pins s σ H E I hf ⟨⟨old, he⟩, hit, hne, hae⟩ ⟨xs, hq, hx⟩
    obtain ⟨its, rv, p, hz⟩ := I.tuple hq
    obtain ⟨f0, f1, f2, f3, f4, f5⟩ := hf it (by simp)
    have hl := rv.length
    have hz : i = its.toArray.size := by simp; omega
    subst hz
    exact wpAny_pyNext_enum_endD (Draws.tuple (prog := X.prog) (w := X.w) (A := X.A.in1) (I.ok.hd hc) it a hai its.toArray) he ⟨hit, p⟩ fun h' eb => ⟨rfl, I.turned (t' := s.toks) (fun b o hb q => eb b o hb q) f0 f1 f3 f4 f5⟩
  self := by
    rintro A i s Q E ⟨⟨old, he⟩, _⟩ h
    exact wpAny_pyIter_enum he h
set_option maxHeartbeats 4000000 in
theorem meets_enum1 {v : Value} {o : Obj} {H : Heap → Prop} (B : Begins v o H) : Meets (Builtin.«enumerate.__new__» ⟨[.type "enumerate", v], []⟩) (fun _ R s => H s.heap ∧
    R (.ok (.ret (.ref (s.heap.push o).objs.size))) { s with heap := (s.heap.push o).push { cls := .type "enumerate", data := .fields #[.none, .bool false, .ref s.heap.objs.size, rawInt 0, .none, .none] } }) := .of_wp fun prog w A R s h => by
  obtain ⟨hp, g, d, tk, os⟩ := s
  obtain ⟨h1, h⟩ := h
  have hsub := sub_enumerate
  have q1 : ∀ {A' : Around} {E : Value → Shared → Prop} {Q : Value → Shared → Prop}, Q (.ref hp.objs.size) ⟨hp.push o, g, d, tk, os⟩ → wpAny (model prog w) A' (pyIter v) Q E ⟨hp, g, d, tk, os⟩ := fun q => B.iter prog w _ _ ⟨hp, g, d, tk, os⟩ _ h1 q
  wp_walk using q1
  refine wpAny_stack_any fun st => wpAny_pure ?_
  split
  · rename_i c _ _ _ _ _
    cases (c == Value.type "enumerate") <;> (wp_walk using q1; exact ⟨_, rfl, h⟩)
  · wp_walk using q1
    exact ⟨_, rfl, h⟩
theorem call_enum1 {prog : Program} {w : World} {A : Around} {E : Value → Shared → Prop} {s : Shared} {v : Value} {o : Obj} {H : Heap → Prop} {Q : Value → Shared → Prop} (B : Begins v o H) (h1 : H s.heap)
    (h : ∀ h', IsEnum h' (s.heap.objs.size + 1) s.heap.objs.size 0 .none → h'.get? s.heap.objs.size = some o → (∀ b o, s.heap.get? b = some o → h'.get? b = some o) → Q (.ref (s.heap.objs.size + 1)) { s with heap := h' }) : wpAny (model prog w) A (call (.type "enumerate") [v]) Q E s := by
  refine callType_new F.called_enumerate (by decide) (F.typeCall_enumerate_1 _) (F.newCall_enumerate_1 _) (fun obj => F.args_object_init_2 obj _) F.entry_enumerate_new (meets_enum1 B) ⟨h1, ?_⟩
  have hz : (s.heap.push o).objs.size = s.heap.objs.size + 1 := Heap.size_push ..
  show _ ∧ _
  rw [hz]
  have he : IsEnum ((s.heap.push o).push { cls := .type "enumerate", data := .fields #[.none, .bool false, .ref s.heap.objs.size, rawInt 0, .none, .none] }) (s.heap.objs.size + 1) s.heap.objs.size 0 .none := by
    have q := Heap.get?_push_size (s.heap.push o) (o := { cls := .type "enumerate", data := .fields #[.none, .bool false, .ref s.heap.objs.size, rawInt 0, .none, .none] }) rfl
    rw [hz] at q
    exact q
  exact ⟨⟨_, he, rfl⟩, h _ he (Heap.get?_push_of_some _ (Heap.get?_push_size _ B.free)) fun b o q => Heap.get?_push_of_some _ (Heap.get?_push_of_some _ q)⟩
def iEnumA (K : PySem.W.Frag) (ta : TA) : TI := fun σ H R => ta σ H fun vs H1 => ∃ a xs, vs = [.ref a] ∧ ((SqL K H1 a xs ∧ R (IteS K a) H1) ∨ (SqT K H1 a xs ∧ R (IteT K a) H1))
theorem pi_enumA {X : Cx} {e : Expr} {ta : TA} {p pos tpos : Pos} {elts : List Expr} {kk : Nat} (hg : Gl X "enumerate") (hm : X.mg "enumerate" = none) (ha : PA X [e] ta) (hs : starEach [e] X.env = [(false, eval e X.env)] := by rfl) :
    PI X (.Tuple elts kk tpos) (.Call (.Name "enumerate" p) [e] [] pos) (iEnumA X.K ta) := ⟨fun pins s σ H R I h => by
  refine PyProof.Rows.Call_ (ld_blt I hg hm PyProof.Rows.boot_enumerate (PyProof.Rows.callWith_type1 (thn (ha.run pos pins s σ H _ I h) ?_) hs rfl))
  rintro us s1 ⟨vs, H1, I1, r1, a, xs, rfl, q⟩
  cases r1 with
  | cons r t =>
    cases t
    cases r
    have fr : ∀ b ∈ [s1.heap.objs.size + 1, s1.heap.objs.size], FpOk X pins H1 b := fun b hb => by
      have hle : s1.heap.objs.size ≤ b := by
        simp only [List.mem_cons, List.not_mem_nil, or_false] at hb
        rcases hb with rfl | rfl
        · exact Nat.le_add_right _ _
        · exact Nat.le_refl _
      exact I1.fpOk hle (I1.hok.fresh hle)
    rcases q with ⟨hq, q⟩ | ⟨hq, q⟩
    · obtain ⟨its, rv, p', _⟩ := I1.list hq
      refine call_enumerate_list p'.isList fun h' he hit hsz hk => wpAny_pyIter_enum he ?_
      exact ⟨_, _, _, _, H1, rfl, I1.kept (t' := s1.toks) hk, turn_enumS a (s1.heap.objs.size + 1) s1.heap.objs.size, ⟨⟨.none, he⟩, hit, Nat.succ_ne_self _⟩, fr, q⟩
    · obtain ⟨its, rv, p', _⟩ := I1.tuple hq
      have hlt : a < s1.heap.objs.size := by obtain ⟨o, ho, _⟩ := id p'; exact Heap.lt_size ho
      refine call_enum1 (begins_tuple a its.toArray) (show s1.heap.IsTuple a its.toArray from p') fun h' he hit hk => wpAny_pyIter_enum he ?_
      exact ⟨_, _, _, _, H1, rfl, I1.kept (t' := s1.toks) hk, turn_enumT a (s1.heap.objs.size + 1) s1.heap.objs.size (Nat.ne_of_lt hlt), ⟨⟨.none, he⟩, ⟨_, hit, rfl, rfl⟩, Nat.succ_ne_self _, Nat.ne_of_lt (Nat.lt_succ_of_lt hlt)⟩, fr, q⟩⟩
section
variable {K : PySem.W.Frag} {sp : Option Addr} {fz fz1 : Fz} {H H1 : Hp} {sto : Sto}
def numbered (xs : List PyData) : List PyData := xs.zipIdx.map fun p => PyData.tuple [.int (p.2 : Nat), p.1]
theorem numbered_at {xs : List PyData} {i : Nat} {z : PyData} (h : (numbered xs)[i]? = some z) : ∃ x, xs[i]? = some x ∧ z = .tuple [.int (i : Nat), x] := by
  unfold numbered at h
  rw [List.getElem?_map, List.getElem?_zipIdx] at h
  cases q : xs[i]? with
  | none => rw [q] at h; cases h
  | some x => rw [q] at h; simp at h; exact ⟨x, rfl, h.symm⟩
theorem numbered_length (xs : List PyData) : (numbered xs).length = xs.length := by unfold numbered; simp
theorem goes_enumL {a : Addr} {vs : List V} {xs : List PyData} (h : FzL K fz H a vs) (im : ImA K fz H vs xs) (B0 : Bs sp fz H sto) : Goes K sp fz H (IteS K a) (numbered xs) := by
  refine ⟨fun i fz1 H1 sto hi s B => ?_, fun fz1 H1 sto s B => ?_, fun i x fz1 H1 sto v H2 hx s B y => ?_⟩
  · rw [numbered_length, ← im.length] at hi
    exact ⟨vs, vs[i], (h.sts s B0).sq, List.getElem?_eq_getElem hi⟩
  · exact ⟨vs, (h.sts s B0).sq, by rw [numbered_length, im.length]⟩
  · obtain ⟨T, o, v2, rfl, hT, hd, e, g2⟩ := y
    obtain ⟨x', hx', rfl⟩ := numbered_at hx
    obtain ⟨w, hw, iw⟩ := im.at i x' hx'
    rw [g2 vs (h.sts s B0).sq] at hw; cases hw
    exact pair_new B (.int _) (iw.sts s B0) hT hd e
theorem goes_enumT {a : Addr} {vs : List V} {xs : List PyData} (h : SqT K H a vs) (im : ImA K fz H vs xs) (B0 : Bs sp fz H sto) : Goes K sp fz H (IteT K a) (numbered xs) := by
  refine ⟨fun i fz1 H1 sto hi s B => ?_, fun fz1 H1 sto s B => ?_, fun i x fz1 H1 sto v H2 hx s B y => ?_⟩
  · rw [numbered_length, ← im.length] at hi
    exact ⟨vs, vs[i], SqT.sts s B0 h, List.getElem?_eq_getElem hi⟩
  · exact ⟨vs, SqT.sts s B0 h, by rw [numbered_length, im.length]⟩
  · obtain ⟨T, o, v2, rfl, hT, hd, e, g2⟩ := y
    obtain ⟨x', hx', rfl⟩ := numbered_at hx
    obtain ⟨w, hw, iw⟩ := im.at i x' hx'
    rw [g2 vs (SqT.sts s B0 h)] at hw; cases hw
    exact pair_new B (.int _) (iw.sts s B0) hT hd e
end
def enum1 : List R → Option (List PyData)
  | [x] => (itemsOf x).map numbered
  | _ => none
section
variable {X : Cx} {e : Expr} {m : Ma} {p pos tpos : Pos} {elts : List Expr} {kk : Nat}
theorem si_enum (ha : SA X [e] m) (hm : X.mg "enumerate" = none) (hg : Gl X "enumerate" := by rfl) (hs : starEach [e] X.env = [(false, eval e X.env)] := by rfl) : SI X (.Tuple elts kk tpos) (.Call (.Name "enumerate" p) [e] [] pos) (mArgI enum1 m) := PI.imp (pi_enumA hg hm ha hs) fun σ H R h => by
  obtain ⟨C, fz, ρ, sto, xs, sto', F, e, k⟩ := h
  obtain ⟨x, s1, ea, e1⟩ := bnd_some e
  obtain ⟨ef, rfl⟩ := ret_some e1
  clear e e1
  refine ⟨C, fz, ρ, sto, x, _, F, ea, fun vs fz1 H1 st1 l1 i1 => ?_⟩
  have B1 := F.bs.step st1 l1
  unfold enum1 at ef
  split at ef
  · rename_i r
    cases q : itemsOf r with
    | none => rw [q] at ef; cases ef
    | some ys =>
      rw [q] at ef
      cases ef
      cases i1 with
      | cons i1 t =>
        cases t
        unfold itemsOf at q
        split at q
        · cases q
          cases i1 with
          | lst h im => exact ⟨_, _, rfl, .inl ⟨h.sq, k _ fz1 H1 st1 l1 (goes_enumL h im B1)⟩⟩
        · cases q
          cases i1 with
          | tup h im => exact ⟨_, _, rfl, .inr ⟨h.sq, k _ fz1 H1 st1 l1 (goes_enumT h.sq im B1)⟩⟩
        · cases q
          obtain ⟨a, ws, rfl, h1, h2, h3, h4, h5⟩ := i1
          have st2 := st1.freeze h5 h4 h1
          exact ⟨a, ws, rfl, .inl ⟨.inl (.inl h1), k _ _ H1 st2 l1 (goes_enumL (.inl ⟨h1, .inr rfl⟩) (h2.fzm fun b q => .inl q) (F.bs.step st2 l1))⟩⟩
        · cases q
  · cases ef
end
end Dh
namespace Dh
open PySem PySem.Spec PyProof.Rows L2 PySem.W
section
variable {prog : Program} {w : World} {A : Around} {E : Value → Shared → Prop} {s : Shared}
theorem sliceApplied_back {sl : Addr} {n : Nat} {t : Tok} {Q : Int × Int × Nat → Shared → Prop} (hs : s.heap.IsSliceOf sl .none .none (.int (-1) t)) (h : Q ((n : Int) - 1, -1, n) s) : wpAny (model prog w) A (Builtin.Slice.sliceApplied (.ref sl) (pure (n : Int))) Q E s := by
  obtain ⟨os, hos, hcs, hds⟩ := id hs
  unfold Builtin.Slice.sliceApplied Builtin.Slice.sliceFields
  refine wpAny_bind (wpAny_bind (wpAny_field hos hds (x := .none) rfl (wpAny_bind (wpAny_field hos hds (x := .none) rfl (wpAny_bind (wpAny_field hos hds (x := .int (-1) t) rfl (wpAny_pure ?_)))))))
  refine wpAny_bind (HT.slicePart_ (.int (-1) t) ?_)
  refine wpAny_bind (HT.slicePart_ .none (wpAny_bind (HT.slicePart_ .none (wpAny_bind (wpAny_pure ?_)))))
  have e1 : Builtin.Slice.sliceAdjust none none (-1) (n : Int) = ((n : Int) - 1, -1) := rfl
  have e2 : Builtin.Slice.slicePlaces ((n : Int) - 1) (-1) (-1) = n := by
    unfold Builtin.Slice.slicePlaces
    simp
    omega
  refine wpAny_pure ?_
  show Q ((Builtin.Slice.sliceAdjust none none (-1) (n : Int)).1, -1, Builtin.Slice.slicePlaces (Builtin.Slice.sliceAdjust none none (-1) (n : Int)).1 (Builtin.Slice.sliceAdjust none none (-1) (n : Int)).2 (-1)) s
  rw [e1, e2]
  exact h
theorem pick_back (xs : Array Value) : ((List.range xs.size).filterMap fun (m : Nat) => xs[((xs.size : Int) - 1 + (m : Int) * (-1)).toNat]?) = xs.toList.reverse := by
  have key : ∀ (l : List Value), ((List.range l.length).filterMap fun (m : Nat) => l[((l.length : Int) - 1 + (m : Int) * (-1)).toNat]?) = l.reverse := by
    intro l
    have : ∀ k, k ≤ l.length → ((List.range k).filterMap fun (m : Nat) => l[((l.length : Int) - 1 + (m : Int) * (-1)).toNat]?) = l.reverse.take k := by
      intro k
      induction k with
      | zero => intro _; simp
      | succ k ih =>
        intro hk
        rw [List.range_succ, List.filterMap_append, ih (by omega), List.take_add_one]
        congr 1
        have e : ((l.length : Int) - 1 + (k : Int) * (-1)).toNat = l.length - 1 - k := by omega
        have q : l.reverse[k]? = l[l.length - 1 - k]? := List.getElem?_reverse (by omega)
        simp only [List.filterMap_cons, List.filterMap_nil, e, q]
        cases l[l.length - 1 - k]? <;> rfl
    rw [this l.length (Nat.le_refl _), ← List.length_reverse, List.take_length]
  have := key xs.toList
  simpa using this
theorem getItem_tuple_back {t sl : Addr} {items : Array Value} {tk : Tok} {Q : Value → Shared → Prop} (ht : IsTup s.heap t items) (hs : s.heap.IsSliceOf sl .none .none (.int (-1) tk))
    (h : Q (.ref s.heap.objs.size) { s with heap := s.heap.push { cls := .type "tuple", data := .seq items.toList.reverse.toArray } }) (hsz : items.size ≤ sizeLine) : wpAny (model prog w) A (getItem (.ref t) (.ref sl)) Q E s := by
  have hok : sizeOk (.seq items.toList.reverse.toArray) := by
    show items.toList.reverse.toArray.size ≤ sizeLine
    rw [List.size_toArray, List.length_reverse, Array.length_toList]
    exact hsz
  obtain ⟨os, hos, hcs, hds⟩ := id hs
  have hTs : s.TypeIs (.ref sl) "slice" := ⟨os, hos, hcs⟩
  unfold getItem
  try with_reducible refine wpAny_holding ?_
  first | refine wpAny_bind (wpAny_pure ?_) | skip
  refine wpAny_bind (wpAny_sequenceKey ht.typeIs (by decide) ?_)
  refine wpAny_bind (wpAny_callSpecial?_slot (name := Str.ofString "__getitem__") ht.typeIs slot_tuple_getitem (wpAny_call_entry slot_tuple_getitem ht.typeIs entry_tuple_getitem ?_ (args_tuple_getitem _ _)))
  show wpAny _ _ (Builtin.Tuple.tupleItemsOf (.ref t) >>= _) _ _ s
  refine wpAny_bind (tupleItemsOf_ ht (wpAny_bind (wpAny_typeOf hTs ?_)))
  rw [if_pos (by decide)]
  refine wpAny_bind (sliceApplied_back hs ?_)
  have hno : ¬ ((((items.size : Int) - 1) == 0 && (-1 : Int) == 1 && items.size == items.size) = true) := by
    intro q
    rw [Bool.and_eq_true, Bool.and_eq_true] at q
    exact absurd q.1.2 (by decide)
  show wpAny _ _ (if (((items.size : Int) - 1) == 0 && (-1 : Int) == 1 && items.size == items.size) = true then _ else _) _ _ s
  rw [if_neg hno, pick_back]
  first
    | exact wpAny_bind (m := Builtin.Tuple.tupleExact _) (wpAny_newObj_type (wpAny_pure ⟨_, rfl, wpAny_pure h⟩) hok)
    | exact wpAny_bind (m := Builtin.Tuple.tupleExact _) (wpAny_newObj_type (wpAny_bind (wpAny_pure (wpAny_pure ⟨_, rfl, wpAny_pure h⟩))) hok)
end
def rRevT (K : PySem.W.Frag) : V → Hp → VK → Prop := fun x H1 Q => ∃ a xs, x = .ref a ∧ SqT K H1 a xs ∧ TpQ H1 xs.reverse Q
theorem pe_revT {X : Cx} {e : Expr} {te : TE} {k : Nat} {p1 p2 p3 pos : Pos} (he : PE X e te) : PE X (.Subscript e (.Slice none none (some (.UnaryOp .USub (.Constant (.int 1) k p1) p2)) p3) pos) (tUn (rRevT X.K) te) := ⟨fun pins s σ H Q I h => by
  refine Subscript_ (thn (he.run pins s σ H _ I h) ?_)
  rintro v s1 ⟨x, H1, I1, r1, a, xs, rfl, hx, q⟩
  cases r1
  have hst : PO X (some (.UnaryOp .USub (.Constant (.int 1) k p1) p2)) (tPart (tUn (rU fun i => .int (-i)) (tC (.int 1)))) := po_some (pe_un un_neg pe_int)
  refine wpAny_Slice (thn (po_none.run pins s1 σ H1 (fun o H2 => o = none ∧ H2 = H1) I1 ⟨rfl, rfl⟩) ?_)
  rintro vl s2 ⟨l, H2, I2, pl, rfl, rfl⟩
  refine thn (po_none.run pins s2 σ H2 (fun o H3 => o = none ∧ H3 = H2) I2 ⟨rfl, rfl⟩) ?_
  rintro vu s3 ⟨u, H3, I3, pu, rfl, rfl⟩
  refine thn (hst.run pins s3 σ H3 (fun o H4 => o = some (-1) ∧ H4 = H3) I3 ⟨1, rfl, -1, rfl, rfl, rfl⟩) ?_
  rintro vs s4 ⟨o, H4, I4, ps, rfl, rfl⟩
  cases pl
  cases pu
  cases ps
  rename_i tk
  have I5 : Inv X pins σ H4 { s4 with heap := s4.heap.push { cls := .type "slice", data := .fields #[.none, .none, .int (-1) tk] } } := I4.kept (t' := s4.toks) fun b ob q => Heap.get?_push_of_some _ q
  obtain ⟨its, r, ht, hz⟩ := I5.tuple hx
  have hlen := r.length
  show wpAny (model X.prog X.w) X.A (subscriptTail e (.Slice none none (some (.UnaryOp .USub (.Constant (.int 1) k p1) p2)) p3) (.ref a) (.ref s4.heap.objs.size)) (EP X pins σ Q) X.xe _
  refine tail_any (ops := [.ref a, .ref s4.heap.objs.size]) ht.typeIs slot_tuple_getitem.lookup ?_ (by with_unfolding_all rfl)
  refine getItem_tuple_back ht (Heap.IsSliceOf.new _ .none .none (.int (-1) tk)) ?_ (by rw [List.size_toArray]; omega)
  exact ⟨.ref _, _, I5.laid (t' := s4.toks) (fun b ob q => Heap.get?_push_of_some _ q) (Nat.le_refl _) (obj_tup (its := its.reverse) (by rw [← List.reverse_toArray]; exact Heap.get?_push_size _ rfl) (by rw [List.length_reverse]; exact hz) r.reverse), rfl, q _ _ (I5.hok.fresh (Nat.le_refl _)) rfl⟩⟩
def fRev : R → Option R
  | .d (.tuple xs) => some (.d (.tuple xs.reverse))
  | _ => none
theorem ImA.rev {K : PySem.W.Frag} {fz : Fz} {H : Hp} : ∀ {vs : List V} {xs : List PyData}, ImA K fz H vs xs → ImA K fz H vs.reverse xs.reverse
  | _, _, .nil => .nil
  | _, _, .cons h t => by
    rw [List.reverse_cons, List.reverse_cons]
    exact t.rev.append (.cons h .nil)
def mBrk : Ms := fun ρ s => some (.bk, ρ, s)
def mCnt : Ms := fun ρ s => some (.ct, ρ, s)
def mRetN : Ms := fun ρ s => some (.rt (.d .none), ρ, s)
/-- an expression for what it does alone -/
def mDrop (a : Mx) : Ms := fun ρ s => match a ρ s with
  | some (_, s1) => some (.nx, ρ, s1)
  | none => none
section
variable {X : Cx} {e : Expr} {me : Mx} {pos : Pos}
theorem se_rev {k : Nat} {p1 p2 p3 : Pos} (he : SE X e me) : SE X (.Subscript e (.Slice none none (some (.UnaryOp .USub (.Constant (.int 1) k p1) p2)) p3) pos) (m1 fRev me) := PE.imp (pe_revT he) fun _ _ _ h => rd_one (by
  intro sp fz H H0 sto v x z Q B ix e k
  unfold fRev at e
  split at e
  · cases e
    obtain ⟨a, vs, rfl, h1, h2⟩ := ix.tup
    refine ⟨a, vs, rfl, h1, fun p o hp ho => ?_⟩
    obtain ⟨s3, l3, i3⟩ := new_tup B h2.rev hp ho
    exact k _ fz _ s3 l3 (.inl i3)
  · cases e) h
theorem ss_drop (he : SE X e me) (hs : swapsWith e none pos.line X.env = pure false := by rfl) : SS X (.Expr e pos) (mDrop me) := PS.imp (ps_expr he hs) fun D σ H h => by
  obtain ⟨C, fz, ρ, sto, out, ρ', sto', F, e, k⟩ := h
  unfold mDrop at e
  split at e
  · rename_i r s1 e1
    cases e
    exact ⟨C, fz, ρ, sto, r, _, F, e1, fun v fz1 H1 st1 l1 i1 => k fz1 σ H1 (F.step st1 l1) st1.sts⟩
  · cases e
theorem se_dict0 : SE X (.Dict [] [] pos) (mKon (.dict [])) := PE.imp pe_dnewK fun σ H Q h => by
  obtain ⟨C, fz, ρ, sto, r, sto', F, e, k⟩ := h
  cases e
  intro p hp
  have n : some p ≠ C.sp := F.bs.spl.ne hp (by intro z; cases z)
  exact k _ _ _ (Stp.frz hp n) (F.bs.spl.upd n) (.dct upd_same (.inr rfl) .nil .nil)
theorem se_dict1 {a : Str} {i : Int} {p1 p2 : Pos} {j1 j2 : Nat} : SE X (.Dict [some (.Constant (.str a) j1 p1)] [.Constant (.int i) j2 p2] pos) (mKon (.dict [(.str a, .int i)])) := PE.imp (pe_disp (pps_cons pe_str pe_int pps_nil) rfl rfl (by simp) (by show 1 ≤ 15; decide)) fun σ H Q h => by
  obtain ⟨C, fz, ρ, sto, r, sto', F, e, k⟩ := h
  cases e
  intro p hp
  have n : some p ≠ C.sp := F.bs.spl.ne hp (by intro z; cases z)
  refine ⟨upd_same, [(Sum.inr a, .int i)], rfl, by show 1 ≤ 15; decide, ?_⟩
  have e1 : upd (upd H p (.dK [])) p (.dK (mergeK [] [(Sum.inr a, V.int i)])) = upd H p (.dK [(Sum.inr a, V.int i)]) := by rw [upd_upd]; rfl
  rw [e1]
  exact k _ _ _ (Stp.frz hp n) (F.bs.spl.upd n) (.dct upd_same (.inr rfl) (.cons (.str a) .nil) (.cons (.int i) .nil))
/-- x, y, z = a, b, c -/
def mPar3 (i j l : Nat) (a : Ma) : Ms := fun ρ s => match a ρ s with
  | some ([r, q, u], s1) => match toCl r, toCl q, toCl u with
    | some (.d c), some (.d d), some f => some (.nx, ((ρ.set i (some (.d c))).set j (some (.d d))).set l (some f), s1)
    | some (.d c), some (.o d), some (.d f) => some (.nx, ((ρ.set i (some (.d c))).set j (some (.o d))).set l (some (.d f)), s1)
    | _, _, _ => none
  | _ => none
end
section
variable {K : PySem.W.Frag} {C : Cn} {fz fz1 : Fz} {ρ : Ev} {sto sto' : Sto} {σ : L2.St} {H H1 : Hp}
theorem toCl_d {r : R} {c : PyData} (h : toCl r = some (.d c)) : r = .d c := by
  cases r with
  | d x => cases h; rfl
  | f x => cases h
  | b x => cases h
  | s => cases h
  | m x => cases h
  | n x => cases h
/-- a value given beside others: what was given first is a datum -/
theorem Fm.give2 (F : Fm K C fz ρ sto σ H) (s : Stp C.sp fz H fz1 H1) (l : SpL C.sp H1 sto') {v w : V} {x : PyData} {r : R} {c : Cl} (iv : Im K fz1 H1 v x) (iw : ImR K C.sp H fz1 H1 w r) (e : toCl r = some c) {i j : Nat} (hi : i < σ.length) (hj : j < σ.length) :
    Fm K C fz1 ((ρ.set i (some (.d x))).set j (some c)) sto' ((σ.set i (some v)).set j (some w)) H1 := by
  have F1 := (F.step s l).name iv hi
  refine F1.put j (by rw [List.length_set]; exact hj) ?_ ?_
  · have g : ((σ.set i (some v)).set j (some w))[j]? = some (some w) := List.getElem?_set_self (by rw [List.length_set]; exact hj)
    cases r with
    | d x => cases e; exact ⟨w, g, iw⟩
    | f xs =>
      cases e
      obtain ⟨a, vs, rfl, h1, h2, h3, h4, h5⟩ := iw
      exact ⟨a, vs, g, h1, h2, h3, h4, F.st.back h4 h5⟩
    | b xs => cases e
    | s => cases e; obtain ⟨a, ea, rfl⟩ := (show IsS C.sp w from iw); exact ⟨a, ea, g⟩
    | m acc =>
      cases e
      obtain ⟨a, vs, rfl, h1, h2, h3, h4, h5⟩ := iw
      exact ⟨a, vs, g, h1, h2, h3, h4, F.st.back h4 h5⟩
    | n acc => cases e
  · intro xs a ec ew n ys hn h1 h2
    subst ec
    cases r with
    | d x => cases e
    | b x => cases e
    | s => cases e
    | m x => cases e
    | n x => cases e
    | f zs =>
      cases e
      obtain ⟨b, vs, eb, h3, h4, h5, h6, h7⟩ := iw
      rw [ew] at eb; cases eb
      by_cases en : n = i
      · subst en
        rw [List.getElem?_set_self (by rw [F.len]; exact hi)] at h1
        cases h1
      · rw [List.getElem?_set_ne (Ne.symm en)] at h1 h2
        obtain ⟨b, ws, q1, q2, _⟩ := F.owned h1
        rw [h2] at q1; cases q1
        rw [h7] at q2; cases q2
end
section
variable {X : Cx} {i j l : Nat} {x y z : Str} {a b c : Expr} {m : Ma} {px py pz pt pos : Pos} {kt k2 pt2}
theorem ss_par3 (hc : X.calm = true) (hN : X.N.Nodup) (ha : SA X [a, b, c] m) (hi : X.N[i]? = some x := by rfl) (hj : X.N[j]? = some y := by rfl) (hl : X.N[l]? = some z := by rfl) (hij : i ≠ j := by decide) (hil : i ≠ l := by decide) (hjl : j ≠ l := by decide)
    (hx : X.env.scope.names.lookup x = some .local := by rfl) (hy : X.env.scope.names.lookup y = some .local := by rfl) (hz : X.env.scope.names.lookup z = some .local := by rfl)
    (hw : swappedStores [.Tuple [.Name x px, .Name y py, .Name z pz] kt pt] (.Tuple [a, b, c] k2 pt2) X.env = pure (some [x, y, z]) := by rfl)
    (hs : swapsWithSole [.Tuple [.Name x px, .Name y py, .Name z pz] kt pt] (.Tuple [a, b, c] k2 pt2) pos.line X.env = pure false := by rfl) :
    SS X (.Assign [.Tuple [.Name x px, .Name y py, .Name z pz] kt pt] (.Tuple [a, b, c] k2 pt2) pos) (mPar3 i j l m) := PS.impI (ps_par3 hc hN hi hj hl hij hil hjl hx hy hz ha hw hs) fun D σ H hlen h => by
  obtain ⟨C, fz, ρ, sto, out, ρ', sto', F, e, k⟩ := h
  have hi' := lt_of_slot hi hlen
  have hj' := lt_of_slot hj hlen
  have hl' := lt_of_slot hl hlen
  unfold mPar3 at e
  split at e
  · rename_i r q u s1 e1
    split at e
    · rename_i c1 d1 f1 ec ed ef
      cases e
      refine ⟨C, fz, ρ, sto, _, _, F, e1, fun vs fz1 H1 st1 l1 i1 => ?_⟩
      cases i1 with
      | cons iv t =>
        cases t with
        | cons iw t =>
          cases t with
          | cons iu t =>
            cases t
            rw [toCl_d ec] at iv
            rw [toCl_d ed] at iw
            rename_i v w uu
            refine ⟨v, w, uu, rfl, ?_⟩
            -- the first is a datum: put it ahead, then the other two
            have F1 := F.give2 st1 l1 iw iu ef hj' hl'
            have F2 := F1.name iv (i := i) (by simp only [List.length_set]; exact hi')
            have r1 : (((σ.set j (some w)).set l (some uu)).set i (some v)) = (((σ.set i (some v)).set j (some w)).set l (some uu)) := by
              rw [List.set_comm _ _ (Ne.symm hil), List.set_comm _ _ (Ne.symm hij)]
            have r2 : (((ρ.set j (some (Cl.d d1))).set l (some f1)).set i (some (Cl.d c1))) = (((ρ.set i (some (Cl.d c1))).set j (some (Cl.d d1))).set l (some f1)) := by
              rw [List.set_comm _ _ (Ne.symm hil), List.set_comm _ _ (Ne.symm hij)]
            rw [r1, r2] at F2
            exact k fz1 _ H1 F2 st1.sts
    · rename_i c1 d1 f1 ec ed ef
      cases e
      refine ⟨C, fz, ρ, sto, _, _, F, e1, fun vs fz1 H1 st1 l1 i1 => ?_⟩
      cases i1 with
      | cons iv t =>
        cases t with
        | cons iw t =>
          cases t with
          | cons iu t =>
            cases t
            rw [toCl_d ec] at iv
            rw [toCl_d ef] at iu
            rename_i v w uu
            refine ⟨v, w, uu, rfl, ?_⟩
            have F1 := F.give2 st1 l1 iv iw ed hi' hj'
            have F2 := F1.name iu (i := l) (by simp only [List.length_set]; exact hl')
            exact k fz1 _ H1 F2 st1.sts
    · cases e
  · cases e
end
/-- a call of what is promised, whatever function it is -/
theorem se_callR {X : Cx} {k k2 : Nat} {f : Addr} {fd : FuncData} {ps : List Str} {x : Str} {p pos : Pos} {e : Expr} {es : List Expr} {m : Ma} {n : Nat} {g : Fx} (F : FnG X.prog X.w X.K X.mg X.base k f fd ps (spOf X.K n g)) (hr : Room k2 X.A) (hgd : X.A.guards = some []) (hm : X.mg x = some (.ref f)) (hk : PySem.W.keepIn X.K (.ref f) = true) (hb : Binds X.K fd ps []) (ha : SA X (e :: es) m)
    (hkk : k ≤ k2 := by omega) (hn : ∀ cs s r, g cs s = some r → cs.length = n := by assumption) (hg : Gl X x := by rfl)
    (hdb : (x == ("__debug__" : Str)) = false := by decide) (he : starEach (e :: es) X.env = (false, eval e X.env) :: starEach es X.env := by rfl) (hpl : (backTo pos (starEach es X.env)).any (·.1) = false := by rfl) :
    SE X (.Call (.Name x p) (e :: es) [] pos) (mCall g m) := PE.imp (pe_callG F (hr.mono hkk) hgd hm hk hb ha hg hdb he hpl) fun _ _ _ h => rd_call hn h
end Dh
namespace Dh
open PySem PySem.Spec L2 PySem.W PyProof.Rows
def stoOf : List PyData → Option Sto
  | [] => some []
  | .int i :: r => (stoOf r).map (i :: ·)
  | _ :: _ => none
def onlyD : List R → Option (List Cl)
  | [] => some []
  | .d x :: r => (onlyD r).map (.d x :: ·)
  | _ :: _ => none
/-- g(new list, data..): the list is g's spring -/
def mCallN (g : Fx) (a : Ma) : Mx := bnd a fun rs _ s => match rs with
  | .f xs :: r => match stoOf xs, onlyD r with
    | some s0, some cs => match g (.s :: cs) s0 with
      | some (.d x, _) => some (.d x, s)
      | some (.f x, _) => some (.f x, s)
      | _ => none
    | _, _ => none
  | _ => none
section
variable {K : PySem.W.Frag} {sp : Option Addr} {fz fz1 : Fz} {H H1 : Hp} {sto : Sto}
theorem ints_vals : ∀ {vs : List V} {xs : List PyData} {s0 : Sto}, ImA K fz H vs xs → stoOf xs = some s0 → vs = s0.map V.int
  | _, _, _, .nil, e => by cases e; rfl
  | _, _, _, .cons (d := d) h t, e => by
    cases d with
    | int i =>
      cases h
      unfold stoOf at e
      obtain ⟨s1, e1, rfl⟩ := Option.map_eq_some_iff.mp e
      rw [List.map_cons, ints_vals t e1]
    | none => cases e
    | bool _ => cases e
    | str _ => cases e
    | list _ => cases e
    | tuple _ => cases e
    | dict _ => cases e
theorem onlyD_args {q : Option Addr} : ∀ {vs : List V} {rs : List R} {cs : List Cl}, ImRs K sp H fz1 H1 vs rs → onlyD rs = some cs → Paired (ArgOk K fz1 q H1) vs cs
  | _, _, _, .nil, e => by cases e; exact .nil
  | _, _, _, .cons (b := r) h t, e => by
    cases r with
    | d x =>
      unfold onlyD at e
      obtain ⟨c1, e1, rfl⟩ := Option.map_eq_some_iff.mp e
      exact .cons h (onlyD_args t e1)
    | f _ => cases e
    | b _ => cases e
    | s => cases e
    | m _ => cases e
    | n _ => cases e
end
theorem rd_callN {K : PySem.W.Frag} {n : Nat} {g : Fx} {m : Ma} {σ : L2.St} {H : Hp} {Q : VK} (hn : ∀ cs s r, g cs s = some r → cs.length = n) (h : rdE K (mCallN g m) σ H Q) : tCallG (spOf K n g) (rdA K m) σ H Q := by
  obtain ⟨C, fz, ρ, sto, z, sto', F, e, k⟩ := h
  obtain ⟨rs, s1, ea, e1⟩ := bnd_some e
  clear e
  refine ⟨C, fz, ρ, sto, rs, s1, F, ea, fun vs fz1 H1 st1 l1 i1 => ?_⟩
  have B1 : Bs C.sp fz1 H1 s1 := F.bs.step st1 l1
  cases i1 with
  | nil => cases e1
  | @cons v r0 ws rs h t =>
    cases r0 with
    | f xs =>
      dsimp only at e1
      split at e1
      · rename_i s0 cs e2 e3
        obtain ⟨p, us, rfl, h1, h2, h3, h4, h5⟩ := h
        have eus := ints_vals h2 e2
        subst eus
        have args : Paired (ArgOk K fz1 (some p) H1) (V.ref p :: ws) (Cl.s :: cs) := .cons ⟨p, rfl, rfl⟩ (onlyD_args t e3)
        have B2 : Bs (some p) fz1 H1 s0 := ⟨fun a ea => by cases ea; exact h1, fun a ea => by cases ea; exact h3, B1.trk⟩
        have back : ∀ {fz2 : Fz} {H2 : Hp}, Stp (some p) fz1 H1 fz2 H2 → Stp C.sp fz1 H1 fz2 H2 → True := fun _ _ => trivial
        have st2 : ∀ {fz2 : Fz} {H2 : Hp}, Stp (some p) fz1 H1 fz2 H2 → Stp C.sp fz H fz2 H2 ∧ SpL C.sp H2 s1 := fun {fz2 H2} t2 => by
          have np : ∀ a, a ≠ p → some a ≠ some p := fun a n z => n (Option.some.inj z)
          refine ⟨⟨fun a q => t2.mono a (st1.mono a q), fun a o q n => ?_, fun a q => ?_, fun t a q => t2.trk (st1.trk t) a q⟩, fun a ea => ?_⟩
          · exact t2.ext a o (st1.ext a o q n) (np a (ne_of_none q h5))
          · rcases t2.new a q with q | ⟨_, q⟩
            · exact st1.new a q
            · have n : some a ≠ C.sp := l1.ne q (by intro z; cases z)
              exact .inr ⟨n, st1.back n q⟩
          · refine t2.ext a _ (l1 a ea) (np a fun z => h4 ?_)
            rw [← z, ea]
        split at e1
        · rename_i x s2 eg
          cases e1
          exact ⟨some p, fz1, _, s0, .d x, s2, hn _ _ _ eg, args, B2, eg, fun v fz3 H3 st3 l3 i3 => k v fz3 H3 (st2 st3).1 (st2 st3).2 i3⟩
        · rename_i x s2 eg
          cases e1
          refine ⟨some p, fz1, _, s0, .f x, s2, hn _ _ _ eg, args, B2, eg, fun v fz3 H3 st3 l3 i3 => k v fz3 H3 (st2 st3).1 (st2 st3).2 ?_⟩
          obtain ⟨a, us, rfl, g1, g2, g3, g4, g5⟩ := i3
          have n : some a ≠ C.sp := l1.ne g5 (by intro z; cases z)
          exact ⟨a, us, rfl, g1, g2, g3, n, st1.back n g5⟩
        · cases e1
      · cases e1
    | d _ => cases e1
    | b _ => cases e1
    | s => cases e1
    | m _ => cases e1
    | n _ => cases e1
section
variable {X : Cx} {k k2 : Nat} {f : Addr} {fd : FuncData} {ps : List Str} {x : Str} {p pos : Pos} {e : Expr} {es : List Expr} {m : Ma} {n : Nat} {g : Fx}
theorem se_callN (F : FnG X.prog X.w X.K X.mg X.base k f fd ps (spOf X.K n g)) (hr : Room k2 X.A) (hgd : X.A.guards = some []) (hm : X.mg x = some (.ref f)) (hk : PySem.W.keepIn X.K (.ref f) = true) (hb : Binds X.K fd ps []) (ha : SA X (e :: es) m)
    (hkk : k ≤ k2 := by omega) (hn : ∀ cs s r, g cs s = some r → cs.length = n := by first | exact run'_len | assumption) (hg : Gl X x := by rfl)
    (hdb : (x == ("__debug__" : Str)) = false := by decide) (he : starEach (e :: es) X.env = (false, eval e X.env) :: starEach es X.env := by rfl) (hpl : (backTo pos (starEach es X.env)).any (·.1) = false := by rfl) :
    SE X (.Call (.Name x p) (e :: es) [] pos) (mCallN g m) := PE.imp (pe_callG F (hr.mono hkk) hgd hm hk hb ha hg hdb he hpl) fun _ _ _ h => rd_callN hn h
end
/-- one entry of the heap -/
def oneH (a : Addr) (u : HO) : Hp := fun c => if c = a then some u else none
theorem oneH_self {a : Addr} {u : HO} : oneH a u a = some u := by unfold oneH; rw [if_pos rfl]
theorem oneH_some {a c : Addr} {u x : HO} (h : oneH a u c = some x) : c = a ∧ x = u := by
  unfold oneH at h
  split at h
  · cases h; exact ⟨by assumption, rfl⟩
  · cases h
section
variable {P : Program} {w : World} {K : PySem.W.Frag} {mg mb : Str → Option Value} {k : Nat} {fa a : Addr} {fd : FuncData} {x : Str} {g : Fx} {s₁ : Shared} {vs : List Value} {ns : List Int}
/-- what stands behind a tracked heap of frozen things alone -/
structure Und (K : PySem.W.Frag) (mg : Str → Option Value) (h : Heap) (H : Hp) : Prop where
  kin : K.In (hidT h H)
  main : (hidT h H).Ns mainGlobals mg
  mod : Mod K mg (hidT h H)
theorem und_of (KX : K.In s₁.heap) (hns : s₁.heap.Ns mainGlobals mg) (hb : s₁.heap.Ns builtinsNs mb) (hbb : ∀ x : Str, x ≠ "__name__" → mb x = bootBuiltins x) (hlim : s₁.heap.NoLimit) {H : Hp}
    (off : ∀ c o, s₁.heap.get? c = some o → H c ≠ none → K.lookup c = none ∧ ∀ es ep, o.data ≠ .dict es ep) : Und K mg s₁.heap H := by
  have dict : ∀ {c : Addr} {o : Obj} {es : Array DictEntry} {ep : Nat}, s₁.heap.get? c = some o → o.data = .dict es ep → (hidT s₁.heap H).get? c = some o := fun {c o es ep} e d =>
    hidT_get e (Classical.byContradiction fun z => (off c o e z).2 es ep d)
  have names : ∀ {c : Addr} {m : Str → Option Value}, s₁.heap.Ns c m → (hidT s₁.heap H).Ns c m := by
    rintro c m ⟨o, es, ep, e, d, r⟩
    exact ⟨o, es, ep, dict e d, d, r⟩
  have kin : K.In (hidT s₁.heap H) := fun c o e => hidT_get (KX c o e) (Classical.byContradiction fun z => by
    have q := (off c o (KX c o e) z).1
    rw [e] at q
    cases q)
  obtain ⟨mc, n1, n2⟩ := hlim
  exact ⟨kin, names hns, kin, names hns, ⟨mb, names hb, hbb⟩, ⟨mc, names n1, n2⟩⟩
/-- the law from its def's promise, from a tracked heap of frozen things alone -/
theorem law_at (U : Und K mg s₁.heap H) (hg : s₁.gens = #[]) (hr : Room k callerA)
    (F : ∀ base : Heap, K.In base → base.Ns mainGlobals mg → FnG P w K mg base k fa fd [x] (spOf K 1 g)) (hbind : ∀ (s : Shared) (u : Value), BindsTo s fd ⟨[u], []⟩ [(x, u)])
    (hok : HOk P w H s₁.heap) (hO : ∀ c u, H c = some u → ∃ o xs, u = .frz o (.lst xs)) (hS : FzL K (fun _ => False) H a (ns.map V.int)) (hl : ∃ s', g [.d (.list (ns.map .int))] [] = some (.d (.bool true), s')) :
    codeAny (model P w) callerA (.call (.ref fa) ⟨[.ref a], []⟩) (fun r s' => r = .ok (.ret (.bool true)) ∧ OldK s₁.heap s'.heap ∧ s'.os = s₁.os ∧ AllBare s'.gens) s₁ := by
  obtain ⟨sto', hgv⟩ := hl
  have env : Env0 P w K mg (hidT s₁.heap H) callerA [] s₁ H :=
    { frames := rfl, mod := U.mod, bs := fun _ _ e => of_hidT e, bsz := Nat.le_of_eq (hidT_size _ _), funs := trivial, frf := fun c hc => absurd (show c ∈ ([] : List Addr) from hc) List.not_mem_nil, hok := hok, bare := .of_eq hg }
  have call := (F _ U.kin U.main).run callerA [] s₁ H ⟨[.ref a], []⟩ [.ref a] [.ref a] (fun v _ => v = .bl true) hr rfl env (hbind s₁ (.ref a)) (.cons rfl .nil)
    ⟨none, fun _ => False, [.d (.list (ns.map .int))], [], .d (.bool true), sto', rfl, .cons (.lst hS (ImA.ints ns)) .nil, ⟨fun _ e => (nomatch e), fun _ e => (nomatch e), fun _ z => False.elim z⟩, hgv, fun v _ _ _ _ i => by cases i; rfl⟩
  refine codeAny_mono call fun r s' h => ?_
  match r, h with
  | .ok (.ret u), ⟨v, H', os, bare, un, hok', rv, q⟩ =>
    subst q
    refine ⟨by cases rv; rfl, .of_keep fun c o e => ?_, os, bare⟩
    cases hc : H c with
    | none => exact un.keep c o e hc (fun z => absurd (show c ∈ ([] : List Addr) from z) List.not_mem_nil) (by simp)
    | some u =>
      obtain ⟨ob, ys, rfl⟩ := hO c u hc
      have e1 := (hok c _ hc).1
      have e2 := (hok' c _ (un.frzs c ob _ hc)).1
      rw [e] at e1
      cases e1
      exact e2
end
end Dh
namespace Dh
open PySem PySem.Spec L2 PySem.W PyProof.Rows
end Dh
namespace Dh
open PySem PySem.Spec L2 PySem.W PyProof.Rows
theorem law_endH {l : PySem.W.OpenLaw} {n k : Nat} {q : Program} {loose : List Str} {XP : (Str → Option Value) → Heap → Prop} {YP : World → Heap → Prop} {d : DefRec} {x : Str} {g : Fx}
    (hn : l.most = some n) (small : n ≤ sizeLine) (nodef : d.params.defaults = []) (room : Room k callerA)
    (plain : ∀ ns : List Int, ns.length ≤ n → (∀ z ∈ ns, Builtin.Int.intBits z ≤ 1048576) → ∃ s', g [.d (.list (ns.map .int))] [] = some (.d (.bool true), s'))
    (F : ∀ (w : World) (mg : Str → Option Value) (fa : Addr) (h : Heap), YP w h → h.Ns mainGlobals mg → mg d.name = some (.ref fa) →
      ∃ (K : PySem.W.Frag) (fd : FuncData), K.In h ∧ (∀ (s : Shared) (u : Value), BindsTo s fd ⟨[u], []⟩ [(x, u)]) ∧ ∀ base : Heap, K.In base → base.Ns mainGlobals mg → FnG l.prog w K mg base k fa fd [x] (spOf K 1 g)) :
    PySem.W.WalkO q loose XP YP l.row.toRowW d [] (fun f vs => PySem.call f vs) := by
  refine Att.attach_callB hn nodef ?_
  intro w s₀ s mg mb fa o pm cd doc a vs ns G Y ho hd hcd hmg hobj hints hlen hbits hg
  obtain ⟨K, fd, KX, hb, hF⟩ := F w mg fa s.heap Y G.T.g hmg
  have vals := vals_ints hints
  have hl := plain ns hlen hbits
  cases hk : K.lookup a with
  | some ob =>
    have eo := KX a ob hk
    rw [hobj] at eo
    cases eo
    have U : Und K mg s.heap (fun _ => none) := und_of KX G.T.g G.T.b G.T.builtins G.T.nolimit fun c o _ z => absurd rfl z
    refine law_at U hg room hF hb (fun c u z => ?_) (fun c u z => ?_) (.inr (.inr ⟨_, vs.toArray, _, hk, rfl, rfl, rfl, ?_, ?_⟩)) hl
    · cases (show (none : Option HO) = some u from z)
    · cases (show (none : Option HO) = some u from z)
    · rw [List.size_toArray, hints.length]
      exact Nat.le_trans hlen small
    · simpa using vals
  | none =>
    have U : Und K mg s.heap (oneH a (.frz { cls := .type "list", data := .seq vs.toArray } (.lst (ns.map V.int)))) := by
      refine und_of KX G.T.g G.T.b G.T.builtins G.T.nolimit fun c o e z => ?_
      cases hc : oneH a (.frz { cls := .type "list", data := .seq vs.toArray } (.lst (ns.map V.int))) c with
      | none => exact absurd hc z
      | some u =>
        obtain ⟨rfl, _⟩ := oneH_some hc
        rw [hobj] at e
        cases e
        exact ⟨hk, fun es ep z => nomatch z⟩
    refine law_at U hg room hF hb (fun c u z => ?_) (fun c u z => ?_) (.inr (.inl ⟨_, oneH_self⟩)) hl
    · obtain ⟨rfl, rfl⟩ := oneH_some z
      exact ⟨hobj, by rw [List.length_map]; exact Nat.le_trans hlen small, vs, _, vals, hobj⟩
    · obtain ⟨_, rfl⟩ := oneH_some z
      exact ⟨_, _, rfl⟩
/-- a scalar, as the text has it -/
def scaB (u : Value) (d : PyData) : Bool := match d, u with
  | .int i, .int j _ => decide (i = j)
  | .str x, .str y _ => decide (x = y)
  | .bool a, .bool b => a == b
  | .none, .none => true
  | _, _ => false
def scaV : PyData → V
  | .int i => .int i
  | .str x => .str x
  | .bool a => .bl a
  | _ => .non
theorem scaB_ok {u : Value} {d : PyData} (h : scaB u d = true) : RelV (scaV d) u ∧ ∀ (K : PySem.W.Frag) (fz : Fz) (H : Hp), Im K fz H (scaV d) d := by
  unfold scaB at h
  split at h
  · have := of_decide_eq_true h; subst this; exact ⟨⟨_, rfl⟩, fun _ _ _ => .int _⟩
  · have := of_decide_eq_true h; subst this; exact ⟨⟨_, rfl⟩, fun _ _ _ => .str _⟩
  · have := eq_of_beq h; subst this; exact ⟨rfl, fun _ _ _ => .bl _⟩
  · exact ⟨rfl, fun _ _ _ => .non⟩
  · cases h
def scasB : List Value → List PyData → Bool
  | [], [] => true
  | u :: us, d :: ds => scaB u d && scasB us ds
  | _, _ => false
theorem scasB_ok : ∀ {us : List Value} {ds : List PyData}, scasB us ds = true → Vals (ds.map scaV) us ∧ ∀ (K : PySem.W.Frag) (fz : Fz) (H : Hp), ImA K fz H (ds.map scaV) ds
  | [], [], _ => ⟨.nil, fun _ _ _ => .nil⟩
  | [], _ :: _, h => by cases h
  | _ :: _, [], h => by cases h
  | u :: us, d :: ds, h => by
    obtain ⟨h1, h2⟩ := Bool.and_eq_true_iff.mp (show (scaB u d && scasB us ds) = true from h)
    obtain ⟨a1, a2⟩ := scaB_ok h1
    obtain ⟨b1, b2⟩ := scasB_ok h2
    exact ⟨.cons a1 b1, fun K fz H => .cons (a2 K fz H) (b2 K fz H)⟩
/-- a constant of the text: a scalar, or a tuple of scalars -/
def conB (K : PySem.W.Frag) (x : Str) (d : PyData) : Bool := match PySem.W.nsIn K mainGlobals x with
  | some (some u) => (match d, u with
    | .tuple ds, .ref a => (match K.lookup a with
      | some ⟨.type c, none, .seq its _, _⟩ => decide (c = "tuple") && (decide (its.size ≤ sizeLine) && scasB its.toList ds)
      | _ => false)
    | d, u => scaB u d)
  | _ => false
theorem conB_ok {K : PySem.W.Frag} {h : Heap} {mg : Str → Option Value} (X : K.In h) (G : h.Ns mainGlobals mg) {x : Str} {d : PyData} (c : conB K x d = true) : GlK K mg x d := by
  unfold conB at c
  cases e : PySem.W.nsIn K mainGlobals x with
  | none => rw [e] at c; cases c
  | some o =>
    rw [e] at c
    cases o with
    | none => cases c
    | some u =>
      have hm := PySem.W.mg_of X G e
      dsimp only at c
      split at c
      · rename_i ds a
        cases q : K.lookup a with
        | none => rw [q] at c; cases c
        | some o =>
          obtain ⟨oc, od, dt, osl⟩ := o
          rw [q] at c
          cases oc with
          | type t =>
            cases od with
            | none =>
              cases dt with
              | seq its n =>
                obtain ⟨h1, h2⟩ := Bool.and_eq_true_iff.mp (show (decide (t = "tuple") && (decide (its.size ≤ sizeLine) && scasB its.toList ds)) = true from c)
                obtain ⟨h3, h4⟩ := Bool.and_eq_true_iff.mp h2
                obtain ⟨b1, b2⟩ := scasB_ok h4
                exact ⟨⟨.ref a, _, hm, rfl, fun fz H => .tup (.inr ⟨_, its, n, q, congrArg Value.type (of_decide_eq_true h1), rfl, rfl, of_decide_eq_true h3, b1⟩) (b2 K fz H)⟩⟩
              | _ => cases c
            | some _ => cases dt <;> cases c
          | _ => cases od <;> cases dt <;> cases c
      · obtain ⟨a1, a2⟩ := scaB_ok c
        exact ⟨⟨scaV d, _, hm, a1, fun fz H => a2 K fz H⟩⟩
/-- a name that stands for a built-in -/
def bltB (K : PySem.W.Frag) (x : Str) (b : String) : Bool := He.eqO (PySem.W.nsIn K mainGlobals x) (some (some (.builtin b)))
theorem bltB_ok {K : PySem.W.Frag} {h : Heap} {mg : Str → Option Value} (X : K.In h) (G : h.Ns mainGlobals mg) {x : Str} {b : String} (c : bltB K x b = true) : mg x = some (.builtin b) := PySem.W.mg_of X G (He.eqO_ok c)
/-- sys has no limit of its own for texts of numbers -/
def digB (K : PySem.W.Frag) : Bool := He.eqO (PySem.W.nsIn K cStatics "sys.int_max_str_digits") (some none)
/-- the constants and the built-ins under other names -/
def cksB (K : PySem.W.Frag) (cs : List (Str × PyData)) (bs : List (Str × String)) : Bool := ((cs.all fun c => conB K c.1 c.2) && bs.all fun b => bltB K b.1 b.2) && digB K
/-- the head's look: functions, facts, constants -/
abbrev AlM : Type := Bool × He.Al
def obsM (cs : List (Str × PyData)) (bs : List (Str × String)) (fa : List He.Fa) (fn : List He.FnD) (K : PySem.W.Frag) : AlM := (cksB K cs bs, He.obsE fa fn K)
def obsMG (n : Nat) (cs : List (Str × PyData)) (bs : List (Str × String)) (fa : List He.Fa) (fn : List He.FnD) (g : Addr → Option Obj) : AlM := obsM cs bs fa fn (He.frG g (cStatics :: He.asG g n))
structure SaysM (cs : List (Str × PyData)) (bs : List (Str × String)) (fa : List He.Fa) (fn : List He.FnD) (K : PySem.W.Frag) : Prop where
  ck : cksB K cs bs = true
  sy : He.SaysE fa fn K
def hookM (n : Nat) (cs : List (Str × PyData)) (bs : List (Str × String)) (fa : List He.Fa) (fn : List He.FnD) : PySem.W.Hook where
  α := AlM
  obs := fun s => obsMG n cs bs fa fn s.heap.get?
  val := fun _ => (true, He.valE fn)
  says := fun _ h => ∃ K : PySem.W.Frag, K.In h ∧ SaysM cs bs fa fn K
  of := fun _ _ e => ⟨_, He.frG_in, ⟨congrArg Prod.fst e, congrArg Prod.snd e⟩⟩
  keeps := fun _ _ _ ⟨K, hK, c⟩ k => ⟨K, PySem.W.Frag.In.keeps hK k, c⟩
theorem obsMG_eq {n : Nat} {cs : List (Str × PyData)} {bs : List (Str × String)} {fa : List He.Fa} {fn : List He.FnD} {g : Addr → Option Obj} {s : Shared} (h : ∀ a, g a = s.heap.get? a) : obsMG n cs bs fa fn g = (hookM n cs bs fa fn).obs s := by
  have e : g = s.heap.get? := funext h
  rw [e]
  rfl
section
variable {cs : List (Str × PyData)} {bs : List (Str × String)} {fa : List He.Fa} {fn : List He.FnD} {K : PySem.W.Frag} {h : Heap} {mg : Str → Option Value}
theorem SaysM.con (c : SaysM cs bs fa fn K) (X : K.In h) (G : h.Ns mainGlobals mg) (i : Nat) {x : Str} {d : PyData} (e : cs[i]? = some (x, d) := by rfl) : GlK K mg x d :=
  conB_ok X G (List.all_eq_true.mp (Bool.and_eq_true_iff.mp (Bool.and_eq_true_iff.mp (show (((cs.all fun c => conB K c.1 c.2) && bs.all fun b => bltB K b.1 b.2) && digB K) = true from c.ck)).1).1 _ (List.mem_of_getElem? e))
theorem SaysM.blt (c : SaysM cs bs fa fn K) (X : K.In h) (G : h.Ns mainGlobals mg) (i : Nat) {x : Str} {b : String} (e : bs[i]? = some (x, b) := by rfl) : mg x = some (.builtin b) :=
  bltB_ok X G (List.all_eq_true.mp (Bool.and_eq_true_iff.mp (Bool.and_eq_true_iff.mp (show (((cs.all fun c => conB K c.1 c.2) && bs.all fun b => bltB K b.1 b.2) && digB K) = true from c.ck)).1).2 _ (List.mem_of_getElem? e))
/-- the function that stands at a name -/
def fdAt (K : PySem.W.Frag) (x : Str) : FuncData := match K.lookup (He.ga K x) with
  | some ⟨_, _, .func fd, _⟩ => fd
  | _ => PySem.W.fnOf x x ⟨[], [], none, [], [], none, []⟩ [] ⟨.function, [], false, false, []⟩ .none .none .none .none none .none .none
def fnD (x : Str) (st : Stmt) : He.FnD := ⟨(x, none), x, x, defArgs st, defBody st, defScope st⟩
theorem SaysM.func (c : SaysM cs bs fa fn K) (i j : Nat) {x : Str} {st : Stmt} (e : fn[i]? = some (fnD x st) := by rfl) (ek : fa[j]? = some (.keep x) := by rfl) : Fun K x x st (He.ga K x) (fdAt K x) := by
  obtain ⟨oc, od, osl, kV, doc, pm, an, cdv, ct, h1, h2⟩ := c.sy.def_ i e
  have kp := He.keep_ok (c.sy.fact j ek)
  have h3 : K.lookup (He.ga K x) = some ⟨oc, od, .func (PySem.W.fnOf x x (defArgs st) (defBody st) (defScope st) .none kV doc pm an cdv ct), osl⟩ := h1
  have e2 : fdAt K x = PySem.W.fnOf x x (defArgs st) (defBody st) (defScope st) .none kV doc pm an cdv ct := by
    unfold fdAt
    rw [h3]
  rw [e2]
  exact fun_mk h3 h2 kp
end
end Dh
namespace Dh
open PySem PySem.Spec L2 PySem.W
section
variable {α β : Type} {ρ : Ev} {s : Sto} {i j k : Nat} {a b : Mx} {ta tb : Mt} {as : Ma} {x y : R} {d e : PyData} {ma mb : Ms}
@[simp] theorem ev_bnd {a : Ev → Sto → Option (α × Sto)} {f : α → Ev → Sto → Option (β × Sto)} : bnd a f ρ s = (match a ρ s with | some (x, s1) => f x ρ s1 | none => none) := rfl
@[simp] theorem ev_ret {x : Option α} : ret x s = (match x with | some y => some (y, s) | none => none) := rfl
@[simp] theorem ev_m1 {f : R → Option R} : m1 f a ρ s = (match a ρ s with | some (x, s1) => ret (f x) s1 | none => none) := by
  unfold m1 bnd
  rcases a ρ s with _ | ⟨_, _⟩ <;> rfl
@[simp] theorem ev_m2 {f : R → R → Option R} : m2 f a b ρ s = (match a ρ s with | some (x, s1) => (match b ρ s1 with | some (y, s2) => ret (f x y) s2 | none => none) | none => none) := by
  unfold m2 bnd
  rcases a ρ s with _ | ⟨_, s1⟩
  · rfl
  · dsimp only
    rcases b ρ s1 with _ | ⟨_, _⟩ <;> rfl
@[simp] theorem ev_mA {f : List R → Option R} : mA f as ρ s = (match as ρ s with | some (x, s1) => ret (f x) s1 | none => none) := by
  unfold mA bnd
  rcases as ρ s with _ | ⟨_, _⟩ <;> rfl
@[simp] theorem ev_maNil : maNil ρ s = some ([], s) := rfl
@[simp] theorem ev_maCons : maCons a as ρ s = (match a ρ s with | some (x, s1) => (match as ρ s1 with | some (xs, s2) => some (x :: xs, s2) | none => none) | none => none) := by
  unfold maCons bnd
  rcases a ρ s with _ | ⟨_, s1⟩
  · rfl
  · dsimp only
    rcases as ρ s1 with _ | ⟨_, _⟩ <;> rfl
@[simp] theorem ev_mVar : mVar i ρ s = (match ρ[i]? with | some (some c) => some (rdCl c, s) | _ => none) := rfl
@[simp] theorem ev_mKon : mKon d ρ s = some (.d d, s) := rfl
@[simp] theorem ev_rdCl_d : rdCl (.d d) = .d d := rfl
@[simp] theorem ev_rdCl_s : rdCl .s = .s := rfl
@[simp] theorem ev_rdCl_o {xs : List PyData} : rdCl (.o xs) = .b xs := rfl
@[simp] theorem ev_bT : bT a ρ s = (match a ρ s with | some (.d (.bool k), s1) => some (k, s1) | _ => none) := by
  unfold bT bnd
  cases a ρ s with
  | none => rfl
  | some p =>
    obtain ⟨x, s1⟩ := p
    cases x with
    | d z => cases z <;> rfl
    | f _ => rfl
    | b _ => rfl
    | s => rfl
    | m _ => rfl
    | n _ => rfl
@[simp] theorem ev_fI {g : Int → Int → Option PyData} {i j : Int} : fI g (.d (.int i)) (.d (.int j)) = (g i j).map .d := rfl
@[simp] theorem ev_gMns {i j : Int} : gMns i j = some (.int (i - j)) := rfl
@[simp] theorem ev_gLt {i j : Int} : gLt i j = some (.bool (decide (i < j))) := rfl
@[simp] theorem ev_gLe {i j : Int} : gLe i j = some (.bool (decide (i ≤ j))) := rfl
@[simp] theorem ev_gGt {i j : Int} : gGt i j = some (.bool (decide (j < i))) := rfl
@[simp] theorem ev_gGe {i j : Int} : gGe i j = some (.bool (decide (j ≤ i))) := rfl
@[simp] theorem ev_fNeg {i : Int} : fNeg (.d (.int i)) = some (.d (.int (-i))) := rfl
@[simp] theorem ev_fNot {k : Bool} : fNot (.d (.bool k)) = some (.d (.bool (!k))) := rfl
@[simp] theorem ev_rdL1 {xs : List PyData} : rdL (.d (.list xs)) = some xs := rfl
@[simp] theorem ev_rdL2 {xs : List PyData} : rdL (.f xs) = some xs := rfl
@[simp] theorem ev_rdL3 {xs : List PyData} : rdL (.b xs) = some xs := rfl
@[simp] theorem ev_rdQ1 {xs : List PyData} : rdQ (.d (.list xs)) = some xs := rfl
@[simp] theorem ev_rdQ2 {xs : List PyData} : rdQ (.f xs) = some xs := rfl
@[simp] theorem ev_rdQ3 {xs : List PyData} : rdQ (.b xs) = some xs := rfl
@[simp] theorem ev_rdQ4 {xs : List PyData} : rdQ (.d (.tuple xs)) = some xs := rfl
@[simp] theorem ev_rdD1 : rdD (.d d) = some d := rfl
@[simp] theorem ev_rdD2 {xs : List PyData} : rdD (.f xs) = some (.list xs) := rfl
@[simp] theorem ev_rdD3 {xs : List PyData} : rdD (.b xs) = some (.list xs) := rfl
@[simp] theorem ev_toD1 : toD (.d d) = some d := rfl
@[simp] theorem ev_toD2 {xs : List PyData} : toD (.f xs) = some (.list xs) := rfl
@[simp] theorem ev_toDs0 : toDs [] = some [] := rfl
@[simp] theorem ev_toDs1 {rs : List R} : toDs (x :: rs) = (match toD x, toDs rs with | some x, some xs => some (x :: xs) | _, _ => none) := rfl
@[simp] theorem ev_toCl1 : toCl (.d d) = some (.d d) := rfl
@[simp] theorem ev_toCl2 {xs : List PyData} : toCl (.f xs) = some (.o xs) := rfl
@[simp] theorem ev_toCl3 : toCl .s = some .s := rfl
@[simp] theorem ev_toArg1 : toArg (.d d) = some (.d d) := rfl
@[simp] theorem ev_toArg2 {xs : List PyData} : toArg (.f xs) = some (.d (.list xs)) := rfl
@[simp] theorem ev_toArg3 : toArg .s = some .s := rfl
@[simp] theorem ev_toArgs0 : toArgs [] = some [] := rfl
@[simp] theorem ev_toArgs1 {rs : List R} : toArgs (x :: rs) = (match toArg x, toArgs rs with | some x, some xs => some (x :: xs) | _, _ => none) := rfl
@[simp] theorem ev_mCall {g : Fx} : mCall g as ρ s = (match as ρ s with | some (rs, s1) => (match toArgs rs with | some cs => g cs s1 | none => none) | none => none) := by
  unfold mCall bnd
  rcases as ρ s with _ | ⟨_, _⟩ <;> rfl
@[simp] theorem ev_tAnd2 : tAnd2 ta tb ρ s = (match ta ρ s with | some (true, s1) => tb ρ s1 | some (false, s1) => some (false, s1) | none => none) := by
  unfold tAnd2 bnd
  rcases ta ρ s with _ | ⟨_ | _, _⟩ <;> rfl
@[simp] theorem ev_tOr2 : tOr2 ta tb ρ s = (match ta ρ s with | some (false, s1) => tb ρ s1 | some (true, s1) => some (true, s1) | none => none) := by
  unfold tOr2 bnd
  rcases ta ρ s with _ | ⟨_ | _, _⟩ <;> rfl
@[simp] theorem ev_tNot2 : tNot2 ta ρ s = (match ta ρ s with | some (k, s1) => some (!k, s1) | none => none) := by
  unfold tNot2 bnd
  rcases ta ρ s with _ | ⟨_, _⟩ <;> rfl
@[simp] theorem ev_mIf : mIf ta a b ρ s = (match ta ρ s with | some (true, s1) => a ρ s1 | some (false, s1) => b ρ s1 | none => none) := by
  unfold mIf bnd
  rcases ta ρ s with _ | ⟨_ | _, _⟩ <;> rfl
@[simp] theorem ev_mAnd : mAnd a b ρ s = (match a ρ s with | some (.d (.bool true), s1) => b ρ s1 | some (.d (.bool false), s1) => some (.d (.bool false), s1) | _ => none) := by
  unfold mAnd bnd
  cases a ρ s with
  | none => rfl
  | some p =>
    obtain ⟨x, s1⟩ := p
    cases x with
    | d z =>
      cases z with
      | bool k => cases k <;> rfl
      | _ => rfl
    | f _ => rfl
    | b _ => rfl
    | s => rfl
    | m _ => rfl
    | n _ => rfl
@[simp] theorem ev_mOr : mOr a b ρ s = (match a ρ s with | some (.d (.bool false), s1) => b ρ s1 | some (.d (.bool true), s1) => some (.d (.bool true), s1) | _ => none) := by
  unfold mOr bnd
  cases a ρ s with
  | none => rfl
  | some p =>
    obtain ⟨x, s1⟩ := p
    cases x with
    | d z =>
      cases z with
      | bool k => cases k <;> rfl
      | _ => rfl
    | f _ => rfl
    | b _ => rfl
    | s => rfl
    | m _ => rfl
    | n _ => rfl
@[simp] theorem ev_mSeq : mSeq ma mb ρ s = (match ma ρ s with | some (.nx, ρ1, s1) => mb ρ1 s1 | some r => some r | none => none) := rfl
@[simp] theorem ev_mNil : mNil ρ s = some (.nx, ρ, s) := rfl
@[simp] theorem ev_mIfS : mIfS ta ma mb ρ s = (match ta ρ s with | some (true, s1) => ma ρ s1 | some (false, s1) => mb ρ s1 | none => none) := rfl
@[simp] theorem ev_mRet : mRet a ρ s = (match a ρ s with | some (.d x, s1) => some (.rt (.d x), ρ, s1) | some (.f xs, s1) => some (.rt (.f xs), ρ, s1) | _ => none) := rfl
@[simp] theorem ev_mRetV : mRetV i ρ s = (match ρ[i]? with | some (some (.d x)) => some (.rt (.d x), ρ, s) | some (some (.o xs)) => some (.rt (.f xs), ρ, s) | _ => none) := rfl
@[simp] theorem ev_mSet : mSet i a ρ s = (match a ρ s with | some (r, s1) => (match toCl r with | some c => some (.nx, ρ.set i (some c), s1) | none => none) | none => none) := rfl
@[simp] theorem ev_mYes : mYes ρ s = some (true, s) := rfl
@[simp] theorem ev_mFor {it : Mi} {g : Gx} : mFor it g ma ρ s = (match it ρ s with | some (xs, s1) => forRun g ma xs ρ s1 | none => none) := rfl
@[simp] theorem ev_mSeqI : mSeqI a ρ s = (match a ρ s with | some (x, s1) => ret (itemsOf x) s1 | none => none) := by
  unfold mSeqI bnd
  rcases a ρ s with _ | ⟨_, _⟩ <;> rfl
@[simp] theorem ev_mArgI {f : List R → Option (List PyData)} : mArgI f as ρ s = (match as ρ s with | some (x, s1) => ret (f x) s1 | none => none) := by
  unfold mArgI bnd
  rcases as ρ s with _ | ⟨_, _⟩ <;> rfl
@[simp] theorem ev_items1 {xs : List PyData} : itemsOf (.d (.list xs)) = some xs := rfl
@[simp] theorem ev_items2 {xs : List PyData} : itemsOf (.d (.tuple xs)) = some xs := rfl
@[simp] theorem ev_items3 {xs : List PyData} : itemsOf (.f xs) = some xs := rfl
@[simp] theorem ev_gN : gN i d ρ = some (ρ.set i (some (.d d))) := rfl
@[simp] theorem ev_gT {n : Nat} {g : Gxs} {xs : List PyData} : gT n g (.tuple xs) ρ = if xs.length = n then g xs ρ else none := rfl
@[simp] theorem ev_gsNil : gsNil [] ρ = some ρ := rfl
@[simp] theorem ev_gsCons {g : Gx} {r : Gxs} {xs : List PyData} : gsCons g r (d :: xs) ρ = (match g d ρ with | some ρ1 => r xs ρ1 | none => none) := rfl
@[simp] theorem ev_mIx : mIx a b ρ s = (match a ρ s with | some (x, s1) => (match b ρ s1 with | some (y, s2) => (match fIx s2 x y with | some z => some (z, s2) | none => none) | none => none) | none => none) := by
  unfold mIx bnd
  rcases a ρ s with _ | ⟨_, s1⟩
  · rfl
  · dsimp only
    rcases b ρ s1 with _ | ⟨_, _⟩ <;> rfl
@[simp] theorem ev_fIxT {xs : List PyData} {i : Int} : fIx s (.d (.tuple xs)) (.d (.int i)) = (atI xs i).map R.d := by
  show (match rdQ (.d (.tuple xs)) with | some xs => (atI xs i).map R.d | none => none) = _
  rfl
@[simp] theorem ev_fIxL {xs : List PyData} {i : Int} : fIx s (.d (.list xs)) (.d (.int i)) = (atI xs i).map R.d := rfl
@[simp] theorem ev_fIxB {xs : List PyData} {i : Int} : fIx s (.b xs) (.d (.int i)) = (atI xs i).map R.d := rfl
@[simp] theorem ev_fIxF {xs : List PyData} {i : Int} : fIx s (.f xs) (.d (.int i)) = (atI xs i).map R.d := rfl
@[simp] theorem ev_fIxS {i : Int} : fIx s .s (.d (.int i)) = (atI s i).map fun j => .d (.int j) := rfl
@[simp] theorem ev_atI0 {x : α} {xs : List α} : atI (x :: xs) 0 = some x := by
  unfold atI ixN
  simp
@[simp] theorem ev_atI1 {x y : α} {xs : List α} : atI (x :: y :: xs) 1 = some y := by
  have h : (1 : Int) < (xs.length : Int) + 1 + 1 := by omega
  unfold atI ixN
  simp [h]
@[simp] theorem ev_atI2 {x y z : α} {xs : List α} : atI (x :: y :: z :: xs) 2 = some z := by
  have h : (2 : Int) < (xs.length : Int) + 1 + 1 + 1 := by omega
  unfold atI ixN
  simp [h]
@[simp] theorem ev_fLen : fLen [x] = (rdQ x).map fun xs => .d (.int xs.length) := rfl
@[simp] theorem ev_fIsi {T : String} : fIsi T x = (rdD x).map fun d => .d (.bool (isA T d)) := rfl
@[simp] theorem ev_fTup {rs : List R} : fTup rs = (match toDs rs with | some xs => if xs.length ≤ sizeLine then some (.d (.tuple xs)) else none | none => none) := rfl
@[simp] theorem ev_fLst {rs : List R} : fLst rs = (match toDs rs with | some xs => if xs.length ≤ sizeLine then some (.f xs) else none | none => none) := rfl
@[simp] theorem ev_fGcd {i j : Int} : fGcd [.d (.int i), .d (.int j)] = some (.d (.int ((Nat.gcd i.natAbs j.natAbs : Nat) : Int))) := rfl
@[simp] theorem ev_fAbs {i : Int} : fAbs [.d (.int i)] = some (.d (.int (if i < 0 then -i else i))) := rfl
@[simp] theorem ev_fInt {i : Int} : fInt [.d (.int i)] = some (.d (.int i)) := rfl
@[simp] theorem ev_fTupOf1 {xs : List PyData} : fTupOf [.f xs] = some (.d (.tuple xs)) := rfl
@[simp] theorem ev_fTupOf2 {xs : List PyData} : fTupOf [.b xs] = some (.d (.tuple xs)) := rfl
@[simp] theorem ev_fTupOf3 {xs : List PyData} : fTupOf [.d (.list xs)] = some (.d (.tuple xs)) := rfl
@[simp] theorem ev_fTupOf4 {xs : List PyData} : fTupOf [.d (.tuple xs)] = some (.d (.tuple xs)) := rfl
@[simp] theorem ev_fAddI {i j : Int} : fAdd (.d (.int i)) (.d (.int j)) = some (.d (.int (i + j))) := rfl
@[simp] theorem ev_fAddT {xs ys : List PyData} : fAdd (.d (.tuple xs)) (.d (.tuple ys)) = if xs.length + ys.length ≤ sizeLine then some (.d (.tuple (xs ++ ys))) else none := rfl
@[simp] theorem ev_fMulI {i j : Int} : fMul (.d (.int i)) (.d (.int j)) = if mulOk i j = true then some (.d (.int (i * j))) else none := rfl
@[simp] theorem ev_mCnt : mCnt ρ s = some (.ct, ρ, s) := rfl
@[simp] theorem ev_mRetN : mRetN ρ s = some (.rt (.d .none), ρ, s) := rfl
@[simp] theorem ev_forNil {g : Gx} : forRun g ma [] ρ s = some (.nx, ρ, s) := rfl
@[simp] theorem ev_lcNil {vs : List Nat} {g : Gx} : lcRun vs g ta a [] ρ s = some ([], s) := rfl
@[simp] theorem ev_mFrz {is : List Nat} : mFrz is ma ρ s = ma (frzs ρ is) s := rfl
@[simp] theorem ev_wipe0 : wipeE ρ [] = ρ := rfl
@[simp] theorem ev_wipe1 {v : Nat} {vs : List Nat} : wipeE ρ (v :: vs) = (wipeE ρ vs).set v none := rfl
@[simp] theorem ev_isA_int_int {i : Int} : isA "int" (.int i) = true := rfl
@[simp] theorem ev_isA_int_bool {k : Bool} : isA "int" (.bool k) = true := rfl
@[simp] theorem ev_isA_int_none : isA "int" .none = false := rfl
@[simp] theorem ev_isA_int_str {x : Str} : isA "int" (.str x) = false := rfl
@[simp] theorem ev_isA_int_list {xs : List PyData} : isA "int" (.list xs) = false := rfl
@[simp] theorem ev_isA_int_tuple {xs : List PyData} : isA "int" (.tuple xs) = false := rfl
@[simp] theorem ev_isA_int_dict {xs : List (PyData × PyData)} : isA "int" (.dict xs) = false := rfl
@[simp] theorem ev_isA_bool_int {i : Int} : isA "bool" (.int i) = false := rfl
@[simp] theorem ev_isA_bool_bool {k : Bool} : isA "bool" (.bool k) = true := rfl
@[simp] theorem ev_isA_bool_none : isA "bool" .none = false := rfl
@[simp] theorem ev_isA_bool_str {x : Str} : isA "bool" (.str x) = false := rfl
@[simp] theorem ev_isA_bool_list {xs : List PyData} : isA "bool" (.list xs) = false := rfl
@[simp] theorem ev_isA_bool_tuple {xs : List PyData} : isA "bool" (.tuple xs) = false := rfl
@[simp] theorem ev_isA_bool_dict {xs : List (PyData × PyData)} : isA "bool" (.dict xs) = false := rfl
@[simp] theorem ev_isA_tuple_int {i : Int} : isA "tuple" (.int i) = false := rfl
@[simp] theorem ev_isA_tuple_bool {k : Bool} : isA "tuple" (.bool k) = false := rfl
@[simp] theorem ev_isA_tuple_none : isA "tuple" .none = false := rfl
@[simp] theorem ev_isA_tuple_str {x : Str} : isA "tuple" (.str x) = false := rfl
@[simp] theorem ev_isA_tuple_list {xs : List PyData} : isA "tuple" (.list xs) = false := rfl
@[simp] theorem ev_isA_tuple_tuple {xs : List PyData} : isA "tuple" (.tuple xs) = true := rfl
@[simp] theorem ev_isA_tuple_dict {xs : List (PyData × PyData)} : isA "tuple" (.dict xs) = false := rfl
end
end Dh
namespace Dh
open PySem PySem.Spec L2
end Dh
namespace Dh
open PySem PySem.Spec L2
/-- a target stores data alone -/
def Gok (is : List Nat) (g : Gx) : Prop := ∀ x ρ ρ' (i : Nat) us, g x ρ = some ρ' → ρ'[i]? = some (some (Cl.o us)) → ρ[i]? = some (some (Cl.o us)) ∧ i ∉ is
theorem gok_name (k : Nat) : Gok [k] (gN k) := fun x ρ ρ' i us h q => by
  cases h
  by_cases e : i = k
  · subst e
    by_cases hi : i < ρ.length
    · rw [List.getElem?_set_self hi] at q; cases q
    · rw [List.getElem?_eq_none (by rw [List.length_set]; omega)] at q; cases q
  · rw [List.getElem?_set_ne (Ne.symm e)] at q
    exact ⟨q, by simp [e]⟩
def lcRun2 (vs vs1 : List Nat) (g : Gx) (t : Mt) (it1 : Mi) (g1 : Gx) (t1 : Mt) (e : Mx) : List PyData → Ev → Sto → Option (List PyData × Sto)
  | [] => fun _ s => some ([], s)
  | x :: xs => fun ρ s => match g x (wipeE ρ vs) with
    | none => none
    | some ρ1 => match t ρ1 s with
      | none => none
      | some (false, s1) => lcRun2 vs vs1 g t it1 g1 t1 e xs ρ s1
      | some (true, s1) => match it1 ρ1 s1 with
        | none => none
        | some (zs, s2) => match lcRun vs1 g1 t1 e zs ρ1 s2 with
          | none => none
          | some (ys, s3) => match lcRun2 vs vs1 g t it1 g1 t1 e xs ρ s3 with
            | none => none
            | some (ys', s4) => some (ys ++ ys', s4)
def mLc2 (it : Mi) (vs : List Nat) (g : Gx) (t : Mt) (it1 : Mi) (vs1 : List Nat) (g1 : Gx) (t1 : Mt) (e : Mx) : Mx := fun ρ s => match it ρ s with
  | some (xs, s1) => match lcRun2 vs vs1 g t it1 g1 t1 e xs ρ s1 with
    | some (ys, s2) => if ys.length ≤ sizeLine then some (.f ys, s2) else none
    | none => none
  | none => none
section
variable {K : PySem.W.Frag} {mi mi1 : Mi} {g g1 : Gx} {is vs is1 vs1 : List Nat} {mt mt1 : Mt} {me : Mx}
theorem rd_lc2 (hs : ∀ i, i ∈ is → i ∈ vs) (hs1 : ∀ i, i ∈ is1 → i ∈ vs1) (gok : Gok is g) {σ : L2.St} {H : Hp} {Q : VK} (h : rdE K (mLc2 mi vs g mt mi1 vs1 g1 mt1 me) σ H Q) :
    tLc2 (rdI K mi) (rdG K is g) (rdT K mt) (rdI K mi1) (rdG K is1 g1) (rdT K mt1) (rdE K me) vs vs1 σ H Q := by
  obtain ⟨C, fz, ρ, sto, z, sto', F, e, k⟩ := h
  unfold mLc2 at e
  split at e
  · rename_i xs s1 e1
    split at e
    · rename_i ys s2 e2
      split at e
      · rename_i hz
        cases e
        refine ⟨C, fz, ρ, sto, xs, s1, F, e1, fun J fz1 H1 st1 l1 G => ?_⟩
        have F1 := F.step st1 l1
        intro D hD
        have nD : some D ≠ C.sp := l1.ne hD (by intro z; cases z)
        have n0 : C.H0 D = none := F1.st.back nD hD
        have nfz : ¬ fz1 D := fun z => F1.bs.trk D z hD
        have noD : ∀ (i : Nat) (us : List PyData), ρ[i]? = some (some (Cl.o us)) → σ[i]? ≠ some (some (V.ref D)) := fun i us q1 q2 => by
          obtain ⟨a, ws, g1, g2, _⟩ := F1.owned q1
          rw [q2] at g1; cases g1
          rw [hD] at g2; cases g2
        let W : Nat → Nat → Hp → Prop := fun i m H' => m = xs.length - i ∧ i ≤ xs.length ∧ ∃ (fz2 : Fz) (s3 : Sto) (acc : List V) (ya yb : List PyData), Fm K C fz2 ρ s3 σ H' ∧ Stp C.sp fz1 H1 fz2 H' ∧ H' D = some (.lst acc) ∧ ImA K fz2 H' acc ya ∧ ¬ fz2 D ∧
          lcRun2 vs vs1 g mt mi1 g1 mt1 me (xs.drop i) ρ s3 = some (yb, sto') ∧ ys = ya ++ yb
        have st2 : Stp C.sp fz1 H1 fz1 (upd H1 D (.lst [])) := .laid hD
        have l2 : SpL C.sp (upd H1 D (.lst [])) s1 := l1.upd nD
        refine ⟨W, ⟨xs.length, by simp, Nat.zero_le _, fz1, s1, [], [], ys, F1.step st2 l2, st2, upd_same, .nil, nfz, e2, rfl⟩, ?_⟩
        rintro i m H2 ⟨rfl, hi, fz2, s3, acc, ya, yb, F2, S2, hD2, im2, nf2, e3, ey⟩
        by_cases hlt : i < xs.length
        · have hx : xs[i]? = some xs[i] := List.getElem?_eq_getElem hlt
          rw [List.drop_eq_getElem_cons hlt] at e3
          unfold lcRun2 at e3
          split at e3
          · cases e3
          · rename_i ρ4 e4
            refine .inr ⟨G.go i fz2 H2 s3 hlt S2.sts F2.bs, fun H' => W (i + 1) (xs.length - (i + 1)) H', fun H' w => ⟨xs.length - (i + 1), by omega, w⟩, fun v H3 y => ?_⟩
            obtain ⟨st3, l3, im⟩ := G.yld i _ fz2 H2 s3 v H3 hx S2.sts F2.bs y
            have F3 := F2.step st3 l3
            refine ⟨C, fz2, wipeE ρ vs, s3, xs[i], ρ4, F3.wipe vs, im, e4, fun σ4 hl4 ho4 F4 => ?_⟩
            refine ⟨wipe_agree hl4 ho4 hs, ?_⟩
            have hD3 : H3 D = some (.lst acc) := st3.ext _ _ hD2 nD
            have noD4 : ∀ (i : Nat) (us : List PyData), ρ4[i]? = some (some (Cl.o us)) → σ4[i]? ≠ some (some (V.ref D)) := fun i us q1 => by
              obtain ⟨a1, a2⟩ := gok _ _ _ i us e4 q1
              obtain ⟨b1, b2⟩ := wipeE_some a1
              rw [ho4 i a2, wipe_out b2]
              exact noD i us b1
            split at e3
            · cases e3
            · rename_i s5 e5
              refine ⟨C, fz2, ρ4, s3, false, s5, F4, e5, fun fz6 H6 st6 l6 => ?_⟩
              refine iteF ?_
              have F6 := F3.step st6 l6
              refine ⟨rfl, hlt, fz6, s5, acc, ya, yb, F6, (S2.trans st3).trans st6, st6.ext _ _ hD3 nD, (im2.stp st3 F2.bs).stp st6 F3.bs, fun z => ?_, e3, ey⟩
              rcases st6.new D z with z | ⟨_, z⟩
              · exact nf2 z
              · rw [hD3] at z; cases z
            · rename_i s5 e5
              refine ⟨C, fz2, ρ4, s3, true, s5, F4, e5, fun fz6 H6 st6 l6 => ?_⟩
              refine iteT ?_
              have F6 := F3.step st6 l6
              have F46 := F4.step st6 l6
              have hD6 : H6 D = some (.lst acc) := st6.ext _ _ hD3 nD
              have nf6 : ¬ fz6 D := fun z => by
                rcases st6.new D z with z | ⟨_, z⟩
                · exact nf2 z
                · rw [hD3] at z; cases z
              split at e3
              · cases e3
              · rename_i zs s7 e7
                split at e3
                · cases e3
                · rename_i yi s9 e9
                  split at e3
                  · cases e3
                  · rename_i yr s10 e10
                    cases e3
                    refine ⟨C, fz6, ρ4, s5, zs, s7, F46, e7, fun J1 fz8 H8 st8 l8 G1 => ?_⟩
                    have F8 := F6.step st8 l8
                    have F48 := F46.step st8 l8
                    have hD8 : H8 D = some (.lst acc) := st8.ext _ _ hD6 nD
                    have nf8 : ¬ fz8 D := fun z => by
                      rcases st8.new D z with z | ⟨_, z⟩
                      · exact nf6 z
                      · rw [hD6] at z; cases z
                    have im8 : ImA K fz8 H8 acc ya := ((im2.stp st3 F2.bs).stp st6 F3.bs).stp st8 F6.bs
                    have S8 : Stp C.sp fz1 H1 fz8 H8 := ((S2.trans st3).trans st6).trans st8
                    let W1 : Nat → Nat → Hp → Prop := fun j k H' => k = zs.length - j ∧ j ≤ zs.length ∧ ∃ (fzj : Fz) (sj : Sto) (ac : List V) (yc yd : List PyData), Fm K C fzj ρ sj σ H' ∧ Fm K C fzj ρ4 sj σ4 H' ∧ Stp C.sp fz1 H1 fzj H' ∧ Sts C.sp fz8 H8 fzj H' ∧ H' D = some (.lst ac) ∧ ImA K fzj H' ac yc ∧ ¬ fzj D ∧
                      lcRun vs1 g1 mt1 me (zs.drop j) ρ4 sj = some (yd, s9) ∧ ys = yc ++ (yd ++ yr)
                    refine ⟨W1, ⟨zs.length, by simp, Nat.zero_le _, fz8, s7, acc, ya, yi, F8, F48, S8, .refl, hD8, im8, nf8, e9, ey⟩, ?_⟩
                    rintro j kk Hj ⟨rfl, hj, fzj, sj, ac, yc, yd, Fj, F4j, Sj, Tj, hDj, imj, nfj, ej, eyj⟩
                    by_cases hltj : j < zs.length
                    · have hxj : zs[j]? = some zs[j] := List.getElem?_eq_getElem hltj
                      rw [List.drop_eq_getElem_cons hltj] at ej
                      unfold lcRun at ej
                      split at ej
                      · cases ej
                      · rename_i ρ5 e5b
                        refine .inr ⟨G1.go j fzj Hj sj hltj Tj Fj.bs, fun H' => W1 (j + 1) (zs.length - (j + 1)) H', fun H' w => ⟨zs.length - (j + 1), by omega, w⟩, fun v H9 y => ?_⟩
                        obtain ⟨stA, lA, imA⟩ := G1.yld j _ fzj Hj sj v H9 hxj Tj Fj.bs y
                        have FA := Fj.step stA lA
                        have F4A := F4j.step stA lA
                        refine ⟨C, fzj, wipeE ρ4 vs1, sj, zs[j], ρ5, F4A.wipe vs1, imA, e5b, fun σ5 hl5 ho5 F5 => ?_⟩
                        refine ⟨wipe_agree hl5 ho5 hs1, ?_⟩
                        have hDA : H9 D = some (.lst ac) := stA.ext _ _ hDj nD
                        split at ej
                        · cases ej
                        · rename_i s11 e11
                          refine ⟨C, fzj, ρ5, sj, false, s11, F5, e11, fun fzB HB stB lB => ?_⟩
                          refine iteF ?_
                          have FB := FA.step stB lB
                          refine ⟨rfl, hltj, fzB, s11, ac, yc, yd, FB, F4A.step stB lB, (Sj.trans stA).trans stB, Tj.trans (stA.trans stB).sts, stB.ext _ _ hDA nD, (imj.stp stA Fj.bs).stp stB FA.bs, fun z => ?_, ej, eyj⟩
                          rcases stB.new D z with z | ⟨_, z⟩
                          · exact nfj z
                          · rw [hDA] at z; cases z
                        · rename_i s11 e11
                          refine ⟨C, fzj, ρ5, sj, true, s11, F5, e11, fun fzB HB stB lB => ?_⟩
                          refine iteT ?_
                          have FB := FA.step stB lB
                          have F4B := F4A.step stB lB
                          have F5B := F5.step stB lB
                          have hDB : HB D = some (.lst ac) := stB.ext _ _ hDA nD
                          split at ej
                          · cases ej
                          · rename_i r s12 e12
                            split at ej
                            · rename_i y1 y2 s13 ey1 e13
                              cases ej
                              refine ⟨C, fzB, ρ5, s11, r, s12, F5B, e12, fun w HC' HC stC lC iC => ?_⟩
                              obtain ⟨fzD, F4D, stD, imD⟩ := F4B.keep stC lC iC ey1
                              have FD := FB.step stD F4D.bs.spl
                              have hDC : HC D = some (.lst ac) := stC.ext _ _ hDB nD
                              have nfD : ¬ fzD D := fun z => by
                                rcases stD.new D z with z | ⟨_, z⟩
                                · rcases stB.new D z with z | ⟨_, z⟩
                                  · exact nfj z
                                  · rw [hDA] at z; cases z
                                · rw [hDB] at z; cases z
                              have ia : ImA K fzD HC ac yc := ((imj.stp stA Fj.bs).stp stB FA.bs).stp stD FB.bs
                              have il : ac.length = yc.length := ia.length
                              obtain ⟨FE, SE⟩ := FD.side (ws := ac ++ [w]) ⟨ac, hDC⟩ nfD nD n0 noD
                              obtain ⟨F4E, _⟩ := F4D.side (ws := ac ++ [w]) ⟨ac, hDC⟩ nfD nD n0 noD4
                              have stE : Stp C.sp fz1 H1 fzD (upd HC D (.lst (ac ++ [w]))) := by
                                have q := ((Sj.trans stA).trans stB).trans stD
                                refine ⟨q.mono, fun b o qb n => ?_, q.new, fun t b qb z => ?_⟩
                                · have : b ≠ D := fun z => by subst z; rw [hD] at qb; cases qb
                                  rw [upd_ne this]; exact q.ext b o qb n
                                · by_cases eb : b = D
                                  · subst eb; rw [upd_same] at z; cases z
                                  · rw [upd_ne eb] at z; exact q.trk t b qb z
                              refine ⟨ac, hDC, ?_, rfl, hltj, fzD, s12, ac ++ [w], yc ++ [y1], y2, FE, F4E, stE, (Tj.trans ((stA.trans stB).trans stD).sts).trans SE, upd_same, (ia.append (.cons imD .nil)).sts SE FD.bs, nfD, e13, by rw [eyj, List.append_assoc]; rfl⟩
                              rw [il]
                              have := congrArg List.length eyj
                              rw [List.length_append, List.length_append, List.length_cons] at this
                              omega
                            · cases ej
                    · have ei : j = zs.length := by omega
                      subst ei
                      rw [List.drop_length] at ej
                      cases ej
                      refine .inl ⟨G1.stop fzj Hj _ Tj Fj.bs, rfl, hlt, fzj, _, ac, yc, yr, Fj, Sj, hDj, imj, nfj, e10, ?_⟩
                      rw [eyj, List.nil_append]
        · have ei : i = xs.length := by omega
          subst ei
          rw [List.drop_length] at e3
          cases e3
          refine .inl ⟨G.stop fz2 H2 _ S2.sts F2.bs, ?_⟩
          refine k _ fz2 H2 (st1.trans S2) F2.bs.spl ⟨D, acc, rfl, hD2, ?_, nf2, nD, st1.back nD hD⟩
          rw [ey, List.append_nil]
          exact im2
      · cases e
    · cases e
  · cases e
end
section
variable {X : Cx} {elt tg iter tg1 iter1 : Expr} {ifs ifs1 : List Expr} {scope : Scope} {own : List (Str × Nat)} {pos : Pos} {is is1 vs1 : List Nat} {mi mi1 : Mi} {g g1 : Gx} {mt mt1 : Mt} {me : Mx}
theorem se_lc2 (hc : X.calm = true) (hN : X.N.Nodup) (hi : SI X tg iter mi) (ok : BlkOk X.N X.env.scope scope own) (hv : ∀ i ∈ vs1, i ∈ own.map (·.2)) (hs : ∀ i, i ∈ is → i ∈ own.map (·.2)) (hs1 : ∀ i, i ∈ is1 → i ∈ vs1) (gok : Gok is g)
    (hg : ∀ (s : Shared) (H : Hp) (C : Addr) (cl : List (Str × Addr)) (fp : List Addr), SG (X.blk s H scope (compEnvC scope cl C X.env) fp) tg is g) (ht : ∀ (s : Shared) (H : Hp) (C : Addr) (cl : List (Str × Addr)) (fp : List Addr), STs (X.blk s H scope (compEnvC scope cl C X.env) fp) ifs mt)
    (hi1 : ∀ (s : Shared) (H : Hp) (C : Addr) (cl : List (Str × Addr)) (fp : List Addr), SI (X.blk s H scope (compEnvC scope cl C X.env) fp) tg1 iter1 mi1)
    (hg1 : ∀ (s : Shared) (H : Hp) (C : Addr) (cl : List (Str × Addr)) (fp : List Addr), SG (X.blk s H scope (compEnvC scope cl C X.env) fp) tg1 is1 g1) (ht1 : ∀ (s : Shared) (H : Hp) (C : Addr) (cl : List (Str × Addr)) (fp : List Addr), STs (X.blk s H scope (compEnvC scope cl C X.env) fp) ifs1 mt1)
    (he : ∀ (s : Shared) (H : Hp) (C : Addr) (cl : List (Str × Addr)) (fp : List Addr), SE (X.blk s H scope (compEnvC scope cl C X.env) fp) elt me) (hf : ∀ x, foldedSetIterable iter X.env x = pure x := by intro _; rfl) (hf1 : ∀ env x, foldedSetIterable iter1 env x = pure x := by intro _ _; rfl) :
    SE X (.ListComp elt [⟨tg, iter, ifs, 0⟩, ⟨tg1, iter1, ifs1, 0⟩] scope pos) (mLc2 mi (own.map (·.2)) g mt mi1 vs1 g1 mt1 me) :=
  PE.imp (pe_lc2 (g := rdG X.K is g) (tt := rdT X.K mt) (wi1 := rdI X.K mi1) (g1 := rdG X.K is1 g1) (tt1 := rdT X.K mt1) (te := rdE X.K me) hc hN hi ok hv hg ht hi1 hg1 ht1 he hf hf1) fun _ _ _ h => rd_lc2 hs hs1 gok h
end
end Dh
namespace Dh
open PySem PySem.Spec L2
def fIn (neg : Bool) : R → R → Option R := fun x y => match rdD x, y with
  | some d, .d (.tuple ds) => if eqOk d = true ∧ eqOk (.tuple ds) = true then some (.d (.bool (if neg then !(ds.any fun z => PyData.eqv z d) else ds.any fun z => PyData.eqv z d))) else none
  | some d, y => match rdL y with
    | some ds => if eqOk d = true ∧ eqOk (.list ds) = true then some (.d (.bool (if neg then !(ds.any fun z => PyData.eqv z d) else ds.any fun z => PyData.eqv z d))) else none
    | none => none
  | _, _ => none
def rInT (K : PySem.W.Frag) (neg : Bool) : R2 := fun x y H Q => ∃ d ds, Dp K H x d ∧ Dp K H y (.tuple ds) ∧ SeqAt.shaped d = true ∧ SeqAt.shaped (.tuple ds) = true ∧ Q (.bl (if neg then !(ds.any fun z => PyData.eqv z d) else ds.any fun z => PyData.eqv z d)) H
section
variable {X : Cx}
theorem op_inT (hu : X.A.units + 65 < cLine) : OpR X (compareOp .In) (rInT X.K false) := by
  intro pins s σ H x y v u Q I rx ry h
  obtain ⟨d, ds, hd, he, sd, se, q⟩ := h
  obtain ⟨as, r1⟩ := Dp.reads I d x v hd rx
  obtain ⟨bs, r2⟩ := Dp.reads I (.tuple ds) y u he ry
  exact SeqAt.in_tuple_reads r2 r1 (SeqAt.canLay_of_shaped se) (SeqAt.canLay_of_shaped sd) (by have h1 := SeqAt.depth_of_shaped sd; have h2 := Nat.min_le_right (PyData.depthAll ds) d.depth; omega) ⟨.bl _, H, I, rfl, q⟩
def rInB (K : PySem.W.Frag) (neg : Bool) : R2 := fun x y H Q => (if neg then rNotInD K x y H Q else rInD K x y H Q) ∨ rInT K neg x y H Q
theorem op_inB (hu : X.A.units + 65 < cLine) : OpR X (compareOp .In) (rInB X.K false) := (op_inD hu).or (op_inT hu)
theorem eqOk_of2 {d : PyData} (h : eqOk d = true) : noDict d = true ∧ SeqAt.shaped d = true := by
  simpa [eqOk] using h
theorem rdL_rdD {y : R} {ds : List PyData} (h : rdL y = some ds) : rdD y = some (.list ds) := by
  unfold rdL at h
  split at h <;> first | (cases h; rfl) | cases h
theorem ok_in (neg : Bool) : Ok2 X.K (rInB X.K neg) (fIn neg) := by
  intro sp fz H H0 sto v w x y z Q B ix iy h k
  unfold fIn at h
  split at h
  · rename_i d ds hd
    split at h
    · rename_i hz
      cases h
      have a := eqOk_of2 hz.1
      have b := eqOk_of2 hz.2
      exact .inr ⟨d, ds, ix.dp hd a.1, iy.dp rfl b.1, a.2, b.2, k _ fz H .refl B.spl (.bl _)⟩
    · cases h
  · rename_i d hd _
    split at h
    · rename_i ds hl
      split at h
      · rename_i hz
        cases h
        have a := eqOk_of2 hz.1
        have b := eqOk_of2 hz.2
        cases neg with
        | true => exact .inl ⟨d, ds, ix.dp hd a.1, iy.dp (rdL_rdD hl) b.1, a.2, b.2, k _ fz H .refl B.spl (.bl _)⟩
        | false => exact .inl ⟨d, ds, ix.dp hd a.1, iy.dp (rdL_rdD hl) b.1, a.2, b.2, k _ fz H .refl B.spl (.bl _)⟩
      · cases h
    · cases h
  · cases h
theorem units65 {A : Around} {k : Nat} (hr : Room k A) : A.units + 65 < cLine := by
  have := hr.un
  omega
variable {a b : Expr} {ma mb : Mx} {pos : Pos}
theorem se_in {k : Nat} (hr : Room k X.A) (ha : SE X a ma) (hb : SE X b mb) (hm : behindInMarks .In b = false := by rfl) : SE X (.Compare a [.In] [b] pos) (m2 (fIn false) ma mb) := se_cmp (op_inB (units65 hr)) (ok_in false) ha hb hm
end
end Dh
namespace Dh
open PySem PySem.Spec L2
def putP (acc : List (Key × PyData)) (k : Key) (d : PyData) : List (Key × PyData) :=
  if (acc.any fun p => decide (p.1 = k)) = true then acc.map (fun p => if p.1 = k then (p.1, d) else p) else acc ++ [(k, d)]
def valP (acc : List (Key × PyData)) (k : Key) : Option PyData := (acc.find? fun p => decide (p.1 = k)).map (·.2)
def keyP : R → Option Key
  | .d (.int i) => some (.inl i)
  | .d (.str x) => some (.inr x)
  | _ => none
def kP : Key → PyData
  | .inl i => .int i
  | .inr x => .str x
def dOf (acc : List (Key × PyData)) : PyData := .dict (acc.map fun p => (kP p.1, p.2))
section
variable {K : PySem.W.Frag} {C : Cn} {sp : Option Addr} {fz fz1 : Fz} {ρ : Ev} {sto sto' : Sto} {σ : L2.St} {H H0 H1 : Hp}
theorem ImK.cons_inv {p : Key × V} {kvs : List (Key × V)} {acc : List (Key × PyData)} (h : ImK K fz H (p :: kvs) acc) : ∃ d acc', acc = (p.1, d) :: acc' ∧ Im K fz H p.2 d ∧ ImK K fz H kvs acc' := by
  obtain ⟨h1, h2⟩ := h
  cases acc with
  | nil => cases h1
  | cons q acc =>
    rw [List.map_cons, List.map_cons] at h1 h2
    cases h2 with
    | cons a b =>
      have e := List.cons.inj h1
      exact ⟨q.2, acc, by rw [e.1], a, e.2, b⟩
theorem ImK.any {k : Key} : ∀ {kvs : List (Key × V)} {acc : List (Key × PyData)}, ImK K fz H kvs acc → (kvs.any fun p => decide (p.1 = k)) = acc.any fun p => decide (p.1 = k)
  | [], acc, h => by
    have : acc = [] := List.map_eq_nil_iff.mp h.1.symm
    subst this; rfl
  | p :: kvs, acc, h => by
    obtain ⟨d, acc', rfl, _, h2⟩ := h.cons_inv
    rw [List.any_cons, List.any_cons, h2.any]
theorem ImK.over {k : Key} {v : V} {d : PyData} (i : Im K fz H v d) : ∀ {kvs : List (Key × V)} {acc : List (Key × PyData)}, ImK K fz H kvs acc → ImK K fz H (kvs.map fun kv => if kv.1 = k then (kv.1, v) else kv) (acc.map fun p => if p.1 = k then (p.1, d) else p)
  | [], acc, h => by
    have : acc = [] := List.map_eq_nil_iff.mp h.1.symm
    subst this; exact ⟨rfl, .nil⟩
  | p :: kvs, acc, h => by
    obtain ⟨e, acc', rfl, h1, h2⟩ := h.cons_inv
    obtain ⟨g1, g2⟩ := ImK.over i h2
    by_cases q : p.1 = k
    · refine ⟨?_, ?_⟩
      · simp only [List.map_cons, if_pos q]
        rw [g1]
      · simp only [List.map_cons, if_pos q]
        exact .cons i g2
    · refine ⟨?_, ?_⟩
      · simp only [List.map_cons, if_neg q]
        rw [g1]
      · simp only [List.map_cons, if_neg q]
        exact .cons h1 g2
theorem ImK.put {k : Key} {v : V} {d : PyData} {kvs : List (Key × V)} {acc : List (Key × PyData)} (h : ImK K fz H kvs acc) (i : Im K fz H v d) : ImK K fz H (putK kvs k v) (putP acc k d) := by
  unfold putK putP
  rw [h.any]
  split
  · exact ImK.over i h
  · refine ⟨?_, ?_⟩
    · rw [List.map_append, List.map_append, h.1]; rfl
    · rw [List.map_append, List.map_append]
      exact h.2.append (.cons i .nil)
theorem ImK.val {k : Key} : ∀ {kvs : List (Key × V)} {acc : List (Key × PyData)}, ImK K fz H kvs acc → (∀ v, valV kvs k = some v → ∃ d, valP acc k = some d ∧ Im K fz H v d) ∧ (valV kvs k = none → valP acc k = none)
  | [], acc, h => by
    have : acc = [] := List.map_eq_nil_iff.mp h.1.symm
    subst this; exact ⟨(fun v e => by cases e), fun _ => rfl⟩
  | p :: kvs, acc, h => by
    obtain ⟨d, acc', rfl, i, h2⟩ := h.cons_inv
    obtain ⟨g1, g2⟩ := h2.val (k := k)
    by_cases q : p.1 = k
    · refine ⟨fun v e => ?_, fun e => ?_⟩
      · rw [valV_pos q] at e
        cases e
        exact ⟨d, by simp [valP, q], i⟩
      · rw [valV_pos q] at e; cases e
    · refine ⟨fun v e => ?_, fun e => ?_⟩
      · rw [valV_neg q] at e
        obtain ⟨d', e1, e2⟩ := g1 v e
        exact ⟨d', by rw [← e1]; simp [valP, q], e2⟩
      · rw [valV_neg q] at e
        rw [← g2 e]
        simp [valP, q]
theorem ImK.stp (s : Stp sp fz H fz1 H1) (B : Bs sp fz H sto) {kvs : List (Key × V)} {acc : List (Key × PyData)} (h : ImK K fz H kvs acc) : ImK K fz1 H1 kvs acc := ⟨h.1, h.2.stp s B⟩
theorem ImK.sts (s : Sts sp fz H fz1 H1) (B : Bs sp fz H sto) {kvs : List (Key × V)} {acc : List (Key × PyData)} (h : ImK K fz H kvs acc) : ImK K fz1 H1 kvs acc := ⟨h.1, h.2.sts s B⟩
theorem ImK.len {kvs : List (Key × V)} {acc : List (Key × PyData)} (h : ImK K fz H kvs acc) : kvs.length = acc.length := by
  have := congrArg List.length h.1
  rwa [List.length_map, List.length_map] at this
end
def dcRun (vs : List Nat) (g : Gx) (t : Mt) (ek ev : Mx) : List PyData → List (Key × PyData) → Ev → Sto → Option (List (Key × PyData) × Sto)
  | [], acc => fun _ s => some (acc, s)
  | x :: xs, acc => fun ρ s => match g x (wipeE ρ vs) with
    | none => none
    | some ρ1 => match t ρ1 s with
      | none => none
      | some (false, s1) => dcRun vs g t ek ev xs acc ρ s1
      | some (true, s1) => match ek ρ1 s1 with
        | none => none
        | some (rk, s2) => match ev ρ1 s2 with
          | none => none
          | some (rv, s3) => match keyP rk, toD rv with
            | some k, some y => if acc.length < sizeLine then dcRun vs g t ek ev xs (putP acc k y) ρ s3 else none
            | _, _ => none
def mDc (it : Mi) (vs : List Nat) (g : Gx) (t : Mt) (ek ev : Mx) : Mx := fun ρ s => match it ρ s with
  | some (xs, s1) => match dcRun vs g t ek ev xs [] ρ s1 with
    | some (acc, s2) => some (.d (dOf acc), s2)
    | none => none
  | none => none
def m3 (f : R → R → R → Option R) (a b c : Mx) : Mx := bnd a fun x => bnd b fun y => bnd c fun z _ => ret (f x y z)
def mSwap (i : Nat) (ix1 ix2 : Mx) (a : Mx) : Ms := fun ρ s => match a ρ s with
  | some (.d (.tuple [x, y]), s1) => match ix1 ρ s1, ρ[i]? with
    | some (.d (.int k1), s2), some (some (.o xs)) => match ixN xs.length k1 with
      | some j1 => match ix2 (ρ.set i (some (.o (xs.set j1 x)))) s2 with
        | some (.d (.int k2), s3) => match ixN xs.length k2 with
          | some j2 => some (.nx, (ρ.set i (some (.o (xs.set j1 x)))).set i (some (.o ((xs.set j1 x).set j2 y))), s3)
          | none => none
        | _ => none
      | none => none
    | _, _ => none
  | _ => none
end Dh
namespace Dh
open PySem PySem.Spec L2 PySem.W PyProof.Rows
/-- a list, a tuple -/
inductive Sk where
  | l | t
def Sk.Sq (k : Sk) (K : PySem.W.Frag) (H : Hp) (a : Addr) (xs : List V) : Prop := match k with
  | .l => SqL K H a xs
  | .t => SqT K H a xs
def Sk.Is (k : Sk) (h : Heap) (a : Addr) (its : Array Value) : Prop := match k with
  | .l => h.IsList a its
  | .t => h.IsTuple a its
def Sk.Ir (k : Sk) (h : Heap) (it a : Addr) (i : Nat) : Prop := match k with
  | .l => h.IsListIter it a i
  | .t => h.IsTupleIter it a i
def Sk.ob (k : Sk) (a : Addr) : Obj := match k with
  | .l => { cls := .type "list_iterator", data := .fields #[.ref a, .int 0 0] }
  | .t => { cls := .type "tuple_iterator", data := .fields #[.ref a, .int 0 0] }
section
variable {X : Cx} {pins : List (Addr × Obj)} {σ : L2.St} {H : Hp} {s : Shared} {k : Sk} {a : Addr} {xs ys : List V}
theorem Sk.read (I : Inv X pins σ H s) (h : k.Sq X.K H a xs) : ∃ its : List Value, Vals xs its ∧ k.Is s.heap a its.toArray := by
  cases k with
  | l => obtain ⟨its, rv, p, _⟩ := I.list h; exact ⟨its, rv, p.isList⟩
  | t => obtain ⟨its, rv, p, _⟩ := I.tuple h; exact ⟨its, rv, (show s.heap.IsTuple a its.toArray from p)⟩
theorem Sk.inj (I : Inv X pins σ H s) (h : k.Sq X.K H a xs) (h2 : k.Sq X.K H a ys) : xs = ys := by
  cases k with
  | l => exact I.list_inj h h2
  | t => exact I.tuple_inj h h2
theorem Sk.lt {h : Heap} {its : Array Value} (p : k.Is h a its) : a < h.objs.size := by
  cases k with
  | l => obtain ⟨o, ho, _⟩ := id p; exact Heap.lt_size ho
  | t => obtain ⟨o, ho, _⟩ := id p; exact Heap.lt_size ho
theorem Sk.ir0 {h : Heap} {it : Addr} (e : h.get? it = some (k.ob a)) : k.Ir h it a 0 := by
  cases k with
  | l => exact ⟨_, e, rfl, rfl⟩
  | t => exact ⟨_, e, rfl, rfl⟩
theorem Sk.ir_obj {h : Heap} {it : Addr} {i : Nat} (e : k.Ir h it a i) : ∃ o, h.get? it = some o ∧ ∀ v, o.data ≠ .cell v := by
  cases k with
  | l => obtain ⟨o, e1, _, d⟩ := e; exact ⟨o, e1, fun v q => by rw [d] at q; cases q⟩
  | t => obtain ⟨o, e1, _, d⟩ := e; exact ⟨o, e1, fun v q => by rw [d] at q; cases q⟩
theorem Sk.ir_at {h h' : Heap} {it : Addr} {i : Nat} (e : k.Ir h it a i) (q : ∀ o, h.get? it = some o → h'.get? it = some o) : k.Ir h' it a i := by
  cases k with
  | l => exact Heap.IsListIter.at e fun o => q o
  | t => exact Heap.IsTupleIter.at e fun o => q o
theorem Sk.ir_lt {h : Heap} {it : Addr} {i : Nat} (e : k.Ir h it a i) : it < h.objs.size := by
  obtain ⟨o, e1, _⟩ := k.ir_obj e
  exact Heap.lt_size e1
theorem Sk.ne {h : Heap} {it : Addr} {i : Nat} {its : Array Value} (e : k.Ir h it a i) (p : k.Is h a its) : a ≠ it := fun q => by
  subst q
  cases k with
  | l => obtain ⟨o1, g1, c1, _⟩ := e; obtain ⟨o2, g2, c2, _⟩ := p; rw [g1] at g2; cases g2; rw [c1] at c2; simp at c2
  | t => obtain ⟨o1, g1, c1, _⟩ := e; obtain ⟨o2, g2, c2, _⟩ := p; rw [g1] at g2; cases g2; rw [c1] at c2; simp at c2
theorem Sk.begins (k : Sk) (a : Addr) (its : Array Value) : Begins (.ref a) (k.ob a) fun h => k.Is h a its := by
  cases k with
  | l => exact begins_list a its
  | t => exact begins_tuple a its
theorem Sk.draws {prog : Program} {w : World} {A : Around} (hh : A.handled = none) (k : Sk) (it : Addr) (hne : a ≠ it) (its : Array Value) :
    Draws prog w A it [it, a] its.size (fun i v => its[i]? = some v) (fun i h => k.Ir h it a i ∧ k.Is h a its) := by
  cases k with
  | l => exact Draws.list hh it a hne its
  | t => exact Draws.tuple hh it a hne its
end
/-- both as they stand at each turn, the items in new pairs -/
def Iz2 (K : PySem.W.Frag) (k1 k2 : Sk) (a b : Addr) : It :=
  ⟨fun i H => ∃ (xs ys : List V) (x y : V), k1.Sq K H a xs ∧ k2.Sq K H b ys ∧ xs[i]? = some x ∧ ys[i]? = some y,
    fun i H v H' => ∃ T o x y, v = .ref T ∧ H T = none ∧ o.dict = none ∧ H' = upd H T (.frz o (.tup [x, y])) ∧ (∀ xs, k1.Sq K H a xs → xs[i]? = some x) ∧ ∀ ys, k2.Sq K H b ys → ys[i]? = some y,
    fun i H => ∃ xs ys : List V, k1.Sq K H a xs ∧ k2.Sq K H b ys ∧ i ≤ xs.length ∧ i ≤ ys.length ∧ (xs.length = i ∨ ys.length = i)⟩
theorem turn_z2 {P : Program} {w : World} {K : PySem.W.Frag} {elts : List Expr} {kk : Nat} {tpos : Pos} {k1 k2 : Sk} {a b z TI TO i1 i2 : Addr} (S : ZipSep2 z TI TO i1 i2 [i1, a] [i2, b]) :
    Turn P w K (.Tuple elts kk tpos) (Iz2 K k1 k2 a b) [z, TI, TO, i1, i2] z (fun i h => IsZip h z TI TO .none ∧ IsTupOf2 h TI (.ref i1) (.ref i2) ∧ (∃ x y, IsTupOf2 h TO x y) ∧ k1.Ir h i1 a i ∧ k2.Ir h i2 b i) where
  mem := by simp
  obj := fun i h st c hc => by
    obtain ⟨hz, hTI, ⟨x, y, hTO⟩, h1, h2⟩ := st
    have e' : c = z ∨ c = TI ∨ c = TO ∨ c = i1 ∨ c = i2 := by simpa using hc
    rcases e' with q | q | q | q | q
    · rw [q]; exact ⟨_, hz, fun v q => nomatch q⟩
    · rw [q]; exact ⟨_, hTI, fun v q => nomatch q⟩
    · rw [q]; exact ⟨_, hTO, fun v q => nomatch q⟩
    · rw [q]; exact k1.ir_obj h1
    · rw [q]; exact k2.ir_obj h2
  keep := fun i h h' st k => by
    obtain ⟨hz, hTI, ⟨x, y, hTO⟩, h1, h2⟩ := st
    exact ⟨k z (by simp) _ hz, k TI (by simp) _ hTI, ⟨x, y, k TO (by simp) _ hTO⟩, k1.ir_at h1 fun o q => k i1 (by simp) o q, k2.ir_at h2 fun o q => k i2 (by simp) o q⟩
  item := by
    intro X hP hw hK hc i pins s σ H E I hf st hg
    subst hP hw hK
    obtain ⟨hz, hTI, ⟨x0, y0, hTO⟩, h1, h2⟩ := st
    obtain ⟨xs, ys, x, y, hqx, hqy, hx, hy⟩ := hg
    obtain ⟨its, rv, p⟩ := k1.read I hqx
    obtain ⟨its2, rv2, p2⟩ := k2.read I hqy
    obtain ⟨u, hu, ru⟩ := rv.get hx
    obtain ⟨u2, hu2, ru2⟩ := rv2.get hy
    have hzl : z < s.heap.objs.size := Heap.lt_size hz
    have hh := I.ok.hd hc
    have na := k1.ne h1 p
    have nb := k2.ne h2 p2
    have l1 : i < its.toArray.size := by have := (List.getElem?_eq_some_iff.mp hu).1; simpa using this
    have l2 : i < its2.toArray.size := by have := (List.getElem?_eq_some_iff.mp hu2).1; simpa using this
    refine wpAny_pyNext_zipD2_item S (k1.draws (A := X.A.in1) hh i1 na its.toArray) (k2.draws (A := X.A.in1) hh i2 nb its2.toArray) hz hTI hTO ⟨h1, p⟩ ⟨h2, p2⟩ l1 l2 fun x1 x2 h' tk e1 e2 z' TO' h1' h2' hT hsz hk => ?_
    have eu : x1 = u := by
      have q : its[i]? = some x1 := by simpa using e1
      rw [hu] at q; cases q; rfl
    have eu2 : x2 = u2 := by
      have q : its2[i]? = some x2 := by simpa using e2
      rw [hu2] at q; cases q; rfl
    subst eu eu2
    refine ⟨_, rfl, wpAny_letOwnedTupleGo_zip (s := { s with heap := h', toks := tk }) z' fun h'' z'' sb => ?_⟩
    have hT2 : h''.get? s.heap.objs.size = some { cls := .type "tuple", data := .seq #[x1, x2] } := (sb.2 _ (Nat.ne_of_gt hzl)).trans hT
    have new : ObjOk X.prog X.w (upd H s.heap.objs.size (.frz { cls := .type "tuple", data := .seq #[x1, x2] } (.tup [x, y]))) h'' s.heap.objs.size (.frz { cls := .type "tuple", data := .seq #[x1, x2] } (.tup [x, y])) :=
      obj_tup (its := [x1, x2]) hT2 (by show 2 ≤ sizeLine; decide) (.cons ru (.cons ru2 .nil))
    have I1 : Inv X pins σ (upd H s.heap.objs.size (.frz { cls := .type "tuple", data := .seq #[x1, x2] } (.tup [x, y]))) { s with heap := h'', toks := tk } :=
      I.turnedNew (t' := tk) (ch := [z, TI, TO, i1, i2]) (fun c o hb q => (sb.2 c (fun q' => hb (by simp [q']))).trans (hk c o (fun q' => hb (by simp [q'])) (fun q' => hb (by simp [q'])) (fun q' => hb (by simp [q'])) (fun q' => hb (by simp [q'])) q)) hf (Nat.le_refl _) new
    refine ⟨.ref s.heap.objs.size, _, I1, rfl, ⟨_, _, x, y, rfl, I.hok.fresh (Nat.le_refl _), rfl, rfl, fun l hl => by rw [k1.inj I hl hqx]; exact hx, fun l hl => by rw [k2.inj I hl hqy]; exact hy⟩, ⟨z'', ?_, ⟨x1, x2, ?_⟩, ?_, ?_⟩, fun c hcm => ?_⟩
    · exact (sb.2 _ S.TIz).trans (hk _ _ S.TIz S.TITO S.TIi1 S.TIi2 hTI)
    · exact (sb.2 _ S.TOz).trans TO'
    · exact k1.ir_at h1'.1 fun o q => (sb.2 _ S.zi1.symm).trans q
    · exact k2.ir_at h2'.1 fun o q => (sb.2 _ S.zi2.symm).trans q
    · have hlt : c < s.heap.objs.size := by
        have e' : c = z ∨ c = TI ∨ c = TO ∨ c = i1 ∨ c = i2 := by simpa using hcm
        rcases e' with q | q | q | q | q
        · rw [q]; exact hzl
        · rw [q]; exact Heap.lt_size hTI
        · rw [q]; exact Heap.lt_size hTO
        · rw [q]; exact k1.ir_lt h1
        · rw [q]; exact k2.ir_lt h2
      rw [upd_ne (Nat.ne_of_lt hlt)]
      exact (hf c hcm).1
  done := by
    intro X hP hw hK hc i pins s σ H E I hf st hg
    subst hP hw hK
    obtain ⟨hz, hTI, ⟨x0, y0, hTO⟩, h1, h2⟩ := st
    obtain ⟨xs, ys, hqx, hqy, le1, le2, hend⟩ := hg
    obtain ⟨its, rv, p⟩ := k1.read I hqx
    obtain ⟨its2, rv2, p2⟩ := k2.read I hqy
    have l1 := rv.length
    have l2 := rv2.length
    have hh := I.ok.hd hc
    have na := k1.ne h1 p
    have nb := k2.ne h2 p2
    refine wpAny_pyNext_zipD2_end S (k1.draws (A := X.A.in1) hh i1 na its.toArray) (k2.draws (A := X.A.in1) hh i2 nb its2.toArray) hz hTI hTO ⟨h1, p⟩ ⟨h2, p2⟩ (by simp; omega) (by simp; omega) (by simp; omega) fun h' tk hk => ⟨rfl, I.turnedL (t' := tk) (ch := [z, TI, TO, i1, i2]) (fun c o hb q =>
      hk c o (fun q' => hb (by simp [q'])) (fun q' => hb (by simp [q'])) (fun q' => hb (by simp [q'])) (fun q' => hb (by simp [q'])) q) hf⟩
  self := fun A i s Q E st h => wpAny_pyIter_zip st.1 h
/-- all three -/
def Iz3 (K : PySem.W.Frag) (k1 k2 k3 : Sk) (a b c : Addr) : It :=
  ⟨fun i H => ∃ (xs ys zs : List V) (x y z : V), k1.Sq K H a xs ∧ k2.Sq K H b ys ∧ k3.Sq K H c zs ∧ xs[i]? = some x ∧ ys[i]? = some y ∧ zs[i]? = some z,
    fun i H v H' => ∃ T o x y z, v = .ref T ∧ H T = none ∧ o.dict = none ∧ H' = upd H T (.frz o (.tup [x, y, z])) ∧ (∀ xs, k1.Sq K H a xs → xs[i]? = some x) ∧ (∀ ys, k2.Sq K H b ys → ys[i]? = some y) ∧ ∀ zs, k3.Sq K H c zs → zs[i]? = some z,
    fun i H => ∃ xs ys zs : List V, k1.Sq K H a xs ∧ k2.Sq K H b ys ∧ k3.Sq K H c zs ∧ i ≤ xs.length ∧ i ≤ ys.length ∧ i ≤ zs.length ∧ (xs.length = i ∨ ys.length = i ∨ zs.length = i)⟩
theorem turn_z3 {P : Program} {w : World} {K : PySem.W.Frag} {elts : List Expr} {kk : Nat} {tpos : Pos} {k1 k2 k3 : Sk} {a b d z TI TO i1 i2 i3 : Addr} (S : ZipSep3 z TI TO i1 i2 i3 [i1, a] [i2, b] [i3, d]) :
    Turn P w K (.Tuple elts kk tpos) (Iz3 K k1 k2 k3 a b d) [z, TI, TO, i1, i2, i3] z (fun i h => IsZip h z TI TO .none ∧ IsTupOf3 h TI (.ref i1) (.ref i2) (.ref i3) ∧ (∃ x y u, IsTupOf3 h TO x y u) ∧ k1.Ir h i1 a i ∧ k2.Ir h i2 b i ∧ k3.Ir h i3 d i) where
  mem := by simp
  obj := fun i h st c hc => by
    obtain ⟨hz, hTI, ⟨x, y, u, hTO⟩, h1, h2, h3⟩ := st
    have e' : c = z ∨ c = TI ∨ c = TO ∨ c = i1 ∨ c = i2 ∨ c = i3 := by simpa using hc
    rcases e' with q | q | q | q | q | q
    · rw [q]; exact ⟨_, hz, fun v q => nomatch q⟩
    · rw [q]; exact ⟨_, hTI, fun v q => nomatch q⟩
    · rw [q]; exact ⟨_, hTO, fun v q => nomatch q⟩
    · rw [q]; exact k1.ir_obj h1
    · rw [q]; exact k2.ir_obj h2
    · rw [q]; exact k3.ir_obj h3
  keep := fun i h h' st k => by
    obtain ⟨hz, hTI, ⟨x, y, u, hTO⟩, h1, h2, h3⟩ := st
    exact ⟨k z (by simp) _ hz, k TI (by simp) _ hTI, ⟨x, y, u, k TO (by simp) _ hTO⟩, k1.ir_at h1 fun o q => k i1 (by simp) o q, k2.ir_at h2 fun o q => k i2 (by simp) o q, k3.ir_at h3 fun o q => k i3 (by simp) o q⟩
  item := by
    intro X hP hw hK hc i pins s σ H E I hf st hg
    subst hP hw hK
    obtain ⟨hz, hTI, ⟨x0, y0, u0, hTO⟩, h1, h2, h3⟩ := st
    obtain ⟨xs, ys, zs, x, y, v3, hqx, hqy, hqz, hx, hy, hv⟩ := hg
    obtain ⟨its, rv, p⟩ := k1.read I hqx
    obtain ⟨its2, rv2, p2⟩ := k2.read I hqy
    obtain ⟨its3, rv3, p3⟩ := k3.read I hqz
    obtain ⟨u, hu, ru⟩ := rv.get hx
    obtain ⟨u2, hu2, ru2⟩ := rv2.get hy
    obtain ⟨u3, hu3, ru3⟩ := rv3.get hv
    have hzl : z < s.heap.objs.size := Heap.lt_size hz
    have hh := I.ok.hd hc
    have na := k1.ne h1 p
    have nb := k2.ne h2 p2
    have nd := k3.ne h3 p3
    have l1 : i < its.toArray.size := by have := (List.getElem?_eq_some_iff.mp hu).1; simpa using this
    have l2 : i < its2.toArray.size := by have := (List.getElem?_eq_some_iff.mp hu2).1; simpa using this
    have l3 : i < its3.toArray.size := by have := (List.getElem?_eq_some_iff.mp hu3).1; simpa using this
    refine wpAny_pyNext_zipD3_item S (k1.draws (A := X.A.in1) hh i1 na its.toArray) (k2.draws (A := X.A.in1) hh i2 nb its2.toArray) (k3.draws (A := X.A.in1) hh i3 nd its3.toArray) hz hTI hTO ⟨h1, p⟩ ⟨h2, p2⟩ ⟨h3, p3⟩ l1 l2 l3 fun x1 x2 x3 h' tk e1 e2 e3 z' TO' h1' h2' h3' hT hsz hk => ?_
    have eu : x1 = u := by
      have q : its[i]? = some x1 := by simpa using e1
      rw [hu] at q; cases q; rfl
    have eu2 : x2 = u2 := by
      have q : its2[i]? = some x2 := by simpa using e2
      rw [hu2] at q; cases q; rfl
    have eu3 : x3 = u3 := by
      have q : its3[i]? = some x3 := by simpa using e3
      rw [hu3] at q; cases q; rfl
    subst eu eu2 eu3
    refine ⟨_, rfl, wpAny_letOwnedTupleGo_zip (s := { s with heap := h', toks := tk }) z' fun h'' z'' sb => ?_⟩
    have hT2 : h''.get? s.heap.objs.size = some { cls := .type "tuple", data := .seq #[x1, x2, x3] } := (sb.2 _ (Nat.ne_of_gt hzl)).trans hT
    have new : ObjOk X.prog X.w (upd H s.heap.objs.size (.frz { cls := .type "tuple", data := .seq #[x1, x2, x3] } (.tup [x, y, v3]))) h'' s.heap.objs.size (.frz { cls := .type "tuple", data := .seq #[x1, x2, x3] } (.tup [x, y, v3])) :=
      obj_tup (its := [x1, x2, x3]) hT2 (by show 3 ≤ sizeLine; decide) (.cons ru (.cons ru2 (.cons ru3 .nil)))
    have I1 : Inv X pins σ (upd H s.heap.objs.size (.frz { cls := .type "tuple", data := .seq #[x1, x2, x3] } (.tup [x, y, v3]))) { s with heap := h'', toks := tk } :=
      I.turnedNew (t' := tk) (ch := [z, TI, TO, i1, i2, i3]) (fun c o hb q => (sb.2 c (fun q' => hb (by simp [q']))).trans (hk c o (fun q' => hb (by simp [q'])) (fun q' => hb (by simp [q'])) (fun q' => hb (by simp [q'])) (fun q' => hb (by simp [q'])) (fun q' => hb (by simp [q'])) q)) hf (Nat.le_refl _) new
    refine ⟨.ref s.heap.objs.size, _, I1, rfl, ⟨_, _, x, y, v3, rfl, I.hok.fresh (Nat.le_refl _), rfl, rfl, fun l hl => by rw [k1.inj I hl hqx]; exact hx, fun l hl => by rw [k2.inj I hl hqy]; exact hy, fun l hl => by rw [k3.inj I hl hqz]; exact hv⟩, ⟨z'', ?_, ⟨x1, x2, x3, ?_⟩, ?_, ?_, ?_⟩, fun c hcm => ?_⟩
    · exact (sb.2 _ S.TIz).trans (hk _ _ S.TIz S.TITO S.TIi1 S.TIi2 S.TIi3 hTI)
    · exact (sb.2 _ S.TOz).trans TO'
    · exact k1.ir_at h1'.1 fun o q => (sb.2 _ S.zi1.symm).trans q
    · exact k2.ir_at h2'.1 fun o q => (sb.2 _ S.zi2.symm).trans q
    · exact k3.ir_at h3'.1 fun o q => (sb.2 _ S.zi3.symm).trans q
    · have hlt : c < s.heap.objs.size := by
        have e' : c = z ∨ c = TI ∨ c = TO ∨ c = i1 ∨ c = i2 ∨ c = i3 := by simpa using hcm
        rcases e' with q | q | q | q | q | q
        · rw [q]; exact hzl
        · rw [q]; exact Heap.lt_size hTI
        · rw [q]; exact Heap.lt_size hTO
        · rw [q]; exact k1.ir_lt h1
        · rw [q]; exact k2.ir_lt h2
        · rw [q]; exact k3.ir_lt h3
      rw [upd_ne (Nat.ne_of_lt hlt)]
      exact (hf c hcm).1
  done := by
    intro X hP hw hK hc i pins s σ H E I hf st hg
    subst hP hw hK
    obtain ⟨hz, hTI, ⟨x0, y0, u0, hTO⟩, h1, h2, h3⟩ := st
    obtain ⟨xs, ys, zs, hqx, hqy, hqz, le1, le2, le3, hend⟩ := hg
    obtain ⟨its, rv, p⟩ := k1.read I hqx
    obtain ⟨its2, rv2, p2⟩ := k2.read I hqy
    obtain ⟨its3, rv3, p3⟩ := k3.read I hqz
    have l1 := rv.length
    have l2 := rv2.length
    have l3 := rv3.length
    have hh := I.ok.hd hc
    have na := k1.ne h1 p
    have nb := k2.ne h2 p2
    have nd := k3.ne h3 p3
    refine wpAny_pyNext_zipD3_end S (k1.draws (A := X.A.in1) hh i1 na its.toArray) (k2.draws (A := X.A.in1) hh i2 nb its2.toArray) (k3.draws (A := X.A.in1) hh i3 nd its3.toArray) hz hTI hTO ⟨h1, p⟩ ⟨h2, p2⟩ ⟨h3, p3⟩ (by simp; omega) (by simp; omega) (by simp; omega) (by simp; omega) fun h' tk hk => ⟨rfl, I.turnedL (t' := tk) (ch := [z, TI, TO, i1, i2, i3]) (fun c o hb q =>
      hk c o (fun q' => hb (by simp [q'])) (fun q' => hb (by simp [q'])) (fun q' => hb (by simp [q'])) (fun q' => hb (by simp [q'])) (fun q' => hb (by simp [q'])) q) hf⟩
  self := fun A i s Q E st h => wpAny_pyIter_zip st.1 h
def iZ2 (K : PySem.W.Frag) (ta : TA) : TI := fun σ H R => ta σ H fun vs H1 => ∃ k1 k2 a b xs ys, vs = [.ref a, .ref b] ∧ Sk.Sq k1 K H1 a xs ∧ Sk.Sq k2 K H1 b ys ∧ R (Iz2 K k1 k2 a b) H1
def iZ3 (K : PySem.W.Frag) (ta : TA) : TI := fun σ H R => ta σ H fun vs H1 => ∃ k1 k2 k3 a b c xs ys zs, vs = [.ref a, .ref b, .ref c] ∧ Sk.Sq k1 K H1 a xs ∧ Sk.Sq k2 K H1 b ys ∧ Sk.Sq k3 K H1 c zs ∧ R (Iz3 K k1 k2 k3 a b c) H1
section
variable {X : Cx} {e e2 e3 : Expr} {ta : TA} {p pos tpos : Pos} {elts : List Expr} {kk : Nat}
theorem pi_z2 (hg : Gl X "zip") (hm : X.mg "zip" = none) (ha : PA X [e, e2] ta)
    (hs : starEach [e, e2] X.env = (false, eval e X.env) :: starEach [e2] X.env := by rfl) (hpl : (backTo pos (starEach [e2] X.env)).any (·.1) = false := by rfl) :
    PI X (.Tuple elts kk tpos) (.Call (.Name "zip" p) [e, e2] [] pos) (iZ2 X.K ta) := by
  refine ⟨fun pins s σ H R I h => ?_⟩
  refine Call_ (ld_blt I hg hm PyProof.Rows.boot_zip (PyProof.Rows.callWith_type1 (thn (ha.run pos pins s σ H _ I h) fun us s1 ⟨vs, H1, I1, r1, q1⟩ => ?_) hs hpl))
  obtain ⟨k1, k2, a, b, xs, ys, ex, hqx, hqy, q⟩ := q1
  subst ex
  cases r1 with
  | cons r rr =>
    cases rr with
    | cons r' rr =>
      cases rr
      cases r
      cases r'
      obtain ⟨its, rv, p1⟩ := k1.read I1 hqx
      obtain ⟨its2, rv2, p2⟩ := k2.read I1 hqy
      refine zip_begins2 (k1.begins a its.toArray) (k2.begins b its2.toArray) p1 p2 fun h' hz hTI hTO g1 g2 hsz hk => wpAny_pyIter_zip hz ?_
      have I2 : Inv X pins σ H1 { s1 with heap := h' } := I1.kept (t' := s1.toks) hk
      refine ⟨s1.heap.objs.size + 4, [s1.heap.objs.size + 4, s1.heap.objs.size + 2, s1.heap.objs.size + 3, s1.heap.objs.size, s1.heap.objs.size + 1], _, _, H1, rfl, I2,
        turn_z2 (zip_sep2 (fp1 := [a]) (fp2 := [b]) (by simp; exact k1.lt p1) (by simp; exact k2.lt p2)), ⟨hz, hTI, ⟨_, _, hTO⟩, k1.ir0 g1, k2.ir0 g2⟩, fun c hcm => ?_, q⟩
      have e' : c = s1.heap.objs.size + 4 ∨ c = s1.heap.objs.size + 2 ∨ c = s1.heap.objs.size + 3 ∨ c = s1.heap.objs.size ∨ c = s1.heap.objs.size + 1 := by simpa using hcm
      have hle : s1.heap.objs.size ≤ c := by rcases e' with z | z | z | z | z <;> (rw [z]; first | exact Nat.le_refl _ | exact Nat.le_add_right _ _)
      exact I1.fpOk hle (I1.hok.fresh hle)
theorem pi_z3 (hg : Gl X "zip") (hm : X.mg "zip" = none) (ha : PA X [e, e2, e3] ta)
    (hs : starEach [e, e2, e3] X.env = (false, eval e X.env) :: starEach [e2, e3] X.env := by rfl) (hpl : (backTo pos (starEach [e2, e3] X.env)).any (·.1) = false := by rfl) :
    PI X (.Tuple elts kk tpos) (.Call (.Name "zip" p) [e, e2, e3] [] pos) (iZ3 X.K ta) := by
  refine ⟨fun pins s σ H R I h => ?_⟩
  refine Call_ (ld_blt I hg hm PyProof.Rows.boot_zip (PyProof.Rows.callWith_type1 (thn (ha.run pos pins s σ H _ I h) fun us s1 ⟨vs, H1, I1, r1, q1⟩ => ?_) hs hpl))
  obtain ⟨k1, k2, k3, a, b, d, xs, ys, zs, ex, hqx, hqy, hqz, q⟩ := q1
  subst ex
  cases r1 with
  | cons r rr =>
    cases rr with
    | cons r' rr =>
      cases rr with
      | cons r'' rr =>
        cases rr
        cases r
        cases r'
        cases r''
        obtain ⟨its, rv, p1⟩ := k1.read I1 hqx
        obtain ⟨its2, rv2, p2⟩ := k2.read I1 hqy
        obtain ⟨its3, rv3, p3⟩ := k3.read I1 hqz
        refine zip_begins3 (k1.begins a its.toArray) (k2.begins b its2.toArray) (k3.begins d its3.toArray) p1 p2 p3 fun h' hz hTI hTO g1 g2 g3 hsz hk => wpAny_pyIter_zip hz ?_
        have I2 : Inv X pins σ H1 { s1 with heap := h' } := I1.kept (t' := s1.toks) hk
        refine ⟨s1.heap.objs.size + 5, [s1.heap.objs.size + 5, s1.heap.objs.size + 3, s1.heap.objs.size + 4, s1.heap.objs.size, s1.heap.objs.size + 1, s1.heap.objs.size + 2], _, _, H1, rfl, I2,
          turn_z3 (zip_sep3 (fp1 := [a]) (fp2 := [b]) (fp3 := [d]) (by simp; exact k1.lt p1) (by simp; exact k2.lt p2) (by simp; exact k3.lt p3)), ⟨hz, hTI, ⟨_, _, _, hTO⟩, k1.ir0 g1, k2.ir0 g2, k3.ir0 g3⟩, fun c hcm => ?_, q⟩
        have e' : c = s1.heap.objs.size + 5 ∨ c = s1.heap.objs.size + 3 ∨ c = s1.heap.objs.size + 4 ∨ c = s1.heap.objs.size ∨ c = s1.heap.objs.size + 1 ∨ c = s1.heap.objs.size + 2 := by simpa using hcm
        have hle : s1.heap.objs.size ≤ c := by rcases e' with z | z | z | z | z | z <;> (rw [z]; first | exact Nat.le_refl _ | exact Nat.le_add_right _ _)
        exact I1.fpOk hle (I1.hok.fresh hle)
end
def seqOf : PyData → Option (List PyData)
  | .list xs => some xs
  | .tuple xs => some xs
  | _ => none
def trip (xs ys zs : List PyData) : List PyData := (xs.zip (ys.zip zs)).map fun p => PyData.tuple [p.1, p.2.1, p.2.2]
def zipQ2 (rs : List R) : Option (List PyData) := match toDs rs with
  | some [x, y] => match seqOf x, seqOf y with
    | some xs, some ys => some (pairs xs ys)
    | _, _ => none
  | _ => none
def zipQ3 (rs : List R) : Option (List PyData) := match toDs rs with
  | some [x, y, z] => match seqOf x, seqOf y, seqOf z with
    | some xs, some ys, some zs => some (trip xs ys zs)
    | _, _, _ => none
  | _ => none
section
variable {K : PySem.W.Frag} {sp : Option Addr} {fz : Fz} {H : Hp} {sto : Sto}
/-- a list or a tuple that stays -/
inductive FzQ (K : PySem.W.Frag) (fz : Fz) (H : Hp) : Sk → Addr → List V → Prop
  | l {a xs} : FzL K fz H a xs → FzQ K fz H .l a xs
  | t {a xs} : FzT K H a xs → FzQ K fz H .t a xs
theorem FzQ.sq {k : Sk} {a : Addr} {xs : List V} (h : FzQ K fz H k a xs) : k.Sq K H a xs := by
  cases h with
  | l h => exact h.sq
  | t h => exact h.sq
theorem FzQ.sts {fz1 : Fz} {H1 : Hp} {k : Sk} {a : Addr} {xs : List V} (s : Sts sp fz H fz1 H1) (B : Bs sp fz H sto) (h : FzQ K fz H k a xs) : FzQ K fz1 H1 k a xs := by
  cases h with
  | l h => exact .l (FzL.sts s B h)
  | t h => exact .t (FzT.sts s B h)
theorem Im.seqOf {v : V} {x : PyData} {xs : List PyData} (i : Im K fz H v x) (e : Dh.seqOf x = some xs) : ∃ k a vs, v = .ref a ∧ FzQ K fz H k a vs ∧ ImA K fz H vs xs := by
  unfold Dh.seqOf at e
  split at e
  · cases e
    cases i with
    | lst h a => exact ⟨.l, _, _, rfl, .l h, a⟩
  · cases e
    cases i with
    | tup h a => exact ⟨.t, _, _, rfl, .t h, a⟩
  · cases e
theorem goes_z2 {k1 k2 : Sk} {a b : Addr} {vs ws : List V} {xs ys : List PyData} (h1 : FzQ K fz H k1 a vs) (h2 : FzQ K fz H k2 b ws) (m1 : ImA K fz H vs xs) (m2 : ImA K fz H ws ys) (B0 : Bs sp fz H sto) : Goes K sp fz H (Iz2 K k1 k2 a b) (pairs xs ys) := by
  have len : (pairs xs ys).length = min vs.length ws.length := by unfold pairs; rw [List.length_map, List.length_zip, m1.length, m2.length]
  refine ⟨fun i fz1 H1 sto hi s B => ?_, fun fz1 H1 sto s B => ?_, fun i x fz1 H1 sto v H2 hx s B y => ?_⟩
  · rw [len] at hi
    have a1 : i < vs.length := by omega
    have a2 : i < ws.length := by omega
    exact ⟨vs, ws, vs[i], ws[i], (h1.sts s B0).sq, (h2.sts s B0).sq, List.getElem?_eq_getElem a1, List.getElem?_eq_getElem a2⟩
  · exact ⟨vs, ws, (h1.sts s B0).sq, (h2.sts s B0).sq, by rw [len]; omega, by rw [len]; omega, by rw [len]; omega⟩
  · obtain ⟨T, o, v1, v2, rfl, hT, hd, e, g1, g2⟩ := y
    obtain ⟨x1, x2, q1, q2, rfl⟩ := pairs_at hx
    obtain ⟨u1, p1, i1⟩ := m1.at i x1 q1
    obtain ⟨u2, p2, i2⟩ := m2.at i x2 q2
    rw [g1 vs (h1.sts s B0).sq] at p1; cases p1
    rw [g2 ws (h2.sts s B0).sq] at p2; cases p2
    exact pair_new B (i1.sts s B0) (i2.sts s B0) hT hd e
theorem trip_at {xs ys zs : List PyData} {i : Nat} {w : PyData} (h : (trip xs ys zs)[i]? = some w) : ∃ x y z, xs[i]? = some x ∧ ys[i]? = some y ∧ zs[i]? = some z ∧ w = .tuple [x, y, z] := by
  unfold trip at h
  rw [List.getElem?_map] at h
  cases q : (xs.zip (ys.zip zs))[i]? with
  | none => rw [q] at h; cases h
  | some p =>
    rw [q] at h; cases h
    rw [List.getElem?_zip_eq_some] at q
    obtain ⟨q1, q2⟩ := q
    rw [List.getElem?_zip_eq_some] at q2
    exact ⟨p.1, p.2.1, p.2.2, q1, q2.1, q2.2, rfl⟩
theorem goes_z3 {k1 k2 k3 : Sk} {a b d : Addr} {vs ws us : List V} {xs ys zs : List PyData} (h1 : FzQ K fz H k1 a vs) (h2 : FzQ K fz H k2 b ws) (h3 : FzQ K fz H k3 d us) (m1 : ImA K fz H vs xs) (m2 : ImA K fz H ws ys) (m3 : ImA K fz H us zs) (B0 : Bs sp fz H sto) : Goes K sp fz H (Iz3 K k1 k2 k3 a b d) (trip xs ys zs) := by
  have len : (trip xs ys zs).length = min vs.length (min ws.length us.length) := by unfold trip; rw [List.length_map, List.length_zip, List.length_zip, m1.length, m2.length, m3.length]
  refine ⟨fun i fz1 H1 sto hi s B => ?_, fun fz1 H1 sto s B => ?_, fun i x fz1 H1 sto v H2 hx s B y => ?_⟩
  · rw [len] at hi
    have a1 : i < vs.length := by omega
    have a2 : i < ws.length := by omega
    have a3 : i < us.length := by omega
    exact ⟨vs, ws, us, vs[i], ws[i], us[i], (h1.sts s B0).sq, (h2.sts s B0).sq, (h3.sts s B0).sq, List.getElem?_eq_getElem a1, List.getElem?_eq_getElem a2, List.getElem?_eq_getElem a3⟩
  · exact ⟨vs, ws, us, (h1.sts s B0).sq, (h2.sts s B0).sq, (h3.sts s B0).sq, by rw [len]; omega, by rw [len]; omega, by rw [len]; omega, by rw [len]; omega⟩
  · obtain ⟨T, o, v1, v2, v3, rfl, hT, hd, e, g1, g2, g3⟩ := y
    obtain ⟨x1, x2, x3, q1, q2, q3, rfl⟩ := trip_at hx
    obtain ⟨u1, p1, i1⟩ := m1.at i x1 q1
    obtain ⟨u2, p2, i2⟩ := m2.at i x2 q2
    obtain ⟨u3, p3, i3⟩ := m3.at i x3 q3
    rw [g1 vs (h1.sts s B0).sq] at p1; cases p1
    rw [g2 ws (h2.sts s B0).sq] at p2; cases p2
    rw [g3 us (h3.sts s B0).sq] at p3; cases p3
    subst e
    exact new_tup B (.cons (i1.sts s B0) (.cons (i2.sts s B0) (.cons (i3.sts s B0) .nil))) hT hd
end
section
variable {X : Cx} {a b c : Expr} {m : Ma} {p pos tpos : Pos} {elts : List Expr} {kk : Nat}
theorem si_z2 (ha : SA X [a, b] m) (hm : X.mg "zip" = none) (hg : Gl X "zip" := by rfl) (hs : starEach [a, b] X.env = (false, eval a X.env) :: starEach [b] X.env := by rfl) (hpl : (backTo pos (starEach [b] X.env)).any (·.1) = false := by rfl) :
    SI X (.Tuple elts kk tpos) (.Call (.Name "zip" p) [a, b] [] pos) (mArgI zipQ2 m) := PI.imp (pi_z2 hg hm ha hs hpl) fun σ H R h => by
  obtain ⟨C, fz, ρ, sto, xs, sto', F, e, k⟩ := h
  obtain ⟨x, s1, ea, e1⟩ := bnd_some e
  obtain ⟨ef, rfl⟩ := ret_some e1
  clear e e1
  refine ⟨C, fz, ρ, sto, x, _, F, ea, fun v fz1 H1 st1 l1 i1 => ?_⟩
  have B1 := F.bs.step st1 l1
  unfold zipQ2 at ef
  split at ef
  · rename_i y1 y2 hds
    obtain ⟨fz2, st2, B2, g, im⟩ := ImRs.keep i1 hds st1 B1 fz1 st1 B1 fun _ h => h
    split at ef
    · rename_i q1 q2
      cases ef
      cases im with
      | cons j1 t1 =>
        cases t1 with
        | cons j2 t2 =>
          cases t2
          obtain ⟨k1, a1, v1, rfl, f1, m1⟩ := j1.seqOf q1
          obtain ⟨k2, a2, v2, rfl, f2, m2⟩ := j2.seqOf q2
          exact ⟨k1, k2, a1, a2, v1, v2, rfl, f1.sq, f2.sq, k _ fz2 H1 st2 l1 (goes_z2 f1 f2 m1 m2 B2)⟩
    · cases ef
  · cases ef
theorem si_z3 (ha : SA X [a, b, c] m) (hm : X.mg "zip" = none) (hg : Gl X "zip" := by rfl) (hs : starEach [a, b, c] X.env = (false, eval a X.env) :: starEach [b, c] X.env := by rfl) (hpl : (backTo pos (starEach [b, c] X.env)).any (·.1) = false := by rfl) :
    SI X (.Tuple elts kk tpos) (.Call (.Name "zip" p) [a, b, c] [] pos) (mArgI zipQ3 m) := PI.imp (pi_z3 hg hm ha hs hpl) fun σ H R h => by
  obtain ⟨C, fz, ρ, sto, xs, sto', F, e, k⟩ := h
  obtain ⟨x, s1, ea, e1⟩ := bnd_some e
  obtain ⟨ef, rfl⟩ := ret_some e1
  clear e e1
  refine ⟨C, fz, ρ, sto, x, _, F, ea, fun v fz1 H1 st1 l1 i1 => ?_⟩
  have B1 := F.bs.step st1 l1
  unfold zipQ3 at ef
  split at ef
  · rename_i y1 y2 y3 hds
    obtain ⟨fz2, st2, B2, g, im⟩ := ImRs.keep i1 hds st1 B1 fz1 st1 B1 fun _ h => h
    split at ef
    · rename_i q1 q2 q3
      cases ef
      cases im with
      | cons j1 t1 =>
        cases t1 with
        | cons j2 t2 =>
          cases t2 with
          | cons j3 t3 =>
            cases t3
            obtain ⟨k1, a1, v1, rfl, f1, m1⟩ := j1.seqOf q1
            obtain ⟨k2, a2, v2, rfl, f2, m2⟩ := j2.seqOf q2
            obtain ⟨k3, a3, v3, rfl, f3, m3⟩ := j3.seqOf q3
            exact ⟨k1, k2, k3, a1, a2, a3, v1, v2, v3, rfl, f1.sq, f2.sq, f3.sq, k _ fz2 H1 st2 l1 (goes_z3 f1 f2 f3 m1 m2 m3 B2)⟩
    · cases ef
  · cases ef
end
end Dh
namespace Dh
open PySem PySem.Spec PyProof.Rows L2 PySem.W
/-- fresh lists are not one another -/
def Dst (vs : List V) (rs : List R) : Prop := ∀ (i j : Nat) (a : Addr) (xs ys : List PyData), i < j → vs[i]? = some (.ref a) → rs[i]? = some (.f xs) → rs[j]? = some (.f ys) → vs[j]? ≠ some (.ref a)
def rdA2 (K : PySem.W.Frag) (m : Ma) : TA := fun σ H Q => ∃ (C : Cn) (fz : Fz) (ρ : Ev) (sto : Sto) (r : List R) (sto' : Sto), Fm K C fz ρ sto σ H ∧ m ρ sto = some (r, sto') ∧
  ∀ vs fz' H', Stp C.sp fz H fz' H' → SpL C.sp H' sto' → ImRs K C.sp H fz' H' vs r → Dst vs r → Q vs H'
def SA2 (X : Cx) (es : List Expr) (m : Ma) : Prop := PA X es (rdA2 X.K m)
theorem ImRs.at {K : PySem.W.Frag} {sp : Option Addr} {fz1 : Fz} {H H1 : Hp} : ∀ {vs : List V} {rs : List R}, ImRs K sp H fz1 H1 vs rs → ∀ (i : Nat) (r : R), rs[i]? = some r → ∃ v, vs[i]? = some v ∧ ImR K sp H fz1 H1 v r
  | _, _, .nil, i, x, h => by simp at h
  | _, _, .cons h t, 0, x, e => by
    simp only [List.getElem?_cons_zero, Option.some.injEq] at e
    subst e
    exact ⟨_, rfl, h⟩
  | _, _, .cons h t, i + 1, x, e => by
    simp only [List.getElem?_cons_succ] at e ⊢
    exact ImRs.at t i x e
section
variable {X : Cx} {e : Expr} {es : List Expr} {me : Mx} {mr : Ma}
theorem sa2_nil : SA2 X [] maNil := PA.imp pa_nil fun σ H Q h => by
  obtain ⟨C, fz, ρ, sto, r, sto', F, e, k⟩ := h
  cases e
  exact k [] fz H .refl F.bs.spl .nil fun i j a xs ys _ h => by simp at h
theorem sa2_cons (he : SE X e me) (hr : SA2 X es mr) (hs : starEach (e :: es) X.env = (false, eval e X.env) :: starEach es X.env := by rfl) : SA2 X (e :: es) (maCons me mr) := PA.imp (pa_cons he hr hs) fun σ H Q h => by
  obtain ⟨C, fz, ρ, sto, r, sto', F, e, k⟩ := h
  obtain ⟨x, s1, ea, e⟩ := bnd_some e
  obtain ⟨xs, s2, eb, e⟩ := bnd_some e
  cases e
  refine ⟨C, fz, ρ, sto, x, s1, F, ea, fun v fz1 H1 st1 l1 i1 => ?_⟩
  refine ⟨C, fz1, ρ, s1, xs, sto', F.step st1 l1, eb, fun vs fz2 H2 st2 l2 i2 d2 => ?_⟩
  refine k (v :: vs) fz2 H2 (st1.trans st2) l2 (.cons (i1.stp st2 (F.bs.step st1 l1)) (i2.early st1)) fun i j a ys zs hij h1 h2 h3 h4 => ?_
  cases j with
  | zero => omega
  | succ j =>
    rw [List.getElem?_cons_succ] at h3 h4
    cases i with
    | zero =>
      rw [List.getElem?_cons_zero] at h1 h2
      cases h1
      cases h2
      obtain ⟨b, ws, eb, g1, _⟩ := i1
      cases eb
      obtain ⟨w, g2, g3⟩ := i2.at j _ h3
      rw [g2] at h4
      cases h4
      obtain ⟨b, ws, eb, _, _, _, _, g4⟩ := g3
      cases eb
      rw [g1] at g4
      cases g4
    | succ i =>
      rw [List.getElem?_cons_succ] at h1 h2
      exact d2 i j a ys zs (by omega) h1 h2 h3 h4
end
/-- x, y, z = two fresh lists that stay as they are, a fresh list -/
def mPar3f (i j l : Nat) (a : Ma) : Ms := fun ρ s => match a ρ s with
  | some ([.f c, .f d, .f f], s1) => some (.nx, ((ρ.set i (some (.d (.list c)))).set j (some (.d (.list d)))).set l (some (.o f)), s1)
  | _ => none
end Dh
namespace Dh
open PySem PySem.Spec PyProof.Rows L2 PySem.W
def mPar2f (i j : Nat) (a : Ma) : Ms := fun ρ s => match a ρ s with
  | some ([.f c, .f d], s1) => some (.nx, (ρ.set i (some (.o c))).set j (some (.o d)), s1)
  | _ => none
section
variable {X : Cx} {i j : Nat} {x y : Str} {a b : Expr} {m : Ma} {px py pt pos : Pos} {kt k2 pt2}
theorem ss_par2f (hc : X.calm = true) (hN : X.N.Nodup) (ha : SA2 X [a, b] m) (hi : X.N[i]? = some x := by rfl) (hj : X.N[j]? = some y := by rfl) (hij : i ≠ j := by decide)
    (hx : X.env.scope.names.lookup x = some .local := by rfl) (hy : X.env.scope.names.lookup y = some .local := by rfl)
    (hw : swappedStores [.Tuple [.Name x px, .Name y py] kt pt] (.Tuple [a, b] k2 pt2) X.env = pure (some [x, y]) := by rfl)
    (hs : swapsWithSole [.Tuple [.Name x px, .Name y py] kt pt] (.Tuple [a, b] k2 pt2) pos.line X.env = pure false := by rfl) :
    SS X (.Assign [.Tuple [.Name x px, .Name y py] kt pt] (.Tuple [a, b] k2 pt2) pos) (mPar2f i j m) := PS.impI (ps_par hc hN hi hj hij hx hy ha hw hs) fun D σ H hl h => by
  obtain ⟨C, fz, ρ, sto, out, ρ', sto', F, e, k⟩ := h
  have hi' := lt_of_slot hi hl
  have hj' := lt_of_slot hj hl
  unfold mPar2f at e
  split at e
  · rename_i c1 d1 s1 e1
    cases e
    refine ⟨C, fz, ρ, sto, _, _, F, e1, fun vs fz1 H1 st1 l1 i1 dd => ?_⟩
    cases i1 with
    | cons iv t =>
      cases t with
      | cons iw t =>
        cases t
        rename_i v w
        refine ⟨v, w, rfl, ?_⟩
        have F1 := F.give st1 l1 iv (c := .o c1) rfl hi'
        obtain ⟨p, vs1, rfl, a1, a2, a3, a4, a5⟩ := iv
        obtain ⟨q, vs2, rfl, b1, b2, b3, b4, b5⟩ := iw
        have npq : q ≠ p := fun e => dd 0 1 p c1 d1 (by decide) rfl rfl rfl (by rw [e]; rfl)
        refine k fz1 _ H1 (F1.put j (by rw [List.length_set]; exact hj') ⟨q, vs2, List.getElem?_set_self (by rw [List.length_set]; exact hj'), b1, b2, b3, b4, F.st.back b4 b5⟩ ?_) st1.sts
        intro xs a ec ev n ys hn g1 g2
        cases ev
        by_cases en : n = i
        · subst en
          rw [List.getElem?_set_self hi'] at g2
          cases g2
          exact npq rfl
        · rw [List.getElem?_set_ne (Ne.symm en)] at g1 g2
          obtain ⟨b, ws, q1, q2, _⟩ := F.owned g1
          rw [g2] at q1; cases q1
          rw [b5] at q2; cases q2
  · cases e
end
end Dh
namespace Dh
open PySem PySem.Spec PyProof.Rows L2 PySem.W
/-- three values given at once: data, fresh lists -/
def mPar3g (i j l : Nat) (a : Ma) : Ms := fun ρ s => match a ρ s with
  | some ([r, q, u], s1) => match toCl r, toCl q, toCl u with
    | some c, some d, some f => some (.nx, ((ρ.set i (some c)).set j (some d)).set l (some f), s1)
    | _, _, _ => none
  | _ => none
end Dh
namespace Dh
open PySem PySem.Spec PyProof.Rows L2 PySem.W
end Dh
namespace Dh
open PySem PySem.Spec PyProof.Rows L2
end Dh
namespace Dh
open PySem PySem.Spec L2
theorem ImK.isSome {K : PySem.W.Frag} {fz : Fz} {H : Hp} {kvs : List (Key × V)} {acc : List (Key × PyData)} {k : Key} (im : ImK K fz H kvs acc) : (valV kvs k).isSome = (valP acc k).isSome := by
  obtain ⟨g1, g2⟩ := im.val (k := k)
  cases q : valV kvs k with
  | none => rw [g2 q]; rfl
  | some v =>
    obtain ⟨d, e, _⟩ := g1 v q
    rw [e]; rfl
end Dh
namespace Dh
open PySem PySem.Spec L2
end Dh
namespace Dh
open PySem PySem.Spec L2
end Dh
namespace Dh
open PySem PySem.Spec L2
def rIdxT (K : PySem.W.Frag) : V → List V → Hp → VK → Prop := fun x xs H Q => ∃ (t : Addr) (y : V) (d : PyData) (ds : List PyData) (j : Nat) (z : PyData), x = V.ref t ∧ xs = [y] ∧ Dp K H (V.ref t) (.tuple ds) ∧ Dp K H y d ∧
  eqOk (.tuple ds) = true ∧ eqOk d = true ∧ ds[j]? = some z ∧ PyData.eqv z d = true ∧ (∀ i w, i < j → ds[i]? = some w → PyData.eqv w d = false) ∧ Q (.int (j : Nat)) H
section
variable {X : Cx}
theorem mt_idxT (room : X.A.units + 65 < cLine) : MtR X "tuple.index" (rIdxT X.K) := by
  rintro pins s σ H x xs v us Q I rx rxs ⟨t, y, d, ds, j, z, rfl, rfl, dt, dy, okt, okd, at_j, eq_j, before, q⟩
  have lay_t : PyData.canLayAll0 ds = true := SeqAt.canLay_of_shaped (eqOk_of2 okt).2
  have lay_d := SeqAt.canLay_of_shaped (eqOk_of2 okd).2
  have fits : X.A.units + 1 + min (PyData.depthAll ds) d.depth < cLine := by
    have h1 := SeqAt.depth_of_shaped (eqOk_of2 okd).2
    have h2 := Nat.min_le_right (PyData.depthAll ds) d.depth
    omega
  cases rx
  match us, rxs with
  | [uy], .cons ry .nil =>
    obtain ⟨bs, read_y⟩ := Dp.reads I d y uy dy ry
    cases dt with
    | tup hs ha =>
      obtain ⟨items, vals, plain, size⟩ := I.tuple hs
      obtain ⟨⟨cls, dict, data, slots⟩, stands, is_tup, n, is_seq⟩ := plain
      simp only at is_tup is_seq
      subst is_tup
      subst is_seq
      obtain ⟨as, all_read⟩ := Dp.readsAll I ds _ items ha vals
      have len : items.length = ds.length := SeqAt.ReadsAll.length ds items as all_read
      have same : items.map (SeqAt.readOf s.heap) = ds := SeqAt.readsAll_map ds items as lay_t all_read
      have read_at : ∀ (i : Nat) (hi : i < items.toArray.size), ds[i]? = some (SeqAt.readOf s.heap items.toArray[i]) := fun i hi => by
        have hi' : i < items.length := by simpa using hi
        rw [← same, List.getElem?_map, List.getElem?_eq_getElem hi']
        simp
      have jl : j < items.toArray.size := by
        have := (List.getElem?_eq_some_iff.mp at_j).1
        simp
        omega
      refine call_meets PySem.F.slot_tuple_index ⟨_, stands, rfl⟩ PySem.F.entry_tuple_index (PySem.F.args_tuple_index_2 _ _)
        (TI.tuple_indexAt t items.toArray n dict slots uy (fun u => PyData.eqv (SeqAt.readOf s.heap u) d) j jl ?_ ?_)
        ⟨stands, SeqAt.items_eqAt (vs := items.toArray) all_read read_y lay_t lay_d fits, ⟨.int (j : Nat), H, I.tok _, ⟨_, rfl⟩, q⟩⟩
      · have r := read_at j jl
        rw [at_j] at r
        cases r
        exact eq_j
      · intro i hi hij
        exact before i _ hij (read_at i hi)
end
end Dh
namespace Dh
open PySem PySem.Spec L2
section
variable {X : Cx} {p pos apos cpos : Pos} {e o : Expr} {es : List Expr} {m : Ma} {mo me : Mx} {kk : Nat}
def fIdxT : R → R → Option R := fun x y => match x, rdD y with
  | .d (.tuple ds), some d => if eqOk (.tuple ds) = true ∧ eqOk d = true then (ds.findIdx? fun z => PyData.eqv z d).map fun j => .d (.int (j : Nat)) else none
  | _, _ => none
theorem findIdx_spec {p : PyData → Bool} : ∀ {ds : List PyData} {j : Nat}, ds.findIdx? p = some j → ∃ z, ds[j]? = some z ∧ p z = true ∧ ∀ i w, i < j → ds[i]? = some w → p w = false := fun {ds j} h => by
  obtain ⟨h1, h2, h3⟩ := List.findIdx?_eq_some_iff_getElem.mp h
  refine ⟨ds[j], List.getElem?_eq_getElem h1, h2, fun i w hi hw => ?_⟩
  obtain ⟨l, rfl⟩ := List.getElem?_eq_some_iff.mp hw
  have := h3 i hi
  simpa using this
theorem se_idxT (hr : Room kk X.A) (ho : SE X o mo) (he : SE X e me) (hse : starEach [e] X.env = (false, eval e X.env) :: starEach [] X.env := by rfl) (hbase : attributeBase o "index" X.env (eval o X.env) = eval o X.env := by rfl)
    (hfew : ((backTo cpos (starEach [e] X.env)).all (fun x => !x.1) && (backToKw cpos (keywordEach [] X.env)).all (fun x => x.1.isSome)
      && decide (([e] : List Expr).length + ([] : List Keyword).length + (if ([] : List Keyword).isEmpty then 0 else 1) < 30)) = true := by rfl)
    (hline : (apos.endLine == cpos.line) = true := by rfl) : SE X (.Call (.Attribute o "index" apos) [e] [] cpos) (m2 fIdxT mo me) :=
  PE.imp (pe_bmT PySem.F.plainAttrs_tuple PySem.F.slot_tuple_index PySem.F.type_tuple_index (mt_idxT (units65 hr)) ho (pa_cons he pa_nil hse) hbase hfew hline hse) fun σ H Q h => by
  obtain ⟨C, fz, ρ, sto, z, sto', F, e, k⟩ := h
  obtain ⟨x, s1, ea, e1⟩ := bnd_some e
  obtain ⟨y, s2, eb, e2⟩ := bnd_some e1
  obtain ⟨ef, rfl⟩ := ret_some e2
  clear e e1 e2
  refine ⟨C, fz, ρ, sto, x, s1, F, ea, fun v fz1 H1 st1 l1 i1 => ?_⟩
  unfold fIdxT at ef
  split at ef
  · rename_i ds d ed
    split at ef
    · rename_i hz
      obtain ⟨j, hj, rfl⟩ := Option.map_eq_some_iff.mp ef
      obtain ⟨a, vs, rfl, hf, im⟩ := i1.tupF
      refine ⟨?_, C, fz1, ρ, s1, y, _, F.step st1 l1, eb, fun w fz2 H2 st2 l2 i2 => ?_⟩
      · rcases hf with ⟨o, h1, h2⟩ | ⟨o, its, n, h1, h2, h3, _⟩
        · exact .inl ⟨a, o, vs, rfl, h1, h2⟩
        · exact .inr ⟨a, o, rfl, h1, h2, h3⟩
      · have B1 := (F.step st1 l1).bs
        have i3 := i1.stp st2 B1
        obtain ⟨q1, q2⟩ := eqOk_of2 hz.1
        obtain ⟨q3, q4⟩ := eqOk_of2 hz.2
        obtain ⟨z, g1, g2, g3⟩ := findIdx_spec hj
        exact ⟨a, w, d, ds, j, z, rfl, rfl, i3.dp rfl q1, i2.dp ed q3, hz.1, hz.2, g1, g2, g3, k _ fz2 H2 (st1.trans st2) l2 (.int _)⟩
    · cases ef
  · cases ef
end
end Dh
namespace Dh
open PySem PySem.Spec L2
end Dh
namespace Dh
open PySem PySem.Spec L2 PySem.W PyProof.Rows
theorem Sk.ext {k : Sk} {K : PySem.W.Frag} {H H' : Hp} {a : Addr} {xs : List V} (h : k.Sq K H a xs) (e : ∀ c o, H c = some o → H' c = some o) : k.Sq K H' a xs := by
  cases k with
  | l =>
    rcases (show SqL K H a xs from h) with (h | ⟨o, h⟩) | h
    · exact .inl (.inl (e _ _ h))
    · exact .inl (.inr ⟨o, e _ _ h⟩)
    · exact .inr h
  | t =>
    rcases (show SqT K H a xs from h) with (h | ⟨o, h⟩) | h
    · exact .inl (.inl (e _ _ h))
    · exact .inl (.inr ⟨o, e _ _ h⟩)
    · exact .inr h
def fLz (rs : List R) : Option R := match zipQ2 rs with
  | some ps => if ps.length ≤ 1000000 then some (.f ps) else none
  | none => none
end Dh
namespace Dh
open PySem PySem.Spec L2 PySem.W
/-- a mark: what it stands for is left as it is -/
inductive Tg {α : Type} (a : α) : Type
  | mk : Tg a
def WO {α : Type} (x : Option α) (Q : α → Prop) (_t : Tg Q := .mk) : Prop := ∃ z, x = some z ∧ Q z
def WX (m : Mx) (ρ : Ev) (s : Sto) (Q : R → Sto → Prop) (_t : Tg (m, Q) := .mk) : Prop := ∃ r s', m ρ s = some (r, s') ∧ Q r s'
def WT (m : Mt) (ρ : Ev) (s : Sto) (Q : Bool → Sto → Prop) (_t : Tg (m, Q) := .mk) : Prop := ∃ r s', m ρ s = some (r, s') ∧ Q r s'
def WA (m : Ma) (ρ : Ev) (s : Sto) (Q : List R → Sto → Prop) (_t : Tg (m, Q) := .mk) : Prop := ∃ r s', m ρ s = some (r, s') ∧ Q r s'
def WI (m : Mi) (ρ : Ev) (s : Sto) (Q : List PyData → Sto → Prop) (_t : Tg (m, Q) := .mk) : Prop := ∃ r s', m ρ s = some (r, s') ∧ Q r s'
def WN (m : Mo) (ρ : Ev) (s : Sto) (Q : Option Int → Sto → Prop) (_t : Tg (m, Q) := .mk) : Prop := ∃ r s', m ρ s = some (r, s') ∧ Q r s'
def WS (m : Ms) (ρ : Ev) (s : Sto) (Q : Out → Ev → Sto → Prop) (_t : Tg (m, Q) := .mk) : Prop := ∃ o ρ' s', m ρ s = some (o, ρ', s') ∧ Q o ρ' s'
def WF (g : Fx) (cs : List Cl) (s : Sto) (Q : R → Sto → Prop) (_t : Tg (g, Q) := .mk) : Prop := ∃ r s', g cs s = some (r, s') ∧ Q r s'
def WFor (g : Gx) (body : Ms) (xs : List PyData) (ρ : Ev) (s : Sto) (Q : Out → Ev → Sto → Prop) (_t : Tg (g, body, Q) := .mk) : Prop := WS (forRun g body xs) ρ s Q
def WWh (c : Mt) (body : Ms) (ρ : Ev) (s : Sto) (Q : Out → Ev → Sto → Prop) (_t : Tg (c, body, Q) := .mk) : Prop := WS (mWhile c body) ρ s Q
def WLc (vs : List Nat) (g : Gx) (t : Mt) (e : Mx) (xs : List PyData) (ρ : Ev) (s : Sto) (Q : List PyData → Sto → Prop) (_t : Tg (vs, g, t, e, Q) := .mk) : Prop := ∃ ys s', lcRun vs g t e xs ρ s = some (ys, s') ∧ Q ys s'
def WLc2 (vs vs1 : List Nat) (g : Gx) (t : Mt) (it1 : Mi) (g1 : Gx) (t1 : Mt) (e : Mx) (xs : List PyData) (ρ : Ev) (s : Sto) (Q : List PyData → Sto → Prop) (_t : Tg (vs, vs1, g, t, it1, g1, t1, e, Q) := .mk) : Prop := ∃ ys s', lcRun2 vs vs1 g t it1 g1 t1 e xs ρ s = some (ys, s') ∧ Q ys s'
def IfK (k : Bool) (A B : Prop) (_t : Tg (A, B) := .mk) : Prop := if k = true then A else B
def seqK (b : Ms) (Q : Out → Ev → Sto → Prop) : Out → Ev → Sto → Prop
  | .nx, ρ, s => WS b ρ s Q
  | o, ρ, s => Q o ρ s
def loopK (J : Ev → Sto → Prop) (Q : Out → Ev → Sto → Prop) : Out → Ev → Sto → Prop
  | .nx, ρ, s => J ρ s
  | .ct, ρ, s => J ρ s
  | .bk, ρ, s => Q .nx ρ s
  | .rt r, ρ, s => Q (.rt r) ρ s
def getC : Ev → Nat → Option Cl
  | [], _ => none
  | c :: _, 0 => c
  | _ :: ρ, n + 1 => getC ρ n
/-- the end of a def -/
def endK (Q : R → Sto → Prop) : Out → Ev → Sto → Prop
  | .rt r, _, s => Q r s
  | .nx, _, s => Q (.d .none) s
  | _, _, _ => False
def boolK (r : R) : Option Bool := match r with | .d (.bool k) => some k | _ => none
def retK (r : R) : Option R := match r with | .d x => some (.d x) | .f x => some (.f x) | _ => none
def intK (r : R) : Option Int := match r with | .d (.int k) => some k | _ => none
def retVK (c : Cl) : Option R := match c with | .d x => some (.d x) | .o x => some (.f x) | _ => none
def ownK (c : Cl) : Option (List PyData) := match c with | .o x => some x | _ => none
@[simp] theorem ex2 {α β : Type} {z : α} {s : β} {K : α → β → Prop} : (∃ r s', (z = r ∧ s = s') ∧ K r s') ↔ K z s := ⟨fun ⟨_, _, ⟨rfl, rfl⟩, k⟩ => k, fun k => ⟨_, _, ⟨rfl, rfl⟩, k⟩⟩
@[simp] theorem ex2' {α β : Type} {z : α} {s : β} {K : α → β → Prop} : (∃ r s', (r = z ∧ s = s') ∧ K r s') ↔ K z s := ⟨fun ⟨_, _, ⟨rfl, rfl⟩, k⟩ => k, fun k => ⟨_, _, ⟨rfl, rfl⟩, k⟩⟩
@[simp] theorem ex3 {α β γ : Type} {z : α} {s : β} {t : γ} {K : α → β → γ → Prop} : (∃ r s' t', (z = r ∧ s = s' ∧ t = t') ∧ K r s' t') ↔ K z s t := ⟨fun ⟨_, _, _, ⟨rfl, rfl, rfl⟩, k⟩ => k, fun k => ⟨_, _, _, ⟨rfl, rfl, rfl⟩, k⟩⟩
@[simp] theorem ex3' {α β γ : Type} {z : α} {s : β} {t : γ} {K : α → β → γ → Prop} : (∃ r s' t', (r = z ∧ s = s' ∧ t = t') ∧ K r s' t') ↔ K z s t := ⟨fun ⟨_, _, _, ⟨rfl, rfl, rfl⟩, k⟩ => k, fun k => ⟨_, _, _, ⟨rfl, rfl, rfl⟩, k⟩⟩
section rules
variable {α : Type} {ρ : Ev} {s : Sto} {i j : Nat} {a b : Mx} {ta tb : Mt} {as : Ma} {ma mb : Ms} {mo mo' : Mo} {it : Mi} {d : PyData}
variable {Q : R → Sto → Prop} {QT : Bool → Sto → Prop} {QA : List R → Sto → Prop} {QI : List PyData → Sto → Prop} {QS : Out → Ev → Sto → Prop} {QN : Option Int → Sto → Prop}
@[simp] theorem WO_some {z : α} {Q : α → Prop} : WO (some z) Q = Q z := by simp [WO]
@[simp] theorem WO_none {Q : α → Prop} : WO none Q = False := by simp [WO]
@[simp] theorem WO_ite {c : Prop} [Decidable c] {x : Option α} {Q : α → Prop} : WO (if c then x else none) Q = (c ∧ WO x Q) := by
  by_cases h : c <;> simp [h]
@[simp] theorem IfK_true {A B : Prop} : IfK true A B = A := by simp [IfK]
@[simp] theorem IfK_false {A B : Prop} : IfK false A B = B := by simp [IfK]
@[simp] theorem seqK_nx : seqK mb QS .nx ρ s = WS mb ρ s QS := rfl
@[simp] theorem seqK_bk : seqK mb QS .bk ρ s = QS .bk ρ s := rfl
@[simp] theorem seqK_ct : seqK mb QS .ct ρ s = QS .ct ρ s := rfl
@[simp] theorem seqK_rt {r : R} : seqK mb QS (.rt r) ρ s = QS (.rt r) ρ s := rfl
@[simp] theorem loopK_nx {J : Ev → Sto → Prop} : loopK J QS .nx ρ s = J ρ s := rfl
@[simp] theorem loopK_ct {J : Ev → Sto → Prop} : loopK J QS .ct ρ s = J ρ s := rfl
@[simp] theorem loopK_bk {J : Ev → Sto → Prop} : loopK J QS .bk ρ s = QS .nx ρ s := rfl
@[simp] theorem loopK_rt {J : Ev → Sto → Prop} {r : R} : loopK J QS (.rt r) ρ s = QS (.rt r) ρ s := rfl
@[simp] theorem endK_rt {r : R} : endK Q (.rt r) ρ s = Q r s := rfl
@[simp] theorem endK_nx : endK Q .nx ρ s = Q (.d .none) s := rfl
@[simp] theorem getC_0 {c : Option Cl} : getC (c :: ρ) 0 = c := rfl
@[simp] theorem getC_s {c : Option Cl} {n : Nat} : getC (c :: ρ) (n + 1) = getC ρ n := rfl
@[simp] theorem boolK_b {k : Bool} : boolK (.d (.bool k)) = some k := rfl
@[simp] theorem retK_d : retK (.d d) = some (.d d) := rfl
@[simp] theorem retK_f {xs : List PyData} : retK (.f xs) = some (.f xs) := rfl
@[simp] theorem intK_i {k : Int} : intK (.d (.int k)) = some k := rfl
@[simp] theorem retVK_d : retVK (.d d) = some (.d d) := rfl
@[simp] theorem retVK_o {xs : List PyData} : retVK (.o xs) = some (.f xs) := rfl
@[simp] theorem ownK_o {xs : List PyData} : ownK (.o xs) = some xs := rfl
theorem getC_eq : ∀ (ρ : Ev) (i : Nat), getC ρ i = (ρ[i]?).join
  | [], _ => rfl
  | c :: ρ, 0 => by cases c <;> rfl
  | c :: ρ, n + 1 => by rw [getC_s, List.getElem?_cons_succ, getC_eq ρ n]
theorem getC_of {c : Cl} (h : ρ[i]? = some (some c)) : getC ρ i = some c := by rw [getC_eq, h]; rfl
theorem of_getC {c : Cl} (h : getC ρ i = some c) : ρ[i]? = some (some c) := by
  rw [getC_eq] at h
  cases q : ρ[i]? with
  | none => rw [q] at h; cases h
  | some x => rw [q] at h; exact congrArg some h
@[simp ↓] theorem wx_m1 {f : R → Option R} : WX (m1 f a) ρ s Q = WX a ρ s fun x s1 => WO (f x) fun z => Q z s1 := by
  apply propext
  unfold WX WO
  rw [ev_m1]
  rcases a ρ s with _ | ⟨x, s1⟩
  · simp
  · simp only [Option.some.injEq, Prod.mk.injEq]
    constructor
    · rintro ⟨r, s', e, q⟩
      cases h : f x with
      | none => simp [ret, h] at e
      | some z =>
        simp [ret, h] at e
        obtain ⟨rfl, rfl⟩ := e
        exact ⟨x, s1, ⟨rfl, rfl⟩, z, h, q⟩
    · rintro ⟨_, _, ⟨rfl, rfl⟩, z, h, q⟩
      exact ⟨z, s1, by simp [ret, h], q⟩
theorem wbnd {β γ : Type} {m : Ev → Sto → Option (β × Sto)} {f : β → Ev → Sto → Option (γ × Sto)} {K : γ → Sto → Prop} : (∃ r s', bnd m f ρ s = some (r, s') ∧ K r s') = ∃ x s1, m ρ s = some (x, s1) ∧ ∃ r s', f x ρ s1 = some (r, s') ∧ K r s' := by
  apply propext
  rw [ev_bnd]
  rcases m ρ s with _ | ⟨x, s1⟩
  · simp
  · simp
theorem wret {x : Option α} {K : α → Sto → Prop} : (∃ r s', ret x s = some (r, s') ∧ K r s') = WO x fun z => K z s := by
  apply propext
  unfold WO
  cases x with
  | none => simp [ret]
  | some z => simp [ret]
@[simp ↓] theorem wx_m2 {f : R → R → Option R} : WX (m2 f a b) ρ s Q = WX a ρ s fun x s1 => WX b ρ s1 fun y s2 => WO (f x y) fun z => Q z s2 := by
  unfold WX m2
  simp only [wbnd, wret]
@[simp ↓] theorem wx_mA {f : List R → Option R} : WX (mA f as) ρ s Q = WA as ρ s fun x s1 => WO (f x) fun z => Q z s1 := by
  unfold WX WA mA
  simp only [wbnd, wret]
@[simp ↓] theorem wa_nil : WA maNil ρ s QA = QA [] s := by
  unfold WA maNil
  simp
@[simp ↓] theorem wa_cons : WA (maCons a as) ρ s QA = WX a ρ s fun x s1 => WA as ρ s1 fun xs s2 => QA (x :: xs) s2 := by
  unfold WA WX maCons
  simp only [wbnd]
  simp
@[simp ↓] theorem wx_var : WX (mVar i) ρ s Q = WO (getC ρ i) fun c => Q (rdCl c) s := by
  apply propext
  unfold WX WO
  rw [ev_mVar]
  constructor
  · rintro ⟨r, s', e, q⟩
    split at e
    · rename_i c hc
      cases e
      exact ⟨c, getC_of hc, q⟩
    · cases e
  · rintro ⟨c, hc, q⟩
    exact ⟨rdCl c, s, by rw [of_getC hc], q⟩
@[simp ↓] theorem wx_kon : WX (mKon d) ρ s Q = Q (.d d) s := by
  unfold WX
  simp
@[simp ↓] theorem wx_ix : WX (mIx a b) ρ s Q = WX a ρ s fun x s1 => WX b ρ s1 fun y s2 => WO (fIx s2 x y) fun z => Q z s2 := by
  apply propext
  unfold WX WO
  rw [ev_mIx]
  rcases a ρ s with _ | ⟨x, s1⟩
  · simp
  · dsimp only
    rcases hb : b ρ s1 with _ | ⟨y, s2⟩
    · simp [hb]
    · dsimp only
      rcases hf : fIx s2 x y with _ | z
      · simp [hb, hf]
      · simp [hb, hf]
@[simp ↓] theorem wx_call {g : Fx} : WX (mCall g as) ρ s Q = WA as ρ s fun rs s1 => WO (toArgs rs) fun cs => WF g cs s1 Q := by
  apply propext
  unfold WX WA WO WF
  rw [ev_mCall]
  rcases as ρ s with _ | ⟨x, s1⟩
  · simp
  · dsimp only
    rcases h : toArgs x with _ | cs <;> simp [h]
@[simp ↓] theorem wx_callK {g : Fx} {π : List Nat} {n : Nat} : WX (mCallK g π n as) ρ s Q = WA as ρ s fun rs s1 => WO (toArgs rs) fun cs => cs.length = n ∧ WF g (perm (.d .none) π cs) s1 Q := by
  apply propext
  unfold WX WA WO WF mCallK
  rw [ev_bnd]
  rcases as ρ s with _ | ⟨x, s1⟩
  · simp
  · dsimp only
    rcases h0 : toArgs x with _ | cs
    · simp [h0]
    · dsimp only
      by_cases h : cs.length = n <;> simp [h, h0]
def callNK (rs : List R) : Option (Sto × List Cl) := match rs with
  | .f xs :: r => match stoOf xs, onlyD r with
    | some s0, some cs => some (s0, cs)
    | _, _ => none
  | _ => none
@[simp ↓] theorem wx_callN {g : Fx} : WX (mCallN g as) ρ s Q = WA as ρ s fun rs s1 => WO (callNK rs) fun p => WF g (.s :: p.2) p.1 fun r _ => WO (retK r) fun r' => Q r' s1 := by
  apply propext
  unfold WX WA WO WF mCallN callNK
  rw [ev_bnd]
  rcases as ρ s with _ | ⟨x, s1⟩
  · simp
  · dsimp only
    cases x with
    | nil => simp
    | cons r rs =>
      cases r with
      | f xs =>
        dsimp only
        rcases h0 : stoOf xs with _ | s0
        · simp [h0]
        · rcases h1 : onlyD rs with _ | cs
          · simp [h0, h1]
          · dsimp only
            rcases hg : g (.s :: cs) s0 with _ | ⟨z, s2⟩
            · simp [hg, h0, h1]
            · cases z <;> simp [hg, h0, h1, retK]
      | _ => simp
@[simp ↓] theorem wt_bT : WT (bT a) ρ s QT = WX a ρ s fun r s1 => WO (boolK r) fun k => QT k s1 := by
  apply propext
  unfold WT WX WO
  rw [ev_bT]
  rcases a ρ s with _ | ⟨x, s1⟩
  · simp
  · cases x with
    | d z =>
      cases z with
      | bool k => cases k <;> simp [boolK]
      | _ => simp [boolK]
    | _ => simp [boolK]
@[simp ↓] theorem wt_and : WT (tAnd2 ta tb) ρ s QT = WT ta ρ s fun k s1 => IfK k (WT tb ρ s1 QT) (QT false s1) := by
  apply propext
  unfold WT
  rw [ev_tAnd2]
  rcases ta ρ s with _ | ⟨_ | _, s1⟩ <;> simp
@[simp ↓] theorem wt_or : WT (tOr2 ta tb) ρ s QT = WT ta ρ s fun k s1 => IfK k (QT true s1) (WT tb ρ s1 QT) := by
  apply propext
  unfold WT
  rw [ev_tOr2]
  rcases ta ρ s with _ | ⟨_ | _, s1⟩ <;> simp
@[simp ↓] theorem wt_not : WT (tNot2 ta) ρ s QT = WT ta ρ s fun k s1 => QT (!k) s1 := by
  apply propext
  unfold WT
  rw [ev_tNot2]
  rcases ta ρ s with _ | ⟨_ | _, s1⟩ <;> simp
@[simp ↓] theorem wt_yes : WT mYes ρ s QT = QT true s := by
  unfold WT
  simp
@[simp ↓] theorem wx_if : WX (mIf ta a b) ρ s Q = WT ta ρ s fun k s1 => IfK k (WX a ρ s1 Q) (WX b ρ s1 Q) := by
  apply propext
  unfold WX WT
  rw [ev_mIf]
  rcases ta ρ s with _ | ⟨_ | _, s1⟩ <;> simp
@[simp ↓] theorem wx_and : WX (mAnd a b) ρ s Q = WX a ρ s fun r s1 => WO (boolK r) fun k => IfK k (WX b ρ s1 Q) (Q (.d (.bool false)) s1) := by
  apply propext
  unfold WX WO
  rw [ev_mAnd]
  rcases a ρ s with _ | ⟨x, s1⟩
  · simp
  · cases x with
    | d z =>
      cases z with
      | bool k => cases k <;> simp [boolK]
      | _ => simp [boolK]
    | _ => simp [boolK]
@[simp ↓] theorem wx_or : WX (mOr a b) ρ s Q = WX a ρ s fun r s1 => WO (boolK r) fun k => IfK k (Q (.d (.bool true)) s1) (WX b ρ s1 Q) := by
  apply propext
  unfold WX WO
  rw [ev_mOr]
  rcases a ρ s with _ | ⟨x, s1⟩
  · simp
  · cases x with
    | d z =>
      cases z with
      | bool k => cases k <;> simp [boolK]
      | _ => simp [boolK]
    | _ => simp [boolK]
@[simp ↓] theorem wn_none : WN moNone ρ s QN = QN none s := by
  unfold WN moNone
  simp
@[simp ↓] theorem wn_some : WN (moSome a) ρ s QN = WX a ρ s fun r s1 => WO (intK r) fun k => QN (some k) s1 := by
  unfold WN WX moSome
  simp only [wbnd, wret]
  apply propext
  constructor
  · rintro ⟨x, s1, e, h⟩
    refine ⟨x, s1, e, ?_⟩
    cases x with
    | d z => cases z <;> simp_all [intK]
    | _ => simp_all [intK]
  · rintro ⟨x, s1, e, h⟩
    refine ⟨x, s1, e, ?_⟩
    cases x with
    | d z => cases z <;> simp_all [intK]
    | _ => simp_all [intK]
@[simp ↓] theorem wx_sl : WX (mSl a mo mo') ρ s Q = WX a ρ s fun x s1 => WN mo ρ s1 fun l s2 => WN mo' ρ s2 fun h s3 => WO (fSl x l h) fun z => Q z s3 := by
  unfold WX WN mSl
  simp only [wbnd, wret]
@[simp ↓] theorem wx_chain {g1 g2 : Int → Int → Option PyData} {c : Mx} : WX (mChain g1 g2 a b c) ρ s Q = WX a ρ s fun x s1 => WX b ρ s1 fun y s2 => WO (fI g1 x y) fun z => WO (boolK z) fun k => IfK k (WX c ρ s2 fun w s3 => WO (fI g2 y w) fun z => Q z s3) (Q (.d (.bool false)) s2) := by
  unfold WX mChain
  simp only [wbnd, wret]
  apply propext
  unfold WO
  constructor
  · rintro ⟨x, s1, e1, y, s2, e2, z, e3, r, s', e4, q⟩
    refine ⟨x, s1, e1, y, s2, e2, z, e3, ?_⟩
    cases z with
    | d z =>
      cases z with
      | bool k =>
        refine ⟨k, rfl, ?_⟩
        cases k with
        | true =>
          rw [IfK_true]
          dsimp only at e4
          rw [ev_bnd] at e4
          rcases hc : c ρ s2 with _ | ⟨w, s3⟩
          · simp [hc] at e4
          · simp only [hc] at e4
            rcases hg : fI g2 y w with _ | v
            · simp [hg] at e4
            · simp [hg] at e4
              obtain ⟨rfl, rfl⟩ := e4
              exact ⟨w, s3, rfl, v, hg, q⟩
        | false =>
          rw [IfK_false]
          simp at e4
          obtain ⟨rfl, rfl⟩ := e4
          exact q
      | _ => simp at e4
    | _ => simp at e4
  · rintro ⟨x, s1, e1, y, s2, e2, z, e3, k, e4, q⟩
    refine ⟨x, s1, e1, y, s2, e2, z, e3, ?_⟩
    cases z with
    | d z =>
      cases z with
      | bool k' =>
        cases e4
        cases k with
        | true =>
          rw [IfK_true] at q
          obtain ⟨w, s3, e5, v, e6, q⟩ := q
          exact ⟨v, s3, by simp [e5, e6], q⟩
        | false =>
          rw [IfK_false] at q
          exact ⟨_, _, rfl, q⟩
      | _ => cases e4
    | _ => cases e4
@[simp ↓] theorem ws_nil : WS mNil ρ s QS = QS .nx ρ s := by
  unfold WS
  simp
@[simp ↓] theorem ws_seq : WS (mSeq ma mb) ρ s QS = WS ma ρ s (seqK mb QS) := by
  apply propext
  unfold WS
  rw [ev_mSeq]
  rcases ma ρ s with _ | ⟨o, ρ1, s1⟩
  · simp
  · cases o <;> simp [seqK, WS]
@[simp ↓] theorem ws_if : WS (mIfS ta ma mb) ρ s QS = WT ta ρ s fun k s1 => IfK k (WS ma ρ s1 QS) (WS mb ρ s1 QS) := by
  apply propext
  unfold WS WT
  rw [ev_mIfS]
  rcases ta ρ s with _ | ⟨_ | _, s1⟩ <;> simp
@[simp ↓] theorem ws_ret : WS (mRet a) ρ s QS = WX a ρ s fun r s1 => WO (retK r) fun r' => QS (.rt r') ρ s1 := by
  apply propext
  unfold WS WX WO
  rw [ev_mRet]
  rcases a ρ s with _ | ⟨x, s1⟩
  · simp
  · cases x <;> simp [retK]
@[simp ↓] theorem ws_retV : WS (mRetV i) ρ s QS = WO (getC ρ i) fun c => WO (retVK c) fun r => QS (.rt r) ρ s := by
  apply propext
  unfold WS WO
  rw [ev_mRetV]
  constructor
  · rintro ⟨o, ρ', s', e, q⟩
    split at e
    · rename_i x hc
      cases e
      exact ⟨_, getC_of hc, _, rfl, q⟩
    · rename_i x hc
      cases e
      exact ⟨_, getC_of hc, _, rfl, q⟩
    · cases e
  · rintro ⟨c, hc, r, hr, q⟩
    have h := of_getC hc
    cases c with
    | d x => cases hr; exact ⟨_, _, _, by simp only [h], q⟩
    | o x => cases hr; exact ⟨_, _, _, by simp only [h], q⟩
    | s => cases hr
    | m _ => cases hr
@[simp ↓] theorem ws_retN : WS mRetN ρ s QS = QS (.rt (.d .none)) ρ s := by
  unfold WS
  simp
@[simp ↓] theorem ws_brk : WS mBrk ρ s QS = QS .bk ρ s := by
  unfold WS mBrk
  simp
@[simp ↓] theorem ws_cnt : WS mCnt ρ s QS = QS .ct ρ s := by
  unfold WS
  simp
@[simp ↓] theorem ws_drop : WS (mDrop a) ρ s QS = WX a ρ s fun _ s1 => QS .nx ρ s1 := by
  apply propext
  unfold WS WX mDrop
  rcases a ρ s with _ | ⟨x, s1⟩ <;> simp
@[simp ↓] theorem ws_set : WS (mSet i a) ρ s QS = WX a ρ s fun r s1 => WO ((toCl r).map fun c => ρ.set i (some c)) fun ρ1 => QS .nx ρ1 s1 := by
  apply propext
  unfold WS WX WO
  rw [ev_mSet]
  rcases a ρ s with _ | ⟨x, s1⟩
  · simp
  · dsimp only
    rcases h0 : toCl x with _ | c <;> simp [h0]
@[simp ↓] theorem ws_frz {is : List Nat} : WS (mFrz is ma) ρ s QS = WO (some (frzs ρ is)) fun ρ1 => WS ma ρ1 s QS := by
  rw [WO_some]
  rfl
@[simp ↓] theorem ws_app : WS (mApp i a) ρ s QS = WX a ρ s fun r s1 => WO (toD r) fun x => WO ((getC ρ i).bind ownK) fun xs => xs.length < sizeLine ∧ WO (some (ρ.set i (some (.o (xs ++ [x]))))) fun ρ1 => QS .nx ρ1 s1 := by
  apply propext
  unfold WS WX WO mApp
  rcases a ρ s with _ | ⟨r, s1⟩
  · simp
  · dsimp only
    rcases hx : toD r with _ | x
    · simp [hx]
    · constructor
      · rintro ⟨o, ρ', s', e, q⟩
        split at e
        · rename_i y xs e1 e2
          cases e1
          split at e
          · rename_i hl
            cases e
            exact ⟨r, s1, rfl, x, hx, xs, by rw [getC_of e2]; rfl, hl, _, rfl, q⟩
          · cases e
        · cases e
      · rintro ⟨r', s1', e, x', hx', xs, hg, hl, _, e5, q⟩
        cases e
        cases e5
        rw [hx] at hx'
        cases hx'
        cases hc : getC ρ i with
        | none => rw [hc] at hg; cases hg
        | some c =>
          rw [hc] at hg
          cases c with
          | o ys =>
            cases hg
            exact ⟨_, _, _, by simp [of_getC hc, hl], q⟩
          | _ => cases hg
def putL (xs : List PyData) (k : Int) (r : R) : Option (List PyData) := match toD r, ixN xs.length k with
  | some x, some j => some (xs.set j x)
  | _, _ => none
def putS (s : Sto) (k : Int) (r : R) : Option Sto := match r, ixN s.length k with
  | .d (.int v), some j => some (s.set j v)
  | _, _ => none
def putK (ρ : Ev) (i : Nat) (c : Cl) (k : Int) (r : R) (s : Sto) : Option (Ev × Sto) := match c with
  | .o xs => (putL xs k r).map fun ys => (ρ.set i (some (.o ys)), s)
  | .s => (putS s k r).map fun s' => (ρ, s')
  | _ => none
@[simp] theorem putK_o {xs : List PyData} {k : Int} {r : R} : putK ρ i (.o xs) k r s = (putL xs k r).map fun ys => (ρ.set i (some (.o ys)), s) := rfl
@[simp] theorem putK_s {k : Int} {r : R} : putK ρ i .s k r s = (putS s k r).map fun s' => (ρ, s') := rfl
@[simp ↓] theorem ws_put {ix : Mx} : WS (mPut i ix a) ρ s QS = WX a ρ s fun r s1 => WX ix ρ s1 fun z s2 => WO (intK z) fun k => WO (getC ρ i) fun c => WO (putK ρ i c k r s2) fun p => QS .nx p.1 p.2 := by
  apply propext
  unfold WS WX WO mPut
  rcases a ρ s with _ | ⟨r, s1⟩
  · simp
  · dsimp only
    rcases hi : ix ρ s1 with _ | ⟨z, s2⟩
    · simp [hi]
    · constructor
      · rintro ⟨o, ρ', s', e, q⟩
        refine ⟨r, s1, rfl, z, s2, hi, ?_⟩
        split at e
        · rename_i k s3 e1
          cases e1
          refine ⟨k, rfl, ?_⟩
          split at e
          · rename_i xs e2
            split at e
            · rename_i x j e3 e4
              cases e
              exact ⟨_, getC_of e2, (_, _), by rw [putK_o]; unfold putL; rw [e3, e4]; rfl, q⟩
            · cases e
          · rename_i e2
            split at e
            · rename_i v j e4
              cases e
              exact ⟨_, getC_of e2, (_, _), by rw [putK_s]; unfold putS; rw [e4]; rfl, q⟩
            · cases e
          · cases e
        · cases e
      · rintro ⟨r', s1', e, z', s2', e2, k, hk, c, hc, p, hp, q⟩
        cases e
        rw [hi] at e2
        cases e2
        have hz : z = .d (.int k) := by
          cases z with
          | d z =>
            cases z with
            | int i => cases hk; rfl
            | _ => cases hk
          | _ => cases hk
        subst hz
        have g := of_getC hc
        cases c with
        | d _ => cases hp
        | o xs =>
          rw [putK_o] at hp
          unfold putL at hp
          split at hp
          · rename_i x j e3 e4
            cases hp
            exact ⟨_, _, _, by simp only [g, e3, e4], q⟩
          · cases hp
        | s =>
          rw [putK_s] at hp
          unfold putS at hp
          split at hp
          · rename_i v j e4
            cases hp
            exact ⟨_, _, _, by simp only [g, e4], q⟩
          · cases hp
        | m _ => cases hp
@[simp ↓] theorem ws_asg {g : Gx} : WS (mAsg g a) ρ s QS = WX a ρ s fun r s1 => WO (toD r) fun x => WO (g x ρ) fun ρ1 => QS .nx ρ1 s1 := by
  apply propext
  unfold WS WX WO mAsg
  rcases a ρ s with _ | ⟨r, s1⟩
  · simp
  · dsimp only
    rcases hx : toD r with _ | x
    · simp [hx]
    · dsimp only
      rcases hg : g x ρ with _ | ρ1 <;> simp [hx, hg]
def parK (ρ : Ev) (i j : Nat) (rs : List R) : Option Ev := match rs with
  | [r, q] => match toCl r, toCl q with
    | some c, some d => match c, d with
      | .o _, .o _ => none
      | c, d => some ((ρ.set i (some c)).set j (some d))
    | _, _ => none
  | _ => none
theorem mPar_eq {x : List R} {s1 : Sto} (e : as ρ s = some (x, s1)) : mPar i j as ρ s = (parK ρ i j x).map fun ρ1 => (.nx, ρ1, s1) := by
  unfold mPar parK
  rw [e]
  split
  · rename_i r q s2 e2
    cases e2
    dsimp only
    rcases toCl r with _ | c
    · rfl
    · rcases toCl q with _ | d
      · rfl
      · cases c <;> cases d <;> rfl
  · rename_i h
    split
    · rename_i r q
      exact absurd rfl (h r q s1)
    · rfl
@[simp ↓] theorem ws_par : WS (mPar i j as) ρ s QS = WA as ρ s fun rs s1 => WO (parK ρ i j rs) fun ρ1 => QS .nx ρ1 s1 := by
  apply propext
  unfold WS WA WO
  constructor
  · rintro ⟨o, ρ', s', e, q⟩
    rcases h : as ρ s with _ | ⟨x, s1⟩
    · unfold mPar at e; rw [h] at e; cases e
    · rw [mPar_eq h] at e
      obtain ⟨ρ1, e1, e2⟩ := Option.map_eq_some_iff.mp e
      cases e2
      exact ⟨x, _, rfl, _, e1, q⟩
  · rintro ⟨x, s1, h, ρ1, e1, q⟩
    exact ⟨_, _, _, by rw [mPar_eq h, e1]; rfl, q⟩
@[simp] theorem parK_dd {x y : PyData} : parK ρ i j [.d x, .d y] = some ((ρ.set i (some (.d x))).set j (some (.d y))) := rfl
@[simp] theorem parK_df {x : PyData} {y : List PyData} : parK ρ i j [.d x, .f y] = some ((ρ.set i (some (.d x))).set j (some (.o y))) := rfl
@[simp] theorem parK_fd {x : List PyData} {y : PyData} : parK ρ i j [.f x, .d y] = some ((ρ.set i (some (.o x))).set j (some (.d y))) := rfl
def par3K (ρ : Ev) (i j l : Nat) (rs : List R) : Option Ev := match rs with
  | [r, q, u] => match toCl r, toCl q, toCl u with
    | some (.d c), some (.d d), some f => some (((ρ.set i (some (.d c))).set j (some (.d d))).set l (some f))
    | some (.d c), some (.o d), some (.d f) => some (((ρ.set i (some (.d c))).set j (some (.o d))).set l (some (.d f)))
    | _, _, _ => none
  | _ => none
@[simp] theorem par3K_ddd {l : Nat} {x y z : PyData} : par3K ρ i j l [.d x, .d y, .d z] = some (((ρ.set i (some (.d x))).set j (some (.d y))).set l (some (.d z))) := rfl
@[simp] theorem par3K_ddf {l : Nat} {x y : PyData} {z : List PyData} : par3K ρ i j l [.d x, .d y, .f z] = some (((ρ.set i (some (.d x))).set j (some (.d y))).set l (some (.o z))) := rfl
@[simp] theorem par3K_dfd {l : Nat} {x z : PyData} {y : List PyData} : par3K ρ i j l [.d x, .f y, .d z] = some (((ρ.set i (some (.d x))).set j (some (.o y))).set l (some (.d z))) := rfl
theorem mPar3_eq {l : Nat} {x : List R} {s1 : Sto} (e : as ρ s = some (x, s1)) : mPar3 i j l as ρ s = (par3K ρ i j l x).map fun ρ1 => (.nx, ρ1, s1) := by
  unfold mPar3 par3K
  rw [e]
  split
  · rename_i r q u s2 e2
    cases e2
    dsimp only
    rcases toCl r with _ | c
    · rfl
    · rcases toCl q with _ | d
      · cases c <;> rfl
      · rcases toCl u with _ | f
        · cases c <;> cases d <;> rfl
        · cases c <;> cases d <;> cases f <;> rfl
  · rename_i h
    split
    · rename_i r q u
      exact absurd rfl (h r q u s1)
    · rfl
@[simp ↓] theorem ws_par3 {l : Nat} : WS (mPar3 i j l as) ρ s QS = WA as ρ s fun rs s1 => WO (par3K ρ i j l rs) fun ρ1 => QS .nx ρ1 s1 := by
  apply propext
  unfold WS WA WO
  constructor
  · rintro ⟨o, ρ', s', e, q⟩
    rcases h : as ρ s with _ | ⟨x, s1⟩
    · unfold mPar3 at e; rw [h] at e; cases e
    · rw [mPar3_eq h] at e
      obtain ⟨ρ1, e1, e2⟩ := Option.map_eq_some_iff.mp e
      cases e2
      exact ⟨x, _, rfl, _, e1, q⟩
  · rintro ⟨x, s1, h, ρ1, e1, q⟩
    exact ⟨_, _, _, by rw [mPar3_eq h, e1]; rfl, q⟩
@[simp ↓] theorem wi_seq : WI (mSeqI a) ρ s QI = WX a ρ s fun x s1 => WO (itemsOf x) fun xs => QI xs s1 := by
  unfold WI WX mSeqI
  simp only [wbnd, wret]
@[simp ↓] theorem wi_arg {f : List R → Option (List PyData)} : WI (mArgI f as) ρ s QI = WA as ρ s fun x s1 => WO (f x) fun xs => QI xs s1 := by
  unfold WI WA mArgI
  simp only [wbnd, wret]
@[simp ↓] theorem ws_for {g : Gx} : WS (mFor it g ma) ρ s QS = WI it ρ s fun xs s1 => WFor g ma xs ρ s1 QS := by
  apply propext
  unfold WFor WS WI
  rw [ev_mFor]
  rcases it ρ s with _ | ⟨xs, s1⟩ <;> simp
@[simp ↓] theorem ws_wh : WS (mWhile ta ma) ρ s QS = WWh ta ma ρ s QS := rfl
@[simp ↓] theorem wx_lc {vs : List Nat} {g : Gx} : WX (mLc it vs g ta a) ρ s Q = WI it ρ s fun xs s1 => WLc vs g ta a xs ρ s1 fun ys s2 => ys.length ≤ sizeLine ∧ Q (.f ys) s2 := by
  apply propext
  unfold WX WLc WI mLc
  rcases it ρ s with _ | ⟨xs, s1⟩
  · simp
  · dsimp only
    rcases h : lcRun vs g ta a xs ρ s1 with _ | ⟨ys, s2⟩
    · simp [h]
    · dsimp only
      by_cases hl : ys.length ≤ sizeLine <;> simp [hl, h]
@[simp ↓] theorem wx_lc2 {vs vs1 : List Nat} {g g1 : Gx} {it1 : Mi} : WX (mLc2 it vs g ta it1 vs1 g1 tb a) ρ s Q = WI it ρ s fun xs s1 => WLc2 vs vs1 g ta it1 g1 tb a xs ρ s1 fun ys s2 => ys.length ≤ sizeLine ∧ Q (.f ys) s2 := by
  apply propext
  unfold WX WLc2 WI mLc2
  rcases it ρ s with _ | ⟨xs, s1⟩
  · simp
  · dsimp only
    rcases h : lcRun2 vs vs1 g ta it1 g1 tb a xs ρ s1 with _ | ⟨ys, s2⟩
    · simp [h]
    · dsimp only
      by_cases hl : ys.length ≤ sizeLine <;> simp [hl, h]
end rules
section use
variable {ρ : Ev} {s : Sto}
theorem WF.use {g : Fx} {cs : List Cl} {P Q : R → Sto → Prop} (h : WF g cs s P) (k : ∀ r s', P r s' → Q r s') : WF g cs s Q := by
  obtain ⟨r, s', e, p⟩ := h
  exact ⟨r, s', e, k r s' p⟩
theorem WF.of {g : Fx} {cs : List Cl} {Q : R → Sto → Prop} {r : R} {s' : Sto} (h : g cs s = some (r, s')) (k : Q r s') : WF g cs s Q := ⟨r, s', h, k⟩
/-- a def, from its body -/
theorem WF.body {n l : Nat} {m : Ms} {cs : List Cl} {Q : R → Sto → Prop} (hn : cs.length = n) (h : WS m (cs.map some ++ List.replicate (l - cs.length) none) s (endK Q)) : WF (run' n l m) cs s Q := by
  obtain ⟨o, ρ', s', e, q⟩ := h
  unfold WF run' run
  rw [if_pos hn, e]
  cases o with
  | nx => exact ⟨_, _, rfl, q⟩
  | rt r => exact ⟨_, _, rfl, q⟩
  | bk => cases q
  | ct => cases q
theorem WF.eq {g : Fx} {cs : List Cl} {r : R} {s' : Sto} (h : WF g cs s fun r1 s1 => r1 = r ∧ s1 = s') : g cs s = some (r, s') := by
  obtain ⟨r1, s1, e, rfl, rfl⟩ := h
  exact e
theorem WS.mono {m : Ms} {P Q : Out → Ev → Sto → Prop} (h : WS m ρ s P) (k : ∀ o ρ' s', P o ρ' s' → Q o ρ' s') : WS m ρ s Q := by
  obtain ⟨o, ρ', s', e, p⟩ := h
  exact ⟨o, ρ', s', e, k _ _ _ p⟩
theorem WFor_nil {g : Gx} {body : Ms} {Q : Out → Ev → Sto → Prop} (h : Q .nx ρ s) : WFor g body [] ρ s Q := ⟨.nx, ρ, s, rfl, h⟩
theorem WFor_cons {g : Gx} {body : Ms} {x : PyData} {xs : List PyData} {Q : Out → Ev → Sto → Prop} (h : WO (g x ρ) fun ρ1 => WS body ρ1 s (loopK (fun ρ2 s2 => WFor g body xs ρ2 s2 Q) Q)) : WFor g body (x :: xs) ρ s Q := by
  obtain ⟨ρ1, e1, o, ρ2, s2, e2, q⟩ := h
  cases o with
  | nx =>
    obtain ⟨o, ρ', s', e3, q⟩ := q
    exact ⟨o, ρ', s', by unfold forRun; simp [e1, e2, e3], q⟩
  | ct =>
    obtain ⟨o, ρ', s', e3, q⟩ := q
    exact ⟨o, ρ', s', by unfold forRun; simp [e1, e2, e3], q⟩
  | bk => exact ⟨.nx, ρ2, s2, by unfold forRun; simp [e1, e2], q⟩
  | rt r => exact ⟨.rt r, ρ2, s2, by unfold forRun; simp [e1, e2], q⟩
/-- a for by its invariant -/
theorem WFor_inv {α : Type} {g : Gx} {body : Ms} {Q : Out → Ev → Sto → Prop} (enc : α → PyData) (l : List α) (I : Nat → Ev → Sto → Prop) (h0 : I 0 ρ s)
    (step : ∀ (i : Nat) (x : α) ρ s, l[i]? = some x → I i ρ s → WO (g (enc x) ρ) fun ρ1 => WS body ρ1 s (loopK (I (i + 1)) Q)) (fin : ∀ ρ s, I l.length ρ s → Q .nx ρ s) : WFor g body (l.map enc) ρ s Q := by
  have key : ∀ (m : List α) (i : Nat) (ρ : Ev) (s : Sto), i + m.length = l.length → (∀ j, m[j]? = l[i + j]?) → I i ρ s → WFor g body (m.map enc) ρ s Q := by
    intro m
    induction m with
    | nil =>
      intro i ρ s hl _ h
      refine WFor_nil (fin _ _ ?_)
      rw [List.length_nil, Nat.add_zero] at hl
      rwa [← hl]
    | cons x m ih =>
      intro i ρ s hl hj h
      have hx : l[i]? = some x := by
        have := hj 0
        simpa using this.symm
      refine WFor_cons ?_
      obtain ⟨ρ1, e1, o, ρ2, s2, e2, q⟩ := step i x ρ s hx h
      refine ⟨ρ1, e1, o, ρ2, s2, e2, ?_⟩
      rw [List.length_cons] at hl
      have next : I (i + 1) ρ2 s2 → WFor g body (m.map enc) ρ2 s2 Q := fun h => ih (i + 1) ρ2 s2 (by omega) (fun j => by
        have := hj (j + 1)
        rw [List.getElem?_cons_succ] at this
        rw [this]
        congr 1
        omega) h
      cases o with
      | nx => exact next q
      | ct => exact next q
      | bk => exact q
      | rt r => exact q
  exact key l 0 ρ s (Nat.zero_add _) (fun j => by rw [Nat.zero_add]) h0
theorem WWh_next {c : Mt} {body : Ms} {Q : Out → Ev → Sto → Prop} (h : WT c ρ s fun k s1 => IfK k (WS body ρ s1 (loopK (fun ρ' s' => WWh c body ρ' s' Q) Q)) (Q .nx ρ s1)) : WWh c body ρ s Q := by
  obtain ⟨k, s1, ec, h⟩ := h
  cases k with
  | false =>
    rw [IfK_false] at h
    exact ⟨.nx, ρ, s1, mWhile_of (n := 1) (by rw [whRun_eq, ec]), h⟩
  | true =>
    rw [IfK_true] at h
    obtain ⟨o, ρ2, s2, eb, h⟩ := h
    cases o with
    | nx =>
      obtain ⟨o, ρ', s', ew, q⟩ := h
      obtain ⟨n, en⟩ := mWhile_some ew
      exact ⟨o, ρ', s', mWhile_of (n := n + 1) (by rw [whRun_eq, ec]; simp only [eb]; exact en), q⟩
    | ct =>
      obtain ⟨o, ρ', s', ew, q⟩ := h
      obtain ⟨n, en⟩ := mWhile_some ew
      exact ⟨o, ρ', s', mWhile_of (n := n + 1) (by rw [whRun_eq, ec]; simp only [eb]; exact en), q⟩
    | bk => exact ⟨.nx, ρ2, s2, mWhile_of (n := 1) (by rw [whRun_eq, ec]; simp only [eb]), h⟩
    | rt r => exact ⟨.rt r, ρ2, s2, mWhile_of (n := 1) (by rw [whRun_eq, ec]; simp only [eb]), h⟩
/-- a comprehension whose elements are alone with their item -/
theorem WLc_opt {α : Type} {vs : List Nat} {g : Gx} {t : Mt} {e : Mx} {Q : List PyData → Sto → Prop} (enc : α → PyData) (f : α → Option PyData) : ∀ (l : List α), (∀ x ∈ l, WO (g (enc x) (wipeE ρ vs)) fun ρ1 => WT t ρ1 s fun k s1 => s1 = s ∧ k = (f x).isSome ∧ IfK k (WX e ρ1 s fun r s2 => s2 = s ∧ toD r = f x) True) →
    Q (l.filterMap f) s → WLc vs g t e (l.map enc) ρ s Q := by
  intro l h q
  refine ⟨_, s, ?_, q⟩
  clear q
  induction l with
  | nil => rfl
  | cons x l ih =>
    have r := ih fun y hy => h y (List.mem_cons_of_mem _ hy)
    obtain ⟨ρ1, e1, k, s1, e2, rfl, hk, q⟩ := h x List.mem_cons_self
    rw [List.map_cons]
    unfold lcRun
    rw [e1]
    dsimp only
    rw [e2]
    cases k with
    | false =>
      dsimp only
      rw [r, List.filterMap_cons]
      cases hf : f x with
      | none => rfl
      | some y => rw [hf] at hk; cases hk
    | true =>
      rw [IfK_true] at q
      obtain ⟨rr, s2, e3, rfl, hd⟩ := q
      dsimp only
      rw [e3]
      dsimp only
      rw [r, List.filterMap_cons]
      cases hf : f x with
      | none => rw [hf] at hk; cases hk
      | some y => rw [hd, hf]
theorem WLc_map {α : Type} {vs : List Nat} {g : Gx} {e : Mx} {Q : List PyData → Sto → Prop} (enc f : α → PyData) (l : List α) (h : ∀ x ∈ l, WO (g (enc x) (wipeE ρ vs)) fun ρ1 => WX e ρ1 s fun r s2 => s2 = s ∧ toD r = some (f x))
    (q : Q (l.map f) s) : WLc vs g mYes e (l.map enc) ρ s Q := by
  refine WLc_opt enc (fun x => some (f x)) l (fun x hx => ?_) (by rw [List.filterMap_eq_map']; exact q)
  obtain ⟨ρ1, e1, r⟩ := h x hx
  exact ⟨ρ1, e1, true, s, rfl, rfl, rfl, by rw [IfK_true]; exact r⟩
/-- two fors -/
theorem WLc2_map {α : Type} {vs vs1 : List Nat} {g g1 : Gx} {it1 : Mi} {t1 : Mt} {e : Mx} {Q : List PyData → Sto → Prop} (enc : α → PyData) (f : α → List PyData) (l : List α)
    (h : ∀ x ∈ l, WO (g (enc x) (wipeE ρ vs)) fun ρ1 => WI it1 ρ1 s fun zs s1 => WLc vs1 g1 t1 e zs ρ1 s1 fun ys s2 => s2 = s ∧ ys = f x) (q : Q (l.flatMap f) s) : WLc2 vs vs1 g mYes it1 g1 t1 e (l.map enc) ρ s Q := by
  refine ⟨_, s, ?_, q⟩
  clear q
  induction l with
  | nil => rfl
  | cons x l ih =>
    have r := ih fun y hy => h y (List.mem_cons_of_mem _ hy)
    obtain ⟨ρ1, e1, zs, s1, e2, ys, s2, e3, rfl, rfl⟩ := h x List.mem_cons_self
    rw [List.map_cons]
    unfold lcRun2
    simp only [e1, e2, e3, r, ev_mYes]
    rw [List.flatMap_cons]
end use
end Dh
def gg (a b : Int) : Int := ((Nat.gcd a.natAbs b.natAbs : Nat) : Int)
def QLt (k : Nat) (q : Rat) : Prop := q.num.natAbs < 2 ^ k ∧ q.den < 2 ^ k
theorem divInt_num {t l : Int} (h : 0 < l) : (Rat.divInt t l).num = t / gg t l := by
  rw [Rat.num_divInt]
  unfold gg
  rw [Int.sign_eq_one_of_pos h, Int.one_mul, Int.gcd_comm]
  rfl
theorem divInt_den {t l : Int} (h : 0 < l) : ((Rat.divInt t l).den : Int) = l / gg t l := by
  rw [Rat.den_divInt, if_neg (by omega), Int.gcd_comm]
  unfold gg
  rw [Int.natCast_ediv, Int.natAbs_of_nonneg (by omega)]
  rfl
theorem QLt_divInt {t l : Int} {k : Nat} (h : 0 < l) (h1 : t.natAbs < 2 ^ k) (h2 : l.natAbs < 2 ^ k) : QLt k (Rat.divInt t l) := by
  refine ⟨?_, ?_⟩
  · rw [Rat.num_divInt, Int.sign_eq_one_of_pos h, Int.one_mul, Int.natAbs_ediv_of_dvd (Int.gcd_dvd_right ..)]
    exact Nat.lt_of_le_of_lt (Nat.div_le_self _ _) h1
  · rw [Rat.den_divInt, if_neg (by omega)]
    exact Nat.lt_of_le_of_lt (Nat.div_le_self _ _) h2
theorem QLt.mono {a b : Nat} {q : Rat} (h : QLt a q) (hab : a ≤ b) : QLt b q :=
  ⟨Nat.lt_of_lt_of_le h.1 (Nat.pow_le_pow_right (by decide) hab), Nat.lt_of_lt_of_le h.2 (Nat.pow_le_pow_right (by decide) hab)⟩
theorem add_divInt (p q : Rat) : p + q = Rat.divInt (p.num * q.den + q.num * p.den) ((p.den : Int) * q.den) := by
  rw [Rat.add_def', ← Rat.divInt_ofNat, Int.natCast_mul]
theorem den_pos (q : Rat) : (0 : Int) < q.den := by have := q.den_pos; omega
theorem den_mul_pos (p q : Rat) : (0 : Int) < (p.den : Int) * q.den := Int.mul_pos (den_pos p) (den_pos q)
theorem lt_mulB {i j : Int} {a b : Nat} (h1 : i.natAbs < 2 ^ a) (h2 : j.natAbs < 2 ^ b) : (i * j).natAbs < 2 ^ (a + b) := by
  rw [Int.natAbs_mul, Nat.pow_add]
  exact Nat.mul_lt_mul'' h1 h2
theorem lt_sumB {i j : Int} {a : Nat} (h1 : i.natAbs < 2 ^ a) (h2 : j.natAbs < 2 ^ a) : (i + j).natAbs < 2 ^ (a + 1) := by
  have := Int.natAbs_add_le i j
  rw [Nat.pow_succ]
  omega
theorem lt_monoB {i : Int} {a b : Nat} (h1 : i.natAbs < 2 ^ a) (h : a ≤ b) : i.natAbs < 2 ^ b := Nat.lt_of_lt_of_le h1 (Nat.pow_le_pow_right (by decide) h)
theorem QLt.den' {a : Nat} {q : Rat} (h : QLt a q) : (q.den : Int).natAbs < 2 ^ a := by rw [Int.natAbs_natCast]; exact h.2
theorem QLt_add {a b : Nat} {p q : Rat} (hp : QLt a p) (hq : QLt b q) : QLt (a + b + 1) (p + q) := by
  rw [add_divInt]
  refine QLt_divInt (den_mul_pos p q) (lt_sumB (lt_mulB hp.1 hq.den') ?_) (lt_monoB (lt_mulB hp.den' hq.den') (by omega))
  rw [Nat.add_comm a b]
  exact lt_mulB hq.1 hp.den'
namespace El
/-- the sum of the first n -/
def sm : Nat → (Nat → Rat) → Rat
  | 0, _ => 0
  | n + 1, f => sm n f + f n
theorem sm_zero {n : Nat} {f : Nat → Rat} (h : ∀ i, i < n → f i = 0) : sm n f = 0 := by
  induction n with
  | zero => rfl
  | succ n ih => rw [sm, ih fun i hi => h i (by omega), h n (by omega)]; grind
theorem sm_one {n k : Nat} {f : Nat → Rat} (hk : k < n) (h : ∀ i, i < n → i ≠ k → f i = 0) : sm n f = f k := by
  induction n with
  | zero => omega
  | succ n ih =>
    rw [sm]
    by_cases e : k = n
    · subst e
      rw [sm_zero fun i hi => h i (by omega) (by omega)]; grind
    · rw [ih (by omega) fun i hi => h i (by omega), h n (by omega) (by omega)]; grind
/-- one turn of the elimination -/
def step (k : Nat) (R : Nat → Nat → Rat) : Nat → Nat → Rat := fun i j => if i = k then R k j / R k k else R i j - R i k * (R k j / R k k)
def gj (A : Nat → Nat → Rat) : Nat → Nat → Nat → Rat
  | 0 => A
  | k + 1 => step k (gj A k)
end El
namespace El
theorem den_mul_self (q : Rat) : (q.den : Rat) * q = q.num := by
  have hb : ((q.den : Int) : Rat) ≠ 0 := by
    rw [Ne, Rat.intCast_eq_zero_iff]
    have := q.den_pos
    omega
  have h : (q.num : Rat) / ((q.den : Int) : Rat) = q := by rw [← Rat.divInt_eq_div, Rat.num_divInt_den]
  have h2 := Rat.div_mul_cancel (a := (q.num : Rat)) hb
  rw [h, Rat.intCast_natCast] at h2
  rw [Rat.mul_comm]
  exact h2
end El
namespace Dh
open PySem PySem.Spec L2 PySem.W
def pQ (q : Rat) : PyData := .tuple [.int q.num, .int (q.den : Int)]
def pQs (l : List Rat) : PyData := .tuple (l.map pQ)
/-- small enough for all that is reckoned once more -/
def Bd (q : Rat) : Prop := QLt 4500 q
theorem QLt.bd {k : Nat} {q : Rat} (h : QLt k q) (hk : k ≤ 4500 := by omega) : Bd q := h.mono hk
theorem intBits_le {i : Int} {k : Nat} (h : i.natAbs < 2 ^ k) : Builtin.Int.intBits i ≤ k := by
  unfold Builtin.Int.intBits
  split
  · exact Nat.zero_le _
  · rename_i q
    have hz : i.natAbs ≠ 0 := by
      intro z
      exact q (by simpa using z)
    have := (Nat.log2_lt hz).mpr h
    omega
theorem mulOk_of {i j : Int} {a b : Nat} (h1 : i.natAbs < 2 ^ a) (h2 : j.natAbs < 2 ^ b) (h : a + b ≤ 134217728) : mulOk i j = true := by
  have x := intBits_le h1
  have y := intBits_le h2
  exact Nat.ble_eq_true_of_le (by omega)
theorem mulOk_nd {p q : Rat} (hp : Bd p) (hq : Bd q) : mulOk p.num (q.den : Int) = true := mulOk_of hp.1 hq.den' (by decide)
theorem mulOk_dd {p q : Rat} (hp : Bd p) (hq : Bd q) : mulOk (p.den : Int) (q.den : Int) = true := mulOk_of hp.den' hq.den' (by decide)
theorem pylong_of {i j : Int} (h : j.natAbs < 2 ^ 9000) : Builtin.divisionGoesByPylong i j = false := by
  unfold Builtin.divisionGoesByPylong
  by_cases hz : j = 0
  · subst hz; simp
  · have hn : j.natAbs ≠ 0 := by omega
    have := (Nat.log2_lt hn).mpr h
    have q : ¬ (j.natAbs.log2 / 30 + 1 > 300) := by omega
    simp [hz, q]
theorem gg_pos {a b : Int} (h : b ≠ 0) : 0 < gg a b := by
  unfold gg
  have := Nat.gcd_pos_of_pos_right a.natAbs (n := b.natAbs) (by omega)
  omega
theorem gg_le {a b : Int} (h : b ≠ 0) : (gg a b).natAbs ≤ b.natAbs := by
  unfold gg
  rw [Int.natAbs_natCast]
  exact Nat.gcd_le_right _ (by omega)
theorem fdiv_pos {i j : Int} (h : 0 < j) : i.fdiv j = i / j := Int.fdiv_eq_ediv_of_nonneg _ (Int.le_of_lt h)
theorem fmod_pos {i j : Int} (h : 0 < j) : i.fmod j = i % j := Int.fmod_eq_emod_of_nonneg _ (Int.le_of_lt h)
theorem sz1 : 1 ≤ sizeLine := by decide
theorem sz2 : 2 ≤ sizeLine := by decide
theorem sz3 : 3 ≤ sizeLine := by decide
theorem sz4 : 4 ≤ sizeLine := by decide
theorem sz5 : 5 ≤ sizeLine := by decide
theorem szle {n : Nat} (h : n ≤ 1000) : n ≤ sizeLine := Nat.le_trans h (by decide)
theorem szlt {n : Nat} (h : n ≤ 1000) : n < sizeLine := Nat.lt_of_le_of_lt h (by decide)
theorem pQ_inj {p q : Rat} : pQ p = pQ q ↔ p = q := by
  refine ⟨fun h => ?_, fun h => by rw [h]⟩
  unfold pQ at h
  simp at h
  exact Rat.ext h.1 (by omega)
theorem eqv_int {a b : Int} : PyData.eqv (.int a) (.int b) = decide (a = b) := by
  simp [PyData.eqv]
  by_cases h : a = b <;> simp [h]
theorem eqv_pQ {p q : Rat} : PyData.eqv (pQ p) (pQ q) = decide (p = q) := by
  unfold pQ
  simp only [PyData.eqv, PyData.eqvAll, Bool.and_true]
  by_cases h : p = q
  · subst h; simp
  · have : ¬ (p.num = q.num ∧ p.den = q.den) := fun ⟨a, b⟩ => h (Rat.ext a b)
    simp only [h, decide_false]
    by_cases a : p.num = q.num
    · have b : ¬ (p.den : Int) = q.den := fun z => this ⟨a, by omega⟩
      simp [a, b]
    · simp [a]
theorem eqOk_pQ {q : Rat} : eqOk (pQ q) = true := by
  unfold pQ eqOk SeqAt.shaped
  simp [noDict, noDicts, PyData.canLay0, PyData.canLayAll0, PyData.depth, PyData.depthAll]
theorem fEq_pQ {p q : Rat} {neg : Bool} : fEq neg (.d (pQ p)) (.d (pQ q)) = some (.d (.bool (if neg then !decide (p = q) else decide (p = q)))) := by
  have : fEq neg (.d (pQ p)) (.d (pQ q)) = fEqD neg (.d (pQ p)) (.d (pQ q)) := rfl
  rw [this]
  unfold fEqD
  simp [eqOk_pQ, eqv_pQ]
theorem eqOk_int {i : Int} : eqOk (.int i) = true := by
  unfold eqOk SeqAt.shaped
  simp [noDict, PyData.canLay0, PyData.depth]
theorem fEq_int {i j : Int} {neg : Bool} : fEq neg (.d (.int i)) (.d (.int j)) = some (.d (.bool (if neg then !decide (i = j) else decide (i = j)))) := by
  have : fEq neg (.d (.int i)) (.d (.int j)) = fEqD neg (.d (.int i)) (.d (.int j)) := rfl
  rw [this]
  unfold fEqD
  simp [eqOk_int, eqv_int]
theorem gFdiv_pos {i j : Int} (h : 0 < j) (hl : j.natAbs < 2 ^ 9000) : gFdiv i j = some (.int (i / j)) := by
  unfold gFdiv
  rw [if_pos ⟨by omega, pylong_of hl⟩, fdiv_pos h]
theorem gMod_pos {i j : Int} (h : 0 < j) : gMod i j = some (.int (i % j)) := by
  unfold gMod
  rw [if_pos (by omega), fmod_pos h]
theorem fMul_ok {i j : Int} (h : mulOk i j = true) : fMul (.d (.int i)) (.d (.int j)) = some (.d (.int (i * j))) := by
  rw [ev_fMulI, if_pos h]
theorem den_lt {p q : Rat} (hp : Bd p) (hq : Bd q) : ((p.den : Int) * (q.den : Int)).natAbs < 2 ^ 9000 := lt_mulB hp.den' hq.den'
def pairK (r : R) : Option (Int × PyData) := match r with | .d (.tuple [.int q, y]) => some (q, y) | _ => none
@[simp] theorem pairK_d {q : Int} {y : PyData} : pairK (.d (.tuple [.int q, y])) = some (q, y) := rfl
theorem mPair_eq {i j : Nat} {ix a : Mx} {ρ : Ev} {s s1 : Sto} {r : R} (e : a ρ s = some (r, s1)) : mPair i ix j a ρ s = match pairK r with
    | some (q, y) => (match ix ρ s1, ρ[i]? with
      | some (.d (.int k), s2), some (some .s) => (match ixN s2.length k with
        | some n => some (.nx, ρ.set j (some (.d y)), s2.set n q)
        | none => none)
      | _, _ => none)
    | none => none := by
  unfold mPair pairK
  rw [e]
  split
  · rename_i q y s2 e2
    cases e2
    rfl
  · rename_i h
    split
    · rename_i q y h2
      split at h2
      · rename_i q' y'
        cases h2
        exact absurd rfl (h _ _ s1)
      · cases h2
    · rfl
@[simp ↓] theorem ws_pair {i j : Nat} {ix a : Mx} {ρ : Ev} {s : Sto} {QS : Out → Ev → Sto → Prop} : WS (mPair i ix j a) ρ s QS = WX a ρ s fun r s1 => WO (pairK r) fun p => WX ix ρ s1 fun z s2 => WO (intK z) fun k => getC ρ i = some .s ∧ WO (ixN s2.length k) fun n => WO (some (ρ.set j (some (.d p.2)))) fun ρ1 => WO (some (s2.set n p.1)) fun s3 => QS .nx ρ1 s3 := by
  apply propext
  unfold WS WX WO
  constructor
  · rintro ⟨o, ρ', s', e, q⟩
    rcases h : a ρ s with _ | ⟨r, s1⟩
    · unfold mPair at e; rw [h] at e; cases e
    · rw [mPair_eq h] at e
      split at e
      · rename_i q' y hp
        split at e
        · rename_i k s2 e1 e2
          split at e
          · rename_i n en
            cases e
            exact ⟨r, s1, rfl, (q', y), hp, _, s2, e1, k, rfl, getC_of e2, n, en, _, rfl, _, rfl, q⟩
          · cases e
        · cases e
      · cases e
  · rintro ⟨r, s1, h, ⟨q', y⟩, hp, z, s2, e1, k, hk, hs, n, en, _, e5, _, e6, q⟩
    cases e5
    cases e6
    have hz : z = .d (.int k) := by
      cases z with
      | d z =>
        cases z with
        | int i => cases hk; rfl
        | _ => cases hk
      | _ => cases hk
    subst hz
    exact ⟨_, _, _, by rw [mPair_eq h, hp]; simp only [e1, of_getC hs, en], q⟩
@[simp ↓] theorem wx_m3 {f : R → R → R → Option R} {a b c : Mx} {ρ : Ev} {s : Sto} {Q : R → Sto → Prop} : WX (m3 f a b c) ρ s Q = WX a ρ s fun x s1 => WX b ρ s1 fun y s2 => WX c ρ s2 fun z s3 => WO (f x y z) fun w => Q w s3 := by
  unfold WX m3
  simp only [wbnd, wret]
def tup2 (r : R) : Option (PyData × PyData) := match r with | .d (.tuple [x, y]) => some (x, y) | _ => none
@[simp] theorem tup2_d {x y : PyData} : tup2 (.d (.tuple [x, y])) = some (x, y) := rfl
theorem mSwap_eq {i : Nat} {ix1 ix2 a : Mx} {ρ : Ev} {s s1 : Sto} {r : R} (e : a ρ s = some (r, s1)) : mSwap i ix1 ix2 a ρ s = match tup2 r with
    | some (x, y) => (match ix1 ρ s1, ρ[i]? with
      | some (.d (.int k1), s2), some (some (.o xs)) => (match ixN xs.length k1 with
        | some j1 => (match ix2 (ρ.set i (some (.o (xs.set j1 x)))) s2 with
          | some (.d (.int k2), s3) => (match ixN xs.length k2 with
            | some j2 => some (.nx, (ρ.set i (some (.o (xs.set j1 x)))).set i (some (.o ((xs.set j1 x).set j2 y))), s3)
            | none => none)
          | _ => none)
        | none => none)
      | _, _ => none)
    | none => none := by
  unfold mSwap tup2
  rw [e]
  split
  · rename_i x y s2 e2
    cases e2
    rfl
  · rename_i h
    split
    · rename_i x y h2
      split at h2
      · rename_i x' y'
        cases h2
        exact absurd rfl (h _ _ s1)
      · cases h2
    · rfl
@[simp ↓] theorem ws_swap {i : Nat} {ix1 ix2 a : Mx} {ρ : Ev} {s : Sto} {QS : Out → Ev → Sto → Prop} : WS (mSwap i ix1 ix2 a) ρ s QS = WX a ρ s fun r s1 => WO (tup2 r) fun p => WX ix1 ρ s1 fun z s2 => WO (intK z) fun k1 => WO ((getC ρ i).bind ownK) fun xs => WO (ixN xs.length k1) fun j1 =>
    WO (some (ρ.set i (some (.o (xs.set j1 p.1))))) fun ρ1 => WX ix2 ρ1 s2 fun z s3 => WO (intK z) fun k2 => WO (ixN xs.length k2) fun j2 => WO (some (ρ1.set i (some (.o ((xs.set j1 p.1).set j2 p.2))))) fun ρ2 => QS .nx ρ2 s3 := by
  apply propext
  unfold WS WX WO
  constructor
  · rintro ⟨o, ρ', s', e, q⟩
    rcases h : a ρ s with _ | ⟨r, s1⟩
    · unfold mSwap at e; rw [h] at e; cases e
    · rw [mSwap_eq h] at e
      split at e
      · rename_i x y hp
        split at e
        · rename_i k1 s2 xs e1 e2
          split at e
          · rename_i j1 ej1
            split at e
            · rename_i k2 s3 e3
              split at e
              · rename_i j2 ej2
                cases e
                exact ⟨r, s1, rfl, (x, y), hp, _, s2, e1, k1, rfl, xs, by rw [getC_of e2]; rfl, j1, ej1, _, rfl, _, _, e3, k2, rfl, j2, ej2, _, rfl, q⟩
              · cases e
            · cases e
          · cases e
        · cases e
      · cases e
  · rintro ⟨r, s1, h, ⟨x, y⟩, hp, z, s2, e1, k1, hk, xs, hg, j1, ej1, _, e5, z2, s3, e3, k2, hk2, j2, ej2, _, e6, q⟩
    cases e5
    cases e6
    have hz : z = .d (.int k1) := by
      cases z with
      | d z =>
        cases z with
        | int i => cases hk; rfl
        | _ => cases hk
      | _ => cases hk
    have hz2 : z2 = .d (.int k2) := by
      cases z2 with
      | d z =>
        cases z with
        | int i => cases hk2; rfl
        | _ => cases hk2
      | _ => cases hk2
    subst hz hz2
    cases hc : getC ρ i with
    | none => rw [hc] at hg; cases hg
    | some c =>
      rw [hc] at hg
      cases c with
      | o ys =>
        cases hg
        exact ⟨_, _, _, by rw [mSwap_eq h, hp]; simp only [e1, of_getC hc, ej1, e3, ej2], q⟩
      | _ => cases hg
/-- a dict made by a comprehension -/
def WDc (vs : List Nat) (g : Gx) (t : Mt) (ek ev : Mx) (xs : List PyData) (acc : List (Key × PyData)) (ρ : Ev) (s : Sto) (Q : List (Key × PyData) → Sto → Prop) (_t : Tg (vs, g, t, ek, ev, Q) := .mk) : Prop := ∃ r s', dcRun vs g t ek ev xs acc ρ s = some (r, s') ∧ Q r s'
@[simp ↓] theorem wx_dc {it : Mi} {vs : List Nat} {g : Gx} {t : Mt} {ek ev : Mx} {ρ : Ev} {s : Sto} {Q : R → Sto → Prop} : WX (mDc it vs g t ek ev) ρ s Q = WI it ρ s fun xs s1 => WDc vs g t ek ev xs [] ρ s1 fun acc s2 => Q (.d (dOf acc)) s2 := by
  apply propext
  unfold WX WDc WI mDc
  rcases it ρ s with _ | ⟨xs, s1⟩
  · simp
  · dsimp only
    rcases h : dcRun vs g t ek ev xs [] ρ s1 with _ | ⟨acc, s2⟩ <;> simp [h]
end Dh
namespace WW
open PySem PySem.Spec L2 Dh
def top (i : Nat) : Stmt := PySem.Challenge.pw_deedhouses_k03_plans_of_anything.main.body.getD i (.Pass ⟨0, 0, 0, 0⟩)
abbrev s_is_whole : Stmt := top 2
abbrev n_is_whole : List Str := ["value"]
abbrev p_is_whole : List Str := ["value"]
abbrev s_is_between : Stmt := top 3
abbrev n_is_between : List Str := ["value", "low", "high"]
abbrev p_is_between : List Str := ["value", "low", "high"]
abbrev s_is_tuple_of : Stmt := top 4
abbrev n_is_tuple_of : List Str := ["value", "many"]
abbrev p_is_tuple_of : List Str := ["value", "many"]
abbrev s_is_ratio : Stmt := top 8
abbrev n_is_ratio : List Str := ["value"]
abbrev p_is_ratio : List Str := ["value"]
abbrev s_is_row : Stmt := top 9
abbrev n_is_row : List Str := ["value", "many", "each"]
abbrev p_is_row : List Str := ["value", "many"]
abbrev s_ratio : Stmt := top 10
abbrev n_ratio : List Str := ["top", "low", "part"]
abbrev p_ratio : List Str := ["top", "low"]
abbrev s_plus : Stmt := top 11
abbrev n_plus : List Str := ["one", "two"]
abbrev p_plus : List Str := ["one", "two"]
abbrev s_total : Stmt := top 12
abbrev n_total : List Str := ["fractions", "found", "each"]
abbrev p_total : List Str := ["fractions"]
abbrev s_is_chance_row : Stmt := top 13
abbrev n_is_chance_row : List Str := ["value", "many", "each"]
abbrev p_is_chance_row : List Str := ["value", "many"]
abbrev s_is_still_by : Stmt := top 16
abbrev n_is_still_by : List Str := ["house", "value", "odds", "deeds"]
abbrev p_is_still_by : List Str := ["house", "value"]
abbrev s_is_choice_by : Stmt := top 17
abbrev n_is_choice_by : List Str := ["house", "value", "deed", "deeds"]
abbrev p_is_choice_by : List Str := ["house", "value"]
abbrev s_are_odds : Stmt := top 18
abbrev n_are_odds : List Str := ["value", "minds", "deeds", "odds"]
abbrev p_are_odds : List Str := ["value", "minds", "deeds"]
abbrev s_are_nexts : Stmt := top 19
abbrev n_are_nexts : List Str := ["value", "minds", "deeds", "row", "mind"]
abbrev p_are_nexts : List Str := ["value", "minds", "deeds"]
abbrev s_is_minded_by : Stmt := top 20
abbrev n_is_minded_by : List Str := ["house", "value", "minds", "odds_rows", "nexts", "each", "deeds"]
abbrev p_is_minded_by : List Str := ["house", "value"]
abbrev s_plain_odds : Stmt := top 21
abbrev n_plain_odds : List Str := ["deed", "many", "at"]
abbrev p_plain_odds : List Str := ["deed", "many"]
abbrev s_still_by : Stmt := top 22
abbrev n_still_by : List Str := ["house", "choice", "deed", "deeds"]
abbrev p_still_by : List Str := ["house", "choice"]
abbrev s_choice_by : Stmt := top 23
abbrev n_choice_by : List Str := ["still", "odds", "each"]
abbrev p_choice_by : List Str := ["still"]
abbrev s_doubled_by : Stmt := top 24
abbrev n_doubled_by : List Str := ["still", "odds", "each"]
abbrev p_doubled_by : List Str := ["still"]
abbrev s_minded_by : Stmt := top 25
abbrev n_minded_by : List Str := ["still", "odds"]
abbrev p_minded_by : List Str := ["still"]
abbrev s_are_chances : Stmt := top 30
abbrev n_are_chances : List Str := ["value", "stands", "goals", "each", "stand", "chance", "_", "one", "two"]
abbrev p_are_chances : List Str := ["value", "stands"]
abbrev s_is_deed : Stmt := top 31
abbrev n_is_deed : List Str := ["value", "pays", "stands"]
abbrev p_is_deed : List Str := ["value", "pays", "stands"]
abbrev s_is_stand : Stmt := top 32
abbrev n_is_stand : List Str := ["value", "pays", "stands", "each"]
abbrev p_is_stand : List Str := ["value", "pays", "stands"]
abbrev s_is_share : Stmt := top 33
abbrev n_is_share : List Str := ["value"]
abbrev p_is_share : List Str := ["value"]
abbrev s_is_house_by : Stmt := top 34
abbrev n_is_house_by : List Str := ["value", "stands", "each"]
abbrev p_is_house_by : List Str := ["value"]
abbrev s_check_house : Stmt := top 41
abbrev n_check_house : List Str := ["value"]
abbrev p_check_house : List Str := ["value"]
abbrev s_check_still : Stmt := top 42
abbrev n_check_still : List Str := ["house", "value", "index", "odds"]
abbrev p_check_still : List Str := ["house", "value"]
abbrev s_check_choice : Stmt := top 43
abbrev n_check_choice : List Str := ["house", "value", "index", "deed"]
abbrev p_check_choice : List Str := ["house", "value"]
abbrev s_is_still : Stmt := top 45
abbrev n_is_still : List Str := ["house", "value"]
abbrev p_is_still : List Str := ["house", "value"]
abbrev s_is_choice : Stmt := top 46
abbrev n_is_choice : List Str := ["house", "value"]
abbrev p_is_choice : List Str := ["house", "value"]
abbrev s_is_minded : Stmt := top 47
abbrev n_is_minded : List Str := ["house", "value"]
abbrev p_is_minded : List Str := ["house", "value"]
abbrev s_still_of : Stmt := top 48
abbrev n_still_of : List Str := ["house", "choice"]
abbrev p_still_of : List Str := ["house", "choice"]
abbrev s_choice_of : Stmt := top 49
abbrev n_choice_of : List Str := ["house", "still"]
abbrev p_choice_of : List Str := ["house", "still"]
abbrev s_doubled : Stmt := top 50
abbrev n_doubled : List Str := ["house", "still"]
abbrev p_doubled : List Str := ["house", "still"]
abbrev s_minded_of : Stmt := top 51
abbrev n_minded_of : List Str := ["house", "still"]
abbrev p_minded_of : List Str := ["house", "still"]
abbrev s_law_spring : Stmt := top 53
abbrev n_law_spring : List Str := ["_law_script", "_law_lap", "_law_mixed", "_law_cell", "_law_own"]
abbrev p_law_spring : List Str := ["_law_script", "_law_lap"]
abbrev s_law_pick : Stmt := top 54
abbrev n_law_pick : List Str := ["_law_spring_here", "_law_limit", "_law_digit", "_law_mixed"]
abbrev p_law_pick : List Str := ["_law_spring_here", "_law_limit"]
abbrev s_law_any_of : Stmt := top 55
abbrev n_law_any_of : List Str := ["_law_spring_here", "_law_some"]
abbrev p_law_any_of : List Str := ["_law_spring_here", "_law_some"]
abbrev s_law_frac : Stmt := top 56
abbrev n_law_frac : List Str := ["_law_up", "_law_down", "_law_one", "_law_two"]
abbrev p_law_frac : List Str := ["_law_up", "_law_down"]
abbrev s_law_plus : Stmt := top 57
abbrev n_law_plus : List Str := ["_law_x", "_law_y"]
abbrev p_law_plus : List Str := ["_law_x", "_law_y"]
abbrev s_law_total : Stmt := top 58
abbrev n_law_total : List Str := ["_law_row", "_law_found", "_law_x"]
abbrev p_law_total : List Str := ["_law_row"]
abbrev s_law_part : Stmt := top 59
abbrev n_law_part : List Str := ["_law_spring_here", "_law_way", "_law_under"]
abbrev p_law_part : List Str := ["_law_spring_here"]
abbrev s_law_gains : Stmt := top 60
abbrev n_law_gains : List Str := ["_law_spring_here", "_law_pays", "_law_found", "_law_go"]
abbrev p_law_gains : List Str := ["_law_spring_here", "_law_pays"]
abbrev s_law_parts : Stmt := top 61
abbrev n_law_parts : List Str := ["_law_spring_here", "_law_wide", "_law_found", "_law_at", "_law_way"]
abbrev p_law_parts : List Str := ["_law_spring_here", "_law_wide"]
abbrev s_law_chances : Stmt := top 62
abbrev n_law_chances : List Str := ["_law_spring_here", "_law_wide", "_law_parts_here", "_law_at"]
abbrev p_law_chances : List Str := ["_law_spring_here", "_law_wide"]
abbrev s_law_odds : Stmt := top 63
abbrev n_law_odds : List Str := ["_law_spring_here", "_law_wide", "_law_parts_here", "_law_part_here"]
abbrev p_law_odds : List Str := ["_law_spring_here", "_law_wide"]
abbrev s_law_sized : Stmt := top 64
abbrev n_law_sized : List Str := ["_law_spring_here", "_law_counts", "_law_pays", "_law_share", "_law_stands", "_law_many_here", "_law_stand", "_law_go", "_law_chances_here"]
abbrev p_law_sized : List Str := ["_law_spring_here", "_law_counts", "_law_pays"]
abbrev s_law_world : Stmt := top 65
abbrev n_law_world : List Str := ["_law_spring_here", "_law_most_here", "_law_deeds", "_law_pays", "_law_counts", "_law_go"]
abbrev p_law_world : List Str := ["_law_spring_here", "_law_most_here", "_law_deeds", "_law_pays"]
abbrev s_law_plan : Stmt := top 66
abbrev n_law_plan : List Str := ["_law_spring_here", "_law_world_here", "_law_found", "_law_is_plain", "_law_stand", "_law_at", "_law_spot"]
abbrev p_law_plan : List Str := ["_law_spring_here", "_law_world_here"]
abbrev s_law_chosen : Stmt := top 67
abbrev n_law_chosen : List Str := ["_law_spring_here", "_law_world_here", "_law_found", "_law_stand"]
abbrev p_law_chosen : List Str := ["_law_spring_here", "_law_world_here"]
abbrev s_law_sure : Stmt := top 68
abbrev n_law_sure : List Str := ["_law_world_here", "_law_chosen_here", "_law_found", "_law_stand", "_law_at", "_law_spot"]
abbrev p_law_sure : List Str := ["_law_world_here", "_law_chosen_here"]
abbrev s_law_mindful : Stmt := top 69
abbrev n_law_mindful : List Str := ["_law_spring_here", "_law_world_here", "_law_minds", "_law_odds_here", "_law_leads", "_law_stand", "_law_some", "_law_mind", "_law_deed", "_law_row"]
abbrev p_law_mindful : List Str := ["_law_spring_here", "_law_world_here", "_law_minds"]
abbrev s_law_is_whole : Stmt := top 70
abbrev n_law_is_whole : List Str := ["_law_thing"]
abbrev p_law_is_whole : List Str := ["_law_thing"]
abbrev s_law_is_tuple : Stmt := top 71
abbrev n_law_is_tuple : List Str := ["_law_thing", "_law_wide"]
abbrev p_law_is_tuple : List Str := ["_law_thing", "_law_wide"]
abbrev s_law_is_frac : Stmt := top 72
abbrev n_law_is_frac : List Str := ["_law_thing"]
abbrev p_law_is_frac : List Str := ["_law_thing"]
abbrev s_law_is_row : Stmt := top 73
abbrev n_law_is_row : List Str := ["_law_thing", "_law_wide", "_law_x"]
abbrev p_law_is_row : List Str := ["_law_thing", "_law_wide"]
abbrev s_law_is_odds : Stmt := top 74
abbrev n_law_is_odds : List Str := ["_law_thing", "_law_wide", "_law_x"]
abbrev p_law_is_odds : List Str := ["_law_thing", "_law_wide"]
abbrev s_law_is_mindful : Stmt := top 75
abbrev n_law_is_mindful : List Str := ["_law_world_here", "_law_thing", "_law_stand", "_law_odds_here", "_law_leads", "_law_row", "_law_mind"]
abbrev p_law_is_mindful : List Str := ["_law_world_here", "_law_thing"]
abbrev s_law_is_chosen : Stmt := top 76
abbrev n_law_is_chosen : List Str := ["_law_world_here", "_law_thing", "_law_stand", "_law_at"]
abbrev p_law_is_chosen : List Str := ["_law_world_here", "_law_thing"]
abbrev s_law_odd : Stmt := top 77
abbrev n_law_odd : List Str := ["_law_spring_here"]
abbrev p_law_odd : List Str := ["_law_spring_here"]
abbrev s_law_twice : Stmt := top 78
abbrev n_law_twice : List Str := ["_law_thing"]
abbrev p_law_twice : List Str := ["_law_thing"]
abbrev s_law_bent : Stmt := top 79
abbrev n_law_bent : List Str := ["_law_spring_here", "_law_thing", "_law_at", "_law_way", "_law_more"]
abbrev p_law_bent : List Str := ["_law_spring_here", "_law_thing"]
abbrev s_law_maybe : Stmt := top 80
abbrev n_law_maybe : List Str := ["_law_spring_here", "_law_thing", "_law_way"]
abbrev p_law_maybe : List Str := ["_law_spring_here", "_law_thing"]
abbrev s_law_is_plan : Stmt := top 81
abbrev n_law_is_plan : List Str := ["_law_world_here", "_law_thing", "_law_stand", "_law_row"]
abbrev p_law_is_plan : List Str := ["_law_world_here", "_law_thing"]
abbrev s_law_chosen_of : Stmt := top 82
abbrev n_law_chosen_of : List Str := ["_law_plan_here", "_law_found", "_law_odds_here", "_law_sures", "_law_at"]
abbrev p_law_chosen_of : List Str := ["_law_plan_here"]
abbrev s_law_doubled : Stmt := top 83
abbrev n_law_doubled : List Str := ["_law_plan_here", "_law_odds_here", "_law_x"]
abbrev p_law_doubled : List Str := ["_law_plan_here"]
abbrev s_law_minded_of : Stmt := top 84
abbrev n_law_minded_of : List Str := ["_law_world_here", "_law_plan_here", "_law_leads", "_law_stand", "_law_deed", "_law_odds_here"]
abbrev p_law_minded_of : List Str := ["_law_world_here", "_law_plan_here"]
abbrev s_law_right : Stmt := top 85
abbrev n_law_right : List Str := ["_law_spring_here", "_law_world_here", "_law_plan_here", "_law_chosen_here", "_law_mindful_here", "_law_due", "_law_told", "_law_heard", "_law_late"]
abbrev p_law_right : List Str := ["_law_spring_here"]
abbrev s_law : Stmt := top 86
abbrev n_law : List Str := ["_law_script", "_law_lap"]
abbrev p_law : List Str := ["_law_script"]
def k_MOST_DEEDS : PyData := (.int 4)
def k_MOST_MINDS : PyData := (.int 4)
def k_MOST_PAYS : PyData := (.int 4)
def k_MOST_STANDS : PyData := (.int 8)
def k_ONE : PyData := (.tuple [(.int 1), (.int 1)])
def k_ZERO : PyData := (.tuple [(.int 0), (.int 1)])
/-- what the top has made of the text -/
structure Txt (K : PySem.W.Frag) (mg : Str → Option Value) (ad : Nat → Addr) (fd : Nat → FuncData) : Prop where
  d_is_whole : Fun K "is_whole" "is_whole" s_is_whole (ad 0) (fd 0)
  m_is_whole : mg "is_whole" = some (.ref (ad 0))
  d_is_between : Fun K "is_between" "is_between" s_is_between (ad 1) (fd 1)
  m_is_between : mg "is_between" = some (.ref (ad 1))
  d_is_tuple_of : Fun K "is_tuple_of" "is_tuple_of" s_is_tuple_of (ad 2) (fd 2)
  m_is_tuple_of : mg "is_tuple_of" = some (.ref (ad 2))
  d_is_ratio : Fun K "is_ratio" "is_ratio" s_is_ratio (ad 3) (fd 3)
  m_is_ratio : mg "is_ratio" = some (.ref (ad 3))
  d_is_row : Fun K "is_row" "is_row" s_is_row (ad 4) (fd 4)
  m_is_row : mg "is_row" = some (.ref (ad 4))
  d_ratio : Fun K "ratio" "ratio" s_ratio (ad 5) (fd 5)
  m_ratio : mg "ratio" = some (.ref (ad 5))
  d_plus : Fun K "plus" "plus" s_plus (ad 6) (fd 6)
  m_plus : mg "plus" = some (.ref (ad 6))
  d_total : Fun K "total" "total" s_total (ad 7) (fd 7)
  m_total : mg "total" = some (.ref (ad 7))
  d_is_chance_row : Fun K "is_chance_row" "is_chance_row" s_is_chance_row (ad 8) (fd 8)
  m_is_chance_row : mg "is_chance_row" = some (.ref (ad 8))
  d_is_still_by : Fun K "is_still_by" "is_still_by" s_is_still_by (ad 9) (fd 9)
  m_is_still_by : mg "is_still_by" = some (.ref (ad 9))
  d_is_choice_by : Fun K "is_choice_by" "is_choice_by" s_is_choice_by (ad 10) (fd 10)
  m_is_choice_by : mg "is_choice_by" = some (.ref (ad 10))
  d_are_odds : Fun K "are_odds" "are_odds" s_are_odds (ad 11) (fd 11)
  m_are_odds : mg "are_odds" = some (.ref (ad 11))
  d_are_nexts : Fun K "are_nexts" "are_nexts" s_are_nexts (ad 12) (fd 12)
  m_are_nexts : mg "are_nexts" = some (.ref (ad 12))
  d_is_minded_by : Fun K "is_minded_by" "is_minded_by" s_is_minded_by (ad 13) (fd 13)
  m_is_minded_by : mg "is_minded_by" = some (.ref (ad 13))
  d_plain_odds : Fun K "plain_odds" "plain_odds" s_plain_odds (ad 14) (fd 14)
  m_plain_odds : mg "plain_odds" = some (.ref (ad 14))
  d_still_by : Fun K "still_by" "still_by" s_still_by (ad 15) (fd 15)
  m_still_by : mg "still_by" = some (.ref (ad 15))
  d_choice_by : Fun K "choice_by" "choice_by" s_choice_by (ad 16) (fd 16)
  m_choice_by : mg "choice_by" = some (.ref (ad 16))
  d_doubled_by : Fun K "doubled_by" "doubled_by" s_doubled_by (ad 17) (fd 17)
  m_doubled_by : mg "doubled_by" = some (.ref (ad 17))
  d_minded_by : Fun K "minded_by" "minded_by" s_minded_by (ad 18) (fd 18)
  m_minded_by : mg "minded_by" = some (.ref (ad 18))
  d_are_chances : Fun K "are_chances" "are_chances" s_are_chances (ad 19) (fd 19)
  m_are_chances : mg "are_chances" = some (.ref (ad 19))
  d_is_deed : Fun K "is_deed" "is_deed" s_is_deed (ad 20) (fd 20)
  m_is_deed : mg "is_deed" = some (.ref (ad 20))
  d_is_stand : Fun K "is_stand" "is_stand" s_is_stand (ad 21) (fd 21)
  m_is_stand : mg "is_stand" = some (.ref (ad 21))
  d_is_share : Fun K "is_share" "is_share" s_is_share (ad 22) (fd 22)
  m_is_share : mg "is_share" = some (.ref (ad 22))
  d_is_house_by : Fun K "is_house_by" "is_house_by" s_is_house_by (ad 23) (fd 23)
  m_is_house_by : mg "is_house_by" = some (.ref (ad 23))
  d_check_house : Fun K "check_house" "check_house" s_check_house (ad 24) (fd 24)
  m_check_house : mg "check_house" = some (.ref (ad 24))
  d_check_still : Fun K "check_still" "check_still" s_check_still (ad 25) (fd 25)
  m_check_still : mg "check_still" = some (.ref (ad 25))
  d_check_choice : Fun K "check_choice" "check_choice" s_check_choice (ad 26) (fd 26)
  m_check_choice : mg "check_choice" = some (.ref (ad 26))
  d_is_still : Fun K "is_still" "is_still" s_is_still (ad 27) (fd 27)
  m_is_still : mg "is_still" = some (.ref (ad 27))
  d_is_choice : Fun K "is_choice" "is_choice" s_is_choice (ad 28) (fd 28)
  m_is_choice : mg "is_choice" = some (.ref (ad 28))
  d_is_minded : Fun K "is_minded" "is_minded" s_is_minded (ad 29) (fd 29)
  m_is_minded : mg "is_minded" = some (.ref (ad 29))
  d_still_of : Fun K "still_of" "still_of" s_still_of (ad 30) (fd 30)
  m_still_of : mg "still_of" = some (.ref (ad 30))
  d_choice_of : Fun K "choice_of" "choice_of" s_choice_of (ad 31) (fd 31)
  m_choice_of : mg "choice_of" = some (.ref (ad 31))
  d_doubled : Fun K "doubled" "doubled" s_doubled (ad 32) (fd 32)
  m_doubled : mg "doubled" = some (.ref (ad 32))
  d_minded_of : Fun K "minded_of" "minded_of" s_minded_of (ad 33) (fd 33)
  m_minded_of : mg "minded_of" = some (.ref (ad 33))
  d_law_spring : Fun K "_law_spring" "_law_spring" s_law_spring (ad 34) (fd 34)
  m_law_spring : mg "_law_spring" = some (.ref (ad 34))
  d_law_pick : Fun K "_law_pick" "_law_pick" s_law_pick (ad 35) (fd 35)
  m_law_pick : mg "_law_pick" = some (.ref (ad 35))
  d_law_any_of : Fun K "_law_any_of" "_law_any_of" s_law_any_of (ad 36) (fd 36)
  m_law_any_of : mg "_law_any_of" = some (.ref (ad 36))
  d_law_frac : Fun K "_law_frac" "_law_frac" s_law_frac (ad 37) (fd 37)
  m_law_frac : mg "_law_frac" = some (.ref (ad 37))
  d_law_plus : Fun K "_law_plus" "_law_plus" s_law_plus (ad 38) (fd 38)
  m_law_plus : mg "_law_plus" = some (.ref (ad 38))
  d_law_total : Fun K "_law_total" "_law_total" s_law_total (ad 39) (fd 39)
  m_law_total : mg "_law_total" = some (.ref (ad 39))
  d_law_part : Fun K "_law_part" "_law_part" s_law_part (ad 40) (fd 40)
  m_law_part : mg "_law_part" = some (.ref (ad 40))
  d_law_gains : Fun K "_law_gains" "_law_gains" s_law_gains (ad 41) (fd 41)
  m_law_gains : mg "_law_gains" = some (.ref (ad 41))
  d_law_parts : Fun K "_law_parts" "_law_parts" s_law_parts (ad 42) (fd 42)
  m_law_parts : mg "_law_parts" = some (.ref (ad 42))
  d_law_chances : Fun K "_law_chances" "_law_chances" s_law_chances (ad 43) (fd 43)
  m_law_chances : mg "_law_chances" = some (.ref (ad 43))
  d_law_odds : Fun K "_law_odds" "_law_odds" s_law_odds (ad 44) (fd 44)
  m_law_odds : mg "_law_odds" = some (.ref (ad 44))
  d_law_sized : Fun K "_law_sized" "_law_sized" s_law_sized (ad 45) (fd 45)
  m_law_sized : mg "_law_sized" = some (.ref (ad 45))
  d_law_world : Fun K "_law_world" "_law_world" s_law_world (ad 46) (fd 46)
  m_law_world : mg "_law_world" = some (.ref (ad 46))
  d_law_plan : Fun K "_law_plan" "_law_plan" s_law_plan (ad 47) (fd 47)
  m_law_plan : mg "_law_plan" = some (.ref (ad 47))
  d_law_chosen : Fun K "_law_chosen" "_law_chosen" s_law_chosen (ad 48) (fd 48)
  m_law_chosen : mg "_law_chosen" = some (.ref (ad 48))
  d_law_sure : Fun K "_law_sure" "_law_sure" s_law_sure (ad 49) (fd 49)
  m_law_sure : mg "_law_sure" = some (.ref (ad 49))
  d_law_mindful : Fun K "_law_mindful" "_law_mindful" s_law_mindful (ad 50) (fd 50)
  m_law_mindful : mg "_law_mindful" = some (.ref (ad 50))
  d_law_is_whole : Fun K "_law_is_whole" "_law_is_whole" s_law_is_whole (ad 51) (fd 51)
  m_law_is_whole : mg "_law_is_whole" = some (.ref (ad 51))
  d_law_is_tuple : Fun K "_law_is_tuple" "_law_is_tuple" s_law_is_tuple (ad 52) (fd 52)
  m_law_is_tuple : mg "_law_is_tuple" = some (.ref (ad 52))
  d_law_is_frac : Fun K "_law_is_frac" "_law_is_frac" s_law_is_frac (ad 53) (fd 53)
  m_law_is_frac : mg "_law_is_frac" = some (.ref (ad 53))
  d_law_is_row : Fun K "_law_is_row" "_law_is_row" s_law_is_row (ad 54) (fd 54)
  m_law_is_row : mg "_law_is_row" = some (.ref (ad 54))
  d_law_is_odds : Fun K "_law_is_odds" "_law_is_odds" s_law_is_odds (ad 55) (fd 55)
  m_law_is_odds : mg "_law_is_odds" = some (.ref (ad 55))
  d_law_is_mindful : Fun K "_law_is_mindful" "_law_is_mindful" s_law_is_mindful (ad 56) (fd 56)
  m_law_is_mindful : mg "_law_is_mindful" = some (.ref (ad 56))
  d_law_is_chosen : Fun K "_law_is_chosen" "_law_is_chosen" s_law_is_chosen (ad 57) (fd 57)
  m_law_is_chosen : mg "_law_is_chosen" = some (.ref (ad 57))
  d_law_odd : Fun K "_law_odd" "_law_odd" s_law_odd (ad 58) (fd 58)
  m_law_odd : mg "_law_odd" = some (.ref (ad 58))
  d_law_twice : Fun K "_law_twice" "_law_twice" s_law_twice (ad 59) (fd 59)
  m_law_twice : mg "_law_twice" = some (.ref (ad 59))
  d_law_bent : Fun K "_law_bent" "_law_bent" s_law_bent (ad 60) (fd 60)
  m_law_bent : mg "_law_bent" = some (.ref (ad 60))
  d_law_maybe : Fun K "_law_maybe" "_law_maybe" s_law_maybe (ad 61) (fd 61)
  m_law_maybe : mg "_law_maybe" = some (.ref (ad 61))
  d_law_is_plan : Fun K "_law_is_plan" "_law_is_plan" s_law_is_plan (ad 62) (fd 62)
  m_law_is_plan : mg "_law_is_plan" = some (.ref (ad 62))
  d_law_chosen_of : Fun K "_law_chosen_of" "_law_chosen_of" s_law_chosen_of (ad 63) (fd 63)
  m_law_chosen_of : mg "_law_chosen_of" = some (.ref (ad 63))
  d_law_doubled : Fun K "_law_doubled" "_law_doubled" s_law_doubled (ad 64) (fd 64)
  m_law_doubled : mg "_law_doubled" = some (.ref (ad 64))
  d_law_minded_of : Fun K "_law_minded_of" "_law_minded_of" s_law_minded_of (ad 65) (fd 65)
  m_law_minded_of : mg "_law_minded_of" = some (.ref (ad 65))
  d_law_right : Fun K "_law_right" "_law_right" s_law_right (ad 66) (fd 66)
  m_law_right : mg "_law_right" = some (.ref (ad 66))
  d_law : Fun K "law" "law" s_law (ad 67) (fd 67)
  m_law : mg "law" = some (.ref (ad 67))
  b_abs : mg "abs" = none
  b_all : mg "all" = none
  b_bool : mg "bool" = none
  b_divmod : mg "divmod" = none
  b_enumerate : mg "enumerate" = none
  b_gcd : mg "gcd" = some (.builtin "math.gcd")
  b_int : mg "int" = none
  b_isinstance : mg "isinstance" = none
  b_len : mg "len" = none
  b_list : mg "list" = none
  b_max : mg "max" = none
  b_min : mg "min" = none
  b_range : mg "range" = none
  b_repr : mg "repr" = none
  b_str : mg "str" = none
  b_sum : mg "sum" = none
  b_tuple : mg "tuple" = none
  b_zip : mg "zip" = none
  g_MOST_DEEDS : GlK K mg "MOST_DEEDS" k_MOST_DEEDS
  g_MOST_MINDS : GlK K mg "MOST_MINDS" k_MOST_MINDS
  g_MOST_PAYS : GlK K mg "MOST_PAYS" k_MOST_PAYS
  g_MOST_STANDS : GlK K mg "MOST_STANDS" k_MOST_STANDS
  g_ONE : GlK K mg "ONE" k_ONE
  g_ZERO : GlK K mg "ZERO" k_ZERO
noncomputable def m_is_whole : Ms :=
  (mRet (mAnd (m1 (fIsi "int") (mVar 0)) (m1 fNot (m1 (fIsi "bool") (mVar 0)))))
noncomputable def f_is_whole : Fx := run' 1 1 m_is_whole
noncomputable def m_is_between : Ms :=
  (mRet (mAnd (mCall f_is_whole (maCons (mVar 0) maNil)) (mChain gLe gLe (mVar 1) (mVar 0) (mVar 2))))
noncomputable def f_is_between : Fx := run' 3 3 m_is_between
noncomputable def m_is_tuple_of : Ms :=
  (mRet (mAnd (m1 (fIsi "tuple") (mVar 0)) (m2 (fEq false) (mA fLen (maCons (mVar 0) maNil)) (mVar 1))))
noncomputable def f_is_tuple_of : Fx := run' 2 2 m_is_tuple_of
noncomputable def m_is_ratio : Ms :=
  (mSeq (mIfS (tOr2 (tNot2 (bT (mCall f_is_tuple_of (maCons (mVar 0) (maCons (mKon (.int 2)) maNil))))) (tOr2 (tNot2 (bT (mCall f_is_whole (maCons (mIx (mVar 0) (mKon (.int 0))) maNil)))) (tNot2 (bT (mCall f_is_whole (maCons (mIx (mVar 0) (mKon (.int 1))) maNil))))))
    (mRet (mKon (.bool false)))
    mNil)
    (mRet (mAnd (m2 (fI gGt) (mIx (mVar 0) (mKon (.int 1))) (mKon (.int 0))) (m2 (fEq false) (mA fGcd (maCons (mIx (mVar 0) (mKon (.int 0))) (maCons (mIx (mVar 0) (mKon (.int 1))) maNil))) (mKon (.int 1))))))
noncomputable def f_is_ratio : Fx := run' 1 1 m_is_ratio
noncomputable def m_is_row : Ms :=
  (mRet (mAnd (mCall f_is_tuple_of (maCons (mVar 0) (maCons (mVar 1) maNil))) (mA fAll (maCons (mLc (mSeqI (mVar 0)) [2] (gN 2) mYes (mCall f_is_ratio (maCons (mVar 2) maNil))) maNil))))
noncomputable def f_is_row : Fx := run' 2 3 m_is_row
noncomputable def m_ratio : Ms :=
  (mSeq (mSet 2 (mIf (bT (m2 (fI gGt) (mVar 1) (mKon (.int 0)))) (mA fGcd (maCons (mVar 0) (maCons (mVar 1) maNil))) (m1 fNeg (mA fGcd (maCons (mVar 0) (maCons (mVar 1) maNil))))))
    (mRet (mA fTup (maCons (m2 (fI gFdiv) (mVar 0) (mVar 2)) (maCons (m2 (fI gFdiv) (mVar 1) (mVar 2)) maNil)))))
noncomputable def f_ratio : Fx := run' 2 3 m_ratio
noncomputable def m_plus : Ms :=
  (mRet (mCall f_ratio (maCons (m2 fAdd (m2 fMul (mIx (mVar 0) (mKon (.int 0))) (mIx (mVar 1) (mKon (.int 1)))) (m2 fMul (mIx (mVar 1) (mKon (.int 0))) (mIx (mVar 0) (mKon (.int 1))))) (maCons (m2 fMul (mIx (mVar 0) (mKon (.int 1))) (mIx (mVar 1) (mKon (.int 1)))) maNil))))
noncomputable def f_plus : Fx := run' 2 2 m_plus
noncomputable def m_total : Ms :=
  (mSeq (mSet 1 (mKon k_ZERO))
    (mSeq (mFor (mSeqI (mVar 0)) (gN 2)
    (mSet 1 (mCall f_plus (maCons (mVar 1) (maCons (mVar 2) maNil)))))
    (mRetV 1)))
noncomputable def f_total : Fx := run' 1 3 m_total
noncomputable def m_is_chance_row : Ms :=
  (mRet (mAnd (mCall f_is_row (maCons (mVar 0) (maCons (mVar 1) maNil))) (mAnd (mA fAll (maCons (mLc (mSeqI (mVar 0)) [2] (gN 2) mYes (m2 (fI gGe) (mIx (mVar 2) (mKon (.int 0))) (mKon (.int 0)))) maNil)) (m2 (fEq false) (mCall f_total (maCons (mVar 0) maNil)) (mKon k_ONE)))))
noncomputable def f_is_chance_row : Fx := run' 2 3 m_is_chance_row
noncomputable def m_is_still_by : Ms :=
  (mSeq (mIfS (tNot2 (bT (mCall f_is_tuple_of (maCons (mVar 1) (maCons (mA fLen (maCons (mIx (mVar 0) (mKon (.int 2))) maNil)) maNil)))))
    (mRet (mKon (.bool false)))
    mNil)
    (mRet (mA fAll (maCons (mLc (mArgI zipQ2 (maCons (mVar 1) (maCons (mIx (mVar 0) (mKon (.int 2))) maNil))) [2, 3] (gT 2 (gsCons (gN 2) (gsCons (gN 3) gsNil))) mYes (mCall f_is_chance_row (maCons (mVar 2) (maCons (mA fLen (maCons (mVar 3) maNil)) maNil)))) maNil))))
noncomputable def f_is_still_by : Fx := run' 2 4 m_is_still_by
noncomputable def m_is_choice_by : Ms :=
  (mSeq (mIfS (tNot2 (bT (mCall f_is_tuple_of (maCons (mVar 1) (maCons (mA fLen (maCons (mIx (mVar 0) (mKon (.int 2))) maNil)) maNil)))))
    (mRet (mKon (.bool false)))
    mNil)
    (mRet (mA fAll (maCons (mLc (mArgI zipQ2 (maCons (mVar 1) (maCons (mIx (mVar 0) (mKon (.int 2))) maNil))) [2, 3] (gT 2 (gsCons (gN 2) (gsCons (gN 3) gsNil))) mYes (mCall f_is_between (maCons (mVar 2) (maCons (mKon (.int 0)) (maCons (m2 (fI gMns) (mA fLen (maCons (mVar 3) maNil)) (mKon (.int 1))) maNil))))) maNil))))
noncomputable def f_is_choice_by : Fx := run' 2 4 m_is_choice_by
noncomputable def m_are_odds : Ms :=
  (mRet (mAnd (mCall f_is_tuple_of (maCons (mVar 0) (maCons (mVar 1) maNil))) (mA fAll (maCons (mLc (mSeqI (mVar 0)) [3] (gN 3) mYes (mCall f_is_chance_row (maCons (mVar 3) (maCons (mA fLen (maCons (mVar 2) maNil)) maNil)))) maNil))))
noncomputable def f_are_odds : Fx := run' 3 4 m_are_odds
noncomputable def m_are_nexts : Ms :=
  (mSeq (mIfS (tNot2 (bT (mCall f_is_tuple_of (maCons (mVar 0) (maCons (mA fLen (maCons (mVar 2) maNil)) maNil)))))
    (mRet (mKon (.bool false)))
    mNil)
    (mRet (mA fAll (maCons (mLc (mSeqI (mVar 0)) [3] (gN 3) mYes (mAnd (mCall f_is_tuple_of (maCons (mVar 3) (maCons (mVar 1) maNil))) (mA fAll (maCons (mLc (mSeqI (mVar 3)) [4] (gN 4) mYes (mCall f_is_between (maCons (mVar 4) (maCons (mKon (.int 0)) (maCons (m2 (fI gMns) (mVar 1) (mKon (.int 1))) maNil))))) maNil)))) maNil))))
noncomputable def f_are_nexts : Fx := run' 3 5 m_are_nexts
noncomputable def m_is_minded_by : Ms :=
  (mSeq (mIfS (tOr2 (tNot2 (bT (mCall f_is_tuple_of (maCons (mVar 1) (maCons (mKon (.int 3)) maNil))))) (tNot2 (bT (mCall f_is_between (maCons (mIx (mVar 1) (mKon (.int 0))) (maCons (mKon (.int 1)) (maCons (mKon k_MOST_MINDS) maNil)))))))
    (mRet (mKon (.bool false)))
    mNil)
    (mSeq (mAsg (gT 3 (gsCons (gN 2) (gsCons (gN 3) (gsCons (gN 4) gsNil)))) (mVar 1))
    (mSeq (mIfS (tOr2 (tNot2 (bT (mCall f_is_tuple_of (maCons (mVar 3) (maCons (mA fLen (maCons (mIx (mVar 0) (mKon (.int 2))) maNil)) maNil))))) (tNot2 (bT (mCall f_is_tuple_of (maCons (mVar 4) (maCons (mA fLen (maCons (mIx (mVar 0) (mKon (.int 2))) maNil)) maNil))))))
    (mRet (mKon (.bool false)))
    mNil)
    (mSeq (mIfS (tNot2 (bT (mA fAll (maCons (mLc (mArgI zipQ2 (maCons (mVar 3) (maCons (mIx (mVar 0) (mKon (.int 2))) maNil))) [5, 6] (gT 2 (gsCons (gN 5) (gsCons (gN 6) gsNil))) mYes (mCall f_are_odds (maCons (mVar 5) (maCons (mVar 2) (maCons (mVar 6) maNil))))) maNil))))
    (mRet (mKon (.bool false)))
    mNil)
    (mRet (mA fAll (maCons (mLc (mArgI zipQ2 (maCons (mVar 4) (maCons (mIx (mVar 0) (mKon (.int 2))) maNil))) [5, 6] (gT 2 (gsCons (gN 5) (gsCons (gN 6) gsNil))) mYes (mCall f_are_nexts (maCons (mVar 5) (maCons (mVar 2) (maCons (mVar 6) maNil))))) maNil)))))))
noncomputable def f_is_minded_by : Fx := run' 2 7 m_is_minded_by
noncomputable def m_plain_odds : Ms :=
  (mRet (mA fTupOf (maCons (mLc (mArgI range1 (maCons (mVar 1) maNil)) [2] (gN 2) mYes (mIf (bT (m2 (fEq false) (mVar 2) (mVar 0))) (mKon k_ONE) (mKon k_ZERO))) maNil)))
noncomputable def f_plain_odds : Fx := run' 2 3 m_plain_odds
noncomputable def m_still_by : Ms :=
  (mRet (mA fTupOf (maCons (mLc (mArgI zipQ2 (maCons (mVar 1) (maCons (mIx (mVar 0) (mKon (.int 2))) maNil))) [2, 3] (gT 2 (gsCons (gN 2) (gsCons (gN 3) gsNil))) mYes (mCall f_plain_odds (maCons (mVar 2) (maCons (mA fLen (maCons (mVar 3) maNil)) maNil)))) maNil)))
noncomputable def f_still_by : Fx := run' 2 4 m_still_by
noncomputable def m_choice_by : Ms :=
  (mSeq (mIfS (tNot2 (bT (mA fAll (maCons (mLc2 (mSeqI (mVar 0)) [1, 2] (gN 1) mYes (mSeqI (mVar 1)) [2] (gN 2) mYes (m2 (fIn false) (mVar 2) (mA fTup (maCons (mKon k_ZERO) (maCons (mKon k_ONE) maNil))))) maNil))))
    (mRet (mKon .none))
    mNil)
    (mRet (mA fTupOf (maCons (mLc (mSeqI (mVar 0)) [1] (gN 1) mYes (m2 fIdxT (mVar 1) (mKon k_ONE))) maNil))))
noncomputable def f_choice_by : Fx := run' 1 3 m_choice_by
noncomputable def m_doubled_by : Ms :=
  (mRet (m2 (fI gMns) (mA fLen (maCons (mLc2 (mSeqI (mVar 0)) [1, 2] (gN 1) mYes (mSeqI (mVar 1)) [2] (gN 2) (bT (m2 (fEq true) (mVar 2) (mKon k_ZERO))) (mVar 2)) maNil)) (mA fLen (maCons (mVar 0) maNil))))
noncomputable def f_doubled_by : Fx := run' 1 3 m_doubled_by
noncomputable def m_minded_by : Ms :=
  (mRet (mA fTup (maCons (mKon (.int 1)) (maCons (mA fTupOf (maCons (mLc (mSeqI (mVar 0)) [1] (gN 1) mYes (mA fTup (maCons (mVar 1) maNil))) maNil)) (maCons (mA fTupOf (maCons (mLc (mSeqI (mVar 0)) [1] (gN 1) mYes (m2 fMul (mA fTup (maCons (mA fTup (maCons (mKon (.int 0)) maNil)) maNil)) (mA fLen (maCons (mVar 1) maNil)))) maNil)) maNil)))))
noncomputable def f_minded_by : Fx := run' 1 2 m_minded_by
noncomputable def m_are_chances : Ms :=
  (mSeq (mIfS (tOr2 (tNot2 (bT (m1 (fIsi "tuple") (mVar 0)))) (tNot2 (bT (mA fAll (maCons (mLc (mSeqI (mVar 0)) [3] (gN 3) mYes (mCall f_is_tuple_of (maCons (mVar 3) (maCons (mKon (.int 2)) maNil)))) maNil)))))
    (mRet (mKon (.bool false)))
    mNil)
    (mSeq (mIfS (tNot2 (bT (mA fAll (maCons (mLc (mSeqI (mVar 0)) [4, 5] (gT 2 (gsCons (gN 4) (gsCons (gN 5) gsNil))) mYes (mAnd (mCall f_is_between (maCons (mVar 4) (maCons (mKon (.int 0)) (maCons (m2 (fI gMns) (mVar 1) (mKon (.int 1))) maNil)))) (mAnd (mCall f_is_ratio (maCons (mVar 5) maNil)) (m2 (fI gGt) (mIx (mVar 5) (mKon (.int 0))) (mKon (.int 0)))))) maNil))))
    (mRet (mKon (.bool false)))
    mNil)
    (mSeq (mSet 2 (mLc (mSeqI (mVar 0)) [4, 6] (gT 2 (gsCons (gN 4) (gsCons (gN 6) gsNil))) mYes (mVar 4)))
    (mFrz [2] (mRet (mAnd (mA fAll (maCons (mLc (mArgI zipQ2 (maCons (mVar 2) (maCons (mSl (mVar 2) (moSome (mKon (.int 1))) moNone) maNil))) [7, 8] (gT 2 (gsCons (gN 7) (gsCons (gN 8) gsNil))) mYes (m2 (fI gLt) (mVar 7) (mVar 8))) maNil)) (m2 (fEq false) (mCall f_total (maCons (mLc (mSeqI (mVar 0)) [6, 5] (gT 2 (gsCons (gN 6) (gsCons (gN 5) gsNil))) mYes (mVar 5)) maNil)) (mKon k_ONE))))))))
noncomputable def f_are_chances : Fx := run' 2 9 m_are_chances
noncomputable def m_is_deed : Ms :=
  (mRet (mAnd (mCall f_is_tuple_of (maCons (mVar 0) (maCons (mKon (.int 2)) maNil))) (mAnd (mCall f_are_chances (maCons (mIx (mVar 0) (mKon (.int 0))) (maCons (mVar 2) maNil))) (mCall f_is_row (maCons (mIx (mVar 0) (mKon (.int 1))) (maCons (mVar 1) maNil))))))
noncomputable def f_is_deed : Fx := run' 3 3 m_is_deed
noncomputable def m_is_stand : Ms :=
  (mSeq (mIfS (tOr2 (tNot2 (bT (m1 (fIsi "tuple") (mVar 0)))) (tNot2 (bT (mCall f_is_between (maCons (mA fLen (maCons (mVar 0) maNil)) (maCons (mKon (.int 1)) (maCons (mKon k_MOST_DEEDS) maNil)))))))
    (mRet (mKon (.bool false)))
    mNil)
    (mRet (mA fAll (maCons (mLc (mSeqI (mVar 0)) [3] (gN 3) mYes (mCall f_is_deed (maCons (mVar 3) (maCons (mVar 1) (maCons (mVar 2) maNil))))) maNil))))
noncomputable def f_is_stand : Fx := run' 3 4 m_is_stand
noncomputable def m_is_share : Ms :=
  (mRet (mAnd (mCall f_is_ratio (maCons (mVar 0) maNil)) (mChain gLe gLt (mKon (.int 0)) (mIx (mVar 0) (mKon (.int 0))) (mIx (mVar 0) (mKon (.int 1))))))
noncomputable def f_is_share : Fx := run' 1 1 m_is_share
noncomputable def m_is_house_by : Ms :=
  (mSeq (mIfS (tOr2 (tNot2 (bT (mCall f_is_tuple_of (maCons (mVar 0) (maCons (mKon (.int 3)) maNil))))) (tOr2 (tNot2 (bT (mCall f_is_share (maCons (mIx (mVar 0) (mKon (.int 0))) maNil)))) (tNot2 (bT (mCall f_is_between (maCons (mIx (mVar 0) (mKon (.int 1))) (maCons (mKon (.int 1)) (maCons (mKon k_MOST_PAYS) maNil))))))))
    (mRet (mKon (.bool false)))
    mNil)
    (mSeq (mSet 1 (mIx (mVar 0) (mKon (.int 2))))
    (mSeq (mIfS (tOr2 (tNot2 (bT (m1 (fIsi "tuple") (mVar 1)))) (tNot2 (bT (mCall f_is_between (maCons (mA fLen (maCons (mVar 1) maNil)) (maCons (mKon (.int 1)) (maCons (mKon k_MOST_STANDS) maNil)))))))
    (mRet (mKon (.bool false)))
    mNil)
    (mRet (mA fAll (maCons (mLc (mSeqI (mVar 1)) [2] (gN 2) mYes (mCall f_is_stand (maCons (mVar 2) (maCons (mIx (mVar 0) (mKon (.int 1))) (maCons (mA fLen (maCons (mVar 1) maNil)) maNil))))) maNil))))))
noncomputable def f_is_house_by : Fx := run' 1 3 m_is_house_by
noncomputable def m_check_house : Ms :=
  (mIfS (tNot2 (bT (mCall f_is_house_by (maCons (mVar 0) maNil))))
    mNever
    mNil)
noncomputable def f_check_house : Fx := run' 1 1 m_check_house
noncomputable def m_check_still : Ms :=
  (mSeq (mIfS (tNot2 (bT (mCall f_is_tuple_of (maCons (mVar 1) (maCons (mA fLen (maCons (mIx (mVar 0) (mKon (.int 2))) maNil)) maNil)))))
    mNever
    mNil)
    (mFor (mArgI enum1 (maCons (mVar 1) maNil)) (gT 2 (gsCons (gN 2) (gsCons (gN 3) gsNil)))
    (mIfS (tNot2 (bT (mCall f_is_chance_row (maCons (mVar 3) (maCons (mA fLen (maCons (mIx (mIx (mVar 0) (mKon (.int 2))) (mVar 2)) maNil)) maNil)))))
    mNever
    mNil)))
noncomputable def f_check_still : Fx := run' 2 4 m_check_still
noncomputable def m_check_choice : Ms :=
  (mSeq (mIfS (tNot2 (bT (mCall f_is_tuple_of (maCons (mVar 1) (maCons (mA fLen (maCons (mIx (mVar 0) (mKon (.int 2))) maNil)) maNil)))))
    mNever
    mNil)
    (mFor (mArgI enum1 (maCons (mVar 1) maNil)) (gT 2 (gsCons (gN 2) (gsCons (gN 3) gsNil)))
    (mIfS (tNot2 (bT (mCall f_is_between (maCons (mVar 3) (maCons (mKon (.int 0)) (maCons (m2 (fI gMns) (mA fLen (maCons (mIx (mIx (mVar 0) (mKon (.int 2))) (mVar 2)) maNil)) (mKon (.int 1))) maNil))))))
    mNever
    mNil)))
noncomputable def f_check_choice : Fx := run' 2 4 m_check_choice
noncomputable def m_is_still : Ms :=
  (mSeq (mDrop (mCall f_check_house (maCons (mVar 0) maNil)))
    (mRet (mCall f_is_still_by (maCons (mVar 0) (maCons (mVar 1) maNil)))))
noncomputable def f_is_still : Fx := run' 2 2 m_is_still
noncomputable def m_is_choice : Ms :=
  (mSeq (mDrop (mCall f_check_house (maCons (mVar 0) maNil)))
    (mRet (mCall f_is_choice_by (maCons (mVar 0) (maCons (mVar 1) maNil)))))
noncomputable def f_is_choice : Fx := run' 2 2 m_is_choice
noncomputable def m_is_minded : Ms :=
  (mSeq (mDrop (mCall f_check_house (maCons (mVar 0) maNil)))
    (mRet (mCall f_is_minded_by (maCons (mVar 0) (maCons (mVar 1) maNil)))))
noncomputable def f_is_minded : Fx := run' 2 2 m_is_minded
noncomputable def m_still_of : Ms :=
  (mSeq (mDrop (mCall f_check_house (maCons (mVar 0) maNil)))
    (mSeq (mDrop (mCall f_check_choice (maCons (mVar 0) (maCons (mVar 1) maNil))))
    (mRet (mCall f_still_by (maCons (mVar 0) (maCons (mVar 1) maNil))))))
noncomputable def f_still_of : Fx := run' 2 2 m_still_of
noncomputable def m_choice_of : Ms :=
  (mSeq (mDrop (mCall f_check_house (maCons (mVar 0) maNil)))
    (mSeq (mDrop (mCall f_check_still (maCons (mVar 0) (maCons (mVar 1) maNil))))
    (mRet (mCall f_choice_by (maCons (mVar 1) maNil)))))
noncomputable def f_choice_of : Fx := run' 2 2 m_choice_of
noncomputable def m_doubled : Ms :=
  (mSeq (mDrop (mCall f_check_house (maCons (mVar 0) maNil)))
    (mSeq (mDrop (mCall f_check_still (maCons (mVar 0) (maCons (mVar 1) maNil))))
    (mRet (mCall f_doubled_by (maCons (mVar 1) maNil)))))
noncomputable def f_doubled : Fx := run' 2 2 m_doubled
noncomputable def m_minded_of : Ms :=
  (mSeq (mDrop (mCall f_check_house (maCons (mVar 0) maNil)))
    (mSeq (mDrop (mCall f_check_still (maCons (mVar 0) (maCons (mVar 1) maNil))))
    (mRet (mCall f_minded_by (maCons (mVar 1) maNil)))))
noncomputable def f_minded_of : Fx := run' 2 2 m_minded_of
noncomputable def m_law_spring : Ms :=
  (mSeq (mSet 2 (m2 fAdd (mKon (.int 62668)) (m2 fMul (mKon (.int 9973)) (mVar 1))))
    (mSeq (mFor (mSeqI (mSl (mVar 0) moNone (moSome (mKon (.int 9))))) (gN 3)
    (mSet 2 (m2 (fI gMod) (mA fInt (maCons (m2 fAdd (m2 fAdd (m2 fMul (mVar 2) (mKon (.int 52711))) (m2 fMul (m2 (fI gMod) (mA fInt (maCons (mVar 3) maNil)) (mKon (.int 2147483579))) (mKon (.int 5)))) (mKon (.int 23))) maNil)) (mKon (.int 2147483579)))))
    (mSeq (mSet 4 (mIf (bT (m2 (fI gLt) (mVar 1) (mA fLen (maCons (mVar 0) maNil)))) (mA fInt (maCons (mIx (mVar 0) (mVar 1)) maNil)) (mKon (.int 0))))
    (mSeq (mSet 2 (m2 (fI gMod) (mA fInt (maCons (m2 fAdd (m2 fAdd (m2 fMul (mVar 2) (mKon (.int 41))) (m2 fMul (m2 (fI gMod) (mA fInt (maCons (mVar 4) maNil)) (mKon (.int 2147483579))) (mKon (.int 30103)))) (mKon (.int 7))) maNil)) (mKon (.int 2147483579))))
    (mRet (mA fLst (maCons (mIf (tOr2 (bT (m2 (fI gLt) (mVar 4) (mKon (.int 0)))) (bT (m2 (fI gGe) (mVar 4) (m2 (fI gPow) (mKon (.int 10)) (mKon (.int 15)))))) (mA fAbs (maCons (mVar 4) maNil)) (mKon (.int 0))) (maCons (mVar 2) (maCons (mKon (.int 0)) maNil)))))))))
noncomputable def f_law_spring : Fx := run' 2 5 m_law_spring
noncomputable def m_law_pick : Ms :=
  (mSeq (mIfS (bT (m2 (fI gGt) (mIx (mVar 0) (mKon (.int 0))) (mKon (.int 0))))
    (mSeq (mPair 0 (mKon (.int 0)) 2 (mA fDivmod (maCons (mIx (mVar 0) (mKon (.int 0))) (maCons (mVar 1) maNil))))
    (mRetV 2))
    mNil)
    (mSeq (mPut 0 (mKon (.int 2)) (m2 fAdd (mIx (mVar 0) (mKon (.int 2))) (mKon (.int 1))))
    (mSeq (mSet 3 (m2 (fI gMod) (mA fInt (maCons (m2 fAdd (m2 fMul (mIx (mVar 0) (mKon (.int 1))) (mKon (.int 40692))) (m2 fMul (mKon (.int 15013)) (mIx (mVar 0) (mKon (.int 2))))) maNil)) (mKon (.int 2147483579))))
    (mSeq (mPut 0 (mKon (.int 1)) (m2 (fI gMod) (mA fInt (maCons (m2 fAdd (m2 fMul (mVar 3) (m2 fAdd (m2 (fI gMod) (mA fInt (maCons (mVar 3) maNil)) (mKon (.int 6007))) (mKon (.int 20011)))) (mIx (mVar 0) (mKon (.int 2)))) maNil)) (mKon (.int 2147483579))))
    (mRet (m2 (fI gMod) (mA fInt (maCons (m2 (fI gFdiv) (mIx (mVar 0) (mKon (.int 1))) (mKon (.int 1013))) maNil)) (mVar 1)))))))
noncomputable def f_law_pick : Fx := run' 2 4 m_law_pick
noncomputable def m_law_any_of : Ms :=
  (mRet (mIx (mVar 1) (mCall f_law_pick (maCons (mVar 0) (maCons (mA fLen (maCons (mVar 1) maNil)) maNil)))))
noncomputable def f_law_any_of : Fx := run' 2 2 m_law_any_of
noncomputable def m_law_frac : Ms :=
  (mSeq (mPar 2 3 (maCons (mA fAbs (maCons (mVar 0) maNil)) (maCons (mA fAbs (maCons (mVar 1) maNil)) maNil)))
    (mSeq (mWhile (bT (m2 (fI gGt) (mVar 3) (mKon (.int 0))))
    (mPar 2 3 (maCons (mVar 3) (maCons (m2 (fI gMod) (mA fInt (maCons (mVar 2) maNil)) (mVar 3)) maNil))))
    (mRet (mIf (bT (m2 (fI gGt) (mVar 1) (mKon (.int 0)))) (mA fTup (maCons (m2 (fI gFdiv) (mVar 0) (mVar 2)) (maCons (m2 (fI gFdiv) (mVar 1) (mVar 2)) maNil))) (mA fTup (maCons (m2 (fI gMns) (mKon (.int 0)) (m2 (fI gFdiv) (mVar 0) (mVar 2))) (maCons (m2 (fI gMns) (mKon (.int 0)) (m2 (fI gFdiv) (mVar 1) (mVar 2))) maNil)))))))
noncomputable def f_law_frac : Fx := run' 2 4 m_law_frac
noncomputable def m_law_plus : Ms :=
  (mRet (mCall f_law_frac (maCons (m2 fAdd (m2 fMul (mIx (mVar 0) (mKon (.int 0))) (mIx (mVar 1) (mKon (.int 1)))) (m2 fMul (mIx (mVar 1) (mKon (.int 0))) (mIx (mVar 0) (mKon (.int 1))))) (maCons (m2 fMul (mIx (mVar 0) (mKon (.int 1))) (mIx (mVar 1) (mKon (.int 1)))) maNil))))
noncomputable def f_law_plus : Fx := run' 2 2 m_law_plus
noncomputable def m_law_total : Ms :=
  (mSeq (mSet 1 (mA fTup (maCons (mKon (.int 0)) (maCons (mKon (.int 1)) maNil))))
    (mSeq (mFor (mSeqI (mVar 0)) (gN 2)
    (mSet 1 (mCall f_law_plus (maCons (mVar 1) (maCons (mVar 2) maNil)))))
    (mRetV 1)))
noncomputable def f_law_total : Fx := run' 1 3 m_law_total
noncomputable def m_law_part : Ms :=
  (mSeq (mSet 1 (mCall f_law_pick (maCons (mVar 0) (maCons (mKon (.int 9)) maNil))))
    (mSeq (mIfS (bT (m2 (fI gLt) (mVar 1) (mKon (.int 7))))
    (mRet (mIx (mA fTup (maCons (mA fTup (maCons (mKon (.int 1)) (maCons (mKon (.int 2)) maNil))) (maCons (mA fTup (maCons (mKon (.int 1)) (maCons (mKon (.int 2)) maNil))) (maCons (mA fTup (maCons (mKon (.int 1)) (maCons (mKon (.int 3)) maNil))) (maCons (mA fTup (maCons (mKon (.int 2)) (maCons (mKon (.int 3)) maNil))) (maCons (mA fTup (maCons (mKon (.int 3)) (maCons (mKon (.int 4)) maNil))) (maCons (mA fTup (maCons (mKon (.int 1)) (maCons (mKon (.int 4)) maNil))) (maCons (mA fTup (maCons (mKon (.int 0)) (maCons (mKon (.int 1)) maNil))) maNil)))))))) (mVar 1)))
    mNil)
    (mSeq (mSet 2 (m2 fAdd (mKon (.int 2)) (mCall f_law_pick (maCons (mVar 0) (maCons (mKon (.int 60)) maNil)))))
    (mRet (mCall f_law_frac (maCons (mCall f_law_pick (maCons (mVar 0) (maCons (mVar 2) maNil))) (maCons (mVar 2) maNil)))))))
noncomputable def f_law_part : Fx := run' 1 3 m_law_part
noncomputable def m_law_gains : Ms :=
  (mSeq (mSet 2 (mA fLst maNil))
    (mSeq (mFor (mArgI range1 (maCons (mVar 1) maNil)) (gN 3)
    (mIfS (bT (m2 (fEq false) (mCall f_law_pick (maCons (mVar 0) (maCons (mKon (.int 14)) maNil))) (mKon (.int 13))))
    (mApp 2 (mCall f_law_frac (maCons (m2 (fI gMns) (mCall f_law_pick (maCons (mVar 0) (maCons (mKon (.int 20000001)) maNil))) (mKon (.int 10000000))) (maCons (m2 fAdd (mKon (.int 1)) (mCall f_law_pick (maCons (mVar 0) (maCons (mKon (.int 60)) maNil)))) maNil))))
    (mApp 2 (mCall f_law_frac (maCons (m2 (fI gMns) (mCall f_law_pick (maCons (mVar 0) (maCons (mKon (.int 8)) maNil))) (mKon (.int 3))) (maCons (mCall f_law_any_of (maCons (mVar 0) (maCons (mA fTup (maCons (mKon (.int 1)) (maCons (mKon (.int 1)) (maCons (mKon (.int 1)) (maCons (mKon (.int 2)) (maCons (mKon (.int 3)) maNil)))))) maNil))) maNil))))))
    (mRet (mA fTupOf (maCons (mVar 2) maNil)))))
noncomputable def f_law_gains : Fx := run' 2 4 m_law_gains
noncomputable def m_law_parts : Ms :=
  (mSeq (mSet 2 (mA fLst maNil))
    (mSeq (mFor (mArgI range1 (maCons (mVar 1) maNil)) (gN 3)
    (mSeq (mSet 4 (mCall f_law_pick (maCons (mVar 0) (maCons (mKon (.int 13)) maNil))))
    (mApp 2 (mIf (bT (m2 (fI gLt) (mVar 4) (mKon (.int 12)))) (mIx (mA fTup (maCons (mKon (.int 0)) (maCons (mKon (.int 1)) (maCons (mKon (.int 0)) (maCons (mKon (.int 1)) (maCons (mKon (.int 2)) (maCons (mKon (.int 0)) (maCons (mKon (.int 1)) (maCons (mKon (.int 3)) (maCons (mKon (.int 0)) (maCons (mKon (.int 1)) (maCons (mKon (.int 2)) (maCons (mKon (.int 0)) maNil))))))))))))) (mVar 4)) (m2 fAdd (mKon (.int 4)) (mCall f_law_pick (maCons (mVar 0) (maCons (mKon (.int 40)) maNil))))))))
    (mSeq (mIfS (bT (m2 (fEq false) (mA fSum (maCons (mVar 2) maNil)) (mKon (.int 0))))
    (mPut 2 (mCall f_law_pick (maCons (mVar 0) (maCons (mVar 1) maNil))) (mKon (.int 1)))
    mNil)
    (mRetV 2))))
noncomputable def f_law_parts : Fx := run' 2 5 m_law_parts
noncomputable def m_law_chances : Ms :=
  (mSeq (mSet 2 (mCall f_law_parts (maCons (mVar 0) (maCons (mVar 1) maNil))))
    (mRet (mA fTupOf (maCons (mLc (mArgI range1 (maCons (mVar 1) maNil)) [3] (gN 3) (bT (m2 (fI gGt) (mIx (mVar 2) (mVar 3)) (mKon (.int 0)))) (mA fTup (maCons (mVar 3) (maCons (mCall f_law_frac (maCons (mIx (mVar 2) (mVar 3)) (maCons (mA fSum (maCons (mVar 2) maNil)) maNil))) maNil)))) maNil))))
noncomputable def f_law_chances : Fx := run' 2 4 m_law_chances
noncomputable def m_law_odds : Ms :=
  (mSeq (mSet 2 (mCall f_law_parts (maCons (mVar 0) (maCons (mVar 1) maNil))))
    (mFrz [2] (mRet (mA fTupOf (maCons (mLc (mSeqI (mVar 2)) [3] (gN 3) mYes (mCall f_law_frac (maCons (mVar 3) (maCons (mA fSum (maCons (mVar 2) maNil)) maNil)))) maNil)))))
noncomputable def f_law_odds : Fx := run' 2 4 m_law_odds
noncomputable def m_law_sized : Ms :=
  (mSeq (mPar 3 4 (maCons (mCall f_law_part (maCons (mVar 0) maNil)) (maCons (mA fLst maNil) maNil)))
    (mSeq (mFor (mSeqI (mVar 1)) (gN 5)
    (mSeq (mSet 6 (mA fLst maNil))
    (mSeq (mFor (mArgI range1 (maCons (mVar 5) maNil)) (gN 7)
    (mIfS (tAnd2 (bT (m2 (fEq true) (mVar 6) (mA fLst maNil))) (bT (m2 (fEq false) (mCall f_law_pick (maCons (mVar 0) (maCons (mKon (.int 9)) maNil))) (mKon (.int 8)))))
    (mApp 6 (mIx (mVar 6) (mKon (.int 0))))
    (mSeq (mSet 8 (mCall f_law_chances (maCons (mVar 0) (maCons (mA fLen (maCons (mVar 1) maNil)) maNil))))
    (mApp 6 (mA fTup (maCons (mVar 8) (maCons (mCall f_law_gains (maCons (mVar 0) (maCons (mVar 2) maNil))) maNil)))))))
    (mApp 4 (mA fTupOf (maCons (mVar 6) maNil))))))
    (mRet (mA fTup (maCons (mVar 3) (maCons (mVar 2) (maCons (mA fTupOf (maCons (mVar 4) maNil)) maNil)))))))
noncomputable def f_law_sized : Fx := run' 3 9 m_law_sized
noncomputable def m_law_world : Ms :=
  (mSeq (mSet 4 (mA fLst maNil))
    (mSeq (mFor (mArgI range1 (maCons (m2 fAdd (mKon (.int 1)) (mCall f_law_pick (maCons (mVar 0) (maCons (mVar 1) maNil)))) maNil)) (gN 5)
    (mApp 4 (m2 fAdd (mKon (.int 1)) (mCall f_law_pick (maCons (mVar 0) (maCons (mVar 2) maNil))))))
    (mFrz [4] (mRet (mCall f_law_sized (maCons (mVar 0) (maCons (mVar 4) (maCons (mVar 3) maNil))))))))
noncomputable def f_law_world : Fx := run' 4 6 m_law_world
noncomputable def m_law_plan : Ms :=
  (mSeq (mPar 2 3 (maCons (mA fLst maNil) (maCons (m2 (fEq false) (mCall f_law_pick (maCons (mVar 0) (maCons (mKon (.int 3)) maNil))) (mKon (.int 2))) maNil)))
    (mSeq (mFor (mSeqI (mIx (mVar 1) (mKon (.int 2)))) (gN 4)
    (mIfS (bT (mVar 3))
    (mSeq (mSet 5 (mCall f_law_pick (maCons (mVar 0) (maCons (mA fLen (maCons (mVar 4) maNil)) maNil))))
    (mApp 2 (mA fTupOf (maCons (mLc (mArgI range1 (maCons (mA fLen (maCons (mVar 4) maNil)) maNil)) [6] (gN 6) mYes (mA fTup (maCons (mIf (bT (m2 (fEq false) (mVar 6) (mVar 5))) (mKon (.int 1)) (mKon (.int 0))) (maCons (mKon (.int 1)) maNil)))) maNil))))
    (mApp 2 (mCall f_law_odds (maCons (mVar 0) (maCons (mA fLen (maCons (mVar 4) maNil)) maNil))))))
    (mRet (mA fTupOf (maCons (mVar 2) maNil)))))
noncomputable def f_law_plan : Fx := run' 2 7 m_law_plan
noncomputable def m_law_chosen : Ms :=
  (mSeq (mSet 2 (mA fLst maNil))
    (mSeq (mFor (mSeqI (mIx (mVar 1) (mKon (.int 2)))) (gN 3)
    (mApp 2 (mCall f_law_pick (maCons (mVar 0) (maCons (mA fLen (maCons (mVar 3) maNil)) maNil)))))
    (mRet (mA fTupOf (maCons (mVar 2) maNil)))))
noncomputable def f_law_chosen : Fx := run' 2 4 m_law_chosen
noncomputable def m_law_sure : Ms :=
  (mSeq (mSet 2 (mA fLst maNil))
    (mSeq (mFor (mArgI zipQ2 (maCons (mIx (mVar 0) (mKon (.int 2))) (maCons (mVar 1) maNil))) (gT 2 (gsCons (gN 3) (gsCons (gN 4) gsNil)))
    (mApp 2 (mA fTupOf (maCons (mLc (mArgI range1 (maCons (mA fLen (maCons (mVar 3) maNil)) maNil)) [5] (gN 5) mYes (mA fTup (maCons (mIf (bT (m2 (fEq false) (mVar 5) (mVar 4))) (mKon (.int 1)) (mKon (.int 0))) (maCons (mKon (.int 1)) maNil)))) maNil))))
    (mRet (mA fTupOf (maCons (mVar 2) maNil)))))
noncomputable def f_law_sure : Fx := run' 2 6 m_law_sure
noncomputable def m_law_mindful : Ms :=
  (mSeq (mPar2f 3 4 (maCons (mA fLst maNil) (maCons (mA fLst maNil) maNil)))
    (mSeq (mFor (mSeqI (mIx (mVar 1) (mKon (.int 2)))) (gN 5)
    (mSeq (mSet 6 (mA fLst maNil))
    (mSeq (mFor (mArgI range1 (maCons (mVar 2) maNil)) (gN 7)
    (mApp 6 (mCall f_law_odds (maCons (mVar 0) (maCons (mA fLen (maCons (mVar 5) maNil)) maNil)))))
    (mSeq (mApp 3 (mA fTupOf (maCons (mVar 6) maNil)))
    (mSeq (mSet 6 (mA fLst maNil))
    (mSeq (mFor (mSeqI (mVar 5)) (gN 8)
    (mSeq (mSet 9 (mA fLst maNil))
    (mSeq (mFor (mArgI range1 (maCons (mVar 2) maNil)) (gN 7)
    (mApp 9 (mCall f_law_pick (maCons (mVar 0) (maCons (mVar 2) maNil)))))
    (mApp 6 (mA fTupOf (maCons (mVar 9) maNil))))))
    (mApp 4 (mA fTupOf (maCons (mVar 6) maNil)))))))))
    (mRet (mA fTup (maCons (mVar 2) (maCons (mA fTupOf (maCons (mVar 3) maNil)) (maCons (mA fTupOf (maCons (mVar 4) maNil)) maNil)))))))
noncomputable def f_law_mindful : Fx := run' 3 10 m_law_mindful
noncomputable def m_law_is_whole : Ms :=
  (mRet (mAnd (m1 (fIsi "int") (mVar 0)) (m1 fNot (m1 (fIsi "bool") (mVar 0)))))
noncomputable def f_law_is_whole : Fx := run' 1 1 m_law_is_whole
noncomputable def m_law_is_tuple : Ms :=
  (mRet (mAnd (m1 (fIsi "tuple") (mVar 0)) (m2 (fEq false) (mA fLen (maCons (mVar 0) maNil)) (mVar 1))))
noncomputable def f_law_is_tuple : Fx := run' 2 2 m_law_is_tuple
noncomputable def m_law_is_frac : Ms :=
  (mSeq (mIfS (tOr2 (tNot2 (bT (mCall f_law_is_tuple (maCons (mVar 0) (maCons (mKon (.int 2)) maNil))))) (tOr2 (tNot2 (bT (mCall f_law_is_whole (maCons (mIx (mVar 0) (mKon (.int 0))) maNil)))) (tNot2 (bT (mCall f_law_is_whole (maCons (mIx (mVar 0) (mKon (.int 1))) maNil))))))
    (mRet (mKon (.bool false)))
    mNil)
    (mRet (mAnd (m2 (fI gGt) (mIx (mVar 0) (mKon (.int 1))) (mKon (.int 0))) (m2 (fEq false) (mCall f_law_frac (maCons (mIx (mVar 0) (mKon (.int 0))) (maCons (mIx (mVar 0) (mKon (.int 1))) maNil))) (mVar 0)))))
noncomputable def f_law_is_frac : Fx := run' 1 1 m_law_is_frac
noncomputable def m_law_is_row : Ms :=
  (mRet (mAnd (mCall f_law_is_tuple (maCons (mVar 0) (maCons (mVar 1) maNil))) (mA fAll (maCons (mLc (mSeqI (mVar 0)) [2] (gN 2) mYes (mCall f_law_is_frac (maCons (mVar 2) maNil))) maNil))))
noncomputable def f_law_is_row : Fx := run' 2 3 m_law_is_row
noncomputable def m_law_is_odds : Ms :=
  (mSeq (mIfS (tNot2 (bT (mCall f_law_is_row (maCons (mVar 0) (maCons (mVar 1) maNil)))))
    (mRet (mKon (.bool false)))
    mNil)
    (mRet (mAnd (mA fAll (maCons (mLc (mSeqI (mVar 0)) [2] (gN 2) mYes (m2 (fI gGe) (mIx (mVar 2) (mKon (.int 0))) (mKon (.int 0)))) maNil)) (m2 (fEq false) (mCall f_law_total (maCons (mVar 0) maNil)) (mA fTup (maCons (mKon (.int 1)) (maCons (mKon (.int 1)) maNil)))))))
noncomputable def f_law_is_odds : Fx := run' 2 3 m_law_is_odds
noncomputable def m_law_is_mindful : Ms :=
  (mSeq (mIfS (tOr2 (tNot2 (bT (mCall f_law_is_tuple (maCons (mVar 1) (maCons (mKon (.int 3)) maNil))))) (tOr2 (tNot2 (bT (mCall f_law_is_whole (maCons (mIx (mVar 1) (mKon (.int 0))) maNil)))) (tNot2 (bT (mChain gLe gLe (mKon (.int 1)) (mIx (mVar 1) (mKon (.int 0))) (mKon (.int 4)))))))
    (mRet (mKon (.bool false)))
    mNil)
    (mSeq (mIfS (tOr2 (tNot2 (bT (mCall f_law_is_tuple (maCons (mIx (mVar 1) (mKon (.int 1))) (maCons (mA fLen (maCons (mIx (mVar 0) (mKon (.int 2))) maNil)) maNil))))) (tNot2 (bT (mCall f_law_is_tuple (maCons (mIx (mVar 1) (mKon (.int 2))) (maCons (mA fLen (maCons (mIx (mVar 0) (mKon (.int 2))) maNil)) maNil))))))
    (mRet (mKon (.bool false)))
    mNil)
    (mSeq (mFor (mArgI zipQ3 (maCons (mIx (mVar 0) (mKon (.int 2))) (maCons (mIx (mVar 1) (mKon (.int 1))) (maCons (mIx (mVar 1) (mKon (.int 2))) maNil)))) (gT 3 (gsCons (gN 2) (gsCons (gN 3) (gsCons (gN 4) gsNil))))
    (mSeq (mIfS (tOr2 (tNot2 (bT (mCall f_law_is_tuple (maCons (mVar 3) (maCons (mIx (mVar 1) (mKon (.int 0))) maNil))))) (tNot2 (bT (mCall f_law_is_tuple (maCons (mVar 4) (maCons (mA fLen (maCons (mVar 2) maNil)) maNil))))))
    (mRet (mKon (.bool false)))
    mNil)
    (mSeq (mIfS (tNot2 (bT (mA fAll (maCons (mLc (mSeqI (mVar 3)) [5] (gN 5) mYes (mCall f_law_is_odds (maCons (mVar 5) (maCons (mA fLen (maCons (mVar 2) maNil)) maNil)))) maNil))))
    (mRet (mKon (.bool false)))
    mNil)
    (mFor (mSeqI (mVar 4)) (gN 5)
    (mSeq (mIfS (tNot2 (bT (mCall f_law_is_tuple (maCons (mVar 5) (maCons (mIx (mVar 1) (mKon (.int 0))) maNil)))))
    (mRet (mKon (.bool false)))
    mNil)
    (mIfS (tNot2 (bT (mA fAll (maCons (mLc (mSeqI (mVar 5)) [6] (gN 6) mYes (mAnd (mCall f_law_is_whole (maCons (mVar 6) maNil)) (mChain gLe gLt (mKon (.int 0)) (mVar 6) (mIx (mVar 1) (mKon (.int 0)))))) maNil))))
    (mRet (mKon (.bool false)))
    mNil))))))
    (mRet (mKon (.bool true))))))
noncomputable def f_law_is_mindful : Fx := run' 2 7 m_law_is_mindful
noncomputable def m_law_is_chosen : Ms :=
  (mSeq (mIfS (tNot2 (bT (mCall f_law_is_tuple (maCons (mVar 1) (maCons (mA fLen (maCons (mIx (mVar 0) (mKon (.int 2))) maNil)) maNil)))))
    (mRet (mKon (.bool false)))
    mNil)
    (mRet (mA fAll (maCons (mLc (mArgI zipQ2 (maCons (mIx (mVar 0) (mKon (.int 2))) (maCons (mVar 1) maNil))) [2, 3] (gT 2 (gsCons (gN 2) (gsCons (gN 3) gsNil))) mYes (mAnd (mCall f_law_is_whole (maCons (mVar 3) maNil)) (mChain gLe gLt (mKon (.int 0)) (mVar 3) (mA fLen (maCons (mVar 2) maNil))))) maNil))))
noncomputable def f_law_is_chosen : Fx := run' 2 4 m_law_is_chosen
noncomputable def m_law_odd : Ms :=
  (mRet (mCall f_law_any_of (maCons (mVar 0) (maCons (mA fTup (maCons (mKon .none) (maCons (mKon (.bool true)) (maCons (mKon (.bool false)) (maCons (mKon (.int 0)) (maCons (mKon (.int 1)) (maCons (mKon (.int 2)) (maCons (mKon (.int 3)) (maCons (mKon (.int 7)) (maCons (m1 fNeg (mKon (.int 1))) (maCons (mKon (.int 61)) (maCons (mKon (.str (Str.ofString ""))) (maCons (mKon (.str (Str.ofString "a"))) (maCons (mKon (.str (Str.ofString "1/2"))) (maCons (mA fTup maNil) (maCons (mA fTup (maCons (mKon (.int 0)) maNil)) (maCons (mA fTup (maCons (mKon (.int 1)) maNil)) (maCons (mA fTup (maCons (mKon (.int 0)) (maCons (mKon (.int 1)) maNil))) (maCons (mA fTup (maCons (mKon (.int 1)) (maCons (mKon (.int 1)) maNil))) (maCons (mA fTup (maCons (mKon (.int 1)) (maCons (mKon (.int 2)) maNil))) (maCons (mA fTup (maCons (mKon (.int 2)) (maCons (mKon (.int 4)) maNil))) (maCons (mA fTup (maCons (mKon (.int 0)) (maCons (mKon (.int 2)) maNil))) (maCons (mA fTup (maCons (mKon (.int 1)) (maCons (mKon (.int 0)) maNil))) (maCons (mA fTup (maCons (m1 fNeg (mKon (.int 1))) (maCons (mKon (.int 2)) maNil))) (maCons (mA fTup (maCons (mKon (.int 1)) (maCons (m1 fNeg (mKon (.int 2))) maNil))) (maCons (mA fTup (maCons (mKon (.bool true)) (maCons (mKon (.int 2)) maNil))) (maCons (mA fTup (maCons (mKon (.int 1)) (maCons (mKon (.bool true)) maNil))) (maCons (mA fTup (maCons (mA fTup (maCons (mKon (.int 0)) (maCons (mKon (.int 1)) maNil))) maNil)) (maCons (mA fTup (maCons (mA fTup (maCons (mKon (.int 1)) (maCons (mKon (.int 1)) maNil))) maNil)) (maCons (mA fTup (maCons (mKon (.int 0)) (maCons (mKon (.int 1)) (maCons (mKon (.int 0)) maNil)))) (maCons (mA fTup (maCons (mA fTup (maCons (mKon (.int 1)) (maCons (mKon (.int 2)) maNil))) (maCons (mA fTup (maCons (mKon (.int 1)) (maCons (mKon (.int 2)) maNil))) maNil))) (maCons (mA fTup (maCons (mA fTup (maCons (mKon (.int 1)) (maCons (mKon (.int 1)) maNil))) (maCons (mA fTup (maCons (mKon (.int 0)) (maCons (mKon (.int 1)) maNil))) maNil))) (maCons (mA fTup (maCons (mA fTup (maCons (mA fTup (maCons (mKon (.int 1)) (maCons (mKon (.int 1)) maNil))) maNil)) maNil)) (maCons (mA fTup (maCons (mKon (.int 0)) (maCons (mKon (.int 0)) (maCons (mKon (.int 0)) maNil)))) (maCons (mA fTup (maCons (mA fTup (maCons (mKon (.int 1)) (maCons (mKon (.int 1)) maNil))) (maCons (mA fTup (maCons (mKon (.int 1)) (maCons (mKon (.int 1)) maNil))) (maCons (mA fTup (maCons (mKon (.int 1)) (maCons (mKon (.int 1)) maNil))) maNil)))) (maCons (mA fTup (maCons (mKon .none) maNil)) (maCons (mA fTup (maCons (mA fTup maNil) maNil)) (maCons (mA fLst maNil) (maCons (mA fLst (maCons (mKon (.int 1)) maNil)) (maCons (mA fLst (maCons (mA fTup (maCons (mKon (.int 1)) (maCons (mKon (.int 1)) maNil))) maNil)) (maCons (mA fLst (maCons (mA fLst (maCons (mA fTup (maCons (mKon (.int 1)) (maCons (mKon (.int 1)) maNil))) maNil)) maNil)) (maCons (mKon (.dict [])) (maCons (mKon (.dict [(.str (Str.ofString "a"), .int 1)])) (maCons (mA fTup (maCons (mKon (.str (Str.ofString "a"))) (maCons (mKon .none) maNil))) maNil)))))))))))))))))))))))))))))))))))))))))))) maNil))))
noncomputable def f_law_odd : Fx := run' 1 1 m_law_odd
noncomputable def m_law_twice : Ms :=
  (mSeq (mIfS (tAnd2 (bT (m2 (fEq false) (mA fLen (maCons (mVar 0) maNil)) (mKon (.int 2)))) (tAnd2 (bT (m1 (fIsi "int") (mIx (mVar 0) (mKon (.int 0))))) (bT (m1 (fIsi "int") (mIx (mVar 0) (mKon (.int 1)))))))
    (mRet (mA fTup (maCons (m2 fMul (mIx (mVar 0) (mKon (.int 0))) (mKon (.int 2))) (maCons (m2 fMul (mIx (mVar 0) (mKon (.int 1))) (mKon (.int 2))) maNil))))
    mNil)
    (mRet (m2 fAdd (mVar 0) (mVar 0))))
noncomputable def f_law_twice : Fx := run' 1 1 m_law_twice
noncomputable def m_law_bent (self_ : Fx) : Ms :=
  (mSeq (mIfS (tAnd2 (bT (m1 (fIsi "tuple") (mVar 1))) (tAnd2 (bT (m2 (fI gGt) (mA fLen (maCons (mVar 1) maNil)) (mKon (.int 0)))) (bT (m2 (fI gGt) (mCall f_law_pick (maCons (mVar 0) (maCons (mKon (.int 7)) maNil))) (mKon (.int 0))))))
    (mSeq (mSet 2 (mCall f_law_pick (maCons (mVar 0) (maCons (mA fLen (maCons (mVar 1) maNil)) maNil))))
    (mRet (m2 fAdd (m2 fAdd (mSl (mVar 1) moNone (moSome (mVar 2))) (mA fTup (maCons (mCall self_ (maCons (mVar 0) (maCons (mIx (mVar 1) (mVar 2)) maNil))) maNil))) (mSl (mVar 1) (moSome (m2 fAdd (mVar 2) (mKon (.int 1)))) moNone))))
    mNil)
    (mSeq (mSet 3 (mCall f_law_pick (maCons (mVar 0) (maCons (mKon (.int 9)) maNil))))
    (mSeq (mIfS (tAnd2 (bT (m1 (fIsi "tuple") (mVar 1))) (bT (m2 (fI gLt) (mVar 3) (mKon (.int 7)))))
    (mSeq (mSet 4 (mCall f_law_twice (maCons (mVar 1) maNil)))
    (mRet (mIx (mA fTup (maCons (m2 fAdd (mVar 1) (mSl (mVar 1) (moSome (m1 fNeg (mKon (.int 1)))) moNone)) (maCons (mSl (mVar 1) (moSome (mKon (.int 1))) moNone) (maCons (mSl (mVar 1) moNone (moSome (m1 fNeg (mKon (.int 1))))) (maCons (m1 fRev (mVar 1)) (maCons (mA fLstOf (maCons (mVar 1) maNil)) (maCons (mA fTup (maCons (mVar 1) maNil)) (maCons (mVar 4) maNil)))))))) (mVar 3))))
    mNil)
    (mSeq (mIfS (tAnd2 (bT (m1 (fIsi "int") (mVar 1))) (bT (m2 (fI gLt) (mVar 3) (mKon (.int 7)))))
    (mRet (mIx (mA fTup (maCons (m2 (fI gMns) (mVar 1) (mKon (.int 1))) (maCons (m2 fAdd (mVar 1) (mKon (.int 1))) (maCons (m2 (fI gMns) (mKon (.int 0)) (mVar 1)) (maCons (m2 fMul (mVar 1) (mKon (.int 2))) (maCons (m2 (fI gGt) (mVar 1) (mKon (.int 0))) (maCons (m2 fAdd (mVar 1) (mKon (.int 7))) (maCons (mA fStr (maCons (mVar 1) maNil)) maNil)))))))) (mVar 3)))
    mNil)
    (mRet (mCall f_law_odd (maCons (mVar 0) maNil)))))))
noncomputable def f_law_bent : Nat → Fx
  | 0 => fun _ _ => none
  | n + 1 => run' 2 5 (m_law_bent (f_law_bent n))
noncomputable def m_law_maybe : Ms :=
  (mSeq (mSet 2 (mCall f_law_pick (maCons (mVar 0) (maCons (mKon (.int 10)) maNil))))
    (mSeq (mIfS (bT (m2 (fI gLt) (mVar 2) (mKon (.int 6))))
    (mRetV 1)
    mNil)
    (mRet (mIf (bT (m2 (fI gLt) (mVar 2) (mKon (.int 9)))) (mCall (f_law_bent 6) (maCons (mVar 0) (maCons (mVar 1) maNil))) (mCall f_law_odd (maCons (mVar 0) maNil))))))
noncomputable def f_law_maybe : Fx := run' 2 3 m_law_maybe
noncomputable def m_law_is_plan : Ms :=
  (mSeq (mIfS (tNot2 (bT (mCall f_law_is_tuple (maCons (mVar 1) (maCons (mA fLen (maCons (mIx (mVar 0) (mKon (.int 2))) maNil)) maNil)))))
    (mRet (mKon (.bool false)))
    mNil)
    (mRet (mA fAll (maCons (mLc (mArgI zipQ2 (maCons (mIx (mVar 0) (mKon (.int 2))) (maCons (mVar 1) maNil))) [2, 3] (gT 2 (gsCons (gN 2) (gsCons (gN 3) gsNil))) mYes (mCall f_law_is_odds (maCons (mVar 3) (maCons (mA fLen (maCons (mVar 2) maNil)) maNil)))) maNil))))
noncomputable def f_law_is_plan : Fx := run' 2 4 m_law_is_plan
noncomputable def m_law_chosen_of : Ms :=
  (mSeq (mSet 1 (mA fLst maNil))
    (mSeq (mFor (mSeqI (mVar 0)) (gN 2)
    (mSeq (mSet 3 (mLc (mArgI range1 (maCons (mA fLen (maCons (mVar 2) maNil)) maNil)) [4] (gN 4) (bT (m2 (fEq false) (mIx (mVar 2) (mVar 4)) (mA fTup (maCons (mKon (.int 1)) (maCons (mKon (.int 1)) maNil))))) (mVar 4)))
    (mSeq (mIfS (bT (m2 (fEq false) (mA fLen (maCons (mVar 3) maNil)) (mKon (.int 0))))
    (mRet (mKon .none))
    mNil)
    (mApp 1 (mIx (mVar 3) (mKon (.int 0)))))))
    (mRet (mA fTupOf (maCons (mVar 1) maNil)))))
noncomputable def f_law_chosen_of : Fx := run' 1 5 m_law_chosen_of
noncomputable def m_law_doubled : Ms :=
  (mRet (m2 (fI gMns) (mA fSum (maCons (mLc (mSeqI (mVar 0)) [1] (gN 1) mYes (mA fLen (maCons (mLc (mSeqI (mVar 1)) [2] (gN 2) (bT (m2 (fI gGt) (mIx (mVar 2) (mKon (.int 0))) (mKon (.int 0)))) (mVar 2)) maNil))) maNil)) (mA fLen (maCons (mVar 0) maNil))))
noncomputable def f_law_doubled : Fx := run' 1 3 m_law_doubled
noncomputable def m_law_minded_of : Ms :=
  (mSeq (mSet 2 (mLc (mSeqI (mIx (mVar 0) (mKon (.int 2)))) [3] (gN 3) mYes (mA fTupOf (maCons (mLc (mSeqI (mVar 3)) [4] (gN 4) mYes (mA fTup (maCons (mKon (.int 0)) maNil))) maNil))))
    (mRet (mA fTup (maCons (mKon (.int 1)) (maCons (mA fTupOf (maCons (mLc (mSeqI (mVar 1)) [5] (gN 5) mYes (mA fTup (maCons (mVar 5) maNil))) maNil)) (maCons (mA fTupOf (maCons (mVar 2) maNil)) maNil))))))
noncomputable def f_law_minded_of : Fx := run' 2 6 m_law_minded_of
noncomputable def m_law_right : Ms :=
  (mSeq (mSet 1 (mCall f_law_world (maCons (mVar 0) (maCons (mKon (.int 3)) (maCons (mKon (.int 4)) (maCons (m2 fAdd (mKon (.int 1)) (mCall f_law_pick (maCons (mVar 0) (maCons (mKon (.int 2)) maNil)))) maNil))))))
    (mSeq (mPar 2 3 (maCons (mCall f_law_plan (maCons (mVar 0) (maCons (mVar 1) maNil))) (maCons (mCall f_law_chosen (maCons (mVar 0) (maCons (mVar 1) maNil))) maNil)))
    (mSeq (mSet 4 (mCall f_law_mindful (maCons (mVar 0) (maCons (mVar 1) (maCons (m2 fAdd (mKon (.int 1)) (mCall f_law_pick (maCons (mVar 0) (maCons (mKon (.int 4)) maNil)))) maNil)))))
    (mSeq (mSet 5 (mA fLst (maCons (mCall f_law_sure (maCons (mVar 1) (maCons (mVar 3) maNil))) (maCons (mVar 3) (maCons (mCall f_law_chosen_of (maCons (mVar 2) maNil)) (maCons (mCall f_law_doubled (maCons (mVar 2) maNil)) (maCons (mKon (.int 0)) maNil)))))))
    (mSeq (mApp 5 (mCall f_law_minded_of (maCons (mVar 1) (maCons (mVar 2) maNil))))
    (mSeq (mSet 6 (mA fLst (maCons (mCall f_still_of (maCons (mVar 1) (maCons (mVar 3) maNil))) (maCons (mCall f_choice_of (maCons (mVar 1) (maCons (mCall f_law_sure (maCons (mVar 1) (maCons (mVar 3) maNil))) maNil))) (maCons (mCallK f_choice_of [0, 1] 2 (maCons (mVar 1) (maCons (mVar 2) maNil))) maNil)))))
    (mSeq (mSet 6 (m2 fAdd (mVar 6) (mA fLst (maCons (mCall f_doubled (maCons (mVar 1) (maCons (mVar 2) maNil))) (maCons (mCallK f_doubled [1, 0] 2 (maCons (mCallK f_still_of [1, 0] 2 (maCons (mVar 3) (maCons (mVar 1) maNil))) (maCons (mVar 1) maNil))) maNil)))))
    (mSeq (mIfS (bT (m2 (fEq true) (mA fRepr (maCons (m2 fAdd (mVar 6) (mA fLst (maCons (mCall f_minded_of (maCons (mVar 1) (maCons (mVar 2) maNil))) maNil))) maNil)) (mA fRepr (maCons (mVar 5) maNil))))
    (mRet (mKon (.bool false)))
    mNil)
    (mSeq (mIfS (tNot2 (bT (mCall f_is_minded (maCons (mVar 1) (maCons (mCallK f_minded_of [1, 0] 2 (maCons (mVar 2) (maCons (mVar 1) maNil))) maNil)))))
    (mRet (mKon (.bool false)))
    mNil)
    (mSeq (mPar3 2 3 4 (maCons (mCall f_law_maybe (maCons (mVar 0) (maCons (mVar 2) maNil))) (maCons (mCall f_law_maybe (maCons (mVar 0) (maCons (mVar 3) maNil))) (maCons (mCall f_law_maybe (maCons (mVar 0) (maCons (mVar 4) maNil))) maNil))))
    (mSeq (mSet 7 (mA fLst (maCons (mCall f_is_still (maCons (mVar 1) (maCons (mVar 2) maNil))) (maCons (mCall f_is_choice (maCons (mVar 1) (maCons (mVar 3) maNil))) (maCons (mCall f_is_minded (maCons (mVar 1) (maCons (mVar 4) maNil))) maNil)))))
    (mSeq (mSet 7 (m2 fAdd (mVar 7) (mA fLst (maCons (mCallK f_is_still [1, 0] 2 (maCons (mVar 2) (maCons (mVar 1) maNil))) (maCons (mCallK f_is_choice [1, 0] 2 (maCons (mVar 3) (maCons (mVar 1) maNil))) maNil)))))
    (mSeq (mSet 8 (mA fLst (maCons (mCall f_law_is_plan (maCons (mVar 1) (maCons (mVar 2) maNil))) (maCons (mCall f_law_is_chosen (maCons (mVar 1) (maCons (mVar 3) maNil))) (maCons (mCall f_law_is_mindful (maCons (mVar 1) (maCons (mVar 4) maNil))) maNil)))))
    (mRet (m2 (fEq false) (mA fRepr (maCons (mVar 7) maNil)) (mA fRepr (maCons (m2 fAdd (mVar 8) (mSl (mVar 8) moNone (moSome (mKon (.int 2))))) maNil)))))))))))))))))
noncomputable def f_law_right : Fx := run' 1 9 m_law_right
noncomputable def m_law : Ms :=
  (mRet (mA fAll (maCons (mLc (mArgI range1 (maCons (mA fMax2 (maCons (mKon (.int 2)) (maCons (mA fMin2 (maCons (mA fLen (maCons (mVar 0) maNil)) (maCons (mKon (.int 5)) maNil))) maNil))) maNil)) [1] (gN 1) mYes (mCallN f_law_right (maCons (mCall f_law_spring (maCons (mVar 0) (maCons (mVar 1) maNil))) maNil))) maNil)))
noncomputable def f_law : Fx := run' 1 2 m_law
end WW
namespace WW
open PySem PySem.Spec L2 Dh PyProof.Rows
def nml_0 : List Str := ["is_whole", "is_between", "is_tuple_of", "is_ratio", "is_row", "ratio", "plus", "total", "is_chance_row", "is_still_by", "is_choice_by", "are_odds", "are_nexts", "is_minded_by", "plain_odds", "still_by", "choice_by", "doubled_by", "minded_by", "are_chances"]
def nml_1 : List Str := ["is_deed", "is_stand", "is_share", "is_house_by", "check_house", "check_still", "check_choice", "is_still", "is_choice", "is_minded", "still_of", "choice_of", "doubled", "minded_of", "_law_spring", "_law_pick", "_law_any_of", "_law_frac", "_law_plus", "_law_total"]
def nml_2 : List Str := ["_law_part", "_law_gains", "_law_parts", "_law_chances", "_law_odds", "_law_sized", "_law_world", "_law_plan", "_law_chosen", "_law_sure", "_law_mindful", "_law_is_whole", "_law_is_tuple", "_law_is_frac", "_law_is_row", "_law_is_odds", "_law_is_mindful", "_law_is_chosen", "_law_odd", "_law_twice"]
def nml_3 : List Str := ["_law_bent", "_law_maybe", "_law_is_plan", "_law_chosen_of", "_law_doubled", "_law_minded_of", "_law_right", "law"]
def nml : List Str := nml_0 ++ nml_1 ++ nml_2 ++ nml_3
def fnl_0 : List He.FnD := [fnD "is_whole" s_is_whole, fnD "is_between" s_is_between, fnD "is_tuple_of" s_is_tuple_of, fnD "is_ratio" s_is_ratio, fnD "is_row" s_is_row, fnD "ratio" s_ratio, fnD "plus" s_plus, fnD "total" s_total, fnD "is_chance_row" s_is_chance_row, fnD "is_still_by" s_is_still_by, fnD "is_choice_by" s_is_choice_by, fnD "are_odds" s_are_odds, fnD "are_nexts" s_are_nexts, fnD "is_minded_by" s_is_minded_by, fnD "plain_odds" s_plain_odds, fnD "still_by" s_still_by, fnD "choice_by" s_choice_by, fnD "doubled_by" s_doubled_by, fnD "minded_by" s_minded_by, fnD "are_chances" s_are_chances]
def fnl_1 : List He.FnD := [fnD "is_deed" s_is_deed, fnD "is_stand" s_is_stand, fnD "is_share" s_is_share, fnD "is_house_by" s_is_house_by, fnD "check_house" s_check_house, fnD "check_still" s_check_still, fnD "check_choice" s_check_choice, fnD "is_still" s_is_still, fnD "is_choice" s_is_choice, fnD "is_minded" s_is_minded, fnD "still_of" s_still_of, fnD "choice_of" s_choice_of, fnD "doubled" s_doubled, fnD "minded_of" s_minded_of, fnD "_law_spring" s_law_spring, fnD "_law_pick" s_law_pick, fnD "_law_any_of" s_law_any_of, fnD "_law_frac" s_law_frac, fnD "_law_plus" s_law_plus, fnD "_law_total" s_law_total]
def fnl_2 : List He.FnD := [fnD "_law_part" s_law_part, fnD "_law_gains" s_law_gains, fnD "_law_parts" s_law_parts, fnD "_law_chances" s_law_chances, fnD "_law_odds" s_law_odds, fnD "_law_sized" s_law_sized, fnD "_law_world" s_law_world, fnD "_law_plan" s_law_plan, fnD "_law_chosen" s_law_chosen, fnD "_law_sure" s_law_sure, fnD "_law_mindful" s_law_mindful, fnD "_law_is_whole" s_law_is_whole, fnD "_law_is_tuple" s_law_is_tuple, fnD "_law_is_frac" s_law_is_frac, fnD "_law_is_row" s_law_is_row, fnD "_law_is_odds" s_law_is_odds, fnD "_law_is_mindful" s_law_is_mindful, fnD "_law_is_chosen" s_law_is_chosen, fnD "_law_odd" s_law_odd, fnD "_law_twice" s_law_twice]
def fnl_3 : List He.FnD := [fnD "_law_bent" s_law_bent, fnD "_law_maybe" s_law_maybe, fnD "_law_is_plan" s_law_is_plan, fnD "_law_chosen_of" s_law_chosen_of, fnD "_law_doubled" s_law_doubled, fnD "_law_minded_of" s_law_minded_of, fnD "_law_right" s_law_right, fnD "law" s_law]
def fnl : List He.FnD := fnl_0 ++ fnl_1 ++ fnl_2 ++ fnl_3
def fal_0 : List He.Fa := [.glo "is_whole", .glo "is_between", .glo "is_tuple_of", .glo "is_ratio", .glo "is_row", .glo "ratio", .glo "plus", .glo "total", .glo "is_chance_row", .glo "is_still_by", .glo "is_choice_by", .glo "are_odds", .glo "are_nexts", .glo "is_minded_by", .glo "plain_odds", .glo "still_by", .glo "choice_by", .glo "doubled_by", .glo "minded_by", .glo "are_chances"]
def fal_1 : List He.Fa := [.glo "is_deed", .glo "is_stand", .glo "is_share", .glo "is_house_by", .glo "check_house", .glo "check_still", .glo "check_choice", .glo "is_still", .glo "is_choice", .glo "is_minded", .glo "still_of", .glo "choice_of", .glo "doubled", .glo "minded_of", .glo "_law_spring", .glo "_law_pick", .glo "_law_any_of", .glo "_law_frac", .glo "_law_plus", .glo "_law_total"]
def fal_2 : List He.Fa := [.glo "_law_part", .glo "_law_gains", .glo "_law_parts", .glo "_law_chances", .glo "_law_odds", .glo "_law_sized", .glo "_law_world", .glo "_law_plan", .glo "_law_chosen", .glo "_law_sure", .glo "_law_mindful", .glo "_law_is_whole", .glo "_law_is_tuple", .glo "_law_is_frac", .glo "_law_is_row", .glo "_law_is_odds", .glo "_law_is_mindful", .glo "_law_is_chosen", .glo "_law_odd", .glo "_law_twice"]
def fal_3 : List He.Fa := [.glo "_law_bent", .glo "_law_maybe", .glo "_law_is_plan", .glo "_law_chosen_of", .glo "_law_doubled", .glo "_law_minded_of", .glo "_law_right", .glo "law", .keep "is_whole", .keep "is_between", .keep "is_tuple_of", .keep "is_ratio", .keep "is_row", .keep "ratio", .keep "plus", .keep "total", .keep "is_chance_row", .keep "is_still_by", .keep "is_choice_by", .keep "are_odds"]
def fal_4 : List He.Fa := [.keep "are_nexts", .keep "is_minded_by", .keep "plain_odds", .keep "still_by", .keep "choice_by", .keep "doubled_by", .keep "minded_by", .keep "are_chances", .keep "is_deed", .keep "is_stand", .keep "is_share", .keep "is_house_by", .keep "check_house", .keep "check_still", .keep "check_choice", .keep "is_still", .keep "is_choice", .keep "is_minded", .keep "still_of", .keep "choice_of"]
def fal_5 : List He.Fa := [.keep "doubled", .keep "minded_of", .keep "_law_spring", .keep "_law_pick", .keep "_law_any_of", .keep "_law_frac", .keep "_law_plus", .keep "_law_total", .keep "_law_part", .keep "_law_gains", .keep "_law_parts", .keep "_law_chances", .keep "_law_odds", .keep "_law_sized", .keep "_law_world", .keep "_law_plan", .keep "_law_chosen", .keep "_law_sure", .keep "_law_mindful", .keep "_law_is_whole"]
def fal_6 : List He.Fa := [.keep "_law_is_tuple", .keep "_law_is_frac", .keep "_law_is_row", .keep "_law_is_odds", .keep "_law_is_mindful", .keep "_law_is_chosen", .keep "_law_odd", .keep "_law_twice", .keep "_law_bent", .keep "_law_maybe", .keep "_law_is_plan", .keep "_law_chosen_of", .keep "_law_doubled", .keep "_law_minded_of", .keep "_law_right", .keep "law", .free "abs", .free "all", .free "bool", .free "divmod"]
def fal_7 : List He.Fa := [.free "enumerate", .free "int", .free "isinstance", .free "len", .free "list", .free "max", .free "min", .free "range", .free "repr", .free "str", .free "sum", .free "tuple", .free "zip"]
def fal : List He.Fa := fal_0 ++ fal_1 ++ fal_2 ++ fal_3 ++ fal_4 ++ fal_5 ++ fal_6 ++ fal_7
def csl_0 : List (Str × PyData) := [("MOST_DEEDS", k_MOST_DEEDS), ("MOST_MINDS", k_MOST_MINDS), ("MOST_PAYS", k_MOST_PAYS), ("MOST_STANDS", k_MOST_STANDS), ("ONE", k_ONE), ("ZERO", k_ZERO)]
def csl : List (Str × PyData) := csl_0
def bsl_0 : List (Str × String) := [("gcd", "math.gcd")]
def bsl : List (Str × String) := bsl_0
def loose_0 : List Str := ["is_whole", "is_between", "is_tuple_of", "ZERO", "ONE", "is_ratio", "is_row", "ratio", "plus", "total", "is_chance_row", "MOST_MINDS", "is_still_by", "is_choice_by", "are_odds", "are_nexts", "is_minded_by", "plain_odds", "still_by", "choice_by"]
def loose_1 : List Str := ["doubled_by", "minded_by", "MOST_PAYS", "MOST_STANDS", "MOST_DEEDS", "are_chances", "is_deed", "is_stand", "is_share", "is_house_by", "HouseError", "InvalidHouse", "InvalidStill", "InvalidChoice", "check_house", "check_still", "check_choice", "is_still", "is_choice", "is_minded"]
def loose_2 : List Str := ["still_of", "choice_of", "doubled", "minded_of", "_law_spring", "_law_pick", "_law_any_of", "_law_frac", "_law_plus", "_law_total", "_law_part", "_law_gains", "_law_parts", "_law_chances", "_law_odds", "_law_sized", "_law_world", "_law_plan", "_law_chosen", "_law_sure"]
def loose_3 : List Str := ["_law_mindful", "_law_is_whole", "_law_is_tuple", "_law_is_frac", "_law_is_row", "_law_is_odds", "_law_is_mindful", "_law_is_chosen", "_law_odd", "_law_twice", "_law_bent", "_law_maybe", "_law_is_plan", "_law_chosen_of", "_law_doubled", "_law_minded_of", "_law_right"]
def loose : List Str := loose_0 ++ loose_1 ++ loose_2 ++ loose_3
abbrev RR : PySem.W.OpenRow := PySem.W.OpenLaw.row PySem.Challenge.rw_deedhouses_k03_plans_of_anything
abbrev hkM : PySem.W.Hook := hookM 2 csl bsl fal fnl
def obM (s : PySem.W.SharedT) : AlM := obsMG 2 csl bsl fal fnl (HandSHeadRun.getT s)
theorem obM_eq (s : PySem.W.SharedT) : obM s = hkM.obs s.abs := obsMG_eq (HandSHeadRun.getT_eq s)
set_option maxHeartbeats 0 in
theorem runL (w : World) : (HandSHeadRun.wholeF (fun p => HandSHeadRun.stepQ (HandSHeadRun.denQ HandSHeadRun.tabQ) p w) HandSHeadRun.fenceQ 6000 RR.prog).map (fun x => HandSHeadRun.looksF RR.prog x.1.heap x.2.abs) = some true := by
  kernel_rfl
set_option maxHeartbeats 0 in
theorem runS (w : World) : (HandSHeadRun.wholeF (fun p => HandSHeadRun.stepQ (HandSHeadRun.denQ HandSHeadRun.tabQ) p w) HandSHeadRun.fenceQ 6000 RR.prog).map (fun x => HandSHeadRun.seenQ (PySem.W.view RR.prog [0, 86]) loose (importedModules RR.prog.main.body) (fun s => PySem.W.xlAt (PySem.W.view RR.prog [0, 86]) [] s && PySem.W.recOk RR.toRowW.records s) x.2.abs) = some (PySem.W.openGood (PySem.W.view RR.prog [0, 86]) loose) := by
  kernel_rfl
set_option maxHeartbeats 0 in
theorem runO (w : World) : (HandSHeadRun.wholeF (fun p => HandSHeadRun.stepQ (HandSHeadRun.denQ HandSHeadRun.tabQ) p w) HandSHeadRun.fenceQ 6000 RR.prog).map (fun x => obM x.2) = some (hkM.val w) := by
  kernel_rfl
theorem map3 {α β γ δ : Type _} {o : Option α} {f : α → β} {g : α → γ} {h : α → δ} {a : β} {b : γ} {c : δ} (e1 : o.map f = some a) (e2 : o.map g = some b) (e3 : o.map h = some c) : o.map (fun x => (f x, g x, h x)) = some (a, b, c) := by
  cases o with
  | none => cases e1
  | some x => cases e1; cases e2; cases e3; rfl
theorem runM (w : World) : HandSHeadRun.RunEqI RR (PySem.W.view RR.prog [0, 86]) hkM obM 6000 loose w := by
  unfold HandSHeadRun.RunEqI
  exact map3 (runL w) (runS w) (runO w)
end WW
namespace WW
open PySem PySem.Spec L2 PySem.W Dh
theorem e_ratio {t l : Int} {s : Sto} (h : 0 < l) (hl : l.natAbs < 2 ^ 9000) : f_ratio [.d (.int t), .d (.int l)] s = some (.d (pQ (Rat.divInt t l)), s) := by
  refine WF.eq (WF.body rfl ?_)
  have g : 0 < gg t l := gg_pos (by omega)
  have g1 : (gg t l).natAbs < 2 ^ 9000 := Nat.lt_of_le_of_lt (gg_le (by omega)) hl
  have e1 : gFdiv t ((t.natAbs.gcd l.natAbs : Nat) : Int) = _ := gFdiv_pos g g1
  have e2 : gFdiv l ((t.natAbs.gcd l.natAbs : Nat) : Int) = _ := gFdiv_pos g g1
  simp [m_ratio, h, List.replicate_succ, e1, e2, sz2, pQ, divInt_num h, divInt_den h]
  exact ⟨rfl, rfl⟩
theorem e_plus {p q : Rat} {s : Sto} (hp : Bd p) (hq : Bd q) : f_plus [.d (pQ p), .d (pQ q)] s = some (.d (pQ (p + q)), s) := by
  refine WF.eq (WF.body rfl ?_)
  simp [m_plus, pQ, fMul_ok, mulOk_nd hp hq, mulOk_nd hq hp, mulOk_dd hp hq]
  refine WF.of (e_ratio (den_mul_pos p q) (den_lt hp hq)) ?_
  rw [← add_divInt]
  simp [pQ]
theorem w_euclid {x y : Option Cl} {s : Sto} {Q : Out → Ev → Sto → Prop} : ∀ (b a : Nat), Q .nx [x, y, some (.d (.int ((Nat.gcd a b : Nat) : Int))), some (.d (.int 0))] s →
    WWh (bT (m2 (fI gGt) (mVar 3) (mKon (.int 0)))) (mPar 2 3 (maCons (mVar 3) (maCons (m2 (fI gMod) (mA fInt (maCons (mVar 2) maNil)) (mVar 3)) maNil))) [x, y, some (.d (.int (a : Int))), some (.d (.int (b : Int)))] s Q := by
  intro b
  induction b using Nat.strongRecOn with
  | ind b ih =>
    intro a h
    refine WWh_next ?_
    by_cases hb : b = 0
    · subst hb
      simp at h ⊢
      exact h
    · have hp : (0 : Int) < (b : Int) := by omega
      have hq : 0 < b := by omega
      have e : gMod (a : Int) (b : Int) = _ := gMod_pos hp
      simp [hq, hp, e]
      have := ih (a % b) (Nat.mod_lt _ hq) b (by rw [Nat.gcd_comm, ← Nat.gcd_rec, Nat.gcd_comm]; exact h)
      rw [Int.natCast_emod] at this
      exact this
theorem e_frac0 {t l : Int} {s : Sto} (h : l ≠ 0) (hl : l.natAbs < 2 ^ 9000) : f_law_frac [.d (.int t), .d (.int l)] s = some (.d (pQ (Rat.divInt t l)), s) := by
  refine WF.eq (WF.body rfl ?_)
  have g : 0 < gg t l := gg_pos h
  have g1 : (gg t l).natAbs < 2 ^ 9000 := Nat.lt_of_le_of_lt (gg_le h) hl
  have a1 : (if t < 0 then -t else t) = ((t.natAbs : Nat) : Int) := by split <;> omega
  have a2 : (if l < 0 then -l else l) = ((l.natAbs : Nat) : Int) := by split <;> omega
  have e : ∀ i : Int, gFdiv i ((t.natAbs.gcd l.natAbs : Nat) : Int) = some (.int (i / gg t l)) := fun i => gFdiv_pos g g1
  simp only [m_law_frac]
  simp [List.replicate_succ, a1, a2]
  refine w_euclid _ _ ?_
  by_cases hp : 0 < l
  · simp [hp, e, sz2, pQ, divInt_num hp, divInt_den hp]
  · have n : gg (-t) (-l) = gg t l := by unfold gg; rw [Int.natAbs_neg, Int.natAbs_neg]
    have a := divInt_num (t := -t) (l := -l) (by omega)
    have b := divInt_den (t := -t) (l := -l) (by omega)
    rw [Rat.neg_divInt_neg, n] at a b
    have c1 : ∀ i : Int, gg t l ∣ i → (-i) / gg t l = - (i / gg t l) := fun i hi => Int.neg_ediv_of_dvd hi
    have d1 : gg t l ∣ t := Int.ofNat_dvd_left.mpr (Nat.gcd_dvd_left _ _)
    have d2 : gg t l ∣ l := Int.ofNat_dvd_left.mpr (Nat.gcd_dvd_right _ _)
    simp [hp, e, sz2, pQ, a, b, c1 t d1, c1 l d2]
theorem e_lplus {p q : Rat} {s : Sto} (hp : Bd p) (hq : Bd q) : f_law_plus [.d (pQ p), .d (pQ q)] s = some (.d (pQ (p + q)), s) := by
  refine WF.eq (WF.body rfl ?_)
  simp [m_law_plus, pQ, fMul_ok, mulOk_nd hp hq, mulOk_nd hq hp, mulOk_dd hp hq]
  refine WF.of (e_frac0 (by have := den_mul_pos p q; omega) (den_lt hp hq)) ?_
  rw [← add_divInt]
  simp [pQ]
end WW
namespace Dh
open PySem PySem.Spec L2 PySem.W
@[elab_as_elim] theorem snoc_ind {α : Type} {P : List α → Prop} (nil : P []) (snoc : ∀ l x, P l → P (l ++ [x])) (l : List α) : P l := by
  rw [← List.reverse_reverse l]
  induction l.reverse with
  | nil => exact nil
  | cons x m ih => rw [List.reverse_cons]; exact snoc _ _ ih
def qsum (l : List Rat) : Rat := l.foldl (· + ·) 0
def qdot (l m : List Rat) : Rat := qsum ((l.zip m).map fun p => p.1 * p.2)
theorem qsum_snoc {l : List Rat} {x : Rat} : qsum (l ++ [x]) = qsum l + x := by simp [qsum]
theorem take_snoc {α : Type} {l : List α} {i : Nat} {x : α} (h : l[i]? = some x) : l.take (i + 1) = l.take i ++ [x] := by
  rw [List.take_add_one, h]; rfl
theorem QLt_0 {k : Nat} (h : 0 < k := by omega) : QLt k 0 := ⟨by rw [Rat.zero_num]; exact Nat.pow_pos (by decide), by rw [Rat.zero_den]; exact Nat.one_lt_two_pow (by omega)⟩
theorem QLt_1 {k : Nat} (h : 0 < k := by omega) : QLt k 1 := ⟨by rw [Rat.one_num]; exact Nat.one_lt_two_pow (by omega), by rw [Rat.one_den]; exact Nat.one_lt_two_pow (by omega)⟩
theorem qsum_lt {k : Nat} {l : List Rat} (h : ∀ q ∈ l, QLt k q) : QLt (1 + (k + 1) * l.length) (qsum l) := by
  revert h
  refine snoc_ind ?_ ?_ l
  · intro _; exact QLt_0
  · intro l x ih h
    rw [qsum_snoc, List.length_append, List.length_singleton, Nat.mul_add]
    exact (QLt_add (ih fun q hq => h q (by simp [hq])) (h x (by simp))).mono (by omega)
theorem mem_take {α : Type} {l : List α} {i : Nat} {x : α} (h : x ∈ l.take i) : x ∈ l := List.mem_of_mem_take h
theorem qsum_take_lt {k i : Nat} {l : List Rat} (h : ∀ q ∈ l, QLt k q) : QLt (1 + (k + 1) * l.length) (qsum (l.take i)) :=
  (qsum_lt fun q hq => h q (mem_take hq)).mono (by
    have : (l.take i).length ≤ l.length := by rw [List.length_take]; omega
    have := Nat.mul_le_mul_left (k + 1) this
    omega)
/-- a pair of data, by what each is -/
def p2 {α β : Type} (f : α → PyData) (g : β → PyData) (p : α × β) : PyData := .tuple [f p.1, g p.2]
theorem pairs_map {α β : Type} (f : α → PyData) (g : β → PyData) : ∀ (l : List α) (m : List β), pairs (l.map f) (m.map g) = (l.zip m).map (p2 f g)
  | [], m => by simp [pairs]
  | x :: l, [] => by simp [pairs]
  | x :: l, y :: m => by
    have := pairs_map f g l m
    unfold pairs at this ⊢
    simp only [List.map_cons, List.zip_cons_cons, this]
    rfl
theorem flat_one {α : Type} {x : α} : ∀ n : Nat, (List.replicate n [x]).flatten = List.replicate n x
  | 0 => rfl
  | n + 1 => by rw [List.replicate_succ, List.replicate_succ, List.flatten_cons, flat_one n]; rfl
theorem fMul_rep {x : PyData} {n : Nat} (h0 : 0 < n) (h : n ≤ 1000) : fMul (.d (.tuple [x])) (.d (.int (n : Int))) = some (.d (.tuple (List.replicate n x))) := by
  show (if (n : Int) = 1 then some (R.d (PyData.tuple [x])) else if [x] ≠ [] ∧ 2 ≤ (n : Int) ∧ (n : Int) ≤ 1000 ∧ [x].length ≤ 1000 then some (R.d (PyData.tuple (List.replicate (n : Int).toNat [x]).flatten)) else none) = _
  by_cases e : n = 1
  · subst e; rfl
  · rw [if_neg (by omega), if_pos ⟨by simp, by omega, by omega, by simp⟩]
    congr 3
    rw [Int.toNat_natCast]
    exact flat_one n
@[simp] theorem seqOf_t {xs : List PyData} : seqOf (.tuple xs) = some xs := rfl
@[simp] theorem seqOf_l {xs : List PyData} : seqOf (.list xs) = some xs := rfl
@[simp] theorem ev_zipQ2 {x y : R} : zipQ2 [x, y] = (match toD x, toD y with | some a, some b => (match seqOf a, seqOf b with | some xs, some ys => some (pairs xs ys) | _, _ => none) | _, _ => none) := by
  unfold zipQ2
  rw [ev_toDs1, ev_toDs1, ev_toDs0]
  cases toD x <;> cases toD y <;> rfl
@[simp] theorem ev_zipQ3 {x y z : R} : zipQ3 [x, y, z] = (match toD x, toD y, toD z with | some a, some b, some c => (match seqOf a, seqOf b, seqOf c with | some xs, some ys, some zs => some (trip xs ys zs) | _, _, _ => none) | _, _, _ => none) := by
  unfold zipQ3
  rw [ev_toDs1, ev_toDs1, ev_toDs1, ev_toDs0]
  cases toD x <;> cases toD y <;> cases toD z <;> rfl
@[simp] theorem items_b {xs : List PyData} : itemsOf (.b xs) = none := rfl
end Dh
namespace WW
open PySem PySem.Spec L2 PySem.W Dh
theorem e_total {x : PyData} {l : List Rat} {k : Nat} {s : Sto} (hx : itemsOf (.d x) = some (l.map pQ)) (hl : ∀ q ∈ l, QLt k q) (h : 1 + (k + 1) * l.length + k ≤ 4500) : f_total [.d x] s = some (.d (pQ (qsum l)), s) := by
  refine WF.eq (WF.body rfl ?_)
  simp [m_total, List.replicate_succ, hx]
  refine WFor_inv pQ l (fun i ρ s' => s' = s ∧ ∃ c, ρ = [some (.d x), some (.d (pQ (qsum (l.take i)))), c]) ⟨rfl, none, rfl⟩ ?_ ?_
  · rintro i q ρ s' hq ⟨rfl, c, rfl⟩
    simp
    refine WF.of (e_plus (qsum_take_lt hl).bd ((hl q (List.mem_of_getElem? hq)).bd)) ?_
    rw [take_snoc hq, qsum_snoc]
    simp
  · rintro ρ s' ⟨rfl, c, rfl⟩
    simp
end WW
namespace Dh
/-- D times q is whole, at most M without its sign -/
def CD (D M : Nat) (q : Rat) : Prop := ∃ z : Int, (D : Rat) * q = z ∧ z.natAbs ≤ M
theorem CD_0 {D M : Nat} : CD D M 0 := ⟨0, by simp, by simp⟩
theorem CD_1 {D M : Nat} (h : D ≤ M) : CD D M 1 := ⟨D, by rw [Rat.mul_one, Rat.intCast_natCast], by simpa using h⟩
theorem CD.mono {D M N : Nat} {q : Rat} (h : CD D M q) (k : M ≤ N) : CD D N q := let ⟨z, a, b⟩ := h; ⟨z, a, Nat.le_trans b k⟩
theorem CD_if {c : Prop} [Decidable c] {D : Nat} : CD D D (if c then (1 : Rat) else 0) := by
  split
  · exact CD_1 (Nat.le_refl _)
  · exact CD_0
theorem QLt.cd {k : Nat} {q : Rat} (h : QLt k q) : CD q.den (2 ^ k) q := ⟨q.num, El.den_mul_self q, Nat.le_of_lt h.1⟩
end Dh
namespace El
open Dh
/-- every row over one number of at most b bits -/
def Rows (A : Nat → Nat → Rat) (n j b : Nat) : Prop := ∀ i, i < n → ∃ D : Nat, 0 < D ∧ D ≤ 2 ^ b ∧ ∀ l, (l < n ∨ l = j) → CD D (2 ^ b) (A i l)
end El
namespace Dh
open PySem PySem.Spec L2 PySem.W
/-- a spring that can be asked m times more -/
def Vs (m : Nat) (s : Sto) : Prop := ∃ a b c : Int, s = [a, b, c] ∧ 0 ≤ b ∧ b < 2147483579 ∧ 0 ≤ c ∧ c + (m : Int) ≤ 1099511627776
theorem Vs.mono {m n : Nat} {s : Sto} (h : Vs n s) (k : m ≤ n := by omega) : Vs m s := by
  obtain ⟨a, b, c, e, h1, h2, h3, h4⟩ := h
  exact ⟨a, b, c, e, h1, h2, h3, by omega⟩
theorem lit40 : (2 : Nat) ^ 40 = 1099511627776 := by decide
theorem lt40 {i : Int} (h0 : 0 ≤ i) (h : i < 1099511627776) : i.natAbs < 2 ^ 40 := by rw [lit40]; omega
theorem atI_ofNat {α : Type} {xs : List α} {i : Nat} (h : i < xs.length) : atI xs (i : Int) = xs[i]? := by
  unfold atI ixN
  have h1 : ¬ ((i : Int) < 0) := by omega
  have h2 : (i : Int) < (xs.length : Int) := by omega
  simp [h2]
theorem ixN_ofNat {n i : Nat} (h : i < n) : ixN n (i : Int) = some i := by
  unfold ixN
  have h2 : (i : Int) < (n : Int) := by omega
  simp [h2]
theorem atI_pick {α : Type} {xs : List α} {d : Int} (h0 : 0 ≤ d) (h : d < xs.length) : ∃ x ∈ xs, atI xs d = some x := by
  obtain ⟨n, rfl⟩ := Int.eq_ofNat_of_zero_le h0
  have hn : n < xs.length := by omega
  exact ⟨xs[n], List.getElem_mem hn, by rw [show ((n : Nat) : Int) = (n : Int) from rfl, atI_ofNat hn, List.getElem?_eq_getElem hn]⟩
theorem gFdiv_small {i j : Int} (h : 0 < j) (hl : j.natAbs < 2 ^ 40) : gFdiv i j = some (.int (i / j)) := gFdiv_pos h (lt_monoB hl (by decide))
theorem range1_nat {n : Nat} (h : n ≤ 1000) : range1 [.d (.int (n : Int))] = some ((List.range n).map fun i => PyData.int (i : Nat)) := by
  unfold range1
  simp [rangeL, show (-4611686018427387904 : Int) ≤ (n : Int) by omega, show (n : Int) < 4611686018427387904 by omega]
theorem range_at {n i x : Nat} (h : (List.range n)[i]? = some x) : x = i ∧ i < n := by
  obtain ⟨h1, h2⟩ := List.getElem?_eq_some_iff.mp h
  rw [List.getElem_range] at h2
  rw [List.length_range] at h1
  exact ⟨h2.symm, h1⟩
end Dh
namespace WW
open PySem PySem.Spec L2 PySem.W Dh
theorem w_pick {l : Int} {s : Sto} {m : Nat} (v : Vs (m + 1) s) (h : 0 < l) (hl : l < 1099511627776) : WF f_law_pick [.s, .d (.int l)] s fun r s' => ∃ d : Int, r = .d (.int d) ∧ 0 ≤ d ∧ d < l ∧ Vs m s' := by
  obtain ⟨a, b, c, rfl, h1, h2, h3, h4⟩ := v
  refine WF.body rfl ?_
  have l0 : l ≠ 0 := by omega
  by_cases ha : 0 < a
  · have p : Builtin.divisionGoesByPylong a l = false := pylong_of (lt_monoB (a := 40) (lt40 (by omega) hl) (by decide))
    simp [m_law_pick, ha, List.replicate_succ, fDivmod, h, p, ixN]
    exact ⟨Int.emod_nonneg _ l0, Int.emod_lt_of_pos _ h, a / l, b, c, rfl, h1, h2, h3, by omega⟩
  · have m1 : mulOk b 40692 = true := mulOk_of (a := 31) (b := 16) (by omega) (by decide) (by decide)
    have m2 : mulOk 15013 (c + 1) = true := mulOk_of (a := 14) (b := 41) (by decide) (by omega) (by decide)
    simp [m_law_pick, ha, List.replicate_succ, putS, ixN, m1, m2, fMul_ok, gMod_pos]
    have x1 : 0 ≤ (b * 40692 + 15013 * (c + 1)) % 2147483579 := Int.emod_nonneg _ (by decide)
    have x2 : (b * 40692 + 15013 * (c + 1)) % 2147483579 < 2147483579 := Int.emod_lt_of_pos _ (by decide)
    generalize (b * 40692 + 15013 * (c + 1)) % 2147483579 = x at *
    have y1 : 0 ≤ x % 6007 := Int.emod_nonneg _ (by decide)
    have y2 : x % 6007 < 6007 := Int.emod_lt_of_pos _ (by decide)
    refine ⟨mulOk_of (a := 31) (b := 16) (by omega) (by omega) (by decide), ?_⟩
    have z1 : 0 ≤ (x * (x % 6007 + 20011) + (c + 1)) % 2147483579 := Int.emod_nonneg _ (by decide)
    have z2 : (x * (x % 6007 + 20011) + (c + 1)) % 2147483579 < 2147483579 := Int.emod_lt_of_pos _ (by decide)
    generalize (x * (x % 6007 + 20011) + (c + 1)) % 2147483579 = z at *
    simp [gFdiv_small (i := z) (j := 1013) (by decide) (by decide), gMod_pos h]
    exact ⟨Int.emod_nonneg _ l0, Int.emod_lt_of_pos _ h, a, z, c + 1, rfl, z1, z2, by omega, by omega⟩
theorem w_any {xs : List PyData} {s : Sto} {m : Nat} (v : Vs (m + 1) s) (h : 0 < xs.length) (hl : xs.length ≤ 1000) : WF f_law_any_of [.s, .d (.tuple xs)] s fun r s' => ∃ x ∈ xs, r = .d x ∧ Vs m s' := by
  refine WF.body rfl ?_
  simp [m_law_any_of]
  refine WF.use (w_pick v (by omega) (by omega)) ?_
  rintro _ s' ⟨d, rfl, h1, h2, v'⟩
  obtain ⟨x, hx, e⟩ := atI_pick h1 h2
  simp [e]
  exact ⟨x, hx, rfl, v'⟩
theorem w_part {s : Sto} {m : Nat} (v : Vs (m + 3) s) : WF f_law_part [.s] s fun r s' => ∃ q : Rat, r = .d (pQ q) ∧ 0 ≤ q ∧ q < 1 ∧ QLt 6 q ∧ Vs m s' := by
  refine WF.body rfl ?_
  simp [m_law_part, List.replicate_succ]
  refine WF.use (w_pick (m := m + 2) v (by decide) (by decide)) ?_
  rintro _ s1 ⟨d, rfl, h1, h2, v1⟩
  simp
  by_cases hd : d < 7
  · have key : ∃ q : Rat, atI [PyData.tuple [.int 1, .int 2], .tuple [.int 1, .int 2], .tuple [.int 1, .int 3], .tuple [.int 2, .int 3], .tuple [.int 3, .int 4], .tuple [.int 1, .int 4], .tuple [.int 0, .int 1]] d = some (pQ q) ∧ 0 ≤ q ∧ q < 1 ∧ QLt 6 q := by
      have : d = 0 ∨ d = 1 ∨ d = 2 ∨ d = 3 ∨ d = 4 ∨ d = 5 ∨ d = 6 := by omega
      rcases this with rfl | rfl | rfl | rfl | rfl | rfl | rfl
      · exact ⟨⟨1, 2, by decide, by decide⟩, rfl, by decide, by decide, by decide, by decide⟩
      · exact ⟨⟨1, 2, by decide, by decide⟩, rfl, by decide, by decide, by decide, by decide⟩
      · exact ⟨⟨1, 3, by decide, by decide⟩, rfl, by decide, by decide, by decide, by decide⟩
      · exact ⟨⟨2, 3, by decide, by decide⟩, rfl, by decide, by decide, by decide, by decide⟩
      · exact ⟨⟨3, 4, by decide, by decide⟩, rfl, by decide, by decide, by decide, by decide⟩
      · exact ⟨⟨1, 4, by decide, by decide⟩, rfl, by decide, by decide, by decide, by decide⟩
      · exact ⟨⟨0, 1, by decide, by decide⟩, rfl, by decide, by decide, by decide, by decide⟩
    obtain ⟨q, e, k1, k2, k3⟩ := key
    simp [hd, sz2, szle, e]
    exact ⟨q, rfl, k1, k2, k3, v1.mono⟩
  · simp [hd]
    refine WF.use (w_pick (m := m + 1) v1 (by decide) (by decide)) ?_
    rintro _ s2 ⟨u, rfl, h3, h4, v2⟩
    simp
    refine WF.use (w_pick (m := m) v2 (by omega) (by omega)) ?_
    rintro _ s3 ⟨t, rfl, h5, h6, v3⟩
    simp
    refine WF.of (e_frac0 (by omega) (lt_monoB (a := 6) (by omega) (by decide))) ?_
    simp
    refine ⟨Rat.divInt t (2 + u), rfl, Rat.divInt_nonneg h5 (by omega), ?_, QLt_divInt (by omega) (by omega) (by omega), v3⟩
    rw [Rat.divInt_eq_div, Rat.div_lt_iff (Rat.intCast_pos.mpr (by omega)), Rat.one_mul]
    exact Rat.intCast_lt_intCast.mpr h6
/-- a drawn row of numbers -/
theorem w_gains {p : Nat} {s : Sto} {m : Nat} (hp : p ≤ 100) (v : Vs (m + 3 * p) s) : WF f_law_gains [.s, .d (.int (p : Int))] s fun r s' => ∃ l : List Rat, r = .d (pQs l) ∧ l.length = p ∧ (∀ q ∈ l, QLt 25 q) ∧ Vs m s' := by
  refine WF.body rfl ?_
  simp [m_law_gains, List.replicate_succ, range1_nat (n := p) (by omega)]
  refine WFor_inv (fun i : Nat => PyData.int i) (List.range p) (fun i ρ s' => ∃ (l : List Rat) (c : Option Cl), ρ = [some .s, some (.d (.int (p : Int))), some (.o (l.map pQ)), c] ∧ l.length = i ∧ (∀ q ∈ l, QLt 25 q) ∧ Vs (m + 3 * (p - i)) s') ⟨[], none, rfl, rfl, by simp, v⟩ ?_ ?_
  · rintro i x ρ s' hx ⟨l, c, rfl, hl, hq, v⟩
    obtain ⟨rfl, hi⟩ := range_at hx
    simp
    refine WF.use (w_pick (m := m + 3 * (p - (x + 1)) + 2) (v.mono) (by decide) (by decide)) ?_
    rintro _ s1 ⟨d, rfl, h1, h2, v1⟩
    simp [fEq_int]
    by_cases hd : d = 13
    · simp [hd]
      refine WF.use (w_pick (m := m + 3 * (p - (x + 1)) + 1) v1 (by decide) (by decide)) ?_
      rintro _ s2 ⟨u, rfl, h3, h4, v2⟩
      simp
      refine WF.use (w_pick (m := m + 3 * (p - (x + 1))) v2 (by decide) (by decide)) ?_
      rintro _ s3 ⟨t, rfl, h5, h6, v3⟩
      simp
      refine WF.of (e_frac0 (by omega) (lt_monoB (a := 6) (by omega) (by decide))) ?_
      simp [hl, szlt (show x ≤ 1000 by omega)]
      exact ⟨l ++ [Rat.divInt (u - 10000000) (1 + t)], by simp, by simp [hl], fun q hq' => by
        rcases List.mem_append.mp hq' with h | h
        · exact hq q h
        · rw [List.mem_singleton.mp h]; exact QLt_divInt (by omega) (by omega) (by omega), v3⟩
    · simp [hd]
      refine WF.use (w_pick (m := m + 3 * (p - (x + 1)) + 1) v1 (by decide) (by decide)) ?_
      rintro _ s2 ⟨u, rfl, h3, h4, v2⟩
      simp [sz5]
      refine WF.use (w_any (m := m + 3 * (p - (x + 1))) v2 (by decide) (by decide)) ?_
      rintro _ s3 ⟨t, ht, rfl, v3⟩
      have : ∃ k : Int, t = .int k ∧ 1 ≤ k ∧ k ≤ 3 := by
        simp at ht
        rcases ht with rfl | rfl | rfl
        · exact ⟨1, rfl, by decide, by decide⟩
        · exact ⟨2, rfl, by decide, by decide⟩
        · exact ⟨3, rfl, by decide, by decide⟩
      obtain ⟨k, rfl, h5, h6⟩ := this
      simp
      refine WF.of (e_frac0 (by omega) (lt_monoB (a := 6) (by omega) (by decide))) ?_
      simp [hl, szlt (show x ≤ 1000 by omega)]
      exact ⟨l ++ [Rat.divInt (u - 3) k], by simp, by simp [hl], fun q hq' => by
        rcases List.mem_append.mp hq' with h | h
        · exact hq q h
        · rw [List.mem_singleton.mp h]; exact QLt_divInt (by omega) (by omega) (by omega), v3⟩
  · rintro ρ s' ⟨l, c, rfl, hl, hq, v⟩
    simp
    rw [List.length_range] at hl v
    exact ⟨l, rfl, hl, hq, v.mono⟩
end WW
namespace Dh
open PySem PySem.Spec L2 PySem.W
/-- a datum of numbers of at most B bits, so deep at most, of such a weight at most -/
structure Pn (B k w : Nat) (x : PyData) : Prop where
  nd : noDict x = true
  lay : PyData.canLay0 x = true
  dep : PyData.depth x ≤ k
  sh : PyData.showable x = true
  short : PyData.leavesShort (B + 1) x = true
  wt : PyData.bulk x ≤ w
theorem Pn.mono {B k k' w w' : Nat} {x : PyData} (h : Pn B k w x) (hk : k ≤ k' := by omega) (hw : w ≤ w' := by omega) : Pn B k' w' x := ⟨h.nd, h.lay, Nat.le_trans h.dep hk, h.sh, h.short, Nat.le_trans h.wt hw⟩
theorem int_text {i : Int} {B : Nat} (hB : 0 < B) (h : i.natAbs < 2 ^ B) : (PyData.shown (.int i)).length ≤ B + 1 := by
  have hl : i.natAbs.log2 < B := by
    by_cases z : i.natAbs = 0
    · rw [z]; simpa using hB
    · exact (Nat.log2_lt z).mpr h
  have e := int_text_length_le (a := i) hB hl
  show (Str.ofString (toString i)).length ≤ B + 1
  rw [ofString_length]
  exact e
theorem Pn.int0 {B : Nat} {i : Int} (hB : 0 < B) (hB2 : B ≤ 1900) (h : i.natAbs < 2 ^ B) : Pn B 0 0 (.int i) := by
  have hl : i.natAbs.log2 < B := by
    by_cases z : i.natAbs = 0
    · rw [z]; simpa using hB
    · exact (Nat.log2_lt z).mpr h
  refine ⟨rfl, rfl, Nat.le_refl _, ?_, ?_, ?_⟩
  · simp only [PyData.showable, decide_eq_true_eq]; omega
  · simp only [PyData.leavesShort, decide_eq_true_eq]
    exact int_text hB h
  · simp only [PyData.bulk]
    exact Nat.le_refl _
theorem Pn.int {B : Nat} {i : Int} (hB : 0 < B) (hB2 : B ≤ 1900) (h : i.natAbs < 2 ^ B) : Pn B 0 B (.int i) := (Pn.int0 hB hB2 h).mono
theorem all_nd : ∀ {xs : List PyData}, (∀ x ∈ xs, noDict x = true) → noDicts xs = true
  | [], _ => rfl
  | x :: xs, h => by
    simp only [noDicts, h x List.mem_cons_self, Bool.true_and]
    exact all_nd fun y hy => h y (List.mem_cons_of_mem _ hy)
theorem all_lay : ∀ {xs : List PyData}, (∀ x ∈ xs, PyData.canLay0 x = true) → PyData.canLayAll0 xs = true
  | [], _ => rfl
  | x :: xs, h => by
    simp only [PyData.canLayAll0, h x List.mem_cons_self, Bool.true_and]
    exact all_lay fun y hy => h y (List.mem_cons_of_mem _ hy)
theorem all_dep {k : Nat} : ∀ {xs : List PyData}, (∀ x ∈ xs, PyData.depth x ≤ k) → PyData.depthAll xs ≤ k
  | [], _ => Nat.zero_le _
  | x :: xs, h => by
    have a := h x List.mem_cons_self
    have b := all_dep fun y hy => h y (List.mem_cons_of_mem x hy)
    simp only [PyData.depthAll]; omega
theorem all_sh : ∀ {xs : List PyData}, (∀ x ∈ xs, PyData.showable x = true) → PyData.showableAll xs = true
  | [], _ => rfl
  | x :: xs, h => by
    simp only [PyData.showableAll, h x List.mem_cons_self, Bool.true_and]
    exact all_sh fun y hy => h y (List.mem_cons_of_mem _ hy)
theorem all_short {B : Nat} : ∀ {xs : List PyData}, (∀ x ∈ xs, PyData.leavesShort B x = true) → PyData.leavesShortAll B xs = true
  | [], _ => by simp [PyData.leavesShortAll]
  | x :: xs, h => by
    simp only [PyData.leavesShortAll, h x List.mem_cons_self, Bool.true_and]
    exact all_short fun y hy => h y (List.mem_cons_of_mem _ hy)
theorem all_wt {w : Nat} : ∀ {xs : List PyData}, (∀ x ∈ xs, PyData.bulk x ≤ w) → PyData.bulkAll xs ≤ xs.length * (w + 1)
  | [], _ => by simp [PyData.bulkAll]
  | x :: xs, h => by
    have a := h x List.mem_cons_self
    have b := all_wt fun y hy => h y (List.mem_cons_of_mem x hy)
    simp only [PyData.bulkAll, List.length_cons, Nat.add_mul]; omega
theorem Pn.tup {B k w n : Nat} {xs : List PyData} (h : ∀ x ∈ xs, Pn B k w x) (hn : xs.length ≤ n) : Pn B (k + 1) (n * (w + 1)) (.tuple xs) where
  nd := by simp only [noDict]; exact all_nd fun x hx => (h x hx).nd
  lay := by simp only [PyData.canLay0]; exact all_lay fun x hx => (h x hx).lay
  dep := by
    have := all_dep fun x hx => (h x hx).dep
    simp only [PyData.depth]; omega
  sh := by simp only [PyData.showable]; exact all_sh fun x hx => (h x hx).sh
  short := by simp only [PyData.leavesShort]; exact all_short fun x hx => (h x hx).short
  wt := by
    simp only [PyData.bulk]
    exact Nat.le_trans (all_wt fun x hx => (h x hx).wt) (Nat.mul_le_mul_right _ hn)
theorem Pn.lst {B k w n : Nat} {xs : List PyData} (h : ∀ x ∈ xs, Pn B k w x) (hn : xs.length ≤ n) : Pn B (k + 1) (n * (w + 1)) (.list xs) where
  nd := by simp only [noDict]; exact all_nd fun x hx => (h x hx).nd
  lay := by simp only [PyData.canLay0]; exact all_lay fun x hx => (h x hx).lay
  dep := by
    have := all_dep fun x hx => (h x hx).dep
    simp only [PyData.depth]; omega
  sh := by simp only [PyData.showable]; exact all_sh fun x hx => (h x hx).sh
  short := by simp only [PyData.leavesShort]; exact all_short fun x hx => (h x hx).short
  wt := by
    simp only [PyData.bulk]
    exact Nat.le_trans (all_wt fun x hx => (h x hx).wt) (Nat.mul_le_mul_right _ hn)
theorem Pn.q {B : Nat} {q : Rat} (hB : 0 < B) (hB2 : B ≤ 1900) (h : QLt B q) : Pn B 1 (2 * (B + 1)) (pQ q) :=
  Pn.tup (fun x hx => by
    simp at hx
    rcases hx with rfl | rfl
    · exact .int hB hB2 h.1
    · exact .int hB hB2 h.den') (Nat.le_refl _)
theorem Pn.qs {B n : Nat} {l : List Rat} (hB : 0 < B) (hB2 : B ≤ 1900) (h : ∀ q ∈ l, QLt B q) (hn : l.length ≤ n) : Pn B 2 (n * (2 * (B + 1) + 1)) (pQs l) :=
  Pn.tup (fun x hx => by obtain ⟨q, hq, rfl⟩ := List.mem_map.mp hx; exact .q hB hB2 (h q hq)) (by rw [List.length_map]; exact hn)
theorem Pn.eqOk {B k w : Nat} {x : PyData} (h : Pn B k w x) (hk : k ≤ 64) : Dh.eqOk x = true := by
  unfold Dh.eqOk SeqAt.shaped
  rw [h.nd, h.lay, decide_eq_true (Nat.le_trans h.dep hk)]
  rfl
theorem Pn.repr {B k w : Nat} {x : PyData} {r : R} (hx : rdD r = some x) (hs : isSeq x = true) (h : Pn B k w x) (hk : k ≤ 60) (hB : 8 ≤ B) (hw : (B + 3) * w + (B + 1) ≤ 16777216) : fRepr [r] = some (.d (.str (PyData.shown x))) := by
  have h1 : reprOk x = true := by
    unfold reprOk
    have l := PyData.shown_le_bulk (B + 1) (by omega) x h.short
    have l2 := Nat.mul_le_mul_left (B + 1 + 2) h.wt
    rw [show B + 1 + 2 = B + 3 by omega] at l l2
    rw [hs, h.nd, h.sh, decide_eq_true (Nat.le_trans h.dep hk), decide_eq_true (Nat.le_trans l (Nat.le_trans (by omega) (show 16777216 ≤ sizeLine by decide)))]
    rfl
  unfold fRepr
  dsimp only
  rw [hx]
  exact if_pos h1
theorem Pn.q0 {B : Nat} {q : Rat} (hB : 0 < B) (hB2 : B ≤ 1900) (h : QLt B q) : Pn B 1 2 (pQ q) :=
  Pn.tup (B := B) (k := 0) (w := 0) (n := 2) (xs := [.int q.num, .int (q.den : Int)]) (fun x hx => by
    simp at hx
    rcases hx with rfl | rfl
    · exact .int0 hB hB2 h.1
    · exact .int0 hB hB2 h.den') (Nat.le_refl _)
theorem Pn.qs0 {B n : Nat} {l : List Rat} (hB : 0 < B) (hB2 : B ≤ 1900) (h : ∀ q ∈ l, QLt B q) (hn : l.length ≤ n) : Pn B 2 (n * 3) (pQs l) :=
  Pn.tup (k := 1) (w := 2) (fun x hx => by obtain ⟨q, hq, rfl⟩ := List.mem_map.mp hx; exact .q0 hB hB2 (h q hq)) (by rw [List.length_map]; exact hn)
structure RDeed where
  ch : List (Nat × Rat)
  gs : List Rat
structure RHouse where
  share : Rat
  pays : Nat
  stands : List (List RDeed)
def pCh (c : Nat × Rat) : PyData := .tuple [.int (c.1 : Nat), pQ c.2]
def pDeed (d : RDeed) : PyData := .tuple [.tuple (d.ch.map pCh), pQs d.gs]
def pStand (st : List RDeed) : PyData := .tuple (st.map pDeed)
def pHouse (h : RHouse) : PyData := .tuple [pQ h.share, .int (h.pays : Nat), .tuple (h.stands.map pStand)]
structure ChOk (n : Nat) (cs : List (Nat × Rat)) : Prop where
  asc : cs.Pairwise fun a b => a.1 < b.1
  each : ∀ c ∈ cs, c.1 < n ∧ 0 < c.2 ∧ QLt 10 c.2
  one : qsum (cs.map (·.2)) = 1
  cd : ∃ S : Nat, 0 < S ∧ S < 2 ^ 9 ∧ ∀ c ∈ cs, CD S S c.2
structure DeedOk (n p : Nat) (d : RDeed) (g : Nat := 25) : Prop where
  ch : ChOk n d.ch
  len : d.gs.length = p
  gain : ∀ q ∈ d.gs, QLt g q
structure HouseOk (N D P : Nat) (h : RHouse) (g : Nat := 25) : Prop where
  s0 : 0 ≤ h.share
  s1 : h.share < 1
  sb : QLt 6 h.share
  p1 : 1 ≤ h.pays
  pP : h.pays ≤ P
  n1 : 1 ≤ h.stands.length
  nN : h.stands.length ≤ N
  each : ∀ st ∈ h.stands, 1 ≤ st.length ∧ st.length ≤ D ∧ ∀ d ∈ st, DeedOk h.stands.length h.pays d g
/-- a choice of a house -/
def ChoiceOk (h : RHouse) (c : List Nat) : Prop := c.length = h.stands.length ∧ ∀ (i : Nat) (st : List RDeed) (k : Nat), h.stands[i]? = some st → c[i]? = some k → k < st.length
theorem asc_len : ∀ {n : Nat} {cs : List (Nat × Rat)} (m : Nat), cs.Pairwise (fun a b => a.1 < b.1) → (∀ c ∈ cs, m ≤ c.1 ∧ c.1 < n) → cs.length ≤ n - m
  | n, [], m, _, _ => Nat.zero_le _
  | n, c :: cs, m, h, hb => by
    rw [List.pairwise_cons] at h
    have a := hb c List.mem_cons_self
    have b := asc_len (c.1 + 1) h.2 fun x hx => ⟨h.1 x hx, (hb x (List.mem_cons_of_mem _ hx)).2⟩
    rw [List.length_cons]; omega
theorem ChOk.len {n : Nat} {cs : List (Nat × Rat)} (h : ChOk n cs) : cs.length ≤ n := by
  have := asc_len 0 h.asc fun c hc => ⟨Nat.zero_le _, (h.each c hc).1⟩
  omega
theorem ChOk.pn {n : Nat} {cs : List (Nat × Rat)} (h : ChOk n cs) (hn : n ≤ 9) : Pn 25 3 5000 (.tuple (cs.map pCh)) :=
  (Pn.tup (B := 25) (k := 2) (w := 200) (n := 9) (fun x hx => by
    obtain ⟨c, hc, rfl⟩ := List.mem_map.mp hx
    obtain ⟨h1, h2, h3⟩ := h.each c hc
    exact (Pn.tup (B := 25) (k := 1) (w := 52) (n := 2) (fun x hx => by
      simp at hx
      rcases hx with rfl | rfl
      · exact (Pn.int (by decide) (by decide) (by rw [Int.natAbs_natCast]; omega)).mono
      · exact .q (by decide) (by decide) (h3.mono (by decide))) (by simp)).mono) (by rw [List.length_map]; have := h.len; omega)).mono
theorem DeedOk.pn {n p : Nat} {d : RDeed} (h : DeedOk n p d) (hn : n ≤ 9) (hp : p ≤ 9) : Pn 25 4 10100 (pDeed d) :=
  (Pn.tup (B := 25) (k := 3) (w := 5000) (n := 2) (fun x hx => by
    simp at hx
    rcases hx with rfl | rfl
    · exact h.ch.pn hn
    · exact (Pn.qs (n := 9) (by decide) (by decide) h.gain (by rw [h.len]; exact hp)).mono) (by simp)).mono
end Dh
namespace Dh
open PySem PySem.Spec L2 PySem.W
def iN (k : Nat) : PyData := .int (k : Int)
theorem ints_iN : ∀ ns : List Nat, intsOf (ns.map iN) = some (ns.map fun n : Nat => (n : Int))
  | [] => rfl
  | n :: ns => by
    rw [List.map_cons]
    show (intsOf (ns.map iN)).map _ = _
    rw [ints_iN ns]
    rfl
theorem sum_cast : ∀ ns : List Nat, (ns.map fun n : Nat => (n : Int)).sum = ((ns.sum : Nat) : Int)
  | [] => rfl
  | n :: ns => by rw [List.map_cons, List.sum_cons, List.sum_cons, sum_cast ns]; omega
theorem fSum_b {ns : List Nat} : fSum [.b (ns.map iN)] = some (.d (.int ((ns.sum : Nat) : Int))) := by
  show (match rdL (.b (ns.map iN)) with | some xs => (intsOf xs).map fun is : List Int => R.d (.int is.sum) | none => none) = _
  rw [ev_rdL3]
  dsimp only
  rw [ints_iN, Option.map_some, sum_cast]
theorem fSum_d {ns : List Nat} : fSum [.d (.list (ns.map iN))] = some (.d (.int ((ns.sum : Nat) : Int))) := by
  show (match rdL (.d (.list (ns.map iN))) with | some xs => (intsOf xs).map fun is : List Int => R.d (.int is.sum) | none => none) = _
  rw [ev_rdL1]
  dsimp only
  rw [ints_iN, Option.map_some, sum_cast]
theorem sum_le {b : Nat} : ∀ ns : List Nat, (∀ n ∈ ns, n ≤ b) → ns.sum ≤ ns.length * b
  | [], _ => by simp
  | n :: ns, h => by
    have a := h n List.mem_cons_self
    have c := sum_le ns fun x hx => h x (List.mem_cons_of_mem _ hx)
    rw [List.sum_cons, List.length_cons, Nat.add_mul]; omega
theorem le_sum : ∀ {ns : List Nat} {n : Nat}, n ∈ ns → n ≤ ns.sum
  | m :: ns, n, h => by
    rw [List.sum_cons]
    rcases List.mem_cons.mp h with rfl | h
    · omega
    · have := le_sum h; omega
theorem qsum_append {a b : List Rat} : qsum (a ++ b) = qsum a + qsum b := by
  induction b using snoc_ind with
  | nil => rw [List.append_nil]; simp [qsum]; grind
  | snoc b x ih => rw [← List.append_assoc, qsum_snoc, qsum_snoc, ih]; grind
/-- the chances that parts make -/
def chL (ns : List Nat) (k : Nat) : List (Nat × Rat) := (List.range k).filterMap fun i => if 0 < ns.getD i 0 then some (i, Rat.divInt (ns.getD i 0 : Nat) (ns.sum : Nat)) else none
theorem divInt_add {a b S : Int} : Rat.divInt a S + Rat.divInt b S = Rat.divInt (a + b) S := by
  rw [Rat.divInt_eq_div, Rat.divInt_eq_div, Rat.divInt_eq_div, Rat.intCast_add, Rat.div_def, Rat.div_def, Rat.div_def]
  grind
theorem chL_sum (ns : List Nat) : ∀ k, k ≤ ns.length → qsum ((chL ns k).map (·.2)) = Rat.divInt ((ns.take k).sum : Nat) (ns.sum : Nat)
  | 0, _ => by simp [chL, qsum]
  | k + 1, h => by
    have ih := chL_sum ns k (by omega)
    have hk : ns[k]? = some ns[k] := List.getElem?_eq_getElem (by omega)
    have e : ns.getD k 0 = ns[k] := by rw [List.getD_eq_getElem?_getD, hk]; rfl
    unfold chL at ih ⊢
    rw [List.range_succ, List.filterMap_append, List.map_append, qsum_append, ih, take_snoc hk, List.sum_append]
    simp only [List.filterMap_cons, List.filterMap_nil, e]
    by_cases hp : 0 < ns[k]
    · rw [if_pos hp]
      simp only [List.map_cons, List.map_nil]
      rw [show qsum [Rat.divInt (ns[k] : Nat) (ns.sum : Nat)] = Rat.divInt (ns[k] : Nat) (ns.sum : Nat) by simp [qsum]; grind, divInt_add]
      simp
    · rw [if_neg hp]
      have : ns[k] = 0 := by omega
      simp [qsum, this]
      grind
theorem CD_divInt {a S : Nat} (hS : 0 < S) (h : a ≤ S) : CD S S (Rat.divInt (a : Nat) (S : Nat)) := by
  refine ⟨a, ?_, by simpa using h⟩
  have e : (S : Rat) ≠ 0 := by rw [Ne, Rat.natCast_eq_zero_iff]; omega
  rw [Rat.divInt_eq_div, Rat.div_def, Rat.intCast_natCast, Rat.intCast_natCast, Rat.mul_comm, Rat.mul_assoc, Rat.inv_mul_cancel _ e, Rat.mul_one]
theorem chL_ok {ns : List Nat} (hs : 0 < ns.sum) (hb : ∀ n ∈ ns, n ≤ 43) (hl : ns.length ≤ 9) : ChOk ns.length (chL ns ns.length) where
  asc := by
    unfold chL
    rw [List.pairwise_filterMap]
    refine List.Pairwise.imp ?_ (List.pairwise_lt_range)
    intro a b hab x hx y hy
    split at hx
    · split at hy
      · cases hx; cases hy; exact hab
      · cases hy
    · cases hx
  each := fun c hc => by
    unfold chL at hc
    rw [List.mem_filterMap] at hc
    obtain ⟨i, hi, e⟩ := hc
    rw [List.mem_range] at hi
    split at e
    · rename_i hp
      cases e
      have hm : ns.getD i 0 ∈ ns := by
        rw [List.getD_eq_getElem?_getD, List.getElem?_eq_getElem hi]
        exact List.getElem_mem hi
      have h1 := le_sum hm
      have h2 := sum_le ns hb
      have h3 : ns.length * 43 ≤ 9 * 43 := Nat.mul_le_mul_right _ hl
      refine ⟨hi, ?_, QLt_divInt (by omega) (by omega) (by omega)⟩
      rw [Rat.divInt_eq_div, Rat.lt_div_iff (Rat.intCast_pos.mpr (by omega)), Rat.zero_mul]
      exact Rat.intCast_pos.mpr (by omega)
    · cases e
  one := by
    rw [chL_sum ns _ (Nat.le_refl _), List.take_length]
    exact Rat.divInt_self' (by omega)
  cd := by
    have h2 := sum_le ns hb
    have h3 : ns.length * 43 ≤ 9 * 43 := Nat.mul_le_mul_right _ hl
    refine ⟨ns.sum, hs, by omega, fun c hc => ?_⟩
    unfold chL at hc
    rw [List.mem_filterMap] at hc
    obtain ⟨i, hi, e⟩ := hc
    rw [List.mem_range] at hi
    split at e
    · cases e
      have hm : ns.getD i 0 ∈ ns := by
        rw [List.getD_eq_getElem?_getD, List.getElem?_eq_getElem hi]
        exact List.getElem_mem hi
      exact CD_divInt hs (le_sum hm)
    · cases e
end Dh
namespace WW
open PySem PySem.Spec L2 PySem.W Dh
theorem w_parts {n : Nat} {s : Sto} {m : Nat} (h1 : 1 ≤ n) (h9 : n ≤ 9) (v : Vs (m + 2 * n + 1) s) : WF f_law_parts [.s, .d (.int (n : Int))] s fun r s' => ∃ ns : List Nat, r = .f (ns.map iN) ∧ ns.length = n ∧ (∀ k ∈ ns, k ≤ 43) ∧ 0 < ns.sum ∧ Vs m s' := by
  refine WF.body rfl ?_
  simp [m_law_parts, List.replicate_succ, range1_nat (n := n) (by omega)]
  refine WFor_inv (fun i : Nat => PyData.int i) (List.range n) (fun i ρ s' => ∃ (ns : List Nat) (c d : Option Cl), ρ = [some .s, some (.d (.int (n : Int))), some (.o (ns.map iN)), c, d] ∧ ns.length = i ∧ (∀ k ∈ ns, k ≤ 43) ∧ Vs (m + 1 + 2 * (n - i)) s') ⟨[], none, none, rfl, rfl, by simp, v.mono⟩ ?_ ?_
  · rintro i x ρ s' hx ⟨ns, c, d, rfl, hl, hq, v⟩
    obtain ⟨rfl, hi⟩ := range_at hx
    simp
    refine WF.use (w_pick (m := m + 1 + 2 * (n - (x + 1)) + 1) v.mono (by decide) (by decide)) ?_
    rintro _ s1 ⟨d, rfl, g1, g2, v1⟩
    simp
    by_cases hd : d < 12
    · have key : ∃ k : Nat, atI [PyData.int 0, .int 1, .int 0, .int 1, .int 2, .int 0, .int 1, .int 3, .int 0, .int 1, .int 2, .int 0] d = some (iN k) ∧ k ≤ 43 := by
        obtain ⟨e, he, e2⟩ := atI_pick (xs := [PyData.int 0, .int 1, .int 0, .int 1, .int 2, .int 0, .int 1, .int 3, .int 0, .int 1, .int 2, .int 0]) g1 (by simpa using hd)
        rw [e2]
        simp at he
        rcases he with rfl | rfl | rfl | rfl | rfl | rfl | rfl | rfl | rfl | rfl | rfl | rfl <;> first | exact ⟨0, rfl, by omega⟩ | exact ⟨1, rfl, by omega⟩ | exact ⟨2, rfl, by omega⟩ | exact ⟨3, rfl, by omega⟩
      obtain ⟨k, e, hk⟩ := key
      simp [hd, szle, e, hl, szlt (show x ≤ 1000 by omega)]
      exact ⟨ns ++ [k], by simp, by simp [hl], fun z hz => by
        rcases List.mem_append.mp hz with h | h
        · exact hq z h
        · rw [List.mem_singleton.mp h]; exact hk, v1.mono⟩
    · simp [hd]
      refine WF.use (w_pick (m := m + 1 + 2 * (n - (x + 1))) v1 (by decide) (by decide)) ?_
      rintro _ s2 ⟨u, rfl, g3, g4, v2⟩
      simp [hl, szlt (show x ≤ 1000 by omega)]
      refine ⟨ns ++ [(4 + u).toNat], by simp [iN]; omega, by simp [hl], fun z hz => ?_, v2⟩
      rcases List.mem_append.mp hz with h | h
      · exact hq z h
      · rw [List.mem_singleton.mp h]; omega
  · rintro ρ s' ⟨ns, c, d, rfl, hl, hq, v⟩
    rw [List.length_range] at hl v
    simp [fSum_b, fEq_int]
    by_cases hz : ns.sum = 0
    · have hz' : (ns.sum : Int) = 0 := by omega
      simp [hz]
      refine WF.use (w_pick (m := m) v.mono (by omega) (by omega)) ?_
      rintro _ s1 ⟨d, rfl, g1, g2, v1⟩
      obtain ⟨e, rfl⟩ := Int.eq_ofNat_of_zero_le g1
      have he : e < ns.length := by omega
      simp [Dh.putL, ixN_ofNat (n := ns.length) he]
      refine ⟨ns.set e 1, by rw [List.map_set]; rfl, by simp [hl], fun k hk => ?_, ?_, v1⟩
      · rcases List.mem_or_eq_of_mem_set hk with h | h
        · exact hq k h
        · omega
      · have : 1 ∈ ns.set e 1 := List.mem_set he 1
        have := le_sum this
        omega
    · simp [hz]
      exact ⟨ns, rfl, hl, hq, by omega, v.mono⟩
theorem w_chances {n : Nat} {s : Sto} {m : Nat} (h1 : 1 ≤ n) (h9 : n ≤ 9) (v : Vs (m + 2 * n + 1) s) : WF f_law_chances [.s, .d (.int (n : Int))] s fun r s' => ∃ cs : List (Nat × Rat), r = .d (.tuple (cs.map pCh)) ∧ ChOk n cs ∧ Vs m s' := by
  refine WF.body rfl ?_
  simp [m_law_chances, List.replicate_succ]
  refine WF.use (w_parts h1 h9 v) ?_
  rintro _ s1 ⟨ns, rfl, hl, hq, hs, v1⟩
  simp [range1_nat (n := n) (by omega)]
  refine WLc_opt (fun i : Nat => PyData.int i) (fun i => if 0 < ns.getD i 0 then some (pCh (i, Rat.divInt (ns.getD i 0 : Nat) (ns.sum : Nat))) else none) (List.range n) (fun i hi => ?_) ?_
  · rw [List.mem_range] at hi
    have hi' : i < ns.length := by omega
    have e : ns.getD i 0 = ns[i] := by rw [List.getD_eq_getElem?_getD, List.getElem?_eq_getElem hi']; rfl
    have ea : atI (ns.map iN) (i : Int) = some (.int (ns[i] : Nat)) := by
      rw [atI_ofNat (by rw [List.length_map]; exact hi'), List.getElem?_map, List.getElem?_eq_getElem hi']; rfl
    have hm : ns[i] ∈ ns := List.getElem_mem hi'
    have h2 := sum_le ns hq
    have h3 : ns.length * 43 ≤ 9 * 43 := Nat.mul_le_mul_right _ (by omega)
    rw [e]
    by_cases hp : 0 < ns[i]
    · simp [ea, hp, fSum_b]
      refine WF.of (e_frac0 (by omega) (lt_monoB (a := 10) (by omega) (by decide))) ?_
      simp [sz2, pCh]
      omega
    · simp [ea, hp]
  · have e : (List.range n).filterMap (fun i => if 0 < ns.getD i 0 then some (pCh (i, Rat.divInt (ns.getD i 0 : Nat) (ns.sum : Nat))) else none) = (chL ns ns.length).map pCh := by
      unfold chL
      rw [List.map_filterMap, hl]
      congr 1
      funext i
      split <;> rfl
    rw [e]
    have ok := chL_ok hs hq (by omega)
    have hlen := ok.len
    refine ⟨szle (by rw [List.length_map]; omega), ?_⟩
    simp
    exact ⟨_, rfl, hl ▸ ok, v1⟩
end WW
namespace Dh
open PySem PySem.Spec L2 PySem.W
theorem fEq_nil {xs : List PyData} {B k w : Nat} (h : Pn B k w (.list xs)) (hk : k ≤ 64) : fEq true (.b xs) (.f []) = some (.d (.bool (!xs.isEmpty))) := by
  have a := h.eqOk hk
  have b : eqOk (.list []) = true := by decide
  show (if eqOk (.list xs) = true ∧ eqOk (.list []) = true then some (R.d (.bool (if true then !PyData.eqv (.list xs) (.list []) else PyData.eqv (.list xs) (.list [])))) else none) = _
  rw [if_pos ⟨a, b⟩]
  cases xs <;> simp [PyData.eqv, PyData.eqvAll]
/-- the counts of a house's deeds -/
def counts (h : RHouse) : List Nat := h.stands.map (·.length)
end Dh
namespace WW
open PySem PySem.Spec L2 PySem.W Dh
theorem w_sized {cs : List Nat} {p : Nat} {s : Sto} {m : Nat} (hn1 : 1 ≤ cs.length) (hn9 : cs.length ≤ 9) (hp1 : 1 ≤ p) (hp5 : p ≤ 5) {D : Nat} (hc : ∀ k ∈ cs, 1 ≤ k ∧ k ≤ D) (hD : D ≤ 5) (v : Vs (m + 3 + 200 * cs.length) s) :
    WF f_law_sized [.s, .d (.list (cs.map iN)), .d (.int (p : Int))] s fun r s' => ∃ h : RHouse, r = .d (pHouse h) ∧ HouseOk 9 D 5 h ∧ h.pays = p ∧ counts h = cs ∧ Vs m s' := by
  refine WF.body rfl ?_
  simp [m_law_sized, List.replicate_succ]
  refine WF.use (w_part (m := m + 200 * cs.length) v.mono) ?_
  rintro _ s1 ⟨sh, rfl, hs0, hs1, hsb, v1⟩
  simp
  refine WFor_inv iN cs (fun i ρ s' => ∃ (sts : List (List RDeed)) (a b c d : Option Cl), ρ = [some .s, some (.d (.list (cs.map iN))), some (.d (.int (p : Int))), some (.d (pQ sh)), some (.o (sts.map pStand)), a, b, c, d] ∧
    sts.map (·.length) = cs.take i ∧ (∀ st ∈ sts, ∀ d ∈ st, DeedOk cs.length p d) ∧ Vs (m + 200 * (cs.length - i)) s') ⟨[], none, none, none, none, rfl, by simp, by simp, v1⟩ ?_ ?_
  · rintro i k ρ s' hk ⟨sts, a, b, c, d, rfl, hl, hd, v⟩
    have hkc := hc k (List.mem_of_getElem? hk)
    have hi : i < cs.length := (List.getElem?_eq_some_iff.mp hk).1
    have hsl : sts.length = i := by
      have := congrArg List.length hl
      rw [List.length_map, List.length_take] at this; omega
    simp [iN, range1_nat (n := k) (by omega)]
    refine WFor_inv (fun i : Nat => PyData.int i) (List.range k) (fun j ρ s' => ∃ (st : List RDeed) (c d : Option Cl), ρ = [some .s, some (.d (.list (cs.map iN))), some (.d (.int (p : Int))), some (.d (pQ sh)), some (.o (sts.map pStand)), some (.d (.int (k : Int))), some (.o (st.map pDeed)), c, d] ∧
      st.length = j ∧ (∀ d ∈ st, DeedOk cs.length p d) ∧ Vs (m + 200 * (cs.length - (i + 1)) + 40 * (k - j)) s') ⟨[], c, d, rfl, rfl, by simp, v.mono⟩ ?_ ?_
    · rintro j x ρ s2 hx ⟨st, c, d, rfl, hst, hdo, v⟩
      obtain ⟨rfl, hj⟩ := range_at hx
      have pn : Pn 25 5 60000 (.list (st.map pDeed)) := (Pn.lst (n := 5) (fun y hy => by
        obtain ⟨d, hd, rfl⟩ := List.mem_map.mp hy
        exact (hdo d hd).pn hn9 (by omega)) (by rw [List.length_map]; omega)).mono
      -- a new deed
      have new : ∀ {s3 : Sto}, Vs (m + 200 * (cs.length - (i + 1)) + 40 * (k - (x + 1)) + 34) s3 → WF f_law_chances [.s, .d (.int (cs.length : Int))] s3 fun r s4 => ∃ ch : List (Nat × Rat), r = .d (.tuple (ch.map pCh)) ∧ ChOk cs.length ch ∧ Vs (m + 200 * (cs.length - (i + 1)) + 40 * (k - (x + 1)) + 3 * p) s4 := fun v => w_chances hn1 hn9 v.mono
      simp [fEq_nil pn (by decide)]
      cases st with
      | nil =>
        simp
        refine WF.use (new v.mono) ?_
        rintro _ s4 ⟨ch, rfl, hch, v4⟩
        simp
        refine WF.use (w_gains (p := p) (by omega) v4) ?_
        rintro _ s5 ⟨gs, rfl, hgl, hgb, v5⟩
        simp [sz2, szlt (show 0 ≤ 1000 by omega)]
        exact ⟨[⟨ch, gs⟩], by simp [pDeed], by simpa using hst.symm, by simpa using ⟨hch, hgl, hgb⟩, v5⟩
      | cons d0 st =>
        simp
        refine WF.use (w_pick (m := m + 200 * (cs.length - (i + 1)) + 40 * (k - (x + 1)) + 39) v.mono (by decide) (by decide)) ?_
        rintro _ s3 ⟨u, rfl, h1, h2, v3⟩
        simp [fEq_int]
        have hlen : st.length + 1 = x := by simpa using hst
        by_cases hu : u = 8
        · simp [hu]
          refine ⟨szlt (by omega), (d0 :: st) ++ [d0], by simp, by simp [hlen], fun y hy => ?_, v3.mono⟩
          rcases List.mem_append.mp hy with hy | hy
          · exact hdo y hy
          · rw [List.mem_singleton.mp hy]; exact hdo d0 List.mem_cons_self
        · simp [hu]
          refine WF.use (new v3.mono) ?_
          rintro _ s4 ⟨ch, rfl, hch, v4⟩
          simp
          refine WF.use (w_gains (p := p) (by omega) v4) ?_
          rintro _ s5 ⟨gs, rfl, hgl, hgb, v5⟩
          simp [sz2]
          refine ⟨szlt (by omega), (d0 :: st) ++ [⟨ch, gs⟩], by simp [pDeed], by simp [hlen], fun y hy => ?_, v5⟩
          rcases List.mem_append.mp hy with hy | hy
          · exact hdo y hy
          · rw [List.mem_singleton.mp hy]; exact ⟨hch, hgl, hgb⟩
    · rintro ρ s2 ⟨st, c, d, rfl, hst, hdo, v⟩
      rw [List.length_range] at hst v
      simp [hsl, szlt (show i ≤ 1000 by omega)]
      refine ⟨sts ++ [st], by simp [pStand], ?_, fun y hy => ?_, v.mono⟩
      · rw [List.map_append, hl, take_snoc hk, List.map_singleton, hst]
      · rcases List.mem_append.mp hy with hy | hy
        · exact hd y hy
        · rw [List.mem_singleton.mp hy]; exact hdo
  · rintro ρ s' ⟨sts, a, b, c, d, rfl, hl, hd, v⟩
    rw [List.take_length] at hl
    have hsl : sts.length = cs.length := by
      have := congrArg List.length hl
      rwa [List.length_map] at this
    simp [sz3]
    refine ⟨⟨sh, p, sts⟩, rfl, ⟨hs0, hs1, hsb, hp1, hp5, by rw [hsl]; exact hn1, by rw [hsl]; exact hn9, fun st hst => ?_⟩, rfl, hl, v.mono⟩
    have := hc st.length (by rw [← hl]; exact List.mem_map_of_mem hst)
    exact ⟨this.1, this.2, by rw [hsl]; exact hd st hst⟩
theorem w_world {p N D : Nat} {s : Sto} {m : Nat} (hN : 1 ≤ N) (hN9 : N ≤ 9) (hp1 : 1 ≤ p) (hp5 : p ≤ 5) (hD1 : 1 ≤ D) (hD : D ≤ 5) (v : Vs (m + 2000) s) :
    WF f_law_world [.s, .d (.int (N : Int)), .d (.int (D : Int)), .d (.int (p : Int))] s fun r s' => ∃ h : RHouse, r = .d (pHouse h) ∧ HouseOk N D 5 h ∧ h.pays = p ∧ Vs m s' := by
  refine WF.body rfl ?_
  simp [m_law_world, List.replicate_succ]
  refine WF.use (w_pick (m := m + 1999) v (by omega) (by omega)) ?_
  rintro _ s1 ⟨u, rfl, h1, h2, v1⟩
  obtain ⟨k, rfl⟩ := Int.eq_ofNat_of_zero_le h1
  have e : range1 [.d (.int (1 + (k : Int)))] = _ := range1_nat (n := 1 + k) (by omega)
  simp [e]
  refine WFor_inv (fun i : Nat => PyData.int i) (List.range (1 + k)) (fun j ρ s' => ∃ (cs : List Nat) (c : Option Cl), ρ = [some .s, some (.d (.int (N : Int))), some (.d (.int (D : Int))), some (.d (.int (p : Int))), some (.o (cs.map iN)), c] ∧
      cs.length = j ∧ (∀ k ∈ cs, 1 ≤ k ∧ k ≤ D) ∧ Vs (m + 1900 + (1 + k - j)) s') ⟨[], none, rfl, rfl, by simp, v1.mono⟩ ?_ ?_
  · rintro j x ρ s2 hx ⟨cs, c, rfl, hl, hq, v⟩
    obtain ⟨rfl, hj⟩ := range_at hx
    simp
    refine WF.use (w_pick (m := m + 1900 + (1 + k - (x + 1))) v.mono (by omega) (by omega)) ?_
    rintro _ s3 ⟨t, rfl, h3, h4, v3⟩
    obtain ⟨t, rfl⟩ := Int.eq_ofNat_of_zero_le h3
    simp [hl, szlt (show x ≤ 1000 by omega)]
    refine ⟨cs ++ [1 + t], by simp [iN], by simp [hl], fun y hy => ?_, v3⟩
    rcases List.mem_append.mp hy with hy | hy
    · exact hq y hy
    · rw [List.mem_singleton.mp hy]; omega
  · rintro ρ s2 ⟨cs, c, rfl, hl, hq, v⟩
    rw [List.length_range] at hl v
    simp [frzs, frz1]
    refine WF.use (w_sized (m := m) (cs := cs) (p := p) (by omega) (by omega) hp1 hp5 hq hD v.mono) ?_
    rintro _ s3 ⟨h, rfl, ok, hp, hcs, v3⟩
    simp
    have hlen : h.stands.length = cs.length := by rw [← hcs]; simp [counts]
    exact ⟨h, rfl, ⟨ok.s0, ok.s1, ok.sb, ok.p1, ok.pP, ok.n1, by omega, ok.each⟩, hp, v3⟩
theorem w_chosen {h : RHouse} {s : Sto} {m : Nat} {N D P : Nat} (ok : HouseOk N D P h) (hN : N ≤ 9) (hD : D ≤ 100) (v : Vs (m + h.stands.length) s) :
    WF f_law_chosen [.s, .d (pHouse h)] s fun r s' => ∃ c : List Nat, r = .d (.tuple (c.map iN)) ∧ ChoiceOk h c ∧ Vs m s' := by
  refine WF.body rfl ?_
  simp [m_law_chosen, List.replicate_succ, pHouse]
  refine WFor_inv pStand h.stands (fun j ρ s' => ∃ (c : List Nat) (d : Option Cl), ρ = [some .s, some (.d (pHouse h)), some (.o (c.map iN)), d] ∧ c.length = j ∧ (∀ (i : Nat) (st : List RDeed) (k : Nat), h.stands[i]? = some st → c[i]? = some k → k < st.length) ∧ Vs (m + (h.stands.length - j)) s') ⟨[], none, rfl, rfl, fun i st k _ h => by simp at h, v⟩ ?_ ?_
  · rintro j st ρ s2 hst ⟨c, d, rfl, hl, hq, v⟩
    have hj : j < h.stands.length := (List.getElem?_eq_some_iff.mp hst).1
    obtain ⟨k1, k2, _⟩ := ok.each st (List.mem_of_getElem? hst)
    have := ok.nN
    simp [pStand]
    refine WF.use (w_pick (m := m + (h.stands.length - (j + 1))) v.mono (by omega) (by omega)) ?_
    rintro _ s3 ⟨t, rfl, h3, h4, v3⟩
    obtain ⟨t, rfl⟩ := Int.eq_ofNat_of_zero_le h3
    simp [hl, szlt (show j ≤ 1000 by omega)]
    refine ⟨c ++ [t], by simp [iN], by simp [hl], fun i st' k h1 h2 => ?_, v3⟩
    by_cases hi : i < c.length
    · rw [List.getElem?_append_left hi] at h2
      exact hq i st' k h1 h2
    · rw [List.getElem?_append_right (by omega)] at h2
      by_cases e : i = j
      · subst e
        rw [hl] at h2
        simp at h2
        rw [hst] at h1
        cases h1
        omega
      · rw [List.getElem?_eq_none (by simp; omega)] at h2
        cases h2
  · rintro ρ s2 ⟨c, d, rfl, hl, hq, v⟩
    simp
    exact ⟨c, rfl, ⟨hl, hq⟩, v.mono⟩
end WW
namespace Dh
open PySem PySem.Spec L2 PySem.W
theorem bools_true {α : Type} : ∀ l : List α, boolsOf (l.map fun _ => PyData.bool true) = some (l.map fun _ => true)
  | [] => rfl
  | x :: l => by
    rw [List.map_cons]
    show (boolsOf (l.map fun _ => PyData.bool true)).map _ = _
    rw [bools_true l]
    rfl
theorem fAll_true {α : Type} {l : List α} : fAll [.f (l.map fun _ => PyData.bool true)] = some (.d (.bool true)) := by
  show (match rdL (.f (l.map fun _ => PyData.bool true)) with | some xs => (boolsOf xs).map fun bs : List Bool => R.d (.bool (bs.all id)) | none => none) = _
  rw [ev_rdL2]
  dsimp only
  rw [bools_true, Option.map_some]
  congr 3
  rw [List.all_eq_true]
  intro x hx
  obtain ⟨_, _, rfl⟩ := List.mem_map.mp hx
  rfl
theorem cutD_tail {xs : List PyData} : cutD xs (some 1) none = xs.drop 1 := by
  unfold cutD
  have h : HT.sIx xs.length 0 (some 1) = min 1 xs.length := by
    unfold HT.sIx
    cases xs with
    | nil => simp
    | cons x xs => simp; try omega
  have h2 : HT.sIx xs.length xs.length none = xs.length := by
    unfold HT.sIx
    rfl
  rw [h, h2]
  cases xs with
  | nil => rfl
  | cons x xs =>
    have : min 1 (x :: xs).length = 1 := by rw [List.length_cons]; omega
    rw [this]
    simp
theorem pw_tail {α : Type} {r : α → α → Prop} : ∀ {l : List α}, l.Pairwise r → ∀ p ∈ l.zip l.tail, r p.1 p.2
  | [], _, p, hp => by simp at hp
  | [x], _, p, hp => by simp at hp
  | x :: y :: l, h, p, hp => by
    rw [List.tail_cons, List.zip_cons_cons] at hp
    rcases List.mem_cons.mp hp with rfl | hp
    · exact (List.pairwise_cons.mp h).1 y List.mem_cons_self
    · exact pw_tail (List.pairwise_cons.mp h).2 p hp
theorem numbered_map {α : Type} (f : α → PyData) (l : List α) : numbered (l.map f) = l.zipIdx.map (fun p => PyData.tuple [.int (p.2 : Nat), f p.1]) := by
  unfold numbered
  rw [List.zipIdx_map, List.map_map]
  rfl
@[simp] theorem ev_enum1 {x : R} : enum1 [x] = (itemsOf x).map numbered := rfl
end Dh
namespace WW
open PySem PySem.Spec L2 PySem.W Dh
theorem e_is_whole {i : Int} {s : Sto} : f_is_whole [.d (.int i)] s = some (.d (.bool true), s) := by
  refine WF.eq (WF.body rfl ?_)
  simp [m_is_whole]
theorem e_is_between {i lo hi : Int} {s : Sto} (h1 : lo ≤ i) (h2 : i ≤ hi) : f_is_between [.d (.int i), .d (.int lo), .d (.int hi)] s = some (.d (.bool true), s) := by
  refine WF.eq (WF.body rfl ?_)
  simp [m_is_between]
  refine WF.of e_is_whole ?_
  simp [h1, h2]
theorem e_is_tuple_of {xs : List PyData} {n : Int} {s : Sto} (h : (xs.length : Int) = n) : f_is_tuple_of [.d (.tuple xs), .d (.int n)] s = some (.d (.bool true), s) := by
  refine WF.eq (WF.body rfl ?_)
  simp [m_is_tuple_of, fEq_int, h]
theorem e_is_ratio {q : Rat} {s : Sto} : f_is_ratio [.d (pQ q)] s = some (.d (.bool true), s) := by
  refine WF.eq (WF.body rfl ?_)
  simp [m_is_ratio]
  refine WF.of (e_is_tuple_of rfl) ?_
  simp [pQ]
  refine WF.of e_is_whole ?_
  simp
  refine WF.of e_is_whole ?_
  have h := q.den_pos
  have r := q.reduced
  unfold Nat.Coprime at r
  simp [h, fEq_int, r]
theorem e_is_row {l : List Rat} {n : Int} {s : Sto} (h : (l.length : Int) = n) (hl : l.length ≤ 1000) : f_is_row [.d (pQs l), .d (.int n)] s = some (.d (.bool true), s) := by
  refine WF.eq (WF.body rfl ?_)
  simp [m_is_row, List.replicate_succ, pQs]
  refine WF.of (e_is_tuple_of (by rw [List.length_map]; exact h)) ?_
  simp
  refine WLc_map pQ (fun _ => PyData.bool true) l (fun x hx => ?_) ?_
  · simp
    exact WF.of e_is_ratio (by simp)
  · refine ⟨szle (by rw [List.length_map]; exact hl), ?_⟩
    simp [fAll_true]
theorem e_are_chances {n : Nat} {cs : List (Nat × Rat)} {s : Sto} (h : ChOk n cs) (hn : n ≤ 9) : f_are_chances [.d (.tuple (cs.map pCh)), .d (.int (n : Int))] s = some (.d (.bool true), s) := by
  have hl := h.len
  refine WF.eq (WF.body rfl ?_)
  simp [m_are_chances, List.replicate_succ]
  refine WLc_map pCh (fun _ => PyData.bool true) cs (fun x hx => ?_) ?_
  · simp [pCh]
    exact WF.of (e_is_tuple_of rfl) (by simp)
  refine ⟨szle (by rw [List.length_map]; omega), ?_⟩
  simp [fAll_true]
  refine WLc_map pCh (fun _ => PyData.bool true) cs (fun x hx => ?_) ?_
  · obtain ⟨h1, h2, h3⟩ := h.each x hx
    simp [pCh]
    refine WF.of (e_is_between (by omega) (by omega)) ?_
    simp
    refine WF.of e_is_ratio ?_
    simp [pQ]
    have a := Rat.num_nonneg.mpr (Rat.le_of_lt h2)
    have b : x.2.num ≠ 0 := fun z => Rat.ne_of_gt h2 (Rat.num_eq_zero.mp z)
    omega
  refine ⟨szle (by rw [List.length_map]; omega), ?_⟩
  simp [fAll_true]
  refine WLc_map pCh (fun c => PyData.int (c.1 : Nat)) cs (fun x hx => ?_) ?_
  · simp [pCh]
  refine ⟨szle (by rw [List.length_map]; omega), ?_⟩
  simp [frzs, frz1, fSl, cutD_tail]
  rw [← List.map_tail, pairs_map]
  refine WLc_map (p2 (fun c : Nat × Rat => PyData.int (c.1 : Nat)) (fun c : Nat × Rat => PyData.int (c.1 : Nat))) (fun _ => PyData.bool true) (cs.zip cs.tail) (fun x hx => ?_) ?_
  · have := pw_tail h.asc x hx
    simp [p2, this]
  refine ⟨szle (by rw [List.length_map, List.length_zip]; omega), ?_⟩
  simp [fAll_true]
  refine WLc_map pCh (fun c => pQ c.2) cs (fun x hx => ?_) ?_
  · simp [pCh]
  refine ⟨szle (by rw [List.length_map]; omega), ?_⟩
  simp
  refine WF.of (e_total (l := cs.map (·.2)) (k := 10) (by rw [List.map_map]; rfl) (fun q hq => by
    obtain ⟨c, hc, rfl⟩ := List.mem_map.mp hq
    exact (h.each c hc).2.2) (by rw [List.length_map]; omega)) ?_
  rw [h.one]
  simp [show k_ONE = pQ 1 from rfl, fEq_pQ]
theorem e_is_deed {n p g : Nat} {d : RDeed} {s : Sto} (h : DeedOk n p d g) (hn : n ≤ 9) (hp : p ≤ 9) : f_is_deed [.d (pDeed d), .d (.int (p : Int)), .d (.int (n : Int))] s = some (.d (.bool true), s) := by
  refine WF.eq (WF.body rfl ?_)
  simp [m_is_deed, pDeed]
  refine WF.of (e_is_tuple_of rfl) ?_
  simp
  refine WF.of (e_are_chances h.ch hn) ?_
  simp
  refine WF.of (e_is_row (by rw [h.len]) (by rw [h.len]; omega)) ?_
  simp
theorem e_is_stand {n p g : Nat} {st : List RDeed} {s : Sto} (h : ∀ d ∈ st, DeedOk n p d g) (h1 : 1 ≤ st.length) (h4 : st.length ≤ 4) (hn : n ≤ 9) (hp : p ≤ 9) : f_is_stand [.d (pStand st), .d (.int (p : Int)), .d (.int (n : Int))] s = some (.d (.bool true), s) := by
  refine WF.eq (WF.body rfl ?_)
  simp [m_is_stand, List.replicate_succ, pStand, k_MOST_DEEDS]
  refine WF.of (e_is_between (by omega) (by omega)) ?_
  simp
  refine WLc_map pDeed (fun _ => PyData.bool true) st (fun x hx => ?_) ?_
  · simp
    exact WF.of (e_is_deed (h x hx) hn hp) (by simp)
  refine ⟨szle (by rw [List.length_map]; omega), ?_⟩
  simp [fAll_true]
theorem e_is_house {N D P g : Nat} {h : RHouse} {s : Sto} (ok : HouseOk N D P h g) (hN : N ≤ 8) (hD : D ≤ 4) (hP : h.pays ≤ 4) : f_is_house_by [.d (pHouse h)] s = some (.d (.bool true), s) := by
  have hn1 := ok.n1
  have hn := ok.nN
  have hp1 := ok.p1
  refine WF.eq (WF.body rfl ?_)
  simp [m_is_house_by, List.replicate_succ, pHouse, k_MOST_PAYS, k_MOST_STANDS]
  refine WF.of (e_is_tuple_of rfl) ?_
  simp
  refine WF.of (show f_is_share [.d (pQ h.share)] s = some (.d (.bool true), s) from WF.eq (WF.body rfl ?_)) ?_
  · simp [m_is_share]
    refine WF.of e_is_ratio ?_
    have a := Rat.num_nonneg.mpr ok.s0
    have b := (Rat.lt_iff _ _).mp ok.s1
    simp at b
    simp [pQ, ok.s0, b]
  simp
  refine WF.of (e_is_between (by omega) (by omega)) ?_
  simp
  refine WF.of (e_is_between (by omega) (by omega)) ?_
  simp
  refine WLc_map pStand (fun _ => PyData.bool true) h.stands (fun x hx => ?_) ?_
  · obtain ⟨h1, h2, h3⟩ := ok.each x hx
    simp
    exact WF.of (e_is_stand h3 h1 (by omega) (by omega) (by omega)) (by simp)
  refine ⟨szle (by rw [List.length_map]; omega), ?_⟩
  simp [fAll_true]
theorem e_check_house {N D P g : Nat} {h : RHouse} {s : Sto} (ok : HouseOk N D P h g) (hN : N ≤ 8) (hD : D ≤ 4) (hP : h.pays ≤ 4) : f_check_house [.d (pHouse h)] s = some (.d .none, s) := by
  refine WF.eq (WF.body rfl ?_)
  simp [m_check_house]
  exact WF.of (e_is_house ok hN hD hP) (by simp)
theorem e_check_choice {h : RHouse} {c : List Nat} {s : Sto} (hc : ChoiceOk h c) : f_check_choice [.d (pHouse h), .d (.tuple (c.map iN))] s = some (.d .none, s) := by
  refine WF.eq (WF.body rfl ?_)
  simp [m_check_choice, List.replicate_succ, pHouse]
  refine WF.of (e_is_tuple_of (by simp [hc.1])) ?_
  simp [numbered_map]
  refine WFor_inv (fun p : Nat × Nat => PyData.tuple [.int (p.2 : Nat), iN p.1]) c.zipIdx (fun i ρ s' => s' = s ∧ ∃ c d, ρ = [some (.d (pHouse h)), some (.d (.tuple (List.map iN ‹List Nat›))), c, d]) ⟨rfl, _, _, rfl⟩ ?_ ?_
  · rintro i ⟨x, j⟩ ρ s' hx ⟨rfl, a, b, rfl⟩
    rw [List.getElem?_zipIdx] at hx
    obtain ⟨y, hy, e⟩ := Option.map_eq_some_iff.mp hx
    simp at e
    obtain ⟨rfl, rfl⟩ := e
    have hi : i < c.length := (List.getElem?_eq_some_iff.mp hy).1
    have hi' : i < h.stands.length := by rw [← hc.1]; exact hi
    have hst := List.getElem?_eq_getElem hi'
    have hk := hc.2 i _ y hst hy
    have ea : atI (h.stands.map pStand) (i : Int) = some (pStand h.stands[i]) := by
      rw [atI_ofNat (by rw [List.length_map]; exact hi'), List.getElem?_map, hst]; rfl
    simp [pHouse, ea, pStand, iN]
    exact WF.of (e_is_between (by omega) (by omega)) (by simp)
  · rintro ρ s' ⟨rfl, c, d, rfl⟩
    simp
end WW
namespace Dh
open PySem PySem.Spec L2 PySem.W
/-- the table with its right sides -/
def wide (n : Nat) (T G : Nat → Nat → Rat) : Nat → Nat → Rat := fun i j => if j < n then T i j else G i (j - n)
end Dh
namespace Dh
open PySem PySem.Spec L2 PySem.W
/-- the chance to come to a stand -/
def chF (cs : List (Nat × Rat)) (i : Nat) : Rat := ((cs.find? fun c => decide (c.1 = i)).map (·.2)).getD 0
/-- a still plan's chances from one stand to another, its gains -/
def Mv (h : RHouse) (plan : List (List Rat)) (i j : Nat) : Rat := qsum (((plan.getD i []).zip (h.stands.getD i [])).map fun p => chF p.2.ch j * p.1)
def Gt (h : RHouse) (plan : List (List Rat)) (i j : Nat) : Rat := qsum (((plan.getD i []).zip (h.stands.getD i [])).map fun p => p.2.gs.getD j 0 * p.1)
def Tb (h : RHouse) (plan : List (List Rat)) (i j : Nat) : Rat := (if j = i then 1 else 0) - h.share * Mv h plan i j
/-- the table of the equations, the gains behind -/
def Aw (h : RHouse) (plan : List (List Rat)) : Nat → Nat → Rat := wide h.stands.length (Tb h plan) (Gt h plan)
def Xw (h : RHouse) (plan : List (List Rat)) (i j : Nat) : Rat := El.gj (Aw h plan) h.stands.length i (h.stands.length + j)
def pPlan (plan : List (List Rat)) : PyData := .tuple (plan.map pQs)
structure PlanOk (o : Nat) (h : RHouse) (plan : List (List Rat)) (c : Nat := 9) : Prop where
  len : plan.length = h.stands.length
  row : ∀ i, i < h.stands.length → (plan.getD i []).length = (h.stands.getD i []).length
  each : ∀ i, ∀ q ∈ plan.getD i [], 0 ≤ q ∧ QLt o q
  one : ∀ i, i < h.stands.length → qsum (plan.getD i []) = 1
  cd : ∀ i, ∃ S : Nat, 0 < S ∧ S < 2 ^ c ∧ ∀ q ∈ plan.getD i [], CD S S q
theorem stand_at {h : RHouse} {i : Nat} (hi : i < h.stands.length) : h.stands[i]? = some (h.stands.getD i []) := by
  rw [List.getD_eq_getElem?_getD, List.getElem?_eq_getElem hi]; rfl
theorem stand_mem {h : RHouse} {i : Nat} (hi : i < h.stands.length) : h.stands.getD i [] ∈ h.stands := List.mem_of_getElem? (stand_at hi)
theorem getD_at {α : Type} {l : List α} {i : Nat} {d : α} (hi : i < l.length) : l[i]? = some (l.getD i d) := by
  rw [List.getD_eq_getElem?_getD, List.getElem?_eq_getElem hi]; rfl
theorem zipIdx_range {α : Type} (f : Nat → α) : ∀ n, ((List.range n).map f).zipIdx = (List.range n).map fun i => (f i, i) := fun n => by
  apply List.ext_getElem?
  intro i
  rw [List.getElem?_zipIdx, List.getElem?_map, List.getElem?_map]
  by_cases hi : i < n
  · rw [List.getElem?_range hi]; simp
  · rw [List.getElem?_eq_none (by simp; omega)]; rfl
theorem map_range {α β : Type} {d : α} (l : List α) (g : α → β) : l.map g = (List.range l.length).map fun i => g (l.getD i d) := by
  apply List.ext_getElem?
  intro i
  rw [List.getElem?_map, List.getElem?_map]
  by_cases hi : i < l.length
  · rw [List.getElem?_range hi, getD_at (d := d) hi]; rfl
  · rw [List.getElem?_eq_none (by omega), List.getElem?_eq_none (by simp; omega)]; rfl
end Dh
namespace Dh
open PySem PySem.Spec L2 PySem.W
theorem numbered_range (n : Nat) (f : Nat → PyData) : numbered ((List.range n).map f) = (List.range n).map fun i => PyData.tuple [.int (i : Nat), f i] := by
  unfold numbered
  rw [zipIdx_range, List.map_map]
  rfl
theorem qsum_cons {x : Rat} {l : List Rat} : qsum (x :: l) = x + qsum l := by
  rw [show x :: l = [x] ++ l from rfl, qsum_append]
  simp [qsum]
  grind
theorem QLt_if {c : Prop} [Decidable c] {k : Nat} (h : 0 < k := by omega) : QLt k (if c then (1 : Rat) else 0) := by
  split
  · exact QLt_1
  · exact QLt_0
end Dh
namespace Dh
open PySem PySem.Spec L2 PySem.W
theorem qsum_range {f : Nat → Rat} : ∀ n, qsum ((List.range n).map f) = El.sm n f
  | 0 => rfl
  | n + 1 => by rw [List.range_succ, List.map_append, List.map_singleton, qsum_snoc, qsum_range n]; rfl
def unitRow (m k : Nat) : List Rat := (List.range m).map fun j => if j = k then 1 else 0
def planOf (h : RHouse) (c : List Nat) : List (List Rat) := (List.range h.stands.length).map fun i => unitRow (h.stands.getD i []).length (c.getD i 0)
def d0 : RDeed := ⟨[], []⟩
/-- the deed that a choice does -/
def dd (h : RHouse) (c : List Nat) (i : Nat) : RDeed := (h.stands.getD i []).getD (c.getD i 0) d0
theorem ChoiceOk.lt {h : RHouse} {c : List Nat} (hc : ChoiceOk h c) {i : Nat} (hi : i < h.stands.length) : c.getD i 0 < (h.stands.getD i []).length :=
  hc.2 i _ _ (stand_at hi) (getD_at (by rw [hc.1]; exact hi))
/-- the weighted worths of a choice -/
def hv (h : RHouse) (w : List Rat) (c : List Nat) (i : Nat) : Rat := qdot w ((List.range h.pays).map fun j => Xw h (planOf h c) i j)
end Dh
namespace Dh
open PySem PySem.Spec L2 PySem.W
theorem ix_num {q : Rat} {s : Sto} : fIx s (.d (pQ q)) (.d (.int 0)) = some (.d (.int q.num)) := by simp [pQ]
theorem atI_stand {h : RHouse} {i : Nat} (hi : i < h.stands.length) : atI (h.stands.map pStand) (i : Int) = some (pStand (h.stands.getD i [])) := by
  rw [atI_ofNat (by rw [List.length_map]; exact hi), List.getElem?_map, stand_at hi]; rfl
theorem zip_map_range {α β : Type} {a : α} {b : β} {n : Nat} {l : List α} {m : List β} (hl : l.length = n) (hm : m.length = n) : l.zip m = (List.range n).map fun i => (l.getD i a, m.getD i b) := by
  apply List.ext_getElem?
  intro i
  by_cases hi : i < n
  · rw [List.getElem?_map, List.getElem?_range hi, (List.getElem?_zip_eq_some (z := (l.getD i a, m.getD i b))).mpr ⟨getD_at (by omega), getD_at (by omega)⟩]; rfl
  · rw [List.getElem?_eq_none (by simp; omega), List.getElem?_eq_none (by simp; omega)]
theorem atI_pQs {l : List Rat} {k : Nat} (hk : k < l.length) : atI (l.map pQ) (k : Int) = some (pQ (l.getD k 0)) := by
  rw [atI_ofNat (by rw [List.length_map]; exact hk), List.getElem?_map, getD_at (d := 0) hk]; rfl
end Dh
namespace WW
open PySem PySem.Spec L2 PySem.W Dh
theorem e_plain_odds {k m : Nat} {s : Sto} (hm : m ≤ 100) : f_plain_odds [.d (.int (k : Int)), .d (.int (m : Int))] s = some (.d (pQs (unitRow m k)), s) := by
  refine WF.eq (WF.body rfl ?_)
  simp [m_plain_odds, List.replicate_succ, range1_nat (n := m) (by omega)]
  refine WLc_map (fun i : Nat => PyData.int i) (fun j => pQ (if j = k then 1 else 0)) (List.range m) (fun j hj => ?_) ?_
  · simp [fEq_int]
    by_cases e : j = k
    · subst e
      simp
      rfl
    · simp [show ¬ (j : Int) = (k : Int) by omega, e]
      rfl
  refine ⟨szle (by simp; omega), ?_⟩
  simp [pQs, unitRow]
theorem e_still_by {N D P g : Nat} {h : RHouse} {c : List Nat} {s : Sto} (ok : HouseOk N D P h g) (hc : ChoiceOk h c) (hN : N ≤ 9) (hD : D ≤ 9) : f_still_by [.d (pHouse h), .d (.tuple (c.map iN))] s = some (.d (pPlan (planOf h c)), s) := by
  have hn := ok.nN
  refine WF.eq (WF.body rfl ?_)
  simp [m_still_by, List.replicate_succ, pHouse, pairs_map]
  rw [zip_map_range (a := 0) (b := []) hc.1 rfl, List.map_map]
  refine WLc_map (p2 iN pStand ∘ fun i => (c.getD i 0, h.stands.getD i [])) (fun i => pQs (unitRow (h.stands.getD i []).length (c.getD i 0))) (List.range h.stands.length) (fun i hi => ?_) ?_
  · rw [List.mem_range] at hi
    have := ok.each _ (stand_mem hi)
    simp [p2, pStand, iN, -List.getD_eq_getElem?_getD]
    exact WF.of (e_plain_odds (by omega)) (by simp)
  refine ⟨szle (by simp; omega), ?_⟩
  simp [pPlan, planOf, -List.getD_eq_getElem?_getD]
end WW
namespace Dh
open PySem PySem.Spec L2 PySem.W
/-- a house for the law's own sums -/
structure Wd (g : Nat) (h : RHouse) : Prop where
  sb : QLt 6 h.share
  p1 : 1 ≤ h.pays
  p9 : h.pays ≤ 9
  n1 : 1 ≤ h.stands.length
  n9 : h.stands.length ≤ 9
  each : ∀ st ∈ h.stands, 1 ≤ st.length ∧ st.length ≤ 9 ∧ ∀ d ∈ st, ChOk h.stands.length d.ch ∧ d.gs.length = h.pays ∧ ∀ q ∈ d.gs, QLt g q
theorem HouseOk.wd {N D P g : Nat} {h : RHouse} (ok : HouseOk N D P h g) (hN : N ≤ 9) (hD : D ≤ 9) (hP : P ≤ 9) : Wd g h :=
  ⟨ok.sb, ok.p1, Nat.le_trans ok.pP hP, ok.n1, Nat.le_trans ok.nN hN, fun st hst => ⟨(ok.each st hst).1, Nat.le_trans (ok.each st hst).2.1 hD, fun d hd => ⟨((ok.each st hst).2.2 d hd).ch, ((ok.each st hst).2.2 d hd).len, ((ok.each st hst).2.2 d hd).gain⟩⟩⟩
end Dh
namespace WW
open PySem PySem.Spec L2 PySem.W Dh
theorem e_lsure {g : Nat} {h : RHouse} {c : List Nat} {s : Sto} (wd : Wd g h) (hc : ChoiceOk h c) : f_law_sure [.d (pHouse h), .d (.tuple (c.map iN))] s = some (.d (pPlan (planOf h c)), s) := by
  have hn := wd.n9
  refine WF.eq (WF.body rfl ?_)
  simp [m_law_sure, List.replicate_succ, pHouse, pairs_map]
  rw [zip_map_range (a := []) (b := 0) rfl hc.1, List.map_map]
  refine WFor_inv (p2 pStand iN ∘ fun i => (h.stands.getD i [], c.getD i 0)) (List.range h.stands.length) (fun i ρ s' => s' = s ∧ ∃ x y z, ρ = [some (.d (pHouse h)), some (.d (.tuple (c.map iN))), some (.o ((List.range i).map fun i => pQs (unitRow (h.stands.getD i []).length (c.getD i 0)))), x, y, z]) ⟨rfl, none, none, none, rfl⟩ ?_ ?_
  · rintro i x ρ s' hx ⟨rfl, x3, x4, x5, rfl⟩
    obtain ⟨rfl, hi⟩ := range_at hx
    have hst := wd.each _ (stand_mem hi)
    simp [p2, pStand, iN, -List.getD_eq_getElem?_getD]
    rw [show range1 [.d (.int ((h.stands.getD x []).length : Int))] = _ from range1_nat (by omega)]
    simp [-List.getD_eq_getElem?_getD]
    refine WLc_map (fun i : Nat => PyData.int i) (fun j => pQ (if j = c.getD x 0 then 1 else 0)) (List.range (h.stands.getD x []).length) (fun j hj => ?_) ?_
    · simp [fEq_int, -List.getD_eq_getElem?_getD]
      by_cases e : j = c.getD x 0
      · rw [if_pos e, ← e]
        simp [sz2]
        rfl
      · rw [if_neg e]
        simp [show ¬ (j : Int) = ((c.getD x 0 : Nat) : Int) by omega, sz2, -List.getD_eq_getElem?_getD]
        rfl
    refine ⟨szle (by simp [-List.getD_eq_getElem?_getD]; omega), ?_⟩
    simp [szlt (show x ≤ 1000 by omega), -List.getD_eq_getElem?_getD]
    rw [List.range_succ, List.map_append]
    simp [unitRow, pQs, -List.getD_eq_getElem?_getD]
  · rintro ρ s' ⟨rfl, x3, x4, x5, rfl⟩
    rw [List.length_range]
    simp [pPlan, planOf, -List.getD_eq_getElem?_getD]
end WW
namespace Dh
open PySem PySem.Spec L2 PySem.W
end Dh
namespace Dh
open PySem PySem.Spec L2 PySem.W
def par3fK (ρ : Ev) (i j l : Nat) (rs : List R) : Option Ev := match rs with
  | [.f c, .f d, .f f] => some (((ρ.set i (some (.d (.list c)))).set j (some (.d (.list d)))).set l (some (.o f)))
  | _ => none
theorem mPar3f_eq {i j l : Nat} {as : Ma} {ρ : Ev} {s : Sto} {x : List R} {s1 : Sto} (e : as ρ s = some (x, s1)) : mPar3f i j l as ρ s = (par3fK ρ i j l x).map fun ρ1 => (.nx, ρ1, s1) := by
  unfold mPar3f par3fK
  rw [e]
  split
  · rename_i c d f s2 e2
    cases e2
    rfl
  · rename_i h
    split
    · rename_i c d f
      exact absurd rfl (h c d f s1)
    · rfl
@[simp ↓] theorem ws_par3f {i j l : Nat} {as : Ma} {ρ : Ev} {s : Sto} {QS : Out → Ev → Sto → Prop} : WS (mPar3f i j l as) ρ s QS = WA as ρ s fun rs s1 => WO (par3fK ρ i j l rs) fun ρ1 => QS .nx ρ1 s1 := by
  apply propext
  unfold WS WA WO
  constructor
  · rintro ⟨o, ρ', s', e, q⟩
    rcases h : as ρ s with _ | ⟨x, s1⟩
    · unfold mPar3f at e; rw [h] at e; cases e
    · rw [mPar3f_eq h] at e
      obtain ⟨ρ1, e1, e2⟩ := Option.map_eq_some_iff.mp e
      cases e2
      exact ⟨x, _, rfl, _, e1, q⟩
  · rintro ⟨x, s1, h, ρ1, e1, q⟩
    exact ⟨_, _, _, by rw [mPar3f_eq h, e1]; rfl, q⟩
@[simp] theorem par3fK_fff {i j l : Nat} {ρ : Ev} {x y z : List PyData} : par3fK ρ i j l [.f x, .f y, .f z] = some (((ρ.set i (some (.d (.list x)))).set j (some (.d (.list y)))).set l (some (.o z))) := rfl
end Dh
namespace Dh
open PySem PySem.Spec L2 PySem.W
end Dh
namespace Dh
open PySem PySem.Spec L2 PySem.W
@[simp] theorem ev_fLz {x y : R} : fLz [x, y] = (match zipQ2 [x, y] with | some ps => if ps.length ≤ 1000000 then some (.f ps) else none | none => none) := rfl
/-- odds of a stand, a start -/
structure OddsOk (n : Nat) (l : List Rat) : Prop where
  len : l.length = n
  each : ∀ q ∈ l, 0 ≤ q ∧ QLt 10 q
  one : qsum l = 1
  cd : ∃ S : Nat, 0 < S ∧ S < 2 ^ 9 ∧ ∀ q ∈ l, CD S S q
theorem unitRow_ok {m k : Nat} (hk : k < m) : OddsOk m (unitRow m k) where
  len := by simp [unitRow]
  each := fun q hq => by
    obtain ⟨j, _, rfl⟩ := List.mem_map.mp hq
    refine ⟨?_, QLt_if⟩
    split <;> decide
  one := by
    unfold unitRow
    rw [qsum_range, El.sm_one hk fun j _ e => by rw [if_neg e], if_pos rfl]
  cd := ⟨1, by decide, by decide, fun q hq => by
    obtain ⟨j, _, rfl⟩ := List.mem_map.mp hq
    exact CD_if⟩
theorem odds_sum (S : Int) : ∀ ns : List Nat, qsum (ns.map fun k => Rat.divInt (k : Nat) S) = Rat.divInt ((ns.sum : Nat) : Int) S
  | [] => by simp [qsum]
  | k :: ns => by
    rw [List.map_cons, qsum_cons, odds_sum S ns, divInt_add, List.sum_cons]
    congr 1
theorem parts_ok {ns : List Nat} (hs : 0 < ns.sum) (hb : ∀ n ∈ ns, n ≤ 43) (hl : ns.length ≤ 9) : OddsOk ns.length (ns.map fun k => Rat.divInt (k : Nat) (ns.sum : Nat)) := by
  have h2 := sum_le ns hb
  have h3 : ns.length * 43 ≤ 9 * 43 := Nat.mul_le_mul_right _ hl
  refine ⟨by simp, fun q hq => ?_, ?_, ns.sum, hs, by omega, fun q hq => ?_⟩
  · obtain ⟨k, hk, rfl⟩ := List.mem_map.mp hq
    have := le_sum hk
    exact ⟨Rat.divInt_nonneg (by omega) (by omega), QLt_divInt (by omega) (by omega) (by omega)⟩
  · rw [odds_sum]
    exact Rat.divInt_self' (by omega)
  · obtain ⟨k, hk, rfl⟩ := List.mem_map.mp hq
    exact CD_divInt hs (le_sum hk)
theorem PlanOk.of {h : RHouse} {plan : List (List Rat)} (hl : plan.length = h.stands.length) (hr : ∀ i, i < h.stands.length → OddsOk (h.stands.getD i []).length (plan.getD i [])) : PlanOk 10 h plan where
  len := hl
  row := fun i hi => (hr i hi).len
  each := fun i q hq => by
    by_cases hi : i < h.stands.length
    · exact (hr i hi).each q hq
    · rw [List.getD_eq_getElem?_getD, List.getElem?_eq_none (by omega)] at hq; cases hq
  one := fun i hi => (hr i hi).one
  cd := fun i => by
    by_cases hi : i < h.stands.length
    · exact (hr i hi).cd
    · refine ⟨1, by decide, by decide, fun q hq => ?_⟩
      rw [List.getD_eq_getElem?_getD, List.getElem?_eq_none (by omega)] at hq; cases hq
theorem HouseOk.mono {N D P N' D' : Nat} {h : RHouse} (ok : HouseOk N D P h) (hN : h.stands.length ≤ N') (hD : ∀ st ∈ h.stands, st.length ≤ D') : HouseOk N' D' P h :=
  ⟨ok.s0, ok.s1, ok.sb, ok.p1, ok.pP, ok.n1, hN, fun st hst => ⟨(ok.each st hst).1, hD st hst, (ok.each st hst).2.2⟩⟩
end Dh
namespace WW
open PySem PySem.Spec L2 PySem.W Dh
theorem nonneg_num {q : Rat} (h : 0 ≤ q) : 0 ≤ q.num := Rat.num_nonneg.mpr h
theorem e_is_chance_row {n : Nat} {l : List Rat} {s : Sto} (ok : OddsOk n l) (hn : n ≤ 9) : f_is_chance_row [.d (pQs l), .d (.int (n : Int))] s = some (.d (.bool true), s) := by
  have hl := ok.len
  refine WF.eq (WF.body rfl ?_)
  simp [m_is_chance_row, List.replicate_succ]
  refine WF.of (e_is_row (by omega) (by omega)) ?_
  simp [pQs]
  refine WLc_map pQ (fun _ => PyData.bool true) l (fun x hx => ?_) ?_
  · have := nonneg_num (ok.each x hx).1
    simp [pQ, this]
  refine ⟨szle (by rw [List.length_map]; omega), ?_⟩
  simp [fAll_true]
  refine WF.of (e_total (l := l) (k := 10) rfl (fun q hq => (ok.each q hq).2) (by omega)) ?_
  rw [ok.one]
  simp [show k_ONE = pQ 1 from rfl, fEq_pQ]
theorem e_check_still {h : RHouse} {plan : List (List Rat)} {s : Sto} (hl : plan.length = h.stands.length) (hr : ∀ i, i < h.stands.length → OddsOk (h.stands.getD i []).length (plan.getD i [])) (hn : h.stands.length ≤ 9) (hD : ∀ st ∈ h.stands, st.length ≤ 9) : f_check_still [.d (pHouse h), .d (pPlan plan)] s = some (.d .none, s) := by
  refine WF.eq (WF.body rfl ?_)
  simp [m_check_still, List.replicate_succ, pHouse, pPlan]
  refine WF.of (e_is_tuple_of (by simp [hl])) ?_
  simp
  rw [map_range (d := []) plan pQs, hl, numbered_range]
  refine WFor_inv (fun i : Nat => PyData.tuple [.int (i : Nat), pQs (plan.getD i [])]) (List.range h.stands.length) (fun i ρ s' => s' = s ∧ ∃ c d, ρ = [some (.d (pHouse h)), some (.d (pPlan plan)), c, d]) ⟨rfl, _, _, by unfold pPlan; rw [map_range (d := []) plan pQs, hl]; rfl⟩ ?_ ?_
  · rintro i x ρ s' hx ⟨rfl, c, d, rfl⟩
    obtain ⟨rfl, hi⟩ := range_at hx
    have e1 := atI_stand hi
    simp [pHouse, e1, pStand, -List.getD_eq_getElem?_getD]
    exact WF.of (e_is_chance_row (hr x hi) (hD _ (stand_mem hi))) (by simp)
  · rintro ρ s' ⟨rfl, c, d, rfl⟩
    simp
theorem w_odds {n : Nat} {s : Sto} {m : Nat} (h1 : 1 ≤ n) (h9 : n ≤ 9) (v : Vs (m + 2 * n + 1) s) : WF f_law_odds [.s, .d (.int (n : Int))] s fun r s' => ∃ l : List Rat, r = .d (pQs l) ∧ OddsOk n l ∧ Vs m s' := by
  refine WF.body rfl ?_
  simp [m_law_odds, List.replicate_succ]
  refine WF.use (w_parts h1 h9 v) ?_
  rintro _ s1 ⟨ns, rfl, hl, hq, hs, v1⟩
  have h2 := sum_le ns hq
  have h3 : ns.length * 43 ≤ 9 * 43 := Nat.mul_le_mul_right _ (by omega)
  simp [frzs, frz1]
  refine WLc_map iN (fun k => pQ (Rat.divInt (k : Nat) (ns.sum : Nat))) ns (fun k hk => ?_) ?_
  · simp [iN, fSum_d]
    refine WF.of (e_frac0 (by omega) (lt_monoB (a := 10) (by omega) (by decide))) ?_
    simp
  refine ⟨szle (by rw [List.length_map]; omega), ?_⟩
  simp
  have := parts_ok hs hq (by omega)
  rw [hl] at this
  exact ⟨_, by unfold pQs; rw [List.map_map]; rfl, this, v1⟩
theorem w_plan {N D P : Nat} {h : RHouse} {s : Sto} {m : Nat} (ok : HouseOk N D P h) (hN : N ≤ 9) (hD : D ≤ 4) (v : Vs (m + 200) s) :
    WF f_law_plan [.s, .d (pHouse h)] s fun r s' => ∃ plan : List (List Rat), r = .d (pPlan plan) ∧ plan.length = h.stands.length ∧ (∀ i, i < h.stands.length → OddsOk (h.stands.getD i []).length (plan.getD i [])) ∧ Vs m s' := by
  have hn := ok.nN
  refine WF.body rfl ?_
  simp [m_law_plan, List.replicate_succ]
  refine WF.use (w_pick (m := m + 199) v (by omega) (by omega)) ?_
  rintro _ s1 ⟨d, rfl, h1, h2, v1⟩
  simp [fEq_int, pHouse]
  generalize decide (d = 2) = b
  refine WFor_inv pStand h.stands (fun j ρ s' => ∃ (rows : List (List Rat)) (x4 x5 x6 : Option Cl), ρ = [some .s, some (.d (pHouse h)), some (.o (rows.map pQs)), some (.d (.bool b)), x4, x5, x6] ∧ rows.length = j ∧ (∀ i, i < j → OddsOk (h.stands.getD i []).length (rows.getD i [])) ∧ Vs (m + 20 * (h.stands.length - j)) s') ⟨[], none, none, none, rfl, rfl, fun i hi => by omega, v1.mono⟩ ?_ ?_
  · rintro j st ρ s2 hst ⟨rows, x4, x5, x6, rfl, hl, hq, v⟩
    have hj : j < h.stands.length := (List.getElem?_eq_some_iff.mp hst).1
    obtain ⟨k1, k2, _⟩ := ok.each st (List.mem_of_getElem? hst)
    have est : h.stands.getD j [] = st := by rw [List.getD_eq_getElem?_getD, hst]; rfl
    have next : ∀ l, OddsOk st.length l → ∀ i, i < j + 1 → OddsOk (h.stands.getD i []).length ((rows ++ [l]).getD i []) := fun l ol i hi => by
      by_cases e : i = j
      · subst e
        rw [est, List.getD_eq_getElem?_getD, List.getElem?_append_right (by omega), hl, Nat.sub_self]
        exact ol
      · have := hq i (by omega)
        rw [List.getD_eq_getElem?_getD (l := rows ++ [l]), List.getElem?_append_left (by omega), ← List.getD_eq_getElem?_getD]
        exact this
    cases b
    · simp [pStand]
      refine WF.use (w_odds (n := st.length) (m := m + 20 * (h.stands.length - (j + 1))) (by omega) (by omega) (v.mono (by omega))) ?_
      rintro _ s3 ⟨l, rfl, ol, v3⟩
      simp [hl, szlt (show j ≤ 1000 by omega)]
      exact ⟨rows ++ [l], by simp, by simp [hl], next l ol, v3⟩
    · simp [pStand]
      refine WF.use (w_pick (m := m + 20 * (h.stands.length - (j + 1))) (v.mono (by omega)) (by omega) (by omega)) ?_
      rintro _ s3 ⟨t, rfl, h3, h4, v3⟩
      obtain ⟨t, rfl⟩ := Int.eq_ofNat_of_zero_le h3
      simp
      rw [show range1 [.d (.int (st.length : Int))] = _ from range1_nat (by omega)]
      simp
      refine WLc_map (fun i : Nat => PyData.int i) (fun i => pQ (if i = t then 1 else 0)) (List.range st.length) (fun i hi => ?_) ?_
      · simp [fEq_int, sz2]
        by_cases e : i = t
        · subst e
          simp [sz2]
          rfl
        · simp [show ¬ (i : Int) = (t : Int) by omega, e, sz2]
          rfl
      refine ⟨szle (by simp; omega), ?_⟩
      simp [hl, szlt (show j ≤ 1000 by omega)]
      exact ⟨rows ++ [unitRow st.length t], by simp [pQs, unitRow], by simp [hl], next _ (unitRow_ok (by omega)), v3⟩
  · rintro ρ s2 ⟨rows, x4, x5, x6, rfl, hl, hq, v⟩
    simp
    exact ⟨rows, by unfold pPlan; rfl, hl, hq, v.mono⟩
end WW
namespace Dh
open PySem PySem.Spec L2 PySem.W
section
variable {ρ : Ev} {s : Sto} {i j : Nat} {QS : Out → Ev → Sto → Prop} {Q : R → Sto → Prop} {a : Mx} {as : Ma}
def par2fK (ρ : Ev) (i j : Nat) (rs : List R) : Option Ev := match rs with
  | [.f c, .f d] => some ((ρ.set i (some (.o c))).set j (some (.o d)))
  | _ => none
theorem mPar2f_eq {x : List R} {s1 : Sto} (e : as ρ s = some (x, s1)) : mPar2f i j as ρ s = (par2fK ρ i j x).map fun ρ1 => (.nx, ρ1, s1) := by
  unfold mPar2f par2fK
  rw [e]
  split
  · rename_i c d s2 e2
    cases e2
    rfl
  · rename_i h
    split
    · rename_i c d
      exact absurd rfl (h c d s1)
    · rfl
@[simp ↓] theorem ws_par2f : WS (mPar2f i j as) ρ s QS = WA as ρ s fun rs s1 => WO (par2fK ρ i j rs) fun ρ1 => QS .nx ρ1 s1 := by
  apply propext
  unfold WS WA WO
  constructor
  · rintro ⟨o, ρ', s', e, q⟩
    rcases h : as ρ s with _ | ⟨x, s1⟩
    · unfold mPar2f at e; rw [h] at e; cases e
    · rw [mPar2f_eq h] at e
      obtain ⟨ρ1, e1, e2⟩ := Option.map_eq_some_iff.mp e
      cases e2
      exact ⟨x, _, rfl, _, e1, q⟩
  · rintro ⟨x, s1, h, ρ1, e1, q⟩
    exact ⟨_, _, _, by rw [mPar2f_eq h, e1]; rfl, q⟩
@[simp] theorem par2fK_ff {x y : List PyData} : par2fK ρ i j [.f x, .f y] = some ((ρ.set i (some (.o x))).set j (some (.o y))) := rfl
def par3gK (ρ : Ev) (i j l : Nat) (rs : List R) : Option Ev := match rs with
  | [r, q, u] => match toCl r, toCl q, toCl u with
    | some c, some d, some f => some (((ρ.set i (some c)).set j (some d)).set l (some f))
    | _, _, _ => none
  | _ => none
theorem mPar3g_eq {l : Nat} {x : List R} {s1 : Sto} (e : as ρ s = some (x, s1)) : mPar3g i j l as ρ s = (par3gK ρ i j l x).map fun ρ1 => (.nx, ρ1, s1) := by
  unfold mPar3g par3gK
  rw [e]
  split
  · rename_i r q u s2 e2
    cases e2
    dsimp only
    rcases toCl r with _ | c
    · rfl
    · rcases toCl q with _ | d
      · rfl
      · rcases toCl u with _ | f
        · rfl
        · rfl
  · rename_i h
    split
    · rename_i r q u
      exact absurd rfl (h r q u s1)
    · rfl
@[simp ↓] theorem ws_par3g {l : Nat} : WS (mPar3g i j l as) ρ s QS = WA as ρ s fun rs s1 => WO (par3gK ρ i j l rs) fun ρ1 => QS .nx ρ1 s1 := by
  apply propext
  unfold WS WA WO
  constructor
  · rintro ⟨o, ρ', s', e, q⟩
    rcases h : as ρ s with _ | ⟨x, s1⟩
    · unfold mPar3g at e; rw [h] at e; cases e
    · rw [mPar3g_eq h] at e
      obtain ⟨ρ1, e1, e2⟩ := Option.map_eq_some_iff.mp e
      cases e2
      exact ⟨x, _, rfl, _, e1, q⟩
  · rintro ⟨x, s1, h, ρ1, e1, q⟩
    exact ⟨_, _, _, by rw [mPar3g_eq h, e1]; rfl, q⟩
@[simp] theorem ev_par3gK {l : Nat} {r q u : R} : par3gK ρ i j l [r, q, u] = (match toCl r, toCl q, toCl u with | some c, some d, some f => some (((ρ.set i (some c)).set j (some d)).set l (some f)) | _, _, _ => none) := rfl
end
end Dh
namespace Dh
open PySem PySem.Spec L2 PySem.W
theorem bools_of {α : Type} {f : α → Bool} : ∀ l : List α, boolsOf (l.map fun x => PyData.bool (f x)) = some (l.map f)
  | [] => rfl
  | x :: l => by
    rw [List.map_cons]
    show (boolsOf (l.map fun x => PyData.bool (f x))).map _ = _
    rw [bools_of l]
    rfl
theorem fAll_of {α : Type} {f : α → Bool} {l : List α} : fAll [.f (l.map fun x => PyData.bool (f x))] = some (.d (.bool (l.all f))) := by
  show (match rdL (.f (l.map fun x => PyData.bool (f x))) with | some xs => (boolsOf xs).map fun bs : List Bool => R.d (.bool (bs.all id)) | none => none) = _
  rw [ev_rdL2]
  dsimp only
  rw [bools_of, Option.map_some, List.all_map]
  rfl
theorem WLc_all {vs : List Nat} {g : Gx} {e : Mx} {ρ : Ev} {s : Sto} {Q : List PyData → Sto → Prop} (f : PyData → PyData) (l : List PyData) (h : ∀ x ∈ l, WO (g x (wipeE ρ vs)) fun ρ1 => WX e ρ1 s fun r s2 => s2 = s ∧ toD r = some (f x)) (q : Q (l.map f) s) : WLc vs g mYes e l ρ s Q := by
  have := WLc_map (enc := id) (f := f) l h q
  rwa [List.map_id] at this
def intB : PyData → Bool
  | .int _ => true
  | _ => false
def fracB : PyData → Bool
  | .tuple [.int a, .int b] => decide (0 < b) && decide (a.natAbs.gcd b.natAbs = 1)
  | _ => false
def rowB (m : Nat) : PyData → Bool
  | .tuple xs => decide (xs.length = m) && xs.all fracB
  | _ => false
def qOf : PyData → Rat
  | .tuple [.int a, .int b] => Rat.divInt a b
  | _ => 0
def rowOf : PyData → List Rat
  | .tuple xs => xs.map qOf
  | _ => []
theorem fracB_of {x : PyData} (h : fracB x = true) : x = pQ (qOf x) := by
  unfold fracB at h
  split at h
  · rename_i a b
    simp only [Bool.and_eq_true, decide_eq_true_eq] at h
    obtain ⟨h1, h2⟩ := h
    have g : gg a b = 1 := by unfold gg; rw [h2]; rfl
    unfold qOf pQ
    dsimp only
    rw [divInt_num h1, divInt_den h1, g, Int.ediv_one, Int.ediv_one]
  · cases h
theorem fracB_pQ (q : Rat) : fracB (pQ q) = true := by
  unfold pQ fracB
  have := q.den_pos
  have r := q.reduced
  unfold Nat.Coprime at r
  simp [this, r]
theorem qOf_pQ (q : Rat) : qOf (pQ q) = q := by
  have := fracB_of (fracB_pQ q)
  exact (pQ_inj.mp this).symm
theorem rowOf_pQs (l : List Rat) : rowOf (pQs l) = l := by
  show (l.map pQ).map qOf = l
  rw [List.map_map]
  exact (List.map_congr_left fun q _ => qOf_pQ q).trans (List.map_id' l)
theorem rowB_of {m : Nat} {x : PyData} (h : rowB m x = true) : x = pQs (rowOf x) ∧ (rowOf x).length = m := by
  unfold rowB at h
  split at h
  · rename_i xs
    simp only [Bool.and_eq_true, decide_eq_true_eq] at h
    obtain ⟨h1, h2⟩ := h
    refine ⟨?_, by simp [rowOf, h1]⟩
    unfold rowOf pQs
    rw [List.map_map]
    congr 1
    have : xs = xs.map id := by simp
    conv => lhs; rw [this]
    exact List.map_congr_left fun x hx => fracB_of (List.all_eq_true.mp h2 x hx)
  · cases h
theorem rowB_pQs {m : Nat} {l : List Rat} (h : l.length = m) : rowB m (pQs l) = true := by
  unfold pQs rowB
  simp [h]
  exact fun q _ => fracB_pQ q
/-- whole numbers within are small -/
def szOk (K : Nat) : PyData → Prop
  | .tuple [.int a, .int b] => a.natAbs < 2 ^ K ∧ b.natAbs < 2 ^ K
  | _ => True
theorem szOk_q {K : Nat} {x : PyData} (h : szOk K x) (f : fracB x = true) : QLt K (qOf x) := by
  have e := fracB_of f
  rw [e] at h
  unfold pQ szOk at h
  exact ⟨h.1, by have := h.2; rwa [Int.natAbs_natCast] at this⟩
theorem eq_frac {a b : Int} (h : 0 < b) : PyData.eqv (pQ (Rat.divInt a b)) (.tuple [.int a, .int b]) = decide (a.natAbs.gcd b.natAbs = 1) := by
  unfold pQ
  simp only [PyData.eqv, PyData.eqvAll, Bool.and_true]
  rw [divInt_num h, divInt_den h]
  by_cases g : a.natAbs.gcd b.natAbs = 1
  · have : gg a b = 1 := by unfold gg; rw [g]; rfl
    simp [this, g]
  · have e : ¬ b / gg a b = b := by
      have p := gg_pos (a := a) (b := b) (by omega)
      have ne : gg a b ≠ 1 := by unfold gg; omega
      intro z
      have d : gg a b ∣ b := Int.ofNat_dvd_left.mpr (Nat.gcd_dvd_right _ _)
      have m := Int.ediv_mul_cancel d
      rw [z] at m
      have h2 : 2 ≤ gg a b := by omega
      have := Int.mul_le_mul_of_nonneg_left h2 (Int.le_of_lt h)
      omega
    simp [e, g]
theorem fEq_frac {a b : Int} (h : 0 < b) : fEq false (.d (pQ (Rat.divInt a b))) (.d (.tuple [.int a, .int b])) = some (.d (.bool (decide (a.natAbs.gcd b.natAbs = 1)))) := by
  have : fEq false (.d (pQ (Rat.divInt a b))) (.d (.tuple [.int a, .int b])) = fEqD false (.d (pQ (Rat.divInt a b))) (.d (.tuple [.int a, .int b])) := rfl
  rw [this]
  unfold fEqD
  have ok : eqOk (.tuple [.int a, .int b]) = true := by
    unfold eqOk SeqAt.shaped
    simp [Dh.noDict, Dh.noDicts, PyData.canLay0, PyData.canLayAll0, PyData.depth, PyData.depthAll]
  simp [eqOk_pQ, ok, eq_frac h]
def szRow (K : Nat) (y : PyData) : Prop := ∀ ys, y = .tuple ys → ∀ z ∈ ys, szOk K z
theorem row_qlt {K m : Nat} {y : PyData} (h : szRow K y) (v : rowB m y = true) : ∀ q ∈ rowOf y, QLt K q := fun q hq => by
  unfold rowB at v
  split at v
  · rename_i ys
    simp only [Bool.and_eq_true, decide_eq_true_eq] at v
    obtain ⟨z, hz, rfl⟩ := List.mem_map.mp hq
    exact szOk_q (h ys rfl z hz) (List.all_eq_true.mp v.2 z hz)
  · cases v
mutual
/-- whole numbers in tuples are small -/
def szD (K : Nat) : PyData → Bool
  | .int i => decide (i.natAbs < 2 ^ K)
  | .tuple xs => szDs K xs
  | _ => true
def szDs (K : Nat) : List PyData → Bool
  | [] => true
  | x :: xs => szD K x && szDs K xs
end
theorem szDs_iff {K : Nat} : ∀ {xs : List PyData}, szDs K xs = true ↔ ∀ x ∈ xs, szD K x = true
  | [] => by simp [szDs]
  | x :: xs => by
    have := szDs_iff (K := K) (xs := xs)
    simp only [szDs, Bool.and_eq_true, this]
    simp
theorem szD_tup {K : Nat} {xs : List PyData} : szD K (.tuple xs) = true ↔ ∀ x ∈ xs, szD K x = true := by
  rw [show szD K (.tuple xs) = szDs K xs by simp [szD]]
  exact szDs_iff
mutual
theorem szD_mono {K L : Nat} (h : K ≤ L) : ∀ x : PyData, szD K x = true → szD L x = true
  | .int i, q => by
    simp only [szD, decide_eq_true_eq] at q ⊢
    exact Nat.lt_of_lt_of_le q (Nat.pow_le_pow_right (by decide) h)
  | .tuple xs, q => by
    simp only [szD] at q ⊢
    exact szDs_mono h xs q
  | .none, _ => by simp [szD]
  | .bool _, _ => by simp [szD]
  | .str _, _ => by simp [szD]
  | .list _, _ => by simp [szD]
  | .dict _, _ => by simp [szD]
theorem szDs_mono {K L : Nat} (h : K ≤ L) : ∀ xs : List PyData, szDs K xs = true → szDs L xs = true
  | [], _ => rfl
  | x :: xs, q => by
    simp only [szDs, Bool.and_eq_true] at q ⊢
    exact ⟨szD_mono h x q.1, szDs_mono h xs q.2⟩
end
/-- tuples of tuples of whole numbers, not deep -/
def Bx : Nat → PyData → Prop
  | 0, _ => False
  | n + 1, x => (∃ i, x = .int i) ∨ ∃ xs, x = .tuple xs ∧ xs.length ≤ 9 ∧ ∀ y ∈ xs, Bx n y
theorem cutD_mem {xs : List PyData} {lo hi : Option Int} {y : PyData} (h : y ∈ cutD xs lo hi) : y ∈ xs := by
  unfold cutD at h
  exact List.mem_of_mem_drop (List.mem_of_mem_take h)
theorem cutD_le {xs : List PyData} {lo hi : Option Int} : (cutD xs lo hi).length ≤ xs.length := by
  unfold cutD
  rw [List.length_take, List.length_drop]
  omega
theorem pow2 {K : Nat} (hK : 3 ≤ K) : 8 ≤ 2 ^ K ∧ 2 ^ (K + 2) = 4 * 2 ^ K := by
  have := Nat.pow_le_pow_right (n := 2) (by decide) hK
  exact ⟨this, by rw [Nat.pow_add]; omega⟩
theorem pairs_any {α : Type} {d : α} {f : α → PyData} {xs : List PyData} {l : List α} (hl : xs.length = l.length) : pairs xs (l.map f) = (List.range l.length).map fun i => PyData.tuple [xs.getD i .none, f (l.getD i d)] := by
  have := pairs_map id f xs l
  rw [List.map_id] at this
  rw [this, zip_map_range (a := .none) (b := d) hl rfl, List.map_map]; rfl
theorem pairs_any' {α : Type} {d : α} {f : α → PyData} {xs : List PyData} {l : List α} (hl : xs.length = l.length) : pairs (l.map f) xs = (List.range l.length).map fun i => PyData.tuple [f (l.getD i d), xs.getD i .none] := by
  have := pairs_map f id l xs
  rw [List.map_id] at this
  rw [this, zip_map_range (a := d) (b := .none) rfl hl, List.map_map]; rfl
end Dh
namespace WW
open PySem PySem.Spec L2 PySem.W Dh
section
variable {s : Sto}
theorem e_is_wholeA {x : PyData} : f_is_whole [.d x] s = some (.d (.bool (intB x)), s) := by
  refine WF.eq (WF.body rfl ?_)
  cases x <;> simp [m_is_whole, fIsi, isA, isN, tyName, intB]
theorem e_lis_wholeA {x : PyData} : f_law_is_whole [.d x] s = some (.d (.bool (intB x)), s) := by
  refine WF.eq (WF.body rfl ?_)
  cases x <;> simp [m_law_is_whole, fIsi, isA, isN, tyName, intB]
theorem e_is_tupleA {x : PyData} {n : Int} : f_is_tuple_of [.d x, .d (.int n)] s = some (.d (.bool (match x with | .tuple xs => decide ((xs.length : Int) = n) | _ => false)), s) := by
  refine WF.eq (WF.body rfl ?_)
  cases x <;> simp [m_is_tuple_of, fIsi, isA, isN, tyName, fEq_int]
theorem e_lis_tupleA {x : PyData} {n : Int} : f_law_is_tuple [.d x, .d (.int n)] s = some (.d (.bool (match x with | .tuple xs => decide ((xs.length : Int) = n) | _ => false)), s) := by
  refine WF.eq (WF.body rfl ?_)
  cases x <;> simp [m_law_is_tuple, fIsi, isA, isN, tyName, fEq_int]
theorem e_is_ratioA {x : PyData} : f_is_ratio [.d x] s = some (.d (.bool (fracB x)), s) := by
  refine WF.eq (WF.body rfl ?_)
  simp [m_is_ratio]
  refine WF.of e_is_tupleA ?_
  cases x with
  | tuple xs =>
    by_cases h2 : xs.length = 2
    · obtain ⟨a, b, rfl⟩ : ∃ a b, xs = [a, b] := by
        match xs, h2 with
        | [a, b], _ => exact ⟨a, b, rfl⟩
      simp
      refine WF.of e_is_wholeA ?_
      cases a with
      | int a =>
        simp [intB]
        refine WF.of e_is_wholeA ?_
        cases b with
        | int b =>
          simp [intB, fracB]
          by_cases hb : 0 < b
          · simp [hb, gGt, fEq_int]
            constructor
            · intro h; omega
            · intro h; omega
          · simp [hb, gGt]
        | _ => simp [intB, fracB]
      | _ => simp [intB, fracB]
    · have e : ¬ (xs.length : Int) = 2 := by omega
      have f : fracB (.tuple xs) = false := by
        unfold fracB
        split
        · rename_i heq
          injection heq with heq
          subst heq
          exact absurd rfl h2
        · rfl
      simp [e, f]
  | _ => simp [fracB]
theorem e_lis_fracA {K : Nat} {x : PyData} (hx : szOk K x) (hK : K ≤ 9000) : f_law_is_frac [.d x] s = some (.d (.bool (fracB x)), s) := by
  refine WF.eq (WF.body rfl ?_)
  simp [m_law_is_frac]
  refine WF.of e_lis_tupleA ?_
  cases x with
  | tuple xs =>
    by_cases h2 : xs.length = 2
    · obtain ⟨a, b, rfl⟩ : ∃ a b, xs = [a, b] := by
        match xs, h2 with
        | [a, b], _ => exact ⟨a, b, rfl⟩
      simp
      refine WF.of e_lis_wholeA ?_
      cases a with
      | int a =>
        simp [intB]
        refine WF.of e_lis_wholeA ?_
        cases b with
        | int b =>
          simp [intB, fracB]
          by_cases hb : 0 < b
          · simp [hb, gGt]
            refine WF.of (e_frac0 (by omega) (lt_monoB hx.2 hK)) ?_
            simp [fEq_frac hb, hb]
            try exact fun _ => hb
          · simp [hb, gGt]
        | _ => simp [intB, fracB]
      | _ => simp [intB, fracB]
    · have e : ¬ (xs.length : Int) = 2 := by omega
      have f : fracB (.tuple xs) = false := by
        unfold fracB
        split
        · rename_i heq
          injection heq with heq
          subst heq
          exact absurd rfl h2
        · rfl
      simp [e, f]
  | _ => simp [fracB]
theorem e_is_rowA {m : Nat} {x : PyData} (hm : m ≤ 1000) : f_is_row [.d x, .d (.int (m : Int))] s = some (.d (.bool (rowB m x)), s) := by
  refine WF.eq (WF.body rfl ?_)
  simp [m_is_row, List.replicate_succ]
  refine WF.of e_is_tupleA ?_
  cases x with
  | tuple xs =>
    by_cases h2 : xs.length = m
    · simp [h2]
      refine WLc_all (fun x => .bool (fracB x)) xs (fun x hx => ?_) ?_
      · simp
        exact WF.of e_is_ratioA (by simp)
      refine ⟨szle (by rw [List.length_map]; omega), ?_⟩
      simp [fAll_of, rowB, h2]
    · have e : ¬ (xs.length : Int) = (m : Int) := by omega
      simp [e, rowB, h2]
  | _ => simp [rowB]
end
section
variable {s : Sto} {K : Nat}
theorem e_ltotalF {x : PyData} {l : List Rat} {k : Nat} (hx : itemsOf (.d x) = some (l.map pQ)) (hl : ∀ q ∈ l, QLt k q) (h : 1 + (k + 1) * l.length + k ≤ 4500) : f_law_total [.d x] s = some (.d (pQ (qsum l)), s) := by
  refine WF.eq (WF.body rfl ?_)
  simp [m_law_total, List.replicate_succ, hx, sz2]
  refine WFor_inv pQ l (fun i ρ s' => s' = s ∧ ∃ c, ρ = [some (.d x), some (.d (pQ (qsum (l.take i)))), c]) ⟨rfl, none, rfl⟩ ?_ ?_
  · rintro i q ρ s' hq ⟨rfl, c, rfl⟩
    simp
    refine WF.of (e_lplus (qsum_take_lt hl).bd ((hl q (List.mem_of_getElem? hq)).bd)) ?_
    rw [take_snoc hq, qsum_snoc]
    simp
  · rintro ρ s' ⟨rfl, c, rfl⟩
    simp
theorem e_lis_rowA {m : Nat} {x : PyData} (hm : m ≤ 1000) (sz : szRow K x) (hK : K ≤ 9000) : f_law_is_row [.d x, .d (.int (m : Int))] s = some (.d (.bool (rowB m x)), s) := by
  refine WF.eq (WF.body rfl ?_)
  simp [m_law_is_row, List.replicate_succ]
  refine WF.of e_lis_tupleA ?_
  cases x with
  | tuple xs =>
    by_cases h2 : xs.length = m
    · simp [h2]
      refine WLc_all (fun x => .bool (fracB x)) xs (fun x hx => ?_) ?_
      · simp
        exact WF.of (e_lis_fracA (sz xs rfl x hx) hK) (by simp)
      refine ⟨szle (by rw [List.length_map]; omega), ?_⟩
      simp [fAll_of, rowB, h2]
    · have e : ¬ (xs.length : Int) = (m : Int) := by omega
      simp [e, rowB, h2]
  | _ => simp [rowB]
end
section
variable {s : Sto} {K : Nat}
theorem w_oddF {m : Nat} (v : Vs (m + 1) s) : WF f_law_odd [.s] s fun r s' => ∃ x, r = .d x ∧ szD 10 x = true ∧ Vs m s' := by
  refine WF.body rfl ?_
  simp [m_law_odd, sz1, sz2, sz3, fNeg, szle (show 43 ≤ 1000 by decide)]
  refine WF.use (w_any (m := m) v (by simp) (by simp)) ?_
  rintro _ s1 ⟨x, hx, rfl, v1⟩
  simp
  refine ⟨?_, v1⟩
  have key : ∀ L : List PyData, L.all (szD 10) = true → x ∈ L → szD 10 x = true := fun L a b => List.all_eq_true.mp a x b
  refine key _ ?_ hx
  simp [szD, szDs]
theorem w_bentF_int {m k : Nat} {i : Int} (hK : 10 ≤ K) (hK2 : K ≤ 1000) (hi : i.natAbs < 2 ^ K) (v : Vs (m + 2) s) : WF (f_law_bent (k + 1)) [.s, .d (.int i)] s fun r s' => ∃ x, r = .d x ∧ szD (K + 2) x = true ∧ Vs m s' := by
  refine WF.body rfl ?_
  simp [m_law_bent, List.replicate_succ, fIsi, isA, isN, tyName]
  refine WF.use (w_pick (m := m + 1) v (by omega) (by omega)) ?_
  rintro _ s1 ⟨d, rfl, d0, d1, v1⟩
  simp [fIsi, isA, isN, tyName]
  obtain ⟨p8, p4⟩ := pow2 (K := K) (by omega)
  by_cases h7 : d < 7
  · have mm : mulOk i 2 = true := mulOk_of (a := 1000) (b := 2) (lt_monoB hi hK2) (by decide) (by decide)
    have st : i.natAbs.log2 < 1920 := by
      by_cases z : i.natAbs = 0
      · rw [z]; decide
      · exact Nat.lt_of_lt_of_le ((Nat.log2_lt z).mpr hi) (by omega)
    obtain ⟨x, hx, ex⟩ := atI_pick (xs := [PyData.int (i - 1), .int (i + 1), .int (0 - i), .int (i * 2), .bool (decide (0 < i)), .int (i + 7), .str (toString i)]) d0 (by simpa using h7)
    simp at ex
    simp [h7, gLt, gMns, gGt, fMul_ok mm, fStr, st, szle (show 7 ≤ 1000 by decide), ex]
    refine ⟨?_, v1.mono⟩
    simp at hx
    rcases hx with rfl | rfl | rfl | rfl | rfl | rfl | rfl
    all_goals simp only [szD, decide_eq_true_eq]
    all_goals omega
  · simp [h7, gLt]
    refine WF.use (w_oddF (m := m) v1) ?_
    rintro _ s2 ⟨x, rfl, e, v2⟩
    simp
    exact ⟨szD_mono (by omega) x e, v2⟩
theorem w_twiceF {n : Nat} {xs : List PyData} (hK : 10 ≤ K) (hK2 : K ≤ 1000) (hl : xs.length ≤ 9) (hb : ∀ y ∈ xs, Bx n y) (hs : ∀ y ∈ xs, szD K y = true) : ∃ ys : List PyData, (∀ y ∈ ys, szD (K + 2) y = true) ∧ f_law_twice [.d (.tuple xs)] s = some (.d (.tuple ys), s) := by
  obtain ⟨p8, p4⟩ := pow2 (K := K) (by omega)
  have dbl : (∃ a b : Int, xs = [.int a, .int b]) ∨ ¬ ∃ a b : Int, xs = [.int a, .int b] := Classical.em _
  rcases dbl with ⟨a, b, rfl⟩ | no
  · have ha := hs (.int a) (by simp)
    have hb' := hs (.int b) (by simp)
    simp only [szD, decide_eq_true_eq] at ha hb'
    have m1 : mulOk a 2 = true := mulOk_of (a := 1000) (b := 2) (lt_monoB ha hK2) (by decide) (by decide)
    have m2 : mulOk b 2 = true := mulOk_of (a := 1000) (b := 2) (lt_monoB hb' hK2) (by decide) (by decide)
    refine ⟨[PyData.int (a * 2), .int (b * 2)], ?_, WF.eq (WF.body rfl ?_)⟩
    · intro y hy
      simp at hy
      rcases hy with rfl | rfl
      all_goals simp only [szD, decide_eq_true_eq]
      all_goals omega
    · simp [m_law_twice, fEq_int, fIsi, isA, isN, tyName, fMul_ok m1, fMul_ok m2, sz2]
  · refine ⟨xs ++ xs, fun y hy => szD_mono (by omega) y (hs y (by simpa using hy)), WF.eq (WF.body rfl ?_)⟩
    by_cases h2 : xs.length = 2
    · obtain ⟨x, y, rfl⟩ : ∃ x y, xs = [x, y] := by
        match xs, h2 with
        | [x, y], _ => exact ⟨x, y, rfl⟩
      have bx : ∀ z : PyData, (∃ n, Bx n z) → (∃ i, z = .int i) ∨ ∃ l, z = .tuple l := fun z ⟨n, hz⟩ => by
        cases n with
        | zero => exact hz.elim
        | succ n =>
          rcases hz with ⟨i, e⟩ | ⟨l, e, _⟩
          · exact .inl ⟨i, e⟩
          · exact .inr ⟨l, e⟩
      rcases bx x ⟨n, hb x (by simp)⟩ with ⟨i, rfl⟩ | ⟨l, rfl⟩
      · rcases bx y ⟨n, hb y (by simp)⟩ with ⟨j, rfl⟩ | ⟨l, rfl⟩
        · exact absurd ⟨i, j, rfl⟩ no
        · simp [m_law_twice, fEq_int, fIsi, isA, isN, tyName, fAdd, sz4]
      · simp [m_law_twice, fEq_int, fIsi, isA, isN, tyName, fAdd, sz4]
    · have e : ¬ (xs.length : Int) = 2 := by omega
      simp [m_law_twice, fEq_int, e, fAdd, szle (show xs.length + xs.length ≤ 1000 by omega)]
theorem w_bentF (hK : 10 ≤ K) (hK2 : K ≤ 1000) : ∀ (n : Nat) {s : Sto} {m : Nat} {x : PyData}, Bx n x → szD K x = true → Vs (m + (2 * n + 3)) s → WF (f_law_bent n) [.s, .d x] s fun r s' => ∃ y, r = .d y ∧ szD (K + 2) y = true ∧ Vs m s'
  | 0, _, _, _, h, _, _ => h.elim
  | n + 1, s, m, x, hb, hs, v => by
    rcases hb with ⟨i, rfl⟩ | ⟨xs, rfl, hl, hb⟩
    · simp only [szD, decide_eq_true_eq] at hs
      exact w_bentF_int hK hK2 hs v.mono
    have hs := szD_tup.mp hs
    -- the tuple itself
    have here : ∀ (s : Sto) (x2 x3 x4 : Option Cl), Vs (m + 3) s → WS (mSeq (mSet 3 (mCall f_law_pick (maCons (mVar 0) (maCons (mKon (.int 9)) maNil))))
    (mSeq (mIfS (tAnd2 (bT (m1 (fIsi "tuple") (mVar 1))) (bT (m2 (fI gLt) (mVar 3) (mKon (.int 7)))))
    (mSeq (mSet 4 (mCall f_law_twice (maCons (mVar 1) maNil)))
    (mRet (mIx (mA fTup (maCons (m2 fAdd (mVar 1) (mSl (mVar 1) (moSome (m1 fNeg (mKon (.int 1)))) moNone)) (maCons (mSl (mVar 1) (moSome (mKon (.int 1))) moNone) (maCons (mSl (mVar 1) moNone (moSome (m1 fNeg (mKon (.int 1))))) (maCons (m1 fRev (mVar 1)) (maCons (mA fLstOf (maCons (mVar 1) maNil)) (maCons (mA fTup (maCons (mVar 1) maNil)) (maCons (mVar 4) maNil)))))))) (mVar 3))))
    mNil)
    (mSeq (mIfS (tAnd2 (bT (m1 (fIsi "int") (mVar 1))) (bT (m2 (fI gLt) (mVar 3) (mKon (.int 7)))))
    (mRet (mIx (mA fTup (maCons (m2 (fI gMns) (mVar 1) (mKon (.int 1))) (maCons (m2 fAdd (mVar 1) (mKon (.int 1))) (maCons (m2 (fI gMns) (mKon (.int 0)) (mVar 1)) (maCons (m2 fMul (mVar 1) (mKon (.int 2))) (maCons (m2 (fI gGt) (mVar 1) (mKon (.int 0))) (maCons (m2 fAdd (mVar 1) (mKon (.int 7))) (maCons (mA fStr (maCons (mVar 1) maNil)) maNil)))))))) (mVar 3)))
    mNil)
    (mRet (mCall f_law_odd (maCons (mVar 0) maNil)))))) [some .s, some (.d (.tuple xs)), x2, x3, x4] s (endK fun r s' => ∃ x, r = .d x ∧ szD (K + 2) x = true ∧ Vs m s') := by
      intro s x2 x3 x4 v
      simp
      refine WF.use (w_pick (m := m + 2) v (by omega) (by omega)) ?_
      rintro _ s1 ⟨d, rfl, d0, d1, v1⟩
      simp [fIsi, isA, isN, tyName]
      by_cases h7 : d < 7
      · obtain ⟨ys, yl, ey⟩ := w_twiceF (s := s1) hK hK2 hl hb hs
        have c1 := cutD_le (xs := xs) (lo := some (-1)) (hi := none)
        obtain ⟨x, hx, ex⟩ := atI_pick (xs := [PyData.tuple (xs ++ cutD xs (some (-1)) none), .tuple (cutD xs (some 1) none), .tuple (cutD xs none (some (-1))), .tuple xs.reverse, .list xs, .tuple [.tuple xs], .tuple ys]) d0 (by simpa using h7)
        try simp at ex
        simp [h7, gLt]
        refine WF.of ey ?_
        simp [fSl, fNeg, fAdd, fRev, fLstOf, szle (show xs.length ≤ 1000 by omega), szle (show xs.length + (cutD xs (some (-1)) none).length ≤ 1000 by omega), sz1, szle (show 7 ≤ 1000 by decide), ex]
        refine ⟨?_, v1.mono⟩
        have up : ∀ y ∈ xs, szD (K + 2) y = true := fun y hy => szD_mono (by omega) y (hs y hy)
        simp at hx
        rcases hx with rfl | rfl | rfl | rfl | rfl | rfl | rfl
        · exact szD_tup.mpr fun y hy => by
            rcases List.mem_append.mp hy with hy | hy
            · exact up y hy
            · exact up y (cutD_mem hy)
        · exact szD_tup.mpr fun y hy => up y (cutD_mem hy)
        · exact szD_tup.mpr fun y hy => up y (cutD_mem hy)
        · exact szD_tup.mpr fun y hy => up y (List.mem_reverse.mp hy)
        · simp [szD]
        · exact szD_tup.mpr fun y hy => by
            rw [List.mem_singleton] at hy
            subst hy
            exact szD_tup.mpr up
        · exact szD_tup.mpr yl
      · simp [h7, gLt]
        refine WF.use (w_oddF (m := m) (v1.mono)) ?_
        rintro _ s2 ⟨x, rfl, e, v2⟩
        simp
        exact ⟨szD_mono (by omega) x e, v2⟩
    refine WF.body rfl ?_
    simp [m_law_bent, List.replicate_succ, fIsi, isA, isN, tyName]
    by_cases l0 : 0 < xs.length
    · simp [gGt, l0]
      refine WF.use (w_pick (m := m + (2 * n + 4)) v.mono (by omega) (by omega)) ?_
      rintro _ s1 ⟨d, rfl, d0, d1, v1⟩
      simp
      by_cases hd : 0 < d
      · simp [hd]
        refine WF.use (w_pick (m := m + (2 * n + 3)) v1 (by omega) (by omega)) ?_
        rintro _ s2 ⟨a, rfl, a0, a1, v2⟩
        obtain ⟨a, rfl⟩ := Int.eq_ofNat_of_zero_le a0
        have al : a < xs.length := by omega
        have e1 : atI xs (a : Int) = some (xs.getD a .none) := by rw [atI_ofNat al, getD_at (d := .none) al]
        have hmem := List.mem_of_getElem? (getD_at (d := PyData.none) al)
        have c1 := cutD_le (xs := xs) (lo := none) (hi := some (a : Int))
        have c2 := cutD_le (xs := xs) (lo := some ((a : Int) + 1)) (hi := none)
        simp [fSl, e1, -List.getD_eq_getElem?_getD]
        refine WF.use (w_bentF hK hK2 n (m := m) (hb _ hmem) (hs _ hmem) v2) ?_
        rintro _ s3 ⟨y, rfl, ysz, v3⟩
        simp [fAdd, fSl, sz1, szle (show (cutD xs none (some (a : Int))).length + 1 ≤ 1000 by omega), szle (show (cutD xs none (some (a : Int))).length + 1 + (cutD xs (some ((a : Int) + 1)) none).length ≤ 1000 by omega)]
        refine ⟨szD_tup.mpr fun z hz => ?_, v3⟩
        have up : ∀ y ∈ xs, szD (K + 2) y = true := fun y hy => szD_mono (by omega) y (hs y hy)
        simp at hz
        rcases hz with hz | rfl | hz
        · exact up z (cutD_mem hz)
        · exact ysz
        · exact up z (cutD_mem hz)
      · simp [hd]
        have hh := here s1 none none none v1.mono
        simp at hh
        exact hh
    · simp [gGt, l0]
      have hh := here s none none none v.mono
      simp at hh
      exact hh
theorem w_maybeF {m : Nat} {x : PyData} (hK : 10 ≤ K) (hK2 : K ≤ 1000) (hb : Bx 6 x) (hs : szD K x = true) (v : Vs (m + 16) s) : WF f_law_maybe [.s, .d x] s fun r s' => ∃ y, r = .d y ∧ szD (K + 2) y = true ∧ Vs m s' := by
  refine WF.body rfl ?_
  simp [m_law_maybe, List.replicate_succ]
  refine WF.use (w_pick (m := m + 15) v (by omega) (by omega)) ?_
  rintro _ s1 ⟨d, rfl, d0, d1, v1⟩
  simp
  by_cases h6 : d < 6
  · simp [h6, gLt]
    exact ⟨szD_mono (by omega) x hs, v1.mono⟩
  · by_cases h9 : d < 9
    · simp [h6, h9, gLt]
      refine WF.use (w_bentF (m := m) hK hK2 6 hb hs v1) ?_
      rintro _ s2 ⟨x, rfl, e, v2⟩
      simp
      exact ⟨e, v2⟩
    · simp [h6, h9, gLt]
      refine WF.use (w_oddF (m := m) v1.mono) ?_
      rintro _ s2 ⟨x, rfl, e, v2⟩
      simp
      exact ⟨szD_mono (by omega) x e, v2⟩
end
end WW
namespace Dh
open PySem PySem.Spec L2 PySem.W
def oddsB (m : Nat) (x : PyData) : Bool := rowB m x && ((rowOf x).all fun q => decide (0 ≤ q.num)) && decide (qsum (rowOf x) = 1)
def betB (n : Nat) : PyData → Bool
  | .int i => decide (0 ≤ i) && decide (i < (n : Int))
  | _ => false
def tupB (m : Nat) (f : PyData → Bool) : PyData → Bool
  | .tuple xs => decide (xs.length = m) && xs.all f
  | _ => false
/-- a tuple, one look for each stand -/
def perB (h : RHouse) (f : Nat → PyData → Bool) : PyData → Bool
  | .tuple xs => decide (xs.length = h.stands.length) && (List.range h.stands.length).all fun i => f (h.stands.getD i []).length (xs.getD i .none)
  | _ => false
def stillB (h : RHouse) (x : PyData) : Bool := perB h oddsB x
def choB (h : RHouse) (x : PyData) : Bool := perB h betB x
def mindB (h : RHouse) : PyData → Bool
  | .tuple [.int m, o, l] => (decide (1 ≤ m) && decide (m ≤ 4)) && (perB h (fun n => tupB m.toNat (oddsB n)) o && perB h (fun n => tupB n (tupB m.toNat (betB m.toNat))) l)
  | _ => false
theorem szRow_of {K : Nat} {x : PyData} (h : szD K x = true) : szRow K x := by
  intro ys e z hz
  subst e
  have b := szD_tup.mp h z hz
  unfold szOk
  split
  · rename_i p q
    have c := szD_tup.mp b
    have c1 := c (.int p) (by simp)
    have c2 := c (.int q) (by simp)
    simp only [szD, decide_eq_true_eq] at c1 c2
    exact ⟨c1, c2⟩
  · trivial
theorem sz_at {K : Nat} {xs : List PyData} {i : Nat} (h : ∀ y ∈ xs, szD K y = true) : szD K (xs.getD i .none) = true := by
  by_cases hi : i < xs.length
  · exact h _ (List.mem_of_getElem? (getD_at (d := PyData.none) hi))
  · rw [List.getD_eq_getElem?_getD, List.getElem?_eq_none (by omega)]; rfl
theorem perB_no {h : RHouse} {f : Nat → PyData → Bool} {xs : List PyData} (e : xs.length ≠ h.stands.length) : perB h f (.tuple xs) = false := by
  unfold perB; simp [e]
theorem perB_yes {h : RHouse} {f : Nat → PyData → Bool} {xs : List PyData} (e : xs.length = h.stands.length) : perB h f (.tuple xs) = (List.range h.stands.length).all fun i => f (h.stands.getD i []).length (xs.getD i .none) := by
  unfold perB; simp [e]
end Dh
namespace WW
open PySem PySem.Spec L2 PySem.W Dh
section
variable {h : RHouse} {s : Sto} {K : Nat}
theorem e_is_betweenA {x : PyData} {n : Nat} : f_is_between [.d x, .d (.int 0), .d (.int ((n : Int) - 1))] s = some (.d (.bool (betB n x)), s) := by
  refine WF.eq (WF.body rfl ?_)
  simp [m_is_between]
  refine WF.of e_is_wholeA ?_
  cases x with
  | int i =>
    simp [intB, betB]
    by_cases h0 : 0 ≤ i
    · by_cases h1 : i < (n : Int)
      · simp [h0, h1, show i ≤ (n : Int) - 1 by omega]
      · simp [h0, h1, show ¬ i ≤ (n : Int) - 1 by omega]
    · simp [h0]
  | _ => simp [intB, betB]
theorem e_is_chance_rowA {m : Nat} {x : PyData} (hm : m ≤ 9) (sz : szRow K x) (hK : K ≤ 300) : f_is_chance_row [.d x, .d (.int (m : Int))] s = some (.d (.bool (oddsB m x)), s) := by
  refine WF.eq (WF.body rfl ?_)
  simp [m_is_chance_row, List.replicate_succ]
  refine WF.of (e_is_rowA (by omega)) ?_
  cases hr : rowB m x
  · simp [oddsB, hr]
  · obtain ⟨ex, el⟩ := rowB_of hr
    have hq := row_qlt sz hr
    unfold oddsB
    rw [hr]
    generalize rowOf x = l at *
    rw [ex]
    simp [pQs]
    refine WLc_map pQ (fun q => .bool (decide (0 ≤ q.num))) l (fun q hq => ?_) ?_
    · simp [pQ, -Rat.num_nonneg]
    refine ⟨szle (by rw [List.length_map]; omega), ?_⟩
    cases ha : l.all fun q => decide (0 ≤ q.num)
    · simp [fAll_of, ha, -Rat.num_nonneg]
    · simp [fAll_of, ha, -Rat.num_nonneg]
      refine WF.of (e_total (l := l) (k := K) rfl hq (by rw [el]; have := Nat.mul_le_mul_left (K + 1) hm; omega)) ?_
      simp [show k_ONE = pQ 1 from rfl, fEq_pQ]
theorem e_lis_oddsA {m : Nat} {x : PyData} (hm : m ≤ 9) (sz : szRow K x) (hK : K ≤ 300) : f_law_is_odds [.d x, .d (.int (m : Int))] s = some (.d (.bool (oddsB m x)), s) := by
  refine WF.eq (WF.body rfl ?_)
  simp [m_law_is_odds, List.replicate_succ]
  refine WF.of (e_lis_rowA (by omega) sz (by omega)) ?_
  cases hr : rowB m x
  · simp [oddsB, hr]
  · obtain ⟨ex, el⟩ := rowB_of hr
    have hq := row_qlt sz hr
    unfold oddsB
    rw [hr]
    generalize rowOf x = l at *
    rw [ex]
    simp [pQs]
    refine WLc_map pQ (fun q => .bool (decide (0 ≤ q.num))) l (fun q hq => ?_) ?_
    · simp [pQ, -Rat.num_nonneg]
    refine ⟨szle (by rw [List.length_map]; omega), ?_⟩
    cases ha : l.all fun q => decide (0 ≤ q.num)
    · simp [fAll_of, ha, -Rat.num_nonneg]
      try
        intro hx
        have : (l.all fun q => decide (0 ≤ q.num)) = true := List.all_eq_true.mpr fun q hq => by simpa using hx q hq
        rw [ha] at this; cases this
    · simp [fAll_of, ha, -Rat.num_nonneg]
      refine WF.of (e_ltotalF (l := l) (k := K) rfl hq (by rw [el]; have := Nat.mul_le_mul_left (K + 1) hm; omega)) ?_
      simp [sz2, show PyData.tuple [.int 1, .int 1] = pQ 1 from rfl, fEq_pQ]
      try
        intro _ q hq
        have := List.all_eq_true.mp ha q hq
        simpa using this
theorem e_is_still_byA {x : PyData} (hn : h.stands.length ≤ 9) (h9 : ∀ st ∈ h.stands, st.length ≤ 9) (sz : szD K x = true) (hK : K ≤ 300) : f_is_still_by [.d (pHouse h), .d x] s = some (.d (.bool (stillB h x)), s) := by
  refine WF.eq (WF.body rfl ?_)
  simp [m_is_still_by, List.replicate_succ, pHouse]
  refine WF.of e_is_tupleA ?_
  cases x with
  | tuple xs =>
    have sz := szD_tup.mp sz
    by_cases hl : xs.length = h.stands.length
    · simp [hl]
      rw [pairs_any (d := []) hl]
      refine WLc_map (fun i => PyData.tuple [xs.getD i .none, pStand (h.stands.getD i [])]) (fun i => PyData.bool (oddsB (h.stands.getD i []).length (xs.getD i .none))) (List.range h.stands.length) (fun i hi => ?_) ?_
      · have := h9 _ (stand_mem (List.mem_range.mp hi))
        simp [pStand, -List.getD_eq_getElem?_getD]
        exact WF.of (e_is_chance_rowA this (szRow_of (sz_at sz)) hK) (by simp)
      refine ⟨szle (by simp; omega), ?_⟩
      simp [fAll_of, stillB, perB_yes hl]
    · simp [show ¬ (xs.length : Int) = (h.stands.length : Int) by omega, stillB, perB_no hl]
  | _ => simp [stillB, perB]
theorem e_lis_planA {x : PyData} (hn : h.stands.length ≤ 9) (h9 : ∀ st ∈ h.stands, st.length ≤ 9) (sz : szD K x = true) (hK : K ≤ 300) : f_law_is_plan [.d (pHouse h), .d x] s = some (.d (.bool (stillB h x)), s) := by
  refine WF.eq (WF.body rfl ?_)
  simp [m_law_is_plan, List.replicate_succ, pHouse]
  refine WF.of e_lis_tupleA ?_
  cases x with
  | tuple xs =>
    have sz := szD_tup.mp sz
    by_cases hl : xs.length = h.stands.length
    · simp [hl]
      rw [pairs_any' (d := []) hl]
      refine WLc_map (fun i => PyData.tuple [pStand (h.stands.getD i []), xs.getD i .none]) (fun i => PyData.bool (oddsB (h.stands.getD i []).length (xs.getD i .none))) (List.range h.stands.length) (fun i hi => ?_) ?_
      · have := h9 _ (stand_mem (List.mem_range.mp hi))
        simp [pStand, -List.getD_eq_getElem?_getD]
        exact WF.of (e_lis_oddsA this (szRow_of (sz_at sz)) hK) (by simp)
      refine ⟨szle (by simp; omega), ?_⟩
      simp [fAll_of, stillB, perB_yes hl]
    · simp [show ¬ (xs.length : Int) = (h.stands.length : Int) by omega, stillB, perB_no hl]
  | _ => simp [stillB, perB]
theorem e_is_choice_byA {x : PyData} (hn : h.stands.length ≤ 9) : f_is_choice_by [.d (pHouse h), .d x] s = some (.d (.bool (choB h x)), s) := by
  refine WF.eq (WF.body rfl ?_)
  simp [m_is_choice_by, List.replicate_succ, pHouse]
  refine WF.of e_is_tupleA ?_
  cases x with
  | tuple xs =>
    by_cases hl : xs.length = h.stands.length
    · simp [hl]
      rw [pairs_any (d := []) hl]
      refine WLc_map (fun i => PyData.tuple [xs.getD i .none, pStand (h.stands.getD i [])]) (fun i => PyData.bool (betB (h.stands.getD i []).length (xs.getD i .none))) (List.range h.stands.length) (fun i hi => ?_) ?_
      · simp [pStand, -List.getD_eq_getElem?_getD]
        exact WF.of e_is_betweenA (by simp)
      refine ⟨szle (by simp; omega), ?_⟩
      simp [fAll_of, choB, perB_yes hl]
    · simp [show ¬ (xs.length : Int) = (h.stands.length : Int) by omega, choB, perB_no hl]
  | _ => simp [choB, perB]
theorem e_lis_chosenA {x : PyData} (hn : h.stands.length ≤ 9) : f_law_is_chosen [.d (pHouse h), .d x] s = some (.d (.bool (choB h x)), s) := by
  refine WF.eq (WF.body rfl ?_)
  simp [m_law_is_chosen, List.replicate_succ, pHouse]
  refine WF.of e_lis_tupleA ?_
  cases x with
  | tuple xs =>
    by_cases hl : xs.length = h.stands.length
    · simp [hl]
      rw [pairs_any' (d := []) hl]
      refine WLc_map (fun i => PyData.tuple [pStand (h.stands.getD i []), xs.getD i .none]) (fun i => PyData.bool (betB (h.stands.getD i []).length (xs.getD i .none))) (List.range h.stands.length) (fun i hi => ?_) ?_
      · simp [pStand, -List.getD_eq_getElem?_getD]
        refine WF.of e_lis_wholeA ?_
        generalize xs.getD i .none = y
        cases y with
        | int j =>
          simp [intB, betB]
          by_cases h0 : 0 ≤ j
          · simp [h0]
          · simp [h0]
        | _ => simp [intB, betB]
      refine ⟨szle (by simp; omega), ?_⟩
      simp [fAll_of, choB, perB_yes hl]
    · simp [show ¬ (xs.length : Int) = (h.stands.length : Int) by omega, choB, perB_no hl]
  | _ => simp [choB, perB]
end
end WW
namespace Dh
open PySem PySem.Spec L2 PySem.W
theorem trip_any {h : RHouse} {os ls : List PyData} (ho : os.length = h.stands.length) (hl : ls.length = h.stands.length) : trip (h.stands.map pStand) os ls = (List.range h.stands.length).map fun i => PyData.tuple [pStand (h.stands.getD i []), os.getD i .none, ls.getD i .none] := by
  have key : ∀ (a b c : List PyData) (n : Nat), a.length = n → b.length = n → c.length = n → trip a b c = (List.range n).map fun i => PyData.tuple [a.getD i .none, b.getD i .none, c.getD i .none] := by
    intro a
    induction a with
    | nil => intro b c n h1 h2 h3; subst h1; rfl
    | cons x a ih =>
      intro b c n h1 h2 h3
      cases b with
      | nil => simp at h1 h2; omega
      | cons y b =>
        cases c with
        | nil => simp at h1 h3; omega
        | cons z c =>
          cases n with
          | zero => simp at h1
          | succ n =>
            simp only [List.length_cons, Nat.add_right_cancel_iff] at h1 h2 h3
            rw [show trip (x :: a) (y :: b) (z :: c) = .tuple [x, y, z] :: trip a b c from rfl, ih b c n h1 h2 h3, List.range_succ_eq_map, List.map_cons, List.map_map]
            rfl
  rw [key _ _ _ h.stands.length (by simp) ho hl]
  refine List.map_congr_left fun i hi => ?_
  rw [List.mem_range] at hi
  rw [show (h.stands.map pStand).getD i .none = pStand (h.stands.getD i []) by rw [List.getD_eq_getElem?_getD, List.getElem?_map, stand_at hi]; rfl]
theorem tupB_no {m : Nat} {f : PyData → Bool} {xs : List PyData} (e : xs.length ≠ m) : tupB m f (.tuple xs) = false := by simp [tupB, e]
theorem tupB_yes {m : Nat} {f : PyData → Bool} {xs : List PyData} (e : xs.length = m) : tupB m f (.tuple xs) = xs.all f := by simp [tupB, e]
def lenB (n : Nat) : PyData → Bool
  | .tuple xs => decide (xs.length = n)
  | _ => false
theorem lenB_of {n : Nat} {x : PyData} (h : lenB n x = true) : ∃ xs, x = .tuple xs ∧ xs.length = n := by
  cases x with
  | tuple xs => exact ⟨xs, rfl, by simpa [lenB] using h⟩
  | _ => cases h
theorem perB_len {h : RHouse} {f : Nat → PyData → Bool} {x : PyData} (e : lenB h.stands.length x = false) : perB h f x = false := by
  cases x with
  | tuple xs => exact perB_no (by simpa [lenB] using e)
  | _ => rfl
theorem tupB_len {m : Nat} {f : PyData → Bool} {x : PyData} (e : lenB m x = false) : tupB m f x = false := by
  cases x with
  | tuple xs => exact tupB_no (by simpa [lenB] using e)
  | _ => rfl
theorem mindB_no {h : RHouse} {xs : List PyData} (e : xs.length ≠ 3) : mindB h (.tuple xs) = false := by
  unfold mindB
  split
  · rename_i heq
    injection heq with heq
    subst heq
    exact absurd rfl e
  · rfl
theorem WFor_of {g : Gx} {body : Ms} {ρ : Ev} {s : Sto} {Q : Out → Ev → Sto → Prop} {l : List PyData} (h : WFor g body (l.map id) ρ s Q) : WFor g body l ρ s Q := by rwa [List.map_id] at h
end Dh
namespace WW
open PySem PySem.Spec L2 PySem.W Dh
section
variable {h : RHouse} {s : Sto} {K : Nat}
theorem e_is_betweenG {x : PyData} {lo hi : Int} : f_is_between [.d x, .d (.int lo), .d (.int hi)] s = some (.d (.bool (match x with | .int i => decide (lo ≤ i) && decide (i ≤ hi) | _ => false)), s) := by
  refine WF.eq (WF.body rfl ?_)
  simp [m_is_between]
  refine WF.of e_is_wholeA ?_
  cases x with
  | int i =>
    simp [intB]
    by_cases h0 : lo ≤ i
    · simp [h0]
    · simp [h0]
  | _ => simp [intB]
theorem e_are_oddsA {m : Nat} {x : PyData} {st : List RDeed} (hm : m ≤ 9) (h9 : st.length ≤ 9) (sz : szD K x = true) (hK : K ≤ 300) : f_are_odds [.d x, .d (.int (m : Int)), .d (pStand st)] s = some (.d (.bool (tupB m (oddsB st.length) x)), s) := by
  refine WF.eq (WF.body rfl ?_)
  simp [m_are_odds, List.replicate_succ]
  refine WF.of e_is_tupleA ?_
  cases x with
  | tuple xs =>
    have sz := szD_tup.mp sz
    by_cases hl : xs.length = m
    · simp [hl]
      refine WLc_all (fun x => .bool (oddsB st.length x)) xs (fun x hx => ?_) ?_
      · simp [pStand]
        exact WF.of (e_is_chance_rowA h9 (szRow_of (sz x hx)) hK) (by simp)
      refine ⟨szle (by rw [List.length_map]; omega), ?_⟩
      simp [fAll_of, tupB_yes hl]
    · simp [show ¬ (xs.length : Int) = (m : Int) by omega, tupB_no hl]
  | _ => simp [tupB]
theorem e_are_nextsA {m : Nat} {x : PyData} {st : List RDeed} (hm : m ≤ 9) (h9 : st.length ≤ 9) : f_are_nexts [.d x, .d (.int (m : Int)), .d (pStand st)] s = some (.d (.bool (tupB st.length (tupB m (betB m)) x)), s) := by
  refine WF.eq (WF.body rfl ?_)
  simp [m_are_nexts, List.replicate_succ, pStand]
  refine WF.of e_is_tupleA ?_
  cases x with
  | tuple xs =>
    by_cases hl : xs.length = st.length
    · simp [hl]
      refine WLc_all (fun x => .bool (tupB m (betB m) x)) xs (fun x hx => ?_) ?_
      · simp
        refine WF.of e_is_tupleA ?_
        cases x with
        | tuple ys =>
          by_cases hy : ys.length = m
          · simp [hy]
            refine WLc_all (fun x => .bool (betB m x)) ys (fun x hx => ?_) ?_
            · simp
              exact WF.of e_is_betweenA (by simp)
            refine ⟨szle (by rw [List.length_map]; omega), ?_⟩
            simp [fAll_of, tupB_yes hy]
          · simp [show ¬ (ys.length : Int) = (m : Int) by omega, tupB_no hy]
        | _ => simp [tupB]
      refine ⟨szle (by rw [List.length_map]; omega), ?_⟩
      simp [fAll_of, tupB_yes hl]
    · simp [show ¬ (xs.length : Int) = (st.length : Int) by omega, tupB_no hl]
  | _ => simp [tupB]
theorem e_is_tupleL {x : PyData} {n : Nat} : f_is_tuple_of [.d x, .d (.int (n : Int))] s = some (.d (.bool (lenB n x)), s) := by
  rw [e_is_tupleA]
  cases x <;> simp [lenB, Int.ofNat_inj]
theorem e_lis_tupleL {x : PyData} {n : Nat} : f_law_is_tuple [.d x, .d (.int (n : Int))] s = some (.d (.bool (lenB n x)), s) := by
  rw [e_lis_tupleA]
  cases x <;> simp [lenB, Int.ofNat_inj]
theorem e_is_minded_byA {x : PyData} (hn : h.stands.length ≤ 9) (h9 : ∀ st ∈ h.stands, st.length ≤ 9) (sz : szD K x = true) (hK : K ≤ 300) : f_is_minded_by [.d (pHouse h), .d x] s = some (.d (.bool (mindB h x)), s) := by
  refine WF.eq (WF.body rfl ?_)
  simp [m_is_minded_by, List.replicate_succ, pHouse]
  refine WF.of e_is_tupleA ?_
  cases x with
  | tuple xs =>
    have sz := szD_tup.mp sz
    by_cases hl : xs.length = 3
    · obtain ⟨a, o, l, rfl⟩ : ∃ a b c, xs = [a, b, c] := by
        match xs, hl with
        | [a, b, c], _ => exact ⟨a, b, c, rfl⟩
      simp [show k_MOST_MINDS = PyData.int 4 from rfl]
      refine WF.of e_is_betweenG ?_
      cases a with
      | int m =>
        by_cases hm : 1 ≤ m ∧ m ≤ 4
        · obtain ⟨m, rfl⟩ := Int.eq_ofNat_of_zero_le (show 0 ≤ m by omega)
          have szo := sz o (by simp)
          simp [hm, mindB]
          refine WF.of e_is_tupleL ?_
          cases ho : lenB h.stands.length o
          · simp [perB_len ho]
          obtain ⟨os, rfl, hol⟩ := lenB_of ho
          simp
          refine WF.of e_is_tupleL ?_
          cases hl : lenB h.stands.length l
          · simp [perB_len hl]
          obtain ⟨ls, rfl, hll⟩ := lenB_of hl
          simp
          rw [pairs_any (d := []) hol]
          refine WLc_map (fun i => PyData.tuple [os.getD i .none, pStand (h.stands.getD i [])]) (fun i => PyData.bool (tupB m (oddsB (h.stands.getD i []).length) (os.getD i .none))) (List.range h.stands.length) (fun i hi => ?_) ?_
          · have := h9 _ (stand_mem (List.mem_range.mp hi))
            try simp [-List.getD_eq_getElem?_getD]
            exact WF.of (e_are_oddsA (by omega) this (sz_at (szD_tup.mp szo)) hK) (by simp)
          refine ⟨szle (by simp; omega), ?_⟩
          have pe : perB h (fun n => tupB m (oddsB n)) (.tuple os) = (List.range h.stands.length).all fun i => tupB m (oddsB (h.stands.getD i []).length) (os.getD i .none) := perB_yes hol
          cases ha : (List.range h.stands.length).all fun i => tupB m (oddsB (h.stands.getD i []).length) (os.getD i .none)
          · rw [ha] at pe
            rw [pe, Bool.false_and]
            simp [fAll_of, ha, -List.getD_eq_getElem?_getD]
          rw [ha] at pe
          rw [pe, Bool.true_and]
          simp [fAll_of, ha, -List.getD_eq_getElem?_getD]
          rw [pairs_any (d := []) hll]
          refine WLc_map (fun i => PyData.tuple [ls.getD i .none, pStand (h.stands.getD i [])]) (fun i => PyData.bool (tupB (h.stands.getD i []).length (tupB m (betB m)) (ls.getD i .none))) (List.range h.stands.length) (fun i hi => ?_) ?_
          · have := h9 _ (stand_mem (List.mem_range.mp hi))
            try simp [-List.getD_eq_getElem?_getD]
            exact WF.of (e_are_nextsA (by omega) this) (by simp)
          refine ⟨szle (by simp; omega), ?_⟩
          have pe2 : perB h (fun n => tupB n (tupB m (betB m))) (.tuple ls) = (List.range h.stands.length).all fun i => tupB (h.stands.getD i []).length (tupB m (betB m)) (ls.getD i .none) := perB_yes hll
          simp [fAll_of, pe2]
        · have e : (decide (1 ≤ m) && decide (m ≤ 4)) = false := by simpa using fun a => by omega
          simp [e, mindB]
      | _ => simp [mindB]
    · simp [show ¬ (xs.length : Int) = 3 by omega, mindB_no hl]
  | _ => simp [mindB]
theorem e_lis_mindfulA {x : PyData} (hn : h.stands.length ≤ 9) (h9 : ∀ st ∈ h.stands, st.length ≤ 9) (sz : szD K x = true) (hK : K ≤ 300) : f_law_is_mindful [.d (pHouse h), .d x] s = some (.d (.bool (mindB h x)), s) := by
  refine WF.eq (WF.body rfl ?_)
  simp [m_law_is_mindful, List.replicate_succ, pHouse]
  refine WF.of e_lis_tupleA ?_
  cases x with
  | tuple xs =>
    have sz := szD_tup.mp sz
    by_cases hl : xs.length = 3
    · obtain ⟨a, o, l, rfl⟩ : ∃ a b c, xs = [a, b, c] := by
        match xs, hl with
        | [a, b, c], _ => exact ⟨a, b, c, rfl⟩
      simp
      refine WF.of e_lis_wholeA ?_
      cases a with
      | int m =>
        simp [intB]
        by_cases hm : 1 ≤ m ∧ m ≤ 4
        · obtain ⟨m, rfl⟩ := Int.eq_ofNat_of_zero_le (show 0 ≤ m by omega)
          have szo := sz o (by simp)
          simp [hm, mindB]
          refine WF.of e_lis_tupleL ?_
          cases ho : lenB h.stands.length o
          · simp [perB_len ho]
          obtain ⟨os, rfl, hol⟩ := lenB_of ho
          simp
          refine WF.of e_lis_tupleL ?_
          cases hl : lenB h.stands.length l
          · simp [perB_len hl]
          obtain ⟨ls, rfl, hll⟩ := lenB_of hl
          simp
          rw [trip_any hol hll]
          refine WFor_inv (fun i => PyData.tuple [pStand (h.stands.getD i []), os.getD i .none, ls.getD i .none]) (List.range h.stands.length) (fun i ρ s' => s' = s ∧ (∀ q, q < i → tupB m (oddsB (h.stands.getD q []).length) (os.getD q .none) = true ∧ tupB (h.stands.getD q []).length (tupB m (betB m)) (ls.getD q .none) = true) ∧ ∃ x2 x3 x4 x5 x6, ρ = [some (.d (pHouse h)), some (.d (.tuple [.int (m : Int), .tuple os, .tuple ls])), x2, x3, x4, x5, x6]) ⟨rfl, fun q hq => absurd hq (by omega), _, _, _, _, _, rfl⟩ ?_ ?_
          · rintro t i ρ s' hxi ⟨rfl, hb, x2, x3, x4, x5, x6, rfl⟩
            obtain ⟨rfl, hi⟩ := range_at hxi
            have hst9 := h9 _ (stand_mem hi)
            have szi : szD K (os.getD i .none) = true := sz_at (szD_tup.mp szo)
            have no : (tupB m (oddsB (h.stands.getD i []).length) (os.getD i .none) && tupB (h.stands.getD i []).length (tupB m (betB m)) (ls.getD i .none)) = false → (perB h (fun n => tupB m (oddsB n)) (PyData.tuple os) && perB h (fun n => tupB n (tupB m (betB m))) (PyData.tuple ls)) = false := fun e => by
              rw [perB_yes hol, perB_yes hll]
              rw [Bool.and_eq_false_iff] at e ⊢
              rcases e with e | e
              · left; rw [List.all_eq_false]; exact ⟨i, List.mem_range.mpr hi, by rw [e]; decide⟩
              · right; rw [List.all_eq_false]; exact ⟨i, List.mem_range.mpr hi, by rw [e]; decide⟩
            have yes : tupB m (oddsB (h.stands.getD i []).length) (os.getD i .none) = true → tupB (h.stands.getD i []).length (tupB m (betB m)) (ls.getD i .none) = true → ∀ q, q < i + 1 → tupB m (oddsB (h.stands.getD q []).length) (os.getD q .none) = true ∧ tupB (h.stands.getD q []).length (tupB m (betB m)) (ls.getD q .none) = true := fun a b q hq => by
              by_cases e : q = i
              · subst e; exact ⟨a, b⟩
              · exact hb q (by omega)
            generalize os.getD i .none = y at *
            generalize ls.getD i .none = z at *
            generalize h.stands.getD i [] = st at *
            simp
            refine WF.of e_lis_tupleL ?_
            cases hy : lenB m y
            · simp [no (by rw [tupB_len hy]; rfl)]
            obtain ⟨ys, rfl, hyl⟩ := lenB_of hy
            simp [pStand]
            refine WF.of e_lis_tupleL ?_
            cases hz : lenB st.length z
            · simp [no (by rw [tupB_len hz, Bool.and_false])]
            obtain ⟨zs, rfl, hzl⟩ := lenB_of hz
            simp
            refine WLc_all (fun x => .bool (oddsB st.length x)) ys (fun x hx => ?_) ?_
            · simp
              exact WF.of (e_lis_oddsA hst9 (szRow_of (szD_tup.mp szi x hx)) hK) (by simp)
            refine ⟨szle (by rw [List.length_map]; omega), ?_⟩
            cases ha : ys.all fun x => oddsB st.length x
            · simp [fAll_of, ha, no (by rw [tupB_yes hyl, ha]; rfl)]
            simp [fAll_of, ha, -List.getD_eq_getElem?_getD]
            have ty : tupB m (oddsB st.length) (.tuple ys) = true := by rw [tupB_yes hyl, ha]
            refine WFor_of (WFor_inv (enc := id) zs (fun j ρ s2 => s2 = s' ∧ (∀ q, q < j → tupB m (betB m) (zs.getD q .none) = true) ∧ ∃ x5 x6, ρ = [some (.d (pHouse h)), some (.d (.tuple [.int (m : Int), .tuple os, .tuple ls])), some (.d (.tuple (st.map pDeed))), some (.d (.tuple ys)), some (.d (.tuple zs)), x5, x6]) ⟨rfl, fun q hq => absurd hq (by omega), _, _, rfl⟩ ?_ ?_)
            · rintro j z ρ s2 hz2 ⟨rfl, hbz, x5, x6, rfl⟩
              have hj := (List.getElem?_eq_some_iff.mp hz2).1
              have ez : zs.getD j .none = z := by rw [List.getD_eq_getElem?_getD, hz2]; rfl
              have bad : tupB m (betB m) z = false → (perB h (fun n => tupB m (oddsB n)) (PyData.tuple os) && perB h (fun n => tupB n (tupB m (betB m))) (PyData.tuple ls)) = false := fun e => no (by
                rw [Bool.and_eq_false_iff]; right
                rw [tupB_yes hzl, List.all_eq_false]
                exact ⟨z, List.mem_of_getElem? hz2, by rw [e]; decide⟩)
              simp
              refine WF.of e_lis_tupleL ?_
              cases hzz : lenB m z
              · simp [bad (tupB_len hzz)]
              obtain ⟨ws, rfl, hwl⟩ := lenB_of hzz
              simp
              refine WLc_all (fun x => .bool (betB m x)) ws (fun x hx => ?_) ?_
              · simp
                refine WF.of e_lis_wholeA ?_
                cases x with
                | int k =>
                  simp [intB, betB]
                  by_cases h0 : 0 ≤ k
                  · simp [h0]
                  · simp [h0]
                | _ => simp [intB, betB]
              refine ⟨szle (by rw [List.length_map]; omega), ?_⟩
              cases hw : ws.all (betB m)
              · simp [fAll_of, hw, bad (by rw [tupB_yes hwl, hw])]
              · simp [fAll_of, hw, -List.getD_eq_getElem?_getD]
                intro q hq
                by_cases e : q = j
                · subst e; rw [hz2]; exact (tupB_yes hwl).trans hw
                · have := hbz q (by omega); rwa [List.getD_eq_getElem?_getD] at this
            · rintro ρ s2 ⟨rfl, hbz, x5, x6, rfl⟩
              have tz : tupB st.length (tupB m (betB m)) (.tuple zs) = true := by
                rw [tupB_yes hzl, List.all_eq_true]
                intro x hx
                obtain ⟨q, hq, rfl⟩ := List.mem_iff_getElem.mp hx
                have := hbz q hq
                rwa [List.getD_eq_getElem?_getD, List.getElem?_eq_getElem hq] at this
              simp [-List.getD_eq_getElem?_getD]
              exact yes ty tz
          · rintro ρ s' ⟨rfl, hb, x2, x3, x4, x5, x6, rfl⟩
            rw [List.length_range] at hb
            have a1 : perB h (fun n => tupB m (oddsB n)) (.tuple os) = true := by
              rw [perB_yes hol, List.all_eq_true]; exact fun q hq => (hb q (List.mem_range.mp hq)).1
            have a2 : perB h (fun n => tupB n (tupB m (betB m))) (.tuple ls) = true := by
              rw [perB_yes hll, List.all_eq_true]; exact fun q hq => (hb q (List.mem_range.mp hq)).2
            simp [a1, a2]
        · have e : (decide (1 ≤ m) && decide (m ≤ 4)) = false := by simpa using fun a => by omega
          simp [e, mindB]
          by_cases h1 : 1 ≤ m
          · simp [h1, show ¬ m ≤ 4 by omega]
          · simp [h1]
      | _ => simp [mindB, intB]
    · simp [show ¬ (xs.length : Int) = 3 by omega, mindB_no hl]
  | _ => simp [mindB]
end
end WW
namespace Dh
open PySem PySem.Spec L2 PySem.W
structure RMind where
  m : Nat
  odds : List (List (List Rat))
  lead : List (List (List Nat))
def pMind (μ : RMind) : PyData := .tuple [.int (μ.m : Nat), .tuple (μ.odds.map fun rs => .tuple (rs.map pQs)), .tuple (μ.lead.map fun ds => .tuple (ds.map fun row => .tuple (row.map iN)))]
structure MindOk (h : RHouse) (μ : RMind) : Prop where
  m1 : 1 ≤ μ.m
  m3 : μ.m ≤ 4
  ol : μ.odds.length = h.stands.length
  orow : ∀ i, i < h.stands.length → (μ.odds.getD i []).length = μ.m
  oeach : ∀ i, i < h.stands.length → ∀ a, a < μ.m → OddsOk (h.stands.getD i []).length ((μ.odds.getD i []).getD a [])
  ll : μ.lead.length = h.stands.length
  lrow : ∀ i, i < h.stands.length → (μ.lead.getD i []).length = (h.stands.getD i []).length
  leach : ∀ i, i < h.stands.length → ∀ row ∈ μ.lead.getD i [], row.length = μ.m ∧ ∀ x ∈ row, x < μ.m
def pOds (rs : List (List Rat)) : PyData := .tuple (rs.map pQs)
def pRow (row : List Nat) : PyData := .tuple (row.map iN)
def pLds (ds : List (List Nat)) : PyData := .tuple (ds.map pRow)
theorem pMind_eq {μ : RMind} : pMind μ = .tuple [.int (μ.m : Nat), .tuple (μ.odds.map pOds), .tuple (μ.lead.map pLds)] := rfl
section
variable {h : RHouse} {plan : List (List Rat)}
def mindOf (plan : List (List Rat)) : RMind := ⟨1, plan.map fun r => [r], plan.map fun r => List.replicate r.length [0]⟩
theorem mo_odds {i : Nat} (hi : i < plan.length) : (mindOf plan).odds.getD i [] = [plan.getD i []] := by
  unfold mindOf
  rw [List.getD_eq_getElem?_getD, List.getElem?_map, getD_at (d := []) hi]; rfl
theorem mo_lead {i : Nat} (hi : i < plan.length) : (mindOf plan).lead.getD i [] = List.replicate (plan.getD i []).length [0] := by
  unfold mindOf
  rw [List.getD_eq_getElem?_getD, List.getElem?_map, getD_at (d := []) hi]; rfl
theorem mindOf_ok (hl : plan.length = h.stands.length) (hr : ∀ i, i < h.stands.length → OddsOk (h.stands.getD i []).length (plan.getD i [])) : MindOk h (mindOf plan) where
  m1 := Nat.le_refl _
  m3 := by show 1 ≤ 4; decide
  ol := by simp [mindOf, hl]
  orow := fun i hi => by rw [mo_odds (by omega)]; rfl
  oeach := fun i hi a ha => by
    have e : a = 0 := by have : (mindOf plan).m = 1 := rfl; omega
    subst e
    rw [mo_odds (by omega)]
    exact hr i hi
  ll := by simp [mindOf, hl]
  lrow := fun i hi => by rw [mo_lead (by omega), List.length_replicate, (hr i hi).len]
  leach := fun i hi row hrow => by
    rw [mo_lead (by omega)] at hrow
    rw [List.eq_of_mem_replicate hrow]
    refine ⟨rfl, fun x hx => ?_⟩
    rw [List.mem_singleton.mp hx]
    show 0 < 1
    decide
end
theorem qsum_nonneg0 : ∀ l : List Rat, (∀ q ∈ l, 0 ≤ q) → 0 ≤ qsum l
  | [], _ => by rw [show qsum [] = 0 from rfl]; exact Rat.le_refl
  | x :: l, h => by
    rw [qsum_cons]
    exact Rat.add_nonneg (h x List.mem_cons_self) (qsum_nonneg0 l fun q hq => h q (List.mem_cons_of_mem _ hq))
theorem qsum_zero_all : ∀ l : List Rat, (∀ q ∈ l, 0 ≤ q) → qsum l = 0 → ∀ q ∈ l, q = 0
  | [], _, _ => fun q hq => by cases hq
  | x :: l, h, e => by
    rw [qsum_cons] at e
    have a := h x List.mem_cons_self
    have b := qsum_nonneg0 l fun q hq => h q (List.mem_cons_of_mem _ hq)
    have c : x = 0 := by grind
    have d : qsum l = 0 := by grind
    intro q hq
    rcases List.mem_cons.mp hq with rfl | hq
    · exact c
    · exact qsum_zero_all l (fun q hq => h q (List.mem_cons_of_mem _ hq)) d q hq
theorem le_qsum0 : ∀ l : List Rat, (∀ q ∈ l, 0 ≤ q) → ∀ q ∈ l, q ≤ qsum l
  | [], _ => fun q hq => by cases hq
  | x :: l, h => fun q hq => by
    rw [qsum_cons]
    have a := h x List.mem_cons_self
    have b := qsum_nonneg0 l fun q hq => h q (List.mem_cons_of_mem _ hq)
    rcases List.mem_cons.mp hq with rfl | hq
    · grind
    · have := le_qsum0 l (fun q hq => h q (List.mem_cons_of_mem _ hq)) q hq
      grind
theorem one_rest : ∀ l : List Rat, (∀ q ∈ l, 0 ≤ q) → qsum l = 1 → (1 : Rat) ∈ l → ∀ q ∈ l, q = 0 ∨ q = 1
  | [], _, _ => fun h => by cases h
  | x :: l, h, e => fun h1 => by
    have hl : ∀ q ∈ l, 0 ≤ q := fun q hq => h q (List.mem_cons_of_mem _ hq)
    have a := h x List.mem_cons_self
    have b := qsum_nonneg0 l hl
    rw [qsum_cons] at e
    by_cases q1 : x = 1
    · have z := qsum_zero_all l hl (by grind)
      intro q hq
      rcases List.mem_cons.mp hq with rfl | hq
      · exact .inr q1
      · exact .inl (z q hq)
    · have m1 : (1 : Rat) ∈ l := by
        rcases List.mem_cons.mp h1 with e1 | e1
        · exact absurd e1.symm q1
        · exact e1
      have g := le_qsum0 l hl 1 m1
      have x0 : x = 0 := by grind
      intro q hq
      rcases List.mem_cons.mp hq with rfl | hq
      · exact .inl x0
      · exact one_rest l hl (by grind) m1 q hq
theorem some_one : ∀ l : List Rat, (∀ q ∈ l, q = 0 ∨ q = 1) → qsum l ≠ 0 → (1 : Rat) ∈ l
  | [], _, e => absurd rfl e
  | x :: l, h, e => by
    rcases h x List.mem_cons_self with rfl | rfl
    · rw [qsum_cons, Rat.zero_add] at e
      exact List.mem_cons_of_mem _ (some_one l (fun q hq => h q (List.mem_cons_of_mem _ hq)) e)
    · exact List.mem_cons_self
/-- where a row is sure -/
def sureAt (l : List Rat) : Option Nat := (List.range l.length).find? fun i => decide (l.getD i 0 = 1)
theorem sureAt_some {l : List Rat} : (sureAt l).isSome = true ↔ (1 : Rat) ∈ l := by
  unfold sureAt
  rw [List.find?_isSome]
  constructor
  · rintro ⟨i, hi, e⟩
    have := of_decide_eq_true e
    rw [← this]
    exact List.mem_of_getElem? (getD_at (List.mem_range.mp hi))
  · intro h
    obtain ⟨i, hi, e⟩ := List.mem_iff_getElem.mp h
    exact ⟨i, List.mem_range.mpr hi, by rw [List.getD_eq_getElem?_getD, List.getElem?_eq_getElem hi, e]; rfl⟩
theorem sureAt_spec {l : List Rat} {j : Nat} (h : sureAt l = some j) : j < l.length ∧ l.getD j 0 = 1 ∧ ∀ i, i < j → l.getD i 0 ≠ 1 := by
  unfold sureAt at h
  rw [List.find?_range_eq_some] at h
  obtain ⟨a, b, c⟩ := h
  exact ⟨List.mem_range.mp b, of_decide_eq_true a, fun i hi => by have := c i hi; simpa using this⟩
theorem OddsOk.plain {n : Nat} {l : List Rat} (ok : OddsOk n l) : (l.all fun q => decide (q = 0) || decide (q = 1)) = (sureAt l).isSome := by
  have key : (l.all fun q => decide (q = 0) || decide (q = 1)) = true ↔ (sureAt l).isSome = true := by
    rw [sureAt_some, List.all_eq_true]
    constructor
    · intro h
      exact some_one l (fun q hq => by simpa using h q hq) (by rw [ok.one]; decide)
    · intro h q hq
      have := one_rest l (fun q hq => (ok.each q hq).1) ok.one h q hq
      simpa using this
  cases h : (sureAt l).isSome
  · rw [h] at key
    simpa using key
  · exact key.mpr h
theorem head_filter_sure {l : List Rat} : ((List.range l.length).filter fun i => decide (l.getD i 0 = 1)).head? = sureAt l := by
  rw [List.head?_filter]; rfl
theorem fIdx_sure {l : List Rat} {j : Nat} (h : sureAt l = some j) (hl : l.length ≤ 100) (hb : ∀ q ∈ l, QLt 100 q) : fIdxT (.d (pQs l)) (.d (pQ 1)) = some (.d (.int (j : Int))) := by
  obtain ⟨h1, h2, h3⟩ := sureAt_spec h
  have e : (l.map pQ).findIdx? (fun z => PyData.eqv z (pQ 1)) = some j := by
    rw [List.findIdx?_eq_some_iff_getElem]
    refine ⟨by rw [List.length_map]; exact h1, ?_, fun i hi => ?_⟩
    · rw [List.getElem_map, eqv_pQ]
      rw [List.getD_eq_getElem?_getD, List.getElem?_eq_getElem h1] at h2
      simpa using h2
    · have hil : i < l.length := by omega
      have := h3 i hi
      rw [List.getD_eq_getElem?_getD, List.getElem?_eq_getElem hil] at this
      rw [List.getElem_map, eqv_pQ]
      simpa using this
  have ok : eqOk (.tuple (l.map pQ)) = true := (Pn.qs0 (B := 100) (n := 100) (by decide) (by decide) hb hl).eqOk (by decide)
  show (if eqOk (.tuple (l.map pQ)) = true ∧ eqOk (pQ 1) = true then _ else none) = _
  rw [if_pos ⟨ok, eqOk_pQ⟩, e]
  rfl
theorem fIn_01 {q : Rat} : fIn false (.d (pQ q)) (.d (.tuple [pQ 0, pQ 1])) = some (.d (.bool (decide (q = 0) || decide (q = 1)))) := by
  have ok : eqOk (.tuple [pQ 0, pQ 1]) = true := by decide
  show (if eqOk (pQ q) = true ∧ eqOk (.tuple [pQ 0, pQ 1]) = true then some (R.d (.bool (if false then !([pQ 0, pQ 1].any fun z => PyData.eqv z (pQ q)) else [pQ 0, pQ 1].any fun z => PyData.eqv z (pQ q)))) else none) = _
  rw [if_pos ⟨eqOk_pQ, ok⟩]
  simp only [List.any_cons, List.any_nil, Bool.or_false, eqv_pQ]
  simp [eq_comm]
def chOf (plan : List (List Rat)) : PyData := if (plan.all fun l => (sureAt l).isSome) = true then .tuple (plan.map fun l => .int (((sureAt l).getD 0 : Nat) : Int)) else .none
def dblOf (plan : List (List Rat)) : Int := ((plan.map fun l => (l.filter fun q => !decide (q = 0)).length).sum : Nat) - (plan.length : Nat)
structure PlOk (h : RHouse) (plan : List (List Rat)) : Prop where
  len : plan.length = h.stands.length
  row : ∀ i, i < h.stands.length → OddsOk (h.stands.getD i []).length (plan.getD i [])
theorem PlOk.mem {h : RHouse} {plan : List (List Rat)} (p : PlOk h plan) {l : List Rat} (hl : l ∈ plan) : ∃ st ∈ h.stands, OddsOk st.length l := by
  obtain ⟨i, hi, rfl⟩ := List.mem_iff_getElem.mp hl
  have := p.row i (by rw [← p.len]; exact hi)
  rw [List.getD_eq_getElem?_getD (l := plan), List.getElem?_eq_getElem hi] at this
  exact ⟨_, stand_mem (by rw [← p.len]; exact hi), this⟩
theorem planOf_pl {h : RHouse} {c : List Nat} (hc : ChoiceOk h c) : PlOk h (planOf h c) where
  len := by simp [planOf]
  row := fun i hi => by
    have e : (planOf h c).getD i [] = unitRow (h.stands.getD i []).length (c.getD i 0) := by
      unfold planOf
      rw [List.getD_eq_getElem?_getD, List.getElem?_map, List.getElem?_range hi]; rfl
    rw [e]
    exact unitRow_ok (hc.lt hi)
theorem filterMap_if {α β : Type} {p : α → Bool} {f : α → β} : ∀ l : List α, (l.filterMap fun x => if p x = true then some (f x) else none) = (l.filter p).map f
  | [] => rfl
  | x :: l => by
    rw [List.filterMap_cons, List.filter_cons]
    by_cases e : p x = true
    · rw [if_pos e, if_pos e, List.map_cons, filterMap_if l]
    · rw [if_neg e, if_neg e, filterMap_if l]
theorem fSum_f {ns : List Nat} : fSum [.f (ns.map iN)] = some (.d (.int ((ns.sum : Nat) : Int))) := by
  have := fSum_b (ns := ns)
  unfold fSum at this ⊢
  simpa using this
end Dh
namespace WW
open PySem PySem.Spec L2 PySem.W Dh
theorem w_mindful {N D P : Nat} {h : RHouse} {k : Nat} {s : Sto} {m : Nat} (ok : HouseOk N D P h) (hN : N ≤ 9) (hD : D ≤ 4) (k1 : 1 ≤ k) (k3 : k ≤ 4) (v : Vs (m + 100 * h.stands.length) s) :
    WF f_law_mindful [.s, .d (pHouse h), .d (.int (k : Int))] s fun r s' => ∃ μ : RMind, r = .d (pMind μ) ∧ MindOk h μ ∧ μ.m = k ∧ Vs m s' := by
  have hn := ok.nN
  refine WF.body rfl ?_
  simp [m_law_mindful, List.replicate_succ, pHouse]
  refine WFor_inv pStand h.stands (fun i ρ s' => ∃ (os : List (List (List Rat))) (ls : List (List (List Nat))) (x5 x6 x7 x8 x9 : Option Cl), ρ = [some .s, some (.d (pHouse h)), some (.d (.int (k : Int))), some (.o (os.map pOds)), some (.o (ls.map pLds)), x5, x6, x7, x8, x9] ∧
      os.length = i ∧ ls.length = i ∧ (∀ q, q < i → (os.getD q []).length = k ∧ (∀ r ∈ os.getD q [], OddsOk (h.stands.getD q []).length r) ∧ (ls.getD q []).length = (h.stands.getD q []).length ∧ ∀ row ∈ ls.getD q [], row.length = k ∧ ∀ x ∈ row, x < k) ∧ Vs (m + 100 * (h.stands.length - i)) s') ⟨[], [], none, none, none, none, none, rfl, rfl, rfl, fun q hq => by omega, v⟩ ?_ ?_
  · rintro i st ρ s1 hst ⟨os, ls, x5, x6, x7, x8, x9, rfl, hol, hll, hq, v⟩
    have hi : i < h.stands.length := (List.getElem?_eq_some_iff.mp hst).1
    obtain ⟨d1, d2, _⟩ := ok.each st (List.mem_of_getElem? hst)
    have est : h.stands.getD i [] = st := by rw [List.getD_eq_getElem?_getD, hst]; rfl
    simp
    rw [show range1 [.d (.int (k : Int))] = _ from range1_nat (n := k) (by omega)]
    simp
    -- the odds of the minds
    refine WFor_inv (fun a : Nat => PyData.int a) (List.range k) (fun a ρ s' => ∃ (rs : List (List Rat)) (x7 : Option Cl), ρ = [some .s, some (.d (pHouse h)), some (.d (.int (k : Int))), some (.o (os.map pOds)), some (.o (ls.map pLds)), some (.d (pStand st)), some (.o (rs.map pQs)), x7, x8, x9] ∧ rs.length = a ∧ (∀ r ∈ rs, OddsOk st.length r) ∧ Vs (m + 100 * (h.stands.length - (i + 1)) + 20 + 20 * (k - a)) s') ⟨[], x7, rfl, rfl, by simp, v.mono (by omega)⟩ ?_ ?_
    · rintro a x ρ s2 ha ⟨rs, x7, rfl, hrl, hro, v⟩
      obtain ⟨rfl, ha⟩ := range_at ha
      simp [pStand]
      refine WF.use (w_odds (n := st.length) (m := m + 100 * (h.stands.length - (i + 1)) + 20 + 20 * (k - (x + 1))) (by omega) (by omega) (v.mono (by omega))) ?_
      rintro _ s3 ⟨l, rfl, ol, v3⟩
      simp [hrl, szlt (show x ≤ 1000 by omega)]
      refine ⟨rs ++ [l], by simp, by simp [hrl], fun r hr => ?_, v3⟩
      rcases List.mem_append.mp hr with hr | hr
      · exact hro r hr
      · rw [List.mem_singleton.mp hr]; exact ol
    · rintro ρ s2 ⟨rs, x7, rfl, hrl, hro, v⟩
      rw [List.length_range] at hrl v
      simp [hol, szlt (show i ≤ 1000 by omega), pStand]
      -- the leads of the deeds
      refine WFor_inv pDeed st (fun j ρ s' => ∃ (ds : List (List Nat)) (x7 x8 x9 : Option Cl), ρ = [some .s, some (.d (pHouse h)), some (.d (.int (k : Int))), some (.o ((os ++ [rs]).map pOds)), some (.o (ls.map pLds)), some (.d (pStand st)), some (.o (ds.map pRow)), x7, x8, x9] ∧ ds.length = j ∧ (∀ row ∈ ds, row.length = k ∧ ∀ x ∈ row, x < k) ∧ Vs (m + 100 * (h.stands.length - (i + 1)) + 4 * (st.length - j)) s') ⟨[], x7, x8, x9, by simp [pOds, pStand], rfl, by simp, v.mono (by omega)⟩ ?_ ?_
      · rintro j d ρ s3 hd ⟨ds, x7, x8, x9, rfl, hdl, hdo, v⟩
        have hj : j < st.length := (List.getElem?_eq_some_iff.mp hd).1
        simp
        rw [show range1 [.d (.int (k : Int))] = _ from range1_nat (n := k) (by omega)]
        simp
        refine WFor_inv (fun a : Nat => PyData.int a) (List.range k) (fun a ρ s' => ∃ (row : List Nat) (x7 : Option Cl), ρ = [some .s, some (.d (pHouse h)), some (.d (.int (k : Int))), some (.o ((os ++ [rs]).map pOds)), some (.o (ls.map pLds)), some (.d (pStand st)), some (.o (ds.map pRow)), x7, some (.d (pDeed d)), some (.o (row.map iN))] ∧ row.length = a ∧ (∀ x ∈ row, x < k) ∧ Vs (m + 100 * (h.stands.length - (i + 1)) + 4 * (st.length - (j + 1)) + (k - a)) s') ⟨[], x7, by simp, rfl, by simp, v.mono (by omega)⟩ ?_ ?_
        · rintro a x ρ s4 ha ⟨row, x7, rfl, hrw, hrx, v⟩
          obtain ⟨rfl, ha⟩ := range_at ha
          simp
          refine WF.use (w_pick (m := m + 100 * (h.stands.length - (i + 1)) + 4 * (st.length - (j + 1)) + (k - (x + 1))) (v.mono (by omega)) (by omega) (by omega)) ?_
          rintro _ s5 ⟨t, rfl, t0, t1, v5⟩
          obtain ⟨t, rfl⟩ := Int.eq_ofNat_of_zero_le t0
          simp [hrw, szlt (show x ≤ 1000 by omega)]
          refine ⟨row ++ [t], by simp [iN], by simp [hrw], fun y hy => ?_, v5⟩
          rcases List.mem_append.mp hy with hy | hy
          · exact hrx y hy
          · rw [List.mem_singleton.mp hy]; omega
        · rintro ρ s4 ⟨row, x7, rfl, hrw, hrx, v⟩
          rw [List.length_range] at hrw v
          simp [hdl, szlt (show j ≤ 1000 by omega)]
          refine ⟨ds ++ [row], by simp [pRow], by simp [hdl], fun y hy => ?_, v.mono (by omega)⟩
          rcases List.mem_append.mp hy with hy | hy
          · exact hdo y hy
          · rw [List.mem_singleton.mp hy]; exact ⟨hrw, hrx⟩
      · rintro ρ s3 ⟨ds, x7, x8, x9, rfl, hdl, hdo, v⟩
        have fin : ∀ q, q < i + 1 → ((os ++ [rs]).getD q []).length = k ∧ (∀ r ∈ (os ++ [rs]).getD q [], OddsOk (h.stands.getD q []).length r) ∧ ((ls ++ [ds]).getD q []).length = (h.stands.getD q []).length ∧ ∀ row ∈ (ls ++ [ds]).getD q [], row.length = k ∧ ∀ x ∈ row, x < k := fun q hqi => by
          by_cases e : q = i
          · subst e
            rw [est, List.getD_eq_getElem?_getD, List.getElem?_append_right (by omega), hol, Nat.sub_self, List.getD_eq_getElem?_getD (l := ls ++ [ds]), List.getElem?_append_right (by omega), hll, Nat.sub_self]
            exact ⟨hrl, hro, hdl, hdo⟩
          · have := hq q (by omega)
            rw [List.getD_eq_getElem?_getD (l := os ++ [rs]), List.getElem?_append_left (by omega), ← List.getD_eq_getElem?_getD, List.getD_eq_getElem?_getD (l := ls ++ [ds]), List.getElem?_append_left (by omega), ← List.getD_eq_getElem?_getD]
            exact this
        simp [hll, szlt (show i ≤ 1000 by omega)]
        exact ⟨os ++ [rs], ls ++ [ds], ⟨by simp [pOds], by simp [pLds]⟩, by simp [hol], by simp [hll], fun q hqi => by simpa only [List.getD_eq_getElem?_getD] using fin q hqi, v.mono (by omega)⟩
  · rintro ρ s1 ⟨os, ls, x5, x6, x7, x8, x9, rfl, hol, hll, hq, v⟩
    simp [sz3]
    refine ⟨⟨k, os, ls⟩, by rw [pMind_eq], ⟨k1, k3, hol, fun i hi => (hq i hi).1, fun i hi a ha => ?_, hll, fun i hi => (hq i hi).2.2.1, fun i hi row hr => (hq i hi).2.2.2 row hr⟩, rfl, v.mono (by omega)⟩
    have z := hq i hi
    exact z.2.1 _ (List.mem_of_getElem? (getD_at (by rw [z.1]; exact ha)))
theorem e_minded_of {N D P : Nat} {h : RHouse} {plan : List (List Rat)} {s : Sto} (ok : HouseOk N D P h) (hN : N ≤ 8) (hD : D ≤ 4) (hp : h.pays ≤ 4) (hl : plan.length = h.stands.length) (hr : ∀ i, i < h.stands.length → OddsOk (h.stands.getD i []).length (plan.getD i [])) :
    f_minded_of [.d (pHouse h), .d (pPlan plan)] s = some (.d (pMind (mindOf plan)), s) := by
  have hn := ok.nN
  have rl : ∀ r ∈ plan, 1 ≤ r.length ∧ r.length ≤ 4 := fun r hrm => by
    obtain ⟨i, hi⟩ := List.getElem?_of_mem hrm
    have hil : i < h.stands.length := by rw [← hl]; exact (List.getElem?_eq_some_iff.mp hi).1
    have a := (hr i hil).len
    have b := ok.each _ (stand_mem hil)
    rw [List.getD_eq_getElem?_getD (l := plan), hi] at a
    dsimp only [Option.getD_some] at a
    omega
  refine WF.eq (WF.body rfl ?_)
  simp [m_minded_of]
  refine WF.of (e_check_house ok hN hD hp) ?_
  simp
  refine WF.of (e_check_still hl hr (by omega) fun st hst => by have := (ok.each st hst).2.1; omega) ?_
  simp
  refine WF.of (show f_minded_by [.d (pPlan plan)] s = some (.d (pMind (mindOf plan)), s) from WF.eq (WF.body rfl ?_)) (by simp)
  simp [m_minded_by, List.replicate_succ, pPlan]
  refine WLc_map pQs (fun r => pOds [r]) plan (fun r hrm => ?_) ?_
  · simp [sz1, pOds]
  refine ⟨szle (by rw [List.length_map]; omega), ?_⟩
  simp
  refine WLc_map pQs (fun r => pLds (List.replicate r.length [0])) plan (fun r hrm => ?_) ?_
  · have := rl r hrm
    simp [sz1, pQs]
    rw [fMul_rep (by omega) (by omega)]
    simp [pLds, pRow, iN]
  refine ⟨szle (by rw [List.length_map]; omega), ?_⟩
  simp [sz3, pMind_eq, mindOf, Function.comp_def]
section
variable {h : RHouse} {plan : List (List Rat)} {s : Sto}
theorem e_choice_by (p : PlOk h plan) (hn : h.stands.length ≤ 9) (h9 : ∀ st ∈ h.stands, st.length ≤ 9) : f_choice_by [.d (pPlan plan)] s = some (.d (chOf plan), s) := by
  have hlen : ∀ l ∈ plan, l.length ≤ 9 := fun l hl => by
    obtain ⟨st, hst, o⟩ := p.mem hl
    rw [o.len]; exact h9 st hst
  have hfl : (plan.flatMap fun l => l.map fun q => PyData.bool (decide (q = 0) || decide (q = 1))) = (plan.flatMap id).map fun q => PyData.bool (decide (q = 0) || decide (q = 1)) := by
    rw [List.map_flatMap]; rfl
  have hsz : (plan.flatMap id).length ≤ 81 := by
    rw [List.length_flatMap]
    have := sum_le (b := 9) (plan.map fun l => (id l).length) (fun n hn => by
      obtain ⟨l, hl, rfl⟩ := List.mem_map.mp hn
      exact hlen l hl)
    rw [List.length_map, p.len] at this
    have := Nat.mul_le_mul_right 9 hn
    omega
  have hall : ((plan.flatMap id).all fun q => decide (q = 0) || decide (q = 1)) = plan.all fun l => (sureAt l).isSome := by
    rw [List.all_flatMap]
    have e : ∀ l ∈ plan, ((id l).all fun q => decide (q = 0) || decide (q = 1)) = (sureAt l).isSome := fun l hl => by
      obtain ⟨st, hst, o⟩ := p.mem hl
      exact o.plain
    apply Bool.eq_iff_iff.mpr
    rw [List.all_eq_true, List.all_eq_true]
    exact ⟨fun a l hl => by rw [← e l hl]; exact a l hl, fun a l hl => by rw [e l hl]; exact a l hl⟩
  refine WF.eq (WF.body rfl ?_)
  simp [m_choice_by, List.replicate_succ, pPlan]
  refine WLc2_map pQs (fun l => l.map fun q => PyData.bool (decide (q = 0) || decide (q = 1))) plan (fun l hl => ?_) ?_
  · simp [pQs]
    refine WLc_map pQ (fun q => PyData.bool (decide (q = 0) || decide (q = 1))) l (fun q hq => ?_) ?_
    · simp [show k_ZERO = pQ 0 from rfl, show k_ONE = pQ 1 from rfl, sz2, fIn_01]
    · simp
  rw [hfl]
  generalize plan.flatMap id = F at *
  refine ⟨szle (by rw [List.length_map]; omega), ?_⟩
  cases ha : plan.all fun l => (sureAt l).isSome
  · rw [ha] at hall
    simp [fAll_of, hall, chOf, ha]
  · rw [ha] at hall
    simp [fAll_of, hall]
    refine WLc_map pQs (fun l => PyData.int (((sureAt l).getD 0 : Nat) : Int)) plan (fun l hl => ?_) ?_
    · obtain ⟨st, hst, o⟩ := p.mem hl
      have hs := List.all_eq_true.mp ha l hl
      obtain ⟨j, hj⟩ := Option.isSome_iff_exists.mp hs
      simp [show k_ONE = pQ 1 from rfl, fIdx_sure hj (by have := hlen l hl; omega) (fun q hq => ((o.each q hq).2).mono (by decide)), hj]
    refine ⟨szle (by rw [List.length_map, p.len]; omega), ?_⟩
    simp [chOf, ha]
theorem e_lchosen_of (p : PlOk h plan) (hn : h.stands.length ≤ 9) (h9 : ∀ st ∈ h.stands, st.length ≤ 9) : f_law_chosen_of [.d (pPlan plan)] s = some (.d (chOf plan), s) := by
  have hlen : ∀ l ∈ plan, l.length ≤ 9 := fun l hl => by
    obtain ⟨st, hst, o⟩ := p.mem hl
    rw [o.len]; exact h9 st hst
  refine WF.eq (WF.body rfl ?_)
  simp [m_law_chosen_of, List.replicate_succ, pPlan]
  refine WFor_inv pQs plan (fun i ρ s' => s' = s ∧ (∀ l ∈ plan.take i, (sureAt l).isSome = true) ∧ ∃ x2 x3 x4, ρ = [some (.d (pPlan plan)), some (.o ((plan.take i).map fun l => PyData.int (((sureAt l).getD 0 : Nat) : Int))), x2, x3, x4]) ⟨rfl, by simp, _, _, _, rfl⟩ ?_ ?_
  · rintro i l ρ s' hx ⟨rfl, hb, x2, x3, x4, rfl⟩
    have hl := List.mem_of_getElem? hx
    have hi := (List.getElem?_eq_some_iff.mp hx).1
    have h99 := hlen l hl
    simp [pQs]
    rw [show range1 [.d (.int (l.length : Int))] = _ from range1_nat (by omega)]
    simp
    refine WLc_opt (fun i : Nat => PyData.int (i : Nat)) (fun i => if decide (l.getD i 0 = 1) = true then some (.int (i : Nat)) else none) (List.range l.length) (fun i hi => ?_) ?_
    · rw [List.mem_range] at hi
      simp [atI_pQs hi, sz2, show PyData.tuple [.int 1, .int 1] = pQ 1 from rfl, fEq_pQ, -List.getD_eq_getElem?_getD]
      by_cases q : l.getD i 0 = 1
      · simp [q, -List.getD_eq_getElem?_getD]
      · simp [q, -List.getD_eq_getElem?_getD]
    rw [filterMap_if]
    have hd : ((List.range l.length).filter fun i => decide (l.getD i 0 = 1)).head? = sureAt l := head_filter_sure
    have hle : ((List.range l.length).filter fun i => decide (l.getD i 0 = 1)).length ≤ 9 := by
      have := List.length_filter_le (fun i => decide (l.getD i 0 = 1)) (List.range l.length)
      rw [List.length_range] at this
      omega
    generalize (List.range l.length).filter (fun i => decide (l.getD i 0 = 1)) = F at *
    refine ⟨szle (by rw [List.length_map]; omega), ?_⟩
    cases F with
    | nil =>
      have no : (plan.all fun l => (sureAt l).isSome) = false := by
        rw [List.all_eq_false]
        exact ⟨l, hl, by rw [← hd]; simp⟩
      simp [fEq_int, chOf, no]
    | cons f F =>
      rw [List.head?_cons] at hd
      have e : plan.take (i + 1) = plan.take i ++ [l] := take_snoc hx
      have hti : (plan.take i).length = i := by rw [List.length_take]; omega
      have hz : ¬ ((F.length : Int) + 1 = 0) := by omega
      simp [fEq_int, hz, -List.map_take, hti, szlt (show i ≤ 1000 by rw [p.len] at hi; omega)]
      have hpl : plan.length ≤ 9 := by rw [p.len]; exact hn
      refine ⟨szlt (by omega), fun y hy => ?_, ?_⟩
      · rw [e] at hy
        rcases List.mem_append.mp hy with hy | hy
        · exact hb y hy
        · rw [List.mem_singleton.mp hy, ← hd]; rfl
      · rw [e, List.map_append, List.map_singleton, ← hd]
        rw [List.map_take]; rfl
  · rintro ρ s' ⟨rfl, hb, x2, x3, x4, rfl⟩
    rw [List.take_length] at hb
    simp [chOf, List.all_eq_true.mpr hb]
theorem e_doubled_by (p : PlOk h plan) (hn : h.stands.length ≤ 9) (h9 : ∀ st ∈ h.stands, st.length ≤ 9) : f_doubled_by [.d (pPlan plan)] s = some (.d (.int (dblOf plan)), s) := by
  refine WF.eq (WF.body rfl ?_)
  simp [m_doubled_by, List.replicate_succ, pPlan]
  refine WLc2_map pQs (fun l => (l.filter fun q => !decide (q = 0)).map pQ) plan (fun l hl => ?_) ?_
  · simp [pQs]
    refine WLc_opt pQ (fun q => if (!decide (q = 0)) = true then some (pQ q) else none) l (fun q hq => ?_) ?_
    · by_cases e : q = 0
      · simp [show k_ZERO = pQ 0 from rfl, fEq_pQ, e]
      · simp [show k_ZERO = pQ 0 from rfl, fEq_pQ, e]
    · rw [filterMap_if]; simp
  have el : (plan.flatMap fun l => (l.filter fun q => !decide (q = 0)).map pQ).length = (plan.map fun l => (l.filter fun q => !decide (q = 0)).length).sum := by
    rw [List.length_flatMap]
    congr 1
    exact List.map_congr_left fun l _ => List.length_map _
  have hs : (plan.map fun l => (l.filter fun q => !decide (q = 0)).length).sum ≤ 81 := by
    have := sum_le (b := 9) (plan.map fun l => (l.filter fun q => !decide (q = 0)).length) (fun n hn => by
      obtain ⟨l, hl, rfl⟩ := List.mem_map.mp hn
      obtain ⟨st, hst, o⟩ := p.mem hl
      have := List.length_filter_le (fun q => !decide (q = 0)) l
      have := h9 st hst
      have := o.len
      omega)
    rw [List.length_map, p.len] at this
    have := Nat.mul_le_mul_right 9 hn
    omega
  refine ⟨szle (by rw [el]; omega), ?_⟩
  generalize plan.flatMap (fun l => (l.filter fun q => !decide (q = 0)).map pQ) = F at *
  simp [el, dblOf]
theorem e_ldoubled (p : PlOk h plan) (hn : h.stands.length ≤ 9) (h9 : ∀ st ∈ h.stands, st.length ≤ 9) : f_law_doubled [.d (pPlan plan)] s = some (.d (.int (dblOf plan)), s) := by
  refine WF.eq (WF.body rfl ?_)
  simp [m_law_doubled, List.replicate_succ, pPlan]
  refine WLc_map pQs (fun l => iN (l.filter fun q => !decide (q = 0)).length) plan (fun l hl => ?_) ?_
  · obtain ⟨st, hst, o⟩ := p.mem hl
    have := h9 st hst
    have := o.len
    have lf := List.length_filter_le (fun q => !decide (q = 0)) l
    simp [pQs]
    refine WLc_opt pQ (fun q => if (!decide (q = 0)) = true then some (pQ q) else none) l (fun q hq => ?_) ?_
    · have q0 := (o.each q hq).1
      by_cases e : q = 0
      · subst e; simp [ix_num]
      · have : 0 < q.num := by
          have a := nonneg_num q0
          have b : q.num ≠ 0 := fun z => e (Rat.num_eq_zero.mp z)
          omega
        simp [ix_num, e, this, gGt]
    rw [filterMap_if]
    refine ⟨szle (by rw [List.length_map]; omega), ?_⟩
    simp [iN]
  refine ⟨szle (by rw [List.length_map, p.len]; omega), ?_⟩
  have e : (plan.map fun l => iN (l.filter fun q => !decide (q = 0)).length) = (plan.map fun l => (l.filter fun q => !decide (q = 0)).length).map iN := by rw [List.map_map]; rfl
  rw [e]
  simp only [dblOf]
  have sm := fSum_f (ns := plan.map fun l => (l.filter fun q => !decide (q = 0)).length)
  generalize plan.map (fun l => (l.filter fun q => !decide (q = 0)).length) = NS at *
  simp [sm]
end
end WW
namespace Dh
open PySem PySem.Spec L2 PySem.W
theorem Pn.bl {B : Nat} {b : Bool} (hB : 8 ≤ B) : Pn B 0 0 (.bool b) where
  nd := rfl
  lay := rfl
  dep := Nat.le_refl _
  sh := rfl
  short := by
    cases b
    · simp [PyData.leavesShort, PyData.shown]
    · simp [PyData.leavesShort, PyData.shown]
  wt := Nat.le_refl _
theorem Pn.no {B : Nat} (hB : 8 ≤ B) : Pn B 0 0 .none where
  nd := rfl
  lay := rfl
  dep := Nat.le_refl _
  sh := rfl
  short := by simp [PyData.leavesShort, PyData.shown]
  wt := Nat.le_refl _
theorem fEq_strs {a : Str} {neg : Bool} : fEq neg (.d (.str a)) (.d (.str a)) = some (.d (.bool (!neg))) := by
  show some (R.d (.bool (if neg then !(a == a) else a == a))) = _
  rw [beq_self_eq_true]
  cases neg <;> rfl
theorem unit_sure {m k : Nat} (hk : k < m) : sureAt (unitRow m k) = some k := by
  have hl : (unitRow m k).length = m := by simp [unitRow]
  have at' : ∀ i, i < m → (unitRow m k).getD i 0 = if i = k then 1 else 0 := fun i hi => by
    unfold unitRow
    rw [List.getD_eq_getElem?_getD, List.getElem?_map, List.getElem?_range hi]; rfl
  unfold sureAt
  rw [hl, List.find?_range_eq_some]
  refine ⟨?_, List.mem_range.mpr hk, fun j hj => ?_⟩
  · rw [at' k hk, if_pos rfl]; decide
  · rw [at' j (by omega), if_neg (by omega)]; decide
theorem filt_one {k : Nat} : ∀ m : Nat, ((List.range m).filter fun j => decide (j = k)).length = if k < m then 1 else 0
  | 0 => rfl
  | m + 1 => by
    rw [List.range_succ, List.filter_append, List.length_append, filt_one m, List.filter_cons, List.filter_nil]
    by_cases e : m = k
    · subst e; simp
    · by_cases q : k < m
      · simp [e, q, show k < m + 1 by omega]
      · simp [e, q, show ¬ k < m + 1 by omega]
theorem unit_count {m k : Nat} (hk : k < m) : ((unitRow m k).filter fun q => !decide (q = 0)).length = 1 := by
  unfold unitRow
  rw [List.filter_map, List.length_map]
  have e : ((List.range m).filter ((fun q : Rat => !decide (q = 0)) ∘ fun j => if j = k then (1 : Rat) else 0)) = (List.range m).filter fun j => decide (j = k) := by
    refine List.filter_congr fun j _ => ?_
    by_cases q : j = k
    · simp [q]
    · simp [q]
  rw [e, filt_one, if_pos hk]
section
variable {h : RHouse} {c : List Nat} {plan : List (List Rat)} {μ : RMind}
theorem chOf_planOf (hc : ChoiceOk h c) : chOf (planOf h c) = .tuple (c.map iN) := by
  have e : ∀ l ∈ planOf h c, (sureAt l).isSome = true := fun l hl => by
    unfold planOf at hl
    obtain ⟨i, hi, rfl⟩ := List.mem_map.mp hl
    rw [unit_sure (hc.lt (List.mem_range.mp hi))]; rfl
  unfold chOf
  rw [if_pos (List.all_eq_true.mpr e)]
  congr 1
  have ec : c.map iN = (List.range h.stands.length).map fun i => iN (c.getD i 0) := by
    rw [map_range (d := 0) c iN, hc.1]
  rw [ec]
  unfold planOf
  rw [List.map_map]
  refine List.map_congr_left fun i hi => ?_
  show PyData.int _ = _
  rw [unit_sure (hc.lt (List.mem_range.mp hi))]
  rfl
theorem dblOf_planOf (hc : ChoiceOk h c) : dblOf (planOf h c) = 0 := by
  unfold dblOf planOf
  rw [List.map_map, List.length_map, List.length_range]
  have e : ((List.range h.stands.length).map ((fun l : List Rat => (l.filter fun q => !decide (q = 0)).length) ∘ fun i => unitRow (h.stands.getD i []).length (c.getD i 0))) = (List.range h.stands.length).map fun _ => 1 := by
    refine List.map_congr_left fun i hi => ?_
    exact unit_count (hc.lt (List.mem_range.mp hi))
  rw [e]
  have f : ∀ n : Nat, ((List.range n).map fun _ => 1).sum = n := fun n => by
    induction n with
    | zero => rfl
    | succ n ih => rw [List.range_succ, List.map_append, List.sum_append, ih]; rfl
  rw [f]
  omega
theorem oddsB_ok {n : Nat} {l : List Rat} (o : OddsOk n l) : oddsB n (pQs l) = true := by
  unfold oddsB
  rw [rowB_pQs o.len, rowOf_pQs, o.one]
  have : (l.all fun q => decide (0 ≤ q.num)) = true := List.all_eq_true.mpr fun q hq => decide_eq_true (Rat.num_nonneg.mpr (o.each q hq).1)
  rw [this]
  rfl
theorem mindB_ok (mo : MindOk h μ) : mindB h (pMind μ) = true := by
  have hm1 := mo.m1
  have hm4 := mo.m3
  rw [pMind_eq]
  unfold mindB
  have t1 : perB h (fun n => tupB μ.m (oddsB n)) (.tuple (μ.odds.map pOds)) = true := by
    rw [perB_yes (by rw [List.length_map, mo.ol]), List.all_eq_true]
    intro i hi
    rw [List.mem_range] at hi
    rw [show (μ.odds.map pOds).getD i .none = pOds (μ.odds.getD i []) by rw [List.getD_eq_getElem?_getD, List.getElem?_map, getD_at (d := []) (by rw [mo.ol]; exact hi)]; rfl]
    unfold pOds
    rw [tupB_yes (by rw [List.length_map, mo.orow i hi]), List.all_map, List.all_eq_true]
    intro r hr
    obtain ⟨a, ha, rfl⟩ := List.mem_iff_getElem.mp hr
    have := mo.oeach i hi a (by rw [← mo.orow i hi]; exact ha)
    rw [List.getD_eq_getElem?_getD (l := μ.odds.getD i []), List.getElem?_eq_getElem ha] at this
    exact oddsB_ok this
  have t2 : perB h (fun n => tupB n (tupB μ.m (betB μ.m))) (.tuple (μ.lead.map pLds)) = true := by
    rw [perB_yes (by rw [List.length_map, mo.ll]), List.all_eq_true]
    intro i hi
    rw [List.mem_range] at hi
    rw [show (μ.lead.map pLds).getD i .none = pLds (μ.lead.getD i []) by rw [List.getD_eq_getElem?_getD, List.getElem?_map, getD_at (d := []) (by rw [mo.ll]; exact hi)]; rfl]
    unfold pLds
    rw [tupB_yes (by rw [List.length_map, mo.lrow i hi]), List.all_map, List.all_eq_true]
    intro r hr
    obtain ⟨a, b⟩ := mo.leach i hi r hr
    show tupB μ.m (betB μ.m) (pRow r) = true
    unfold pRow
    rw [tupB_yes (by rw [List.length_map, a]), List.all_map, List.all_eq_true]
    intro x hx
    have := b x hx
    show betB μ.m (.int (x : Int)) = true
    simp [betB, this]
  dsimp only
  rw [Int.toNat_natCast]
  rw [t1, t2]
  simp [show (1 : Int) ≤ (μ.m : Int) by omega, show (μ.m : Int) ≤ 4 by omega]
theorem pn_plan (p : PlOk h plan) (hn : h.stands.length ≤ 3) (h4 : ∀ st ∈ h.stands, st.length ≤ 4) : Pn 100 5 500 (pPlan plan) :=
  (Pn.tup (B := 100) (k := 2) (w := 12) (n := 3) (fun x hx => by
    obtain ⟨l, hl, rfl⟩ := List.mem_map.mp hx
    obtain ⟨st, hst, o⟩ := p.mem hl
    exact Pn.qs0 (n := 4) (by decide) (by decide) (fun q hq => (o.each q hq).2.mono (by decide)) (by rw [o.len]; exact h4 st hst)) (by rw [List.length_map, p.len]; exact hn)).mono (by decide) (by decide)
theorem pn_cho {l : List Nat} (hl : l.length ≤ 3) (hb : ∀ k ∈ l, k ≤ 9) : Pn 100 5 500 (.tuple (l.map iN)) :=
  (Pn.tup (B := 100) (k := 0) (w := 0) (n := 3) (fun x hx => by
    obtain ⟨k, hk, rfl⟩ := List.mem_map.mp hx
    have := hb k hk
    exact Pn.int0 (by decide) (by decide) (by rw [Int.natAbs_natCast]; exact Nat.lt_of_le_of_lt this (by decide))) (by rw [List.length_map]; exact hl)).mono (by decide) (by decide)
theorem sure_lt {l : List Rat} (hl : l.length ≤ 4) : (sureAt l).getD 0 ≤ 9 := by
  cases h : sureAt l with
  | none => exact Nat.zero_le _
  | some j => have := (sureAt_spec h).1; show j ≤ 9; omega
theorem pn_chOf (p : PlOk h plan) (hn : h.stands.length ≤ 3) (h4 : ∀ st ∈ h.stands, st.length ≤ 4) : Pn 100 5 500 (chOf plan) := by
  unfold chOf
  split
  · have e : (plan.map fun l => PyData.int (((sureAt l).getD 0 : Nat) : Int)) = (plan.map fun l => (sureAt l).getD 0).map iN := by rw [List.map_map]; rfl
    rw [e]
    refine pn_cho (by rw [List.length_map, p.len]; exact hn) fun k hk => ?_
    obtain ⟨l, hl, rfl⟩ := List.mem_map.mp hk
    obtain ⟨st, hst, o⟩ := p.mem hl
    exact sure_lt (by rw [o.len]; exact h4 st hst)
  · exact (Pn.no (by decide)).mono (by decide) (by decide)
theorem dbl_le (p : PlOk h plan) (hn : h.stands.length ≤ 3) (h4 : ∀ st ∈ h.stands, st.length ≤ 4) : (dblOf plan).natAbs ≤ 15 := by
  have := sum_le (b := 4) (plan.map fun l => (l.filter fun q => !decide (q = 0)).length) (fun n hn => by
    obtain ⟨l, hl, rfl⟩ := List.mem_map.mp hn
    obtain ⟨st, hst, o⟩ := p.mem hl
    have := List.length_filter_le (fun q => !decide (q = 0)) l
    have := h4 st hst
    have := o.len
    omega)
  rw [List.length_map, p.len] at this
  unfold dblOf
  rw [p.len]
  omega
theorem pn_int {i : Int} (h : i.natAbs ≤ 15) : Pn 100 5 500 (.int i) := (Pn.int0 (by decide) (by decide) (Nat.lt_of_le_of_lt h (by decide))).mono (by decide) (by decide)
theorem mo_row (mo : MindOk h μ) {rs : List (List Rat)} (hr : rs ∈ μ.odds) : rs.length ≤ 4 ∧ ∀ l ∈ rs, ∃ st ∈ h.stands, OddsOk st.length l := by
  have m4 := mo.m3
  obtain ⟨i, hi, rfl⟩ := List.mem_iff_getElem.mp hr
  have hi' : i < h.stands.length := by rw [← mo.ol]; exact hi
  have e : μ.odds.getD i [] = μ.odds[i] := by rw [List.getD_eq_getElem?_getD, List.getElem?_eq_getElem hi]; rfl
  have a := mo.orow i hi'
  have b := mo.oeach i hi'
  rw [e] at a b
  refine ⟨by omega, fun l hl => ?_⟩
  obtain ⟨k, hk, rfl⟩ := List.mem_iff_getElem.mp hl
  have := b k (by omega)
  rw [List.getD_eq_getElem?_getD (l := μ.odds[i]), List.getElem?_eq_getElem hk] at this
  exact ⟨_, stand_mem hi', this⟩
theorem mo_led (mo : MindOk h μ) (h4 : ∀ st ∈ h.stands, st.length ≤ 4) {ds : List (List Nat)} (hd : ds ∈ μ.lead) : ds.length ≤ 4 ∧ ∀ row ∈ ds, row.length ≤ 4 ∧ ∀ x ∈ row, x ≤ 9 := by
  have m4 := mo.m3
  obtain ⟨i, hi, rfl⟩ := List.mem_iff_getElem.mp hd
  have hi' : i < h.stands.length := by rw [← mo.ll]; exact hi
  have e : μ.lead.getD i [] = μ.lead[i] := by rw [List.getD_eq_getElem?_getD, List.getElem?_eq_getElem hi]; rfl
  have a := mo.lrow i hi'
  have b := mo.leach i hi'
  rw [e] at a b
  refine ⟨by rw [a]; exact h4 _ (stand_mem hi'), fun row hr => ?_⟩
  obtain ⟨b1, b2⟩ := b row hr
  exact ⟨by omega, fun x hx => by have := b2 x hx; omega⟩
theorem pn_mind (mo : MindOk h μ) (hn : h.stands.length ≤ 3) (h4 : ∀ st ∈ h.stands, st.length ≤ 4) : Pn 100 5 500 (pMind μ) := by
  have m4 := mo.m3
  rw [pMind_eq]
  refine (Pn.tup (B := 100) (k := 4) (w := 159) (n := 3) (fun x hx => ?_) (by simp)).mono (by decide) (by decide)
  simp at hx
  rcases hx with rfl | rfl | rfl
  · exact (Pn.int0 (by decide) (by decide) (by rw [Int.natAbs_natCast]; exact Nat.lt_of_le_of_lt m4 (by decide))).mono (by decide) (by decide)
  · refine (Pn.tup (B := 100) (k := 3) (w := 52) (n := 3) (fun x hx => ?_) (by rw [List.length_map, mo.ol]; exact hn)).mono (by decide) (by decide)
    obtain ⟨rs, hrs, rfl⟩ := List.mem_map.mp hx
    obtain ⟨a, b⟩ := mo_row mo hrs
    refine (Pn.tup (B := 100) (k := 2) (w := 12) (n := 4) (fun x hx => ?_) (by rw [List.length_map]; exact a)).mono (by decide) (by decide)
    obtain ⟨l, hl, rfl⟩ := List.mem_map.mp hx
    obtain ⟨st, hst, o⟩ := b l hl
    exact Pn.qs0 (n := 4) (by decide) (by decide) (fun q hq => (o.each q hq).2.mono (by decide)) (by rw [o.len]; exact h4 st hst)
  · refine (Pn.tup (B := 100) (k := 2) (w := 20) (n := 3) (fun x hx => ?_) (by rw [List.length_map, mo.ll]; exact hn)).mono (by decide) (by decide)
    obtain ⟨ds, hds, rfl⟩ := List.mem_map.mp hx
    obtain ⟨a, b⟩ := mo_led mo h4 hds
    refine (Pn.tup (B := 100) (k := 1) (w := 4) (n := 4) (fun x hx => ?_) (by rw [List.length_map]; exact a)).mono (by decide) (by decide)
    obtain ⟨row, hrow, rfl⟩ := List.mem_map.mp hx
    obtain ⟨a2, b2⟩ := b row hrow
    refine (Pn.tup (B := 100) (k := 0) (w := 0) (n := 4) (fun x hx => ?_) (by rw [List.length_map]; exact a2)).mono (by decide) (by decide)
    obtain ⟨k, hk, rfl⟩ := List.mem_map.mp hx
    have := b2 k hk
    exact Pn.int0 (by decide) (by decide) (by rw [Int.natAbs_natCast]; exact Nat.lt_of_le_of_lt this (by decide))
theorem Bx.int {n : Nat} {i : Int} : Bx (n + 1) (.int i) := .inl ⟨i, rfl⟩
theorem Bx.q {n : Nat} {q : Rat} : Bx (n + 2) (pQ q) := .inr ⟨_, rfl, by simp, fun y hy => by
  simp at hy
  rcases hy with rfl | rfl <;> exact .inl ⟨_, rfl⟩⟩
theorem Bx.qs {n : Nat} {l : List Rat} (h : l.length ≤ 9) : Bx (n + 3) (pQs l) := .inr ⟨_, rfl, by rw [List.length_map]; exact h, fun y hy => by
  obtain ⟨q, _, rfl⟩ := List.mem_map.mp hy
  exact .q⟩
theorem bx_plan (p : PlOk h plan) (hn : h.stands.length ≤ 3) (h4 : ∀ st ∈ h.stands, st.length ≤ 4) : Bx 6 (pPlan plan) := .inr ⟨_, rfl, by rw [List.length_map, p.len]; omega, fun y hy => by
  obtain ⟨l, hl, rfl⟩ := List.mem_map.mp hy
  obtain ⟨st, hst, o⟩ := p.mem hl
  exact .qs (by rw [o.len]; have := h4 st hst; omega)⟩
theorem bx_cho {n : Nat} {l : List Nat} (hl : l.length ≤ 9) : Bx (n + 2) (.tuple (l.map iN)) := .inr ⟨_, rfl, by rw [List.length_map]; exact hl, fun y hy => by
  obtain ⟨k, _, rfl⟩ := List.mem_map.mp hy
  exact .inl ⟨_, rfl⟩⟩
theorem bx_mind (mo : MindOk h μ) (hn : h.stands.length ≤ 3) (h4 : ∀ st ∈ h.stands, st.length ≤ 4) : Bx 6 (pMind μ) := by
  rw [pMind_eq]
  refine .inr ⟨_, rfl, by simp, fun y hy => ?_⟩
  simp at hy
  rcases hy with rfl | rfl | rfl
  · exact .inl ⟨_, rfl⟩
  · refine .inr ⟨_, rfl, by rw [List.length_map, mo.ol]; omega, fun y hy => ?_⟩
    obtain ⟨rs, hrs, rfl⟩ := List.mem_map.mp hy
    obtain ⟨a, b⟩ := mo_row mo hrs
    refine .inr ⟨_, rfl, by rw [List.length_map]; omega, fun y hy => ?_⟩
    obtain ⟨l, hl, rfl⟩ := List.mem_map.mp hy
    obtain ⟨st, hst, o⟩ := b l hl
    exact .qs (by rw [o.len]; have := h4 st hst; omega)
  · refine .inr ⟨_, rfl, by rw [List.length_map, mo.ll]; omega, fun y hy => ?_⟩
    obtain ⟨ds, hds, rfl⟩ := List.mem_map.mp hy
    obtain ⟨a, b⟩ := mo_led mo h4 hds
    refine .inr ⟨_, rfl, by rw [List.length_map]; omega, fun y hy => ?_⟩
    obtain ⟨row, hrow, rfl⟩ := List.mem_map.mp hy
    exact bx_cho (by have := (b row hrow).1; omega)
theorem szD_int {K : Nat} {i : Int} (h : i.natAbs < 2 ^ K) : szD K (.int i) = true := by simp only [szD, decide_eq_true_eq]; exact h
theorem szD_q {K : Nat} {q : Rat} (h : QLt K q) : szD K (pQ q) = true := szD_tup.mpr fun y hy => by
  simp at hy
  rcases hy with rfl | rfl
  · exact szD_int h.1
  · exact szD_int h.den'
theorem szD_qs {K : Nat} {l : List Rat} (h : ∀ q ∈ l, QLt K q) : szD K (pQs l) = true := szD_tup.mpr fun y hy => by
  obtain ⟨q, hq, rfl⟩ := List.mem_map.mp hy
  exact szD_q (h q hq)
theorem szD_cho {l : List Nat} (h : ∀ k ∈ l, k ≤ 9) : szD 10 (.tuple (l.map iN)) = true := szD_tup.mpr fun y hy => by
  obtain ⟨k, hk, rfl⟩ := List.mem_map.mp hy
  exact szD_int (by rw [Int.natAbs_natCast]; exact Nat.lt_of_le_of_lt (h k hk) (by decide))
theorem sz_plan (p : PlOk h plan) : szD 10 (pPlan plan) = true := szD_tup.mpr fun y hy => by
  obtain ⟨l, hl, rfl⟩ := List.mem_map.mp hy
  obtain ⟨st, hst, o⟩ := p.mem hl
  exact szD_qs fun q hq => (o.each q hq).2
theorem sz_mind (mo : MindOk h μ) (h4 : ∀ st ∈ h.stands, st.length ≤ 4) : szD 10 (pMind μ) = true := by
  have m4 := mo.m3
  rw [pMind_eq]
  refine szD_tup.mpr fun y hy => ?_
  simp at hy
  rcases hy with rfl | rfl | rfl
  · exact szD_int (by rw [Int.natAbs_natCast]; exact Nat.lt_of_le_of_lt m4 (by decide))
  · refine szD_tup.mpr fun y hy => ?_
    obtain ⟨rs, hrs, rfl⟩ := List.mem_map.mp hy
    obtain ⟨a, b⟩ := mo_row mo hrs
    refine szD_tup.mpr fun y hy => ?_
    obtain ⟨l, hl, rfl⟩ := List.mem_map.mp hy
    obtain ⟨st, hst, o⟩ := b l hl
    exact szD_qs fun q hq => (o.each q hq).2
  · refine szD_tup.mpr fun y hy => ?_
    obtain ⟨ds, hds, rfl⟩ := List.mem_map.mp hy
    obtain ⟨a, b⟩ := mo_led mo h4 hds
    refine szD_tup.mpr fun y hy => ?_
    obtain ⟨row, hrow, rfl⟩ := List.mem_map.mp hy
    exact szD_cho (b row hrow).2
theorem cho_small {N D P : Nat} (ok : HouseOk N D P h) (hD : D ≤ 9) (hc : ChoiceOk h c) : ∀ k ∈ c, k ≤ 9 := fun k hk => by
  obtain ⟨i, hi, rfl⟩ := List.mem_iff_getElem.mp hk
  have hi' : i < h.stands.length := by rw [← hc.1]; exact hi
  have a := hc.lt hi'
  have b := (ok.each _ (stand_mem hi')).2.1
  rw [List.getD_eq_getElem?_getD (l := c), List.getElem?_eq_getElem hi] at a
  dsimp only [Option.getD_some] at a
  omega
end
end Dh
namespace WW
open PySem PySem.Spec L2 PySem.W Dh
section
variable {N D P : Nat} {h : RHouse} {plan : List (List Rat)} {c : List Nat} {s : Sto} {x : PyData} {K : Nat}
theorem nine {N D P : Nat} {h : RHouse} (ok : HouseOk N D P h) (hD : D ≤ 4) : ∀ st ∈ h.stands, st.length ≤ 9 := fun st hst => by have := (ok.each st hst).2.1; omega
theorem e_still_of (ok : HouseOk N D P h) (hN : N ≤ 8) (hD : D ≤ 4) (hp : h.pays ≤ 4) (hc : ChoiceOk h c) : f_still_of [.d (pHouse h), .d (.tuple (c.map iN))] s = some (.d (pPlan (planOf h c)), s) := by
  refine WF.eq (WF.body rfl ?_)
  simp [m_still_of]
  refine WF.of (e_check_house ok hN hD hp) ?_
  simp
  refine WF.of (e_check_choice hc) ?_
  simp
  exact WF.of (e_still_by ok hc (by omega) (by omega)) (by simp)
theorem e_choice_of (ok : HouseOk N D P h) (hN : N ≤ 8) (hD : D ≤ 4) (hp : h.pays ≤ 4) (p : PlOk h plan) : f_choice_of [.d (pHouse h), .d (pPlan plan)] s = some (.d (chOf plan), s) := by
  have hn := ok.nN
  refine WF.eq (WF.body rfl ?_)
  simp [m_choice_of]
  refine WF.of (e_check_house ok hN hD hp) ?_
  simp
  refine WF.of (e_check_still p.len p.row (by omega) (nine ok hD)) ?_
  simp
  exact WF.of (e_choice_by p (by omega) (nine ok hD)) (by simp)
theorem e_doubled (ok : HouseOk N D P h) (hN : N ≤ 8) (hD : D ≤ 4) (hp : h.pays ≤ 4) (p : PlOk h plan) : f_doubled [.d (pHouse h), .d (pPlan plan)] s = some (.d (.int (dblOf plan)), s) := by
  have hn := ok.nN
  refine WF.eq (WF.body rfl ?_)
  simp [m_doubled]
  refine WF.of (e_check_house ok hN hD hp) ?_
  simp
  refine WF.of (e_check_still p.len p.row (by omega) (nine ok hD)) ?_
  simp
  exact WF.of (e_doubled_by p (by omega) (nine ok hD)) (by simp)
theorem e_lminded_of (ok : HouseOk N D P h) (hN : N ≤ 8) (hD : D ≤ 4) (p : PlOk h plan) : f_law_minded_of [.d (pHouse h), .d (pPlan plan)] s = some (.d (pMind (mindOf plan)), s) := by
  have hn := ok.nN
  refine WF.eq (WF.body rfl ?_)
  simp [m_law_minded_of, List.replicate_succ, pHouse, pPlan]
  refine WLc_map pStand (fun st => PyData.tuple (st.map fun _ => PyData.tuple [.int 0])) h.stands (fun st hst => ?_) ?_
  · have := (ok.each st hst).2.1
    simp [pStand]
    refine WLc_map pDeed (fun _ => PyData.tuple [.int 0]) st (fun d hd => ?_) ?_
    · simp [sz1]
    refine ⟨szle (by rw [List.length_map]; omega), ?_⟩
    simp
  have e : (h.stands.map fun st => PyData.tuple (st.map fun _ => PyData.tuple [.int 0])) = (plan.map fun r => List.replicate r.length [0]).map pLds := by
    rw [List.map_map]
    apply List.ext_getElem?
    intro i
    rw [List.getElem?_map, List.getElem?_map]
    by_cases hi : i < h.stands.length
    · rw [stand_at hi, getD_at (d := []) (l := plan) (by rw [p.len]; exact hi)]
      have a := (p.row i hi).len
      simp only [Option.map_some, Function.comp]
      rw [a]
      congr 1
      unfold pLds
      rw [List.map_replicate, List.map_const']
      rfl
    · rw [List.getElem?_eq_none (by omega), List.getElem?_eq_none (by rw [p.len]; omega)]; rfl
  rw [e]
  refine ⟨szle (by rw [List.length_map, List.length_map, p.len]; omega), ?_⟩
  rw [pMind_eq]
  unfold mindOf
  dsimp only
  generalize (plan.map fun r => List.replicate r.length [0]).map pLds = L at *
  simp
  refine WLc_map pQs (fun r => pOds [r]) plan (fun r hrm => ?_) ?_
  · simp [sz1, pOds]
  refine ⟨szle (by rw [List.length_map, p.len]; omega), ?_⟩
  simp [sz3, pOds]
theorem e_is_still (ok : HouseOk N D P h) (hN : N ≤ 8) (hD : D ≤ 4) (hp : h.pays ≤ 4) (sz : szD K x = true) (hK : K ≤ 300) : f_is_still [.d (pHouse h), .d x] s = some (.d (.bool (stillB h x)), s) := by
  have hn := ok.nN
  refine WF.eq (WF.body rfl ?_)
  simp [m_is_still]
  refine WF.of (e_check_house ok hN hD hp) ?_
  simp
  exact WF.of (e_is_still_byA (by omega) (nine ok hD) sz hK) (by simp)
theorem e_is_choice (ok : HouseOk N D P h) (hN : N ≤ 8) (hD : D ≤ 4) (hp : h.pays ≤ 4) : f_is_choice [.d (pHouse h), .d x] s = some (.d (.bool (choB h x)), s) := by
  have hn := ok.nN
  refine WF.eq (WF.body rfl ?_)
  simp [m_is_choice]
  refine WF.of (e_check_house ok hN hD hp) ?_
  simp
  exact WF.of (e_is_choice_byA (by omega)) (by simp)
theorem e_is_minded (ok : HouseOk N D P h) (hN : N ≤ 8) (hD : D ≤ 4) (hp : h.pays ≤ 4) (sz : szD K x = true) (hK : K ≤ 300) : f_is_minded [.d (pHouse h), .d x] s = some (.d (.bool (mindB h x)), s) := by
  have hn := ok.nN
  refine WF.eq (WF.body rfl ?_)
  simp [m_is_minded]
  refine WF.of (e_check_house ok hN hD hp) ?_
  simp
  exact WF.of (e_is_minded_byA (by omega) (nine ok hD) sz hK) (by simp)
end
end WW
namespace Dh
open PySem PySem.Spec L2 PySem.W
theorem cut9 (xs : List PyData) : cutD xs none (some 9) = xs.take 9 := by
  unfold cutD
  rw [HT.sIx_none, show HT.sIx xs.length xs.length (some 9) = min 9 xs.length from HT.sIx_nat xs.length xs.length 9, List.drop_zero, Nat.sub_zero]
  by_cases h : 9 ≤ xs.length
  · rw [Nat.min_eq_left h]
  · rw [Nat.min_eq_right (by omega), List.take_of_length_le (by omega), List.take_of_length_le (by omega)]
end Dh
namespace WW
open PySem PySem.Spec L2 PySem.W Dh
theorem w_spring {ns : List Int} {l : Nat} (hl : l ≤ 100) {s : Sto} : WF f_law_spring [.d (.list (ns.map .int)), .d (.int (l : Int))] s fun r s' => s' = s ∧ ∃ a b : Int, r = .f [.int a, .int b, .int 0] ∧ 0 ≤ b ∧ b < 2147483579 := by
  have q : mulOk 9973 (l : Int) = true := mulOk_of (a := 14) (b := 7) (by decide) (by omega) (by decide)
  have key : ∀ (x c A B C : Int), 0 ≤ x → x < 2147483579 → A.natAbs < 2 ^ 20 → B.natAbs < 2 ^ 20 → mulOk x A = true ∧ mulOk (c % 2147483579) B = true ∧ 0 ≤ (x * A + c % 2147483579 * B + C) % 2147483579 ∧ (x * A + c % 2147483579 * B + C) % 2147483579 < 2147483579 := fun x c A B C h0 h1 hA hB => by
    have r0 : 0 ≤ c % 2147483579 := Int.emod_nonneg _ (by decide)
    have r1 : c % 2147483579 < 2147483579 := Int.emod_lt_of_pos _ (by decide)
    exact ⟨mulOk_of (a := 31) (by omega) hA (by decide), mulOk_of (a := 31) (by omega) hB (by decide), Int.emod_nonneg _ (by decide), Int.emod_lt_of_pos _ (by decide)⟩
  refine WF.body rfl ?_
  simp [m_law_spring, List.replicate_succ, fMul_ok q, fSl, cut9]
  rw [← List.map_take]
  refine WFor_inv (fun z : Int => PyData.int z) (ns.take 9) (fun i ρ s' => s' = s ∧ ∃ y x3, ρ = [some (.d (.list (ns.map .int))), some (.d (.int (l : Int))), some (.d (.int y)), x3, none] ∧ 0 ≤ y ∧ y < 2147483579) ⟨rfl, 62668 + 9973 * (l : Int), none, rfl, by omega, by omega⟩ ?_ ?_
  · rintro i z ρ s' hz ⟨rfl, y, x3, rfl, h0, h1⟩
    obtain ⟨k1, k2, k3, k4⟩ := key y z 52711 5 23 h0 h1 (by decide) (by decide)
    simp [gMod_pos, fMul_ok k1, fMul_ok k2]
    exact ⟨k3, k4⟩
  · rintro ρ s' ⟨rfl, y, x3, rfl, h0, h1⟩
    have gp : gPow 10 15 = some (.int (10 ^ (15 : Int).toNat)) := if_pos (by decide)
    generalize (10 : Int) ^ (15 : Int).toNat = T at gp
    have fin : ∀ o : Int, mulOk y 41 = true ∧ mulOk (o % 2147483579) 30103 = true ∧ 0 ≤ (y * 41 + o % 2147483579 * 30103 + 7) % 2147483579 ∧ (y * 41 + o % 2147483579 * 30103 + 7) % 2147483579 < 2147483579 := fun o => key y o 41 30103 7 h0 h1 (by decide) (by decide)
    by_cases h : l < ns.length
    · have e : atI (ns.map PyData.int) (l : Int) = some (.int ns[l]) := by
        rw [atI_ofNat (by simpa using h)]
        simp [h]
      obtain ⟨k1, k2, k3, k4⟩ := fin ns[l]
      simp [h, e, gMod_pos, fMul_ok k1, fMul_ok k2, gp, sz3]
      generalize (y * 41 + ns[l] % 2147483579 * 30103 + 7) % 2147483579 = b at *
      by_cases h3 : ns[l] < 0
      · simp [h3, sz3]; exact ⟨k3, k4⟩
      · by_cases h2 : T ≤ ns[l]
        · simp [gp, h3, h2, sz3]; exact ⟨k3, k4⟩
        · simp [gp, h3, h2, sz3]; exact ⟨k3, k4⟩
    · obtain ⟨k1, k2, k3, k4⟩ := fin 0
      simp at k3 k4
      simp [h, gMod_pos, fMul_ok k1, fMul_ok k2, gp, sz3]
      refine ⟨by decide, ?_⟩
      by_cases h2 : T ≤ 0
      · simp [h2, sz3]; exact ⟨k3, k4⟩
      · simp [h2, sz3]; exact ⟨k3, k4⟩
theorem w_right {s : Sto} (v : Vs 100000 s) : WF f_law_right [.s] s fun r _ => r = .d (.bool true) := by
  refine WF.body rfl ?_
  simp [m_law_right, List.replicate_succ]
  refine WF.use (w_pick (m := 99000) v.mono (by omega) (by omega)) ?_
  rintro _ s0 ⟨u, rfl, u1, u2, v0⟩
  obtain ⟨p, hpu, p1, p2⟩ : ∃ p : Nat, (1 : Int) + u = ((p : Nat) : Int) ∧ 1 ≤ p ∧ p ≤ 2 := ⟨(1 + u).toNat, by omega, by omega, by omega⟩
  simp [hpu]
  refine WF.use (w_world (p := p) (N := 3) (D := 4) (m := 90000) (by omega) (by omega) (by omega) (by omega) (by omega) (by omega) v0.mono) ?_
  rintro _ s1 ⟨h, rfl, ok, hp, v1⟩
  have hn := ok.nN
  have h4 : ∀ st ∈ h.stands, st.length ≤ 4 := fun st hst => (ok.each st hst).2.1
  have h9 : ∀ st ∈ h.stands, st.length ≤ 9 := nine ok (by decide)
  have wd : Wd 25 h := ok.wd (by decide) (by decide) (by decide)
  have hp4 : h.pays ≤ 4 := by omega
  simp
  refine WF.use (w_plan (m := 80000) ok (by omega) (by omega) v1.mono) ?_
  rintro _ s2 ⟨plan, rfl, pl1, pl2, v2⟩
  have pl : PlOk h plan := ⟨pl1, pl2⟩
  simp
  refine WF.use (w_chosen (m := 70000) ok (by omega) (by omega) (v2.mono (by omega))) ?_
  rintro _ s3 ⟨c, rfl, hc, v3⟩
  have pc := planOf_pl hc
  simp
  refine WF.use (w_pick (m := 60000) v3.mono (by omega) (by omega)) ?_
  rintro _ s4 ⟨u, rfl, u3, u4, v4⟩
  obtain ⟨k, hku, k1, k2⟩ : ∃ k : Nat, (1 : Int) + u = ((k : Nat) : Int) ∧ 1 ≤ k ∧ k ≤ 4 := ⟨(1 + u).toNat, by omega, by omega, by omega⟩
  simp [hku]
  refine WF.use (w_mindful (m := 50000) ok (by omega) (by omega) k1 k2 (v4.mono (by omega))) ?_
  rintro _ s5 ⟨μ, rfl, mo, em, v5⟩
  have mo2 := mindOf_ok pl1 pl2
  have q1 := fun s => e_lsure (s := s) wd hc
  have q2 := fun s => e_lchosen_of (s := s) pl (by omega) h9
  have q3 := fun s => e_ldoubled (s := s) pl (by omega) h9
  have q4 := fun s => e_lminded_of (s := s) ok (by decide) (by decide) pl
  have q5 := fun s => e_still_of (s := s) ok (by decide) (by decide) hp4 hc
  have q6 := fun s => e_choice_of (s := s) ok (by decide) (by decide) hp4 pc
  have q7 := fun s => e_choice_of (s := s) ok (by decide) (by decide) hp4 pl
  have q8 := fun s => e_doubled (s := s) ok (by decide) (by decide) hp4 pl
  have q9 := fun s => e_doubled (s := s) ok (by decide) (by decide) hp4 pc
  have q10 := fun s => e_minded_of (s := s) ok (by decide) (by decide) hp4 pl1 pl2
  rw [chOf_planOf hc] at q6
  rw [dblOf_planOf hc] at q9
  have n1 := pn_plan pc hn h4
  have n2 := pn_cho (l := c) (by rw [hc.1]; exact hn) (cho_small ok (by decide) hc)
  have n3 := pn_chOf pl hn h4
  have n4 := pn_int (dbl_le pl hn h4)
  have n5 := pn_int (i := 0) (by decide)
  have n6 := pn_mind mo2 hn h4
  have b1 := bx_plan pl hn h4
  have b2 := bx_cho (n := 4) (l := c) (by rw [hc.1]; omega)
  have b3 := bx_mind mo hn h4
  have z1 := sz_plan pl
  have z2 := szD_cho (cho_small ok (by decide) hc)
  have z3 := sz_mind mo h4
  have z4 := sz_mind mo2 h4
  have i1 := fun s => e_is_minded (s := s) ok (by decide) (by decide) hp4 z4 (by decide)
  rw [mindB_ok mo2] at i1
  have w1 := fun s m (v : Vs (m + 16) s) => w_maybeF (s := s) (m := m) (K := 10) (by decide) (by decide) b1 z1 v
  have w2 := fun s m (v : Vs (m + 16) s) => w_maybeF (s := s) (m := m) (K := 10) (by decide) (by decide) b2 z2 v
  have w3 := fun s m (v : Vs (m + 16) s) => w_maybeF (s := s) (m := m) (K := 10) (by decide) (by decide) b3 z3 v
  generalize pMind (mindOf plan) = X6 at *
  generalize pMind μ = XM at *
  generalize hX1 : pPlan (planOf h c) = X1 at *
  generalize pPlan plan = XP at *
  generalize PyData.tuple (c.map iN) = X2 at *
  generalize chOf plan = X3 at *
  generalize dblOf plan = D4 at *
  have pn : Pn 100 6 (6 * (500 + 1)) (.list [X1, X2, X3, .int D4, .int 0, X6]) := Pn.lst (n := 6) (fun x hx => by
    simp at hx
    rcases hx with rfl | rfl | rfl | rfl | rfl | rfl
    · exact n1
    · exact n2
    · exact n3
    · exact n4
    · exact n5
    · exact n6) (by simp)
  have r1 := pn.repr (r := .b _) rfl rfl (by decide) (by decide) (by decide)
  have r2 := pn.repr (r := .f _) rfl rfl (by decide) (by decide) (by decide)
  simp
  refine WF.of (q1 _) ?_
  simp
  refine WF.of (q2 _) ?_
  simp
  refine WF.of (q3 _) ?_
  have s5z : 5 ≤ sizeLine := szle (by decide)
  have s5l : 5 < sizeLine := szlt (by decide)
  have s6z : 6 ≤ sizeLine := szle (by decide)
  simp [s5z]
  refine WF.of (q4 _) ?_
  simp [s5l]
  refine WF.of (q5 _) ?_
  simp
  refine WF.of (q1 _) ?_
  simp
  refine WF.of (q6 _) ?_
  simp [perm]
  refine WF.of (q7 _) ?_
  simp [sz3]
  refine WF.of (q8 _) ?_
  simp [perm]
  refine WF.of (q5 _) ?_
  simp [perm]
  refine WF.of (q9 _) ?_
  simp [sz2, fAdd, s5z]
  refine WF.of (q10 _) ?_
  simp [sz1, s6z, fAdd, r1, r2, fEq_strs, perm]
  refine WF.of (q10 _) ?_
  simp
  refine WF.of (i1 _) ?_
  simp
  refine WF.use (w1 _ 40000 v5.mono) ?_
  rintro _ s6 ⟨Y1, rfl, y1, v6⟩
  simp
  refine WF.use (w2 _ 30000 v6.mono) ?_
  rintro _ s7 ⟨Y2, rfl, y2, v7⟩
  simp
  refine WF.use (w3 _ 20000 v7.mono) ?_
  rintro _ s8 ⟨Y3, rfl, y3, v8⟩
  have i2 := fun s => e_is_still (s := s) ok (by decide) (by decide) hp4 y1 (by decide)
  have i3 := fun s => e_is_choice (s := s) (x := Y2) ok (by decide) (by decide) hp4
  have i4 := fun s => e_is_minded (s := s) ok (by decide) (by decide) hp4 y3 (by decide)
  have i5 := fun s => e_lis_planA (s := s) (h := h) (by omega) h9 y1 (by decide)
  have i6 := fun s => e_lis_chosenA (s := s) (h := h) (x := Y2) (by omega)
  have i7 := fun s => e_lis_mindfulA (s := s) (h := h) (by omega) h9 y3 (by decide)
  generalize stillB h Y1 = B1 at *
  generalize choB h Y2 = B2 at *
  generalize mindB h Y3 = B3 at *
  have l4 : Pn 8 1 (5 * (0 + 1)) (.list [.bool B1, .bool B2, .bool B3, .bool B1, .bool B2]) := Pn.lst (n := 5) (k := 0) (w := 0) (fun y hy => by
    simp at hy
    rcases hy with rfl | rfl | rfl | rfl | rfl <;> exact Pn.bl (by decide)) (by simp)
  have r5 := l4.repr (r := .b _) rfl rfl (by decide) (by decide) (by decide)
  have r6 := l4.repr (r := .f _) rfl rfl (by decide) (by decide) (by decide)
  simp
  refine WF.of (i2 _) ?_
  simp
  refine WF.of (i3 _) ?_
  simp
  refine WF.of (i4 _) ?_
  simp [sz3, perm]
  refine WF.of (i2 _) ?_
  simp [perm]
  refine WF.of (i3 _) ?_
  simp [sz2, fAdd, s5z]
  refine WF.of (i5 _) ?_
  simp
  refine WF.of (i6 _) ?_
  simp
  refine WF.of (i7 _) ?_
  have hc2 : cutD [PyData.bool B1, .bool B2, .bool B3] none (some 2) = [.bool B1, .bool B2] := by cases B1 <;> cases B2 <;> cases B3 <;> rfl
  simp [sz3, fSl, hc2, fAdd, s5z, r5, r6, fEq_strs]
theorem plain (ns : List Int) (hn : ns.length ≤ 63) (hb : ∀ z ∈ ns, Builtin.Int.intBits z ≤ 1048576) : ∃ s', f_law [.d (.list (ns.map .int))] [] = some (.d (.bool true), s') := by
  refine ⟨[], WF.eq (WF.body rfl ?_)⟩
  obtain ⟨n, hn3, e⟩ : ∃ n : Nat, n ≤ 5 ∧ range1 [.d (.int (if (if (ns.length : Int) > 5 then (5 : Int) else (ns.length : Int)) > 2 then (if (ns.length : Int) > 5 then (5 : Int) else (ns.length : Int)) else 2))] = some ((List.range n).map fun i => PyData.int (i : Nat)) := by
    by_cases h : (ns.length : Int) > 5
    · exact ⟨5, by decide, by rw [if_pos h, if_pos (by decide)]; exact range1_nat (n := 5) (by decide)⟩
    · rw [if_neg h]
      by_cases h2 : (ns.length : Int) > 2
      · exact ⟨ns.length, by omega, by rw [if_pos h2]; exact range1_nat (n := ns.length) (by omega)⟩
      · exact ⟨2, by decide, by rw [if_neg h2]; exact range1_nat (n := 2) (by decide)⟩
  simp [m_law, fMin2, fMax2, List.replicate_succ]
  simp only [gt_iff_lt] at e
  rw [e, WO_some]
  refine WLc_map (fun i : Nat => PyData.int i) (fun _ => PyData.bool true) (List.range n) (fun i hi => ?_) ?_
  · rw [List.mem_range] at hi
    simp
    refine WF.use (w_spring (ns := ns) (by omega)) ?_
    rintro _ s' ⟨rfl, a, b, rfl, b0, b1⟩
    simp [callNK, stoOf, onlyD]
    refine WF.use (w_right (s := [a, b, 0]) ⟨a, b, 0, rfl, b0, b1, by decide, by decide⟩) ?_
    rintro _ s' rfl
    simp
  refine ⟨szle (by simp; omega), ?_⟩
  simp [fAll_true]
end WW
namespace WW
open PySem PySem.Spec L2 Dh
section
variable {P : Program} {w : World} {K : PySem.W.Frag} {mg : Str → Option Value} {base : Heap} {ad : Nat → Addr} {fd : Nat → FuncData}
theorem sc_is_whole : FnScope n_is_whole p_is_whole (defScope s_is_whole) := ⟨rfl, rfl, rfl, by decide +kernel, rfl, by decide +kernel, by decide +kernel⟩
theorem bd_is_whole (T : Txt K mg ad fd) : Binds K (fd 0) p_is_whole [] := T.d_is_whole.binds (ps := p_is_whole) fun _ _ _ _ _ _ us hl => match us, hl with | [_], _ => rfl
theorem ok_is_whole (T : Txt K mg ad fd) : FnG P w K mg base 1 (ad 0) (fd 0) p_is_whole (spOf K 1 f_is_whole) := (fnG_of (m := m_is_whole) T.d_is_whole sc_is_whole fun cdv A outer s H E hr hg =>
    (sl_one (ss_ret (se_and (se_isi (T := "int") (by decide) (se_var (i := 0)) T.b_isinstance T.b_int (by decide +kernel)) (se_one (se_not (se_isi (T := "bool") (by decide) (se_var (i := 0)) T.b_isinstance T.b_bool (by decide +kernel)))))))).imp fun _ _ _ _ => spOf_run'
theorem sc_is_between : FnScope n_is_between p_is_between (defScope s_is_between) := ⟨rfl, rfl, rfl, by decide +kernel, rfl, by decide +kernel, by decide +kernel⟩
theorem bd_is_between (T : Txt K mg ad fd) : Binds K (fd 1) p_is_between [] := T.d_is_between.binds (ps := p_is_between) fun _ _ _ _ _ _ us hl => match us, hl with | [_, _, _], _ => rfl
theorem ok_is_between (T : Txt K mg ad fd) : FnG P w K mg base 2 (ad 1) (fd 1) p_is_between (spOf K 3 f_is_between) := (fnG_of (m := m_is_between) T.d_is_between sc_is_between fun cdv A outer s H E hr hg =>
    (sl_one (ss_ret (se_and (se_call (ok_is_whole T) (hr.mono (by omega)) hg T.m_is_whole T.d_is_whole.kp (bd_is_whole T) (sa_cons (se_var (i := 0)) sa_nil)) (se_one (se_lele (se_var (i := 1)) (se_var (i := 0)) (se_var (i := 2)))))))).imp fun _ _ _ _ => spOf_run'
theorem sc_is_tuple_of : FnScope n_is_tuple_of p_is_tuple_of (defScope s_is_tuple_of) := ⟨rfl, rfl, rfl, by decide +kernel, rfl, by decide +kernel, by decide +kernel⟩
theorem bd_is_tuple_of (T : Txt K mg ad fd) : Binds K (fd 2) p_is_tuple_of [] := T.d_is_tuple_of.binds (ps := p_is_tuple_of) fun _ _ _ _ _ _ us hl => match us, hl with | [_, _], _ => rfl
theorem ok_is_tuple_of (T : Txt K mg ad fd) : FnG P w K mg base 1 (ad 2) (fd 2) p_is_tuple_of (spOf K 2 f_is_tuple_of) := (fnG_of (m := m_is_tuple_of) T.d_is_tuple_of sc_is_tuple_of fun cdv A outer s H E hr hg =>
    (sl_one (ss_ret (se_and (se_isi (T := "tuple") (by decide) (se_var (i := 0)) T.b_isinstance T.b_tuple (by decide +kernel)) (se_one (se_eq hr (se_len (sa_cons (se_var (i := 0)) sa_nil) T.b_len) (se_var (i := 1)))))))).imp fun _ _ _ _ => spOf_run'
theorem sc_is_ratio : FnScope n_is_ratio p_is_ratio (defScope s_is_ratio) := ⟨rfl, rfl, rfl, by decide +kernel, rfl, by decide +kernel, by decide +kernel⟩
theorem bd_is_ratio (T : Txt K mg ad fd) : Binds K (fd 3) p_is_ratio [] := T.d_is_ratio.binds (ps := p_is_ratio) fun _ _ _ _ _ _ us hl => match us, hl with | [_], _ => rfl
theorem ok_is_ratio (T : Txt K mg ad fd) : FnG P w K mg base 2 (ad 3) (fd 3) p_is_ratio (spOf K 1 f_is_ratio) := (fnG_of (m := m_is_ratio) T.d_is_ratio sc_is_ratio fun cdv A outer s H E hr hg =>
    (sl_cons (ss_if (sb_w (sw_or (sb_not (sb_val (se_call (ok_is_tuple_of T) (hr.mono (by omega)) hg T.m_is_tuple_of T.d_is_tuple_of.kp (bd_is_tuple_of T) (sa_cons (se_var (i := 0)) (sa_cons se_int sa_nil))))) (sw_or (sb_not (sb_val (se_call (ok_is_whole T) (hr.mono (by omega)) hg T.m_is_whole T.d_is_whole.kp (bd_is_whole T) (sa_cons (se_ix (se_var (i := 0)) se_int) sa_nil)))) (sw_or1 (sb_not (sb_val (se_call (ok_is_whole T) (hr.mono (by omega)) hg T.m_is_whole T.d_is_whole.kp (bd_is_whole T) (sa_cons (se_ix (se_var (i := 0)) se_int) sa_nil))))))))
    (sl_one (ss_ret se_bl))
    sl_nil)
    (sl_one (ss_ret (se_and (se_gt (se_ix (se_var (i := 0)) se_int) se_int) (se_one (se_eq hr (se_gcd (sa_cons (se_ix (se_var (i := 0)) se_int) (sa_cons (se_ix (se_var (i := 0)) se_int) sa_nil)) T.b_gcd) se_int))))))).imp fun _ _ _ _ => spOf_run'
theorem sc_is_row : FnScope n_is_row p_is_row (defScope s_is_row) := ⟨rfl, rfl, rfl, by decide +kernel, rfl, by decide +kernel, by decide +kernel⟩
theorem bd_is_row (T : Txt K mg ad fd) : Binds K (fd 4) p_is_row [] := T.d_is_row.binds (ps := p_is_row) fun _ _ _ _ _ _ us hl => match us, hl with | [_, _], _ => rfl
theorem ok_is_row (T : Txt K mg ad fd) : FnG P w K mg base 3 (ad 4) (fd 4) p_is_row (spOf K 2 f_is_row) := (fnG_of (m := m_is_row) T.d_is_row sc_is_row fun cdv A outer s H E hr hg =>
    (sl_one (ss_ret (se_and (se_call (ok_is_tuple_of T) (hr.mono (by omega)) hg T.m_is_tuple_of T.d_is_tuple_of.kp (bd_is_tuple_of T) (sa_cons (se_var (i := 0)) (sa_cons (se_var (i := 1)) sa_nil))) (se_one (se_all rfl (sa_cons (se_lc (own := [("each", 2)]) (is := [2]) rfl sc_is_row.nd (si_seq (se_var (i := 0))) (blkOk_by (own := [("each", 2)]) (N := n_is_row) (sc := defScope s_is_row) (by decide +kernel)) (by decide) (fun _ _ _ _ _ => (sg_name (i := 2) sc_is_row.nd)) (fun _ _ _ _ _ => sts_nil) (fun _ _ _ _ _ => (se_call (ok_is_ratio T) (hr.mono (by omega)) hg T.m_is_ratio T.d_is_ratio.kp (bd_is_ratio T) (sa_cons (se_var (i := 2)) sa_nil)))) sa_nil) T.b_all)))))).imp fun _ _ _ _ => spOf_run'
theorem sc_ratio : FnScope n_ratio p_ratio (defScope s_ratio) := ⟨rfl, rfl, rfl, by decide +kernel, rfl, by decide +kernel, by decide +kernel⟩
theorem bd_ratio (T : Txt K mg ad fd) : Binds K (fd 5) p_ratio [] := T.d_ratio.binds (ps := p_ratio) fun _ _ _ _ _ _ us hl => match us, hl with | [_, _], _ => rfl
theorem ok_ratio (T : Txt K mg ad fd) : FnG P w K mg base 1 (ad 5) (fd 5) p_ratio (spOf K 2 f_ratio) := (fnG_of (m := m_ratio) T.d_ratio sc_ratio fun cdv A outer s H E hr hg =>
    (sl_cons (ss_set (i := 2) sc_ratio.nd rfl (.inl rfl) (se_if (sb_gt (se_var (i := 1)) se_int) (se_gcd (sa_cons (se_var (i := 0)) (sa_cons (se_var (i := 1)) sa_nil)) T.b_gcd) (se_neg (se_gcd (sa_cons (se_var (i := 0)) (sa_cons (se_var (i := 1)) sa_nil)) T.b_gcd))))
    (sl_one (ss_ret (se_tup (sa_cons (se_fdiv (se_var (i := 0)) (se_var (i := 2))) (sa_cons (se_fdiv (se_var (i := 1)) (se_var (i := 2))) sa_nil))))))).imp fun _ _ _ _ => spOf_run'
theorem sc_plus : FnScope n_plus p_plus (defScope s_plus) := ⟨rfl, rfl, rfl, by decide +kernel, rfl, by decide +kernel, by decide +kernel⟩
theorem bd_plus (T : Txt K mg ad fd) : Binds K (fd 6) p_plus [] := T.d_plus.binds (ps := p_plus) fun _ _ _ _ _ _ us hl => match us, hl with | [_, _], _ => rfl
theorem ok_plus (T : Txt K mg ad fd) : FnG P w K mg base 2 (ad 6) (fd 6) p_plus (spOf K 2 f_plus) := (fnG_of (m := m_plus) T.d_plus sc_plus fun cdv A outer s H E hr hg =>
    (sl_one (ss_ret (se_call (ok_ratio T) (hr.mono (by omega)) hg T.m_ratio T.d_ratio.kp (bd_ratio T) (sa_cons (se_add (se_mul (se_ix (se_var (i := 0)) se_int) (se_ix (se_var (i := 1)) se_int)) (se_mul (se_ix (se_var (i := 1)) se_int) (se_ix (se_var (i := 0)) se_int))) (sa_cons (se_mul (se_ix (se_var (i := 0)) se_int) (se_ix (se_var (i := 1)) se_int)) sa_nil)))))).imp fun _ _ _ _ => spOf_run'
theorem sc_total : FnScope n_total p_total (defScope s_total) := ⟨rfl, rfl, rfl, by decide +kernel, rfl, by decide +kernel, by decide +kernel⟩
theorem bd_total (T : Txt K mg ad fd) : Binds K (fd 7) p_total [] := T.d_total.binds (ps := p_total) fun _ _ _ _ _ _ us hl => match us, hl with | [_], _ => rfl
theorem ok_total (T : Txt K mg ad fd) : FnG P w K mg base 3 (ad 7) (fd 7) p_total (spOf K 1 f_total) := (fnG_of (m := m_total) T.d_total sc_total fun cdv A outer s H E hr hg =>
    (sl_cons (ss_set (i := 1) sc_total.nd rfl (.inl rfl) (se_glob T.g_ZERO (by rfl)))
    (sl_cons (ss_for PassesOwn.never rfl (si_seq (se_var (i := 0))) (sg_name (i := 2) sc_total.nd)
    (sl_one (ss_set (i := 1) sc_total.nd rfl (.inl rfl) (se_call (ok_plus T) (hr.mono (by omega)) hg T.m_plus T.d_plus.kp (bd_plus T) (sa_cons (se_var (i := 1)) (sa_cons (se_var (i := 2)) sa_nil))))))
    (sl_one (ss_retV (i := 1)))))).imp fun _ _ _ _ => spOf_run'
theorem sc_is_chance_row : FnScope n_is_chance_row p_is_chance_row (defScope s_is_chance_row) := ⟨rfl, rfl, rfl, by decide +kernel, rfl, by decide +kernel, by decide +kernel⟩
theorem bd_is_chance_row (T : Txt K mg ad fd) : Binds K (fd 8) p_is_chance_row [] := T.d_is_chance_row.binds (ps := p_is_chance_row) fun _ _ _ _ _ _ us hl => match us, hl with | [_, _], _ => rfl
theorem ok_is_chance_row (T : Txt K mg ad fd) : FnG P w K mg base 4 (ad 8) (fd 8) p_is_chance_row (spOf K 2 f_is_chance_row) := (fnG_of (m := m_is_chance_row) T.d_is_chance_row sc_is_chance_row fun cdv A outer s H E hr hg =>
    (sl_one (ss_ret (se_and (se_call (ok_is_row T) (hr.mono (by omega)) hg T.m_is_row T.d_is_row.kp (bd_is_row T) (sa_cons (se_var (i := 0)) (sa_cons (se_var (i := 1)) sa_nil))) (se_and (se_all rfl (sa_cons (se_lc (own := [("each", 2)]) (is := [2]) rfl sc_is_chance_row.nd (si_seq (se_var (i := 0))) (blkOk_by (own := [("each", 2)]) (N := n_is_chance_row) (sc := defScope s_is_chance_row) (by decide +kernel)) (by decide) (fun _ _ _ _ _ => (sg_name (i := 2) sc_is_chance_row.nd)) (fun _ _ _ _ _ => sts_nil) (fun _ _ _ _ _ => (se_ge (se_ix (se_var (i := 2)) se_int) se_int))) sa_nil) T.b_all) (se_one (se_eq hr (se_call (ok_total T) (hr.mono (by omega)) hg T.m_total T.d_total.kp (bd_total T) (sa_cons (se_var (i := 0)) sa_nil)) (se_glob T.g_ONE (by rfl))))))))).imp fun _ _ _ _ => spOf_run'
theorem sc_is_still_by : FnScope n_is_still_by p_is_still_by (defScope s_is_still_by) := ⟨rfl, rfl, rfl, by decide +kernel, rfl, by decide +kernel, by decide +kernel⟩
theorem bd_is_still_by (T : Txt K mg ad fd) : Binds K (fd 9) p_is_still_by [] := T.d_is_still_by.binds (ps := p_is_still_by) fun _ _ _ _ _ _ us hl => match us, hl with | [_, _], _ => rfl
theorem ok_is_still_by (T : Txt K mg ad fd) : FnG P w K mg base 5 (ad 9) (fd 9) p_is_still_by (spOf K 2 f_is_still_by) := (fnG_of (m := m_is_still_by) T.d_is_still_by sc_is_still_by fun cdv A outer s H E hr hg =>
    (sl_cons (ss_if (sb_not (sb_val (se_call (ok_is_tuple_of T) (hr.mono (by omega)) hg T.m_is_tuple_of T.d_is_tuple_of.kp (bd_is_tuple_of T) (sa_cons (se_var (i := 1)) (sa_cons (se_len (sa_cons (se_ix (se_var (i := 0)) se_int) sa_nil) T.b_len) sa_nil)))))
    (sl_one (ss_ret se_bl))
    sl_nil)
    (sl_one (ss_ret (se_all rfl (sa_cons (se_lc (own := [("odds", 2), ("deeds", 3)]) (is := [2, 3]) rfl sc_is_still_by.nd (si_z2 (sa_cons (se_var (i := 1)) (sa_cons (se_ix (se_var (i := 0)) se_int) sa_nil)) T.b_zip) (blkOk_by (own := [("odds", 2), ("deeds", 3)]) (N := n_is_still_by) (sc := defScope s_is_still_by) (by decide +kernel)) (by decide) (fun _ _ _ _ _ => (sg_tup rfl (sgs_cons (sg_name (i := 2) sc_is_still_by.nd) (sgs_cons (sg_name (i := 3) sc_is_still_by.nd) sgs_nil)))) (fun _ _ _ _ _ => sts_nil) (fun _ _ _ _ _ => (se_call (ok_is_chance_row T) (hr.mono (by omega)) hg T.m_is_chance_row T.d_is_chance_row.kp (bd_is_chance_row T) (sa_cons (se_var (i := 2)) (sa_cons (se_len (sa_cons (se_var (i := 3)) sa_nil) T.b_len) sa_nil))))) sa_nil) T.b_all))))).imp fun _ _ _ _ => spOf_run'
theorem sc_is_choice_by : FnScope n_is_choice_by p_is_choice_by (defScope s_is_choice_by) := ⟨rfl, rfl, rfl, by decide +kernel, rfl, by decide +kernel, by decide +kernel⟩
theorem bd_is_choice_by (T : Txt K mg ad fd) : Binds K (fd 10) p_is_choice_by [] := T.d_is_choice_by.binds (ps := p_is_choice_by) fun _ _ _ _ _ _ us hl => match us, hl with | [_, _], _ => rfl
theorem ok_is_choice_by (T : Txt K mg ad fd) : FnG P w K mg base 3 (ad 10) (fd 10) p_is_choice_by (spOf K 2 f_is_choice_by) := (fnG_of (m := m_is_choice_by) T.d_is_choice_by sc_is_choice_by fun cdv A outer s H E hr hg =>
    (sl_cons (ss_if (sb_not (sb_val (se_call (ok_is_tuple_of T) (hr.mono (by omega)) hg T.m_is_tuple_of T.d_is_tuple_of.kp (bd_is_tuple_of T) (sa_cons (se_var (i := 1)) (sa_cons (se_len (sa_cons (se_ix (se_var (i := 0)) se_int) sa_nil) T.b_len) sa_nil)))))
    (sl_one (ss_ret se_bl))
    sl_nil)
    (sl_one (ss_ret (se_all rfl (sa_cons (se_lc (own := [("deed", 2), ("deeds", 3)]) (is := [2, 3]) rfl sc_is_choice_by.nd (si_z2 (sa_cons (se_var (i := 1)) (sa_cons (se_ix (se_var (i := 0)) se_int) sa_nil)) T.b_zip) (blkOk_by (own := [("deed", 2), ("deeds", 3)]) (N := n_is_choice_by) (sc := defScope s_is_choice_by) (by decide +kernel)) (by decide) (fun _ _ _ _ _ => (sg_tup rfl (sgs_cons (sg_name (i := 2) sc_is_choice_by.nd) (sgs_cons (sg_name (i := 3) sc_is_choice_by.nd) sgs_nil)))) (fun _ _ _ _ _ => sts_nil) (fun _ _ _ _ _ => (se_call (ok_is_between T) (hr.mono (by omega)) hg T.m_is_between T.d_is_between.kp (bd_is_between T) (sa_cons (se_var (i := 2)) (sa_cons se_int (sa_cons (se_sub (se_len (sa_cons (se_var (i := 3)) sa_nil) T.b_len) se_int) sa_nil)))))) sa_nil) T.b_all))))).imp fun _ _ _ _ => spOf_run'
theorem sc_are_odds : FnScope n_are_odds p_are_odds (defScope s_are_odds) := ⟨rfl, rfl, rfl, by decide +kernel, rfl, by decide +kernel, by decide +kernel⟩
theorem bd_are_odds (T : Txt K mg ad fd) : Binds K (fd 11) p_are_odds [] := T.d_are_odds.binds (ps := p_are_odds) fun _ _ _ _ _ _ us hl => match us, hl with | [_, _, _], _ => rfl
theorem ok_are_odds (T : Txt K mg ad fd) : FnG P w K mg base 5 (ad 11) (fd 11) p_are_odds (spOf K 3 f_are_odds) := (fnG_of (m := m_are_odds) T.d_are_odds sc_are_odds fun cdv A outer s H E hr hg =>
    (sl_one (ss_ret (se_and (se_call (ok_is_tuple_of T) (hr.mono (by omega)) hg T.m_is_tuple_of T.d_is_tuple_of.kp (bd_is_tuple_of T) (sa_cons (se_var (i := 0)) (sa_cons (se_var (i := 1)) sa_nil))) (se_one (se_all rfl (sa_cons (se_lc (own := [("odds", 3)]) (is := [3]) rfl sc_are_odds.nd (si_seq (se_var (i := 0))) (blkOk_by (own := [("odds", 3)]) (N := n_are_odds) (sc := defScope s_are_odds) (by decide +kernel)) (by decide) (fun _ _ _ _ _ => (sg_name (i := 3) sc_are_odds.nd)) (fun _ _ _ _ _ => sts_nil) (fun _ _ _ _ _ => (se_call (ok_is_chance_row T) (hr.mono (by omega)) hg T.m_is_chance_row T.d_is_chance_row.kp (bd_is_chance_row T) (sa_cons (se_var (i := 3)) (sa_cons (se_len (sa_cons (se_var (i := 2)) sa_nil) T.b_len) sa_nil))))) sa_nil) T.b_all)))))).imp fun _ _ _ _ => spOf_run'
theorem sc_are_nexts : FnScope n_are_nexts p_are_nexts (defScope s_are_nexts) := ⟨rfl, rfl, rfl, by decide +kernel, rfl, by decide +kernel, by decide +kernel⟩
theorem bd_are_nexts (T : Txt K mg ad fd) : Binds K (fd 12) p_are_nexts [] := T.d_are_nexts.binds (ps := p_are_nexts) fun _ _ _ _ _ _ us hl => match us, hl with | [_, _, _], _ => rfl
theorem ok_are_nexts (T : Txt K mg ad fd) : FnG P w K mg base 3 (ad 12) (fd 12) p_are_nexts (spOf K 3 f_are_nexts) := (fnG_of (m := m_are_nexts) T.d_are_nexts sc_are_nexts fun cdv A outer s H E hr hg =>
    (sl_cons (ss_if (sb_not (sb_val (se_call (ok_is_tuple_of T) (hr.mono (by omega)) hg T.m_is_tuple_of T.d_is_tuple_of.kp (bd_is_tuple_of T) (sa_cons (se_var (i := 0)) (sa_cons (se_len (sa_cons (se_var (i := 2)) sa_nil) T.b_len) sa_nil)))))
    (sl_one (ss_ret se_bl))
    sl_nil)
    (sl_one (ss_ret (se_all rfl (sa_cons (se_lc (own := [("row", 3)]) (is := [3]) rfl sc_are_nexts.nd (si_seq (se_var (i := 0))) (blkOk_by (own := [("row", 3)]) (N := n_are_nexts) (sc := defScope s_are_nexts) (by decide +kernel)) (by decide) (fun _ _ _ _ _ => (sg_name (i := 3) sc_are_nexts.nd)) (fun _ _ _ _ _ => sts_nil) (fun _ _ _ _ _ => (se_and (se_call (ok_is_tuple_of T) (hr.mono (by omega)) hg T.m_is_tuple_of T.d_is_tuple_of.kp (bd_is_tuple_of T) (sa_cons (se_var (i := 3)) (sa_cons (se_var (i := 1)) sa_nil))) (se_one (se_all rfl (sa_cons (se_lc (own := [("mind", 4)]) (is := [4]) rfl sc_are_nexts.nd (si_seq (se_var (i := 3))) (blkOk_by (own := [("mind", 4)]) (N := n_are_nexts) (sc := relS _ (defScope s_are_nexts)) (by decide +kernel)) (by decide) (fun _ _ _ _ _ => (sg_name (i := 4) sc_are_nexts.nd)) (fun _ _ _ _ _ => sts_nil) (fun _ _ _ _ _ => (se_call (ok_is_between T) (hr.mono (by omega)) hg T.m_is_between T.d_is_between.kp (bd_is_between T) (sa_cons (se_var (i := 4)) (sa_cons se_int (sa_cons (se_sub (se_var (i := 1)) se_int) sa_nil)))))) sa_nil) T.b_all))))) sa_nil) T.b_all))))).imp fun _ _ _ _ => spOf_run'
theorem sc_is_minded_by : FnScope n_is_minded_by p_is_minded_by (defScope s_is_minded_by) := ⟨rfl, rfl, rfl, by decide +kernel, rfl, by decide +kernel, by decide +kernel⟩
theorem bd_is_minded_by (T : Txt K mg ad fd) : Binds K (fd 13) p_is_minded_by [] := T.d_is_minded_by.binds (ps := p_is_minded_by) fun _ _ _ _ _ _ us hl => match us, hl with | [_, _], _ => rfl
theorem ok_is_minded_by (T : Txt K mg ad fd) : FnG P w K mg base 6 (ad 13) (fd 13) p_is_minded_by (spOf K 2 f_is_minded_by) := (fnG_of (m := m_is_minded_by) T.d_is_minded_by sc_is_minded_by fun cdv A outer s H E hr hg =>
    (sl_cons (ss_if (sb_w (sw_or (sb_not (sb_val (se_call (ok_is_tuple_of T) (hr.mono (by omega)) hg T.m_is_tuple_of T.d_is_tuple_of.kp (bd_is_tuple_of T) (sa_cons (se_var (i := 1)) (sa_cons se_int sa_nil))))) (sw_or1 (sb_not (sb_val (se_call (ok_is_between T) (hr.mono (by omega)) hg T.m_is_between T.d_is_between.kp (bd_is_between T) (sa_cons (se_ix (se_var (i := 1)) se_int) (sa_cons se_int (sa_cons (se_glob T.g_MOST_MINDS (by rfl)) sa_nil)))))))))
    (sl_one (ss_ret se_bl))
    sl_nil)
    (sl_cons (ss_asg (se_var (i := 1)) (sg_tup rfl (sgs_cons (sg_name (i := 2) sc_is_minded_by.nd) (sgs_cons (sg_name (i := 3) sc_is_minded_by.nd) (sgs_cons (sg_name (i := 4) sc_is_minded_by.nd) sgs_nil)))))
    (sl_cons (ss_if (sb_w (sw_or (sb_not (sb_val (se_call (ok_is_tuple_of T) (hr.mono (by omega)) hg T.m_is_tuple_of T.d_is_tuple_of.kp (bd_is_tuple_of T) (sa_cons (se_var (i := 3)) (sa_cons (se_len (sa_cons (se_ix (se_var (i := 0)) se_int) sa_nil) T.b_len) sa_nil))))) (sw_or1 (sb_not (sb_val (se_call (ok_is_tuple_of T) (hr.mono (by omega)) hg T.m_is_tuple_of T.d_is_tuple_of.kp (bd_is_tuple_of T) (sa_cons (se_var (i := 4)) (sa_cons (se_len (sa_cons (se_ix (se_var (i := 0)) se_int) sa_nil) T.b_len) sa_nil))))))))
    (sl_one (ss_ret se_bl))
    sl_nil)
    (sl_cons (ss_if (sb_not (sb_val (se_all rfl (sa_cons (se_lc (own := [("each", 5), ("deeds", 6)]) (is := [5, 6]) rfl sc_is_minded_by.nd (si_z2 (sa_cons (se_var (i := 3)) (sa_cons (se_ix (se_var (i := 0)) se_int) sa_nil)) T.b_zip) (blkOk_by (own := [("each", 5), ("deeds", 6)]) (N := n_is_minded_by) (sc := defScope s_is_minded_by) (by decide +kernel)) (by decide) (fun _ _ _ _ _ => (sg_tup rfl (sgs_cons (sg_name (i := 5) sc_is_minded_by.nd) (sgs_cons (sg_name (i := 6) sc_is_minded_by.nd) sgs_nil)))) (fun _ _ _ _ _ => sts_nil) (fun _ _ _ _ _ => (se_call (ok_are_odds T) (hr.mono (by omega)) hg T.m_are_odds T.d_are_odds.kp (bd_are_odds T) (sa_cons (se_var (i := 5)) (sa_cons (se_var (i := 2)) (sa_cons (se_var (i := 6)) sa_nil)))))) sa_nil) T.b_all)))
    (sl_one (ss_ret se_bl))
    sl_nil)
    (sl_one (ss_ret (se_all rfl (sa_cons (se_lc (own := [("each", 5), ("deeds", 6)]) (is := [5, 6]) rfl sc_is_minded_by.nd (si_z2 (sa_cons (se_var (i := 4)) (sa_cons (se_ix (se_var (i := 0)) se_int) sa_nil)) T.b_zip) (blkOk_by (own := [("each", 5), ("deeds", 6)]) (N := n_is_minded_by) (sc := defScope s_is_minded_by) (by decide +kernel)) (by decide) (fun _ _ _ _ _ => (sg_tup rfl (sgs_cons (sg_name (i := 5) sc_is_minded_by.nd) (sgs_cons (sg_name (i := 6) sc_is_minded_by.nd) sgs_nil)))) (fun _ _ _ _ _ => sts_nil) (fun _ _ _ _ _ => (se_call (ok_are_nexts T) (hr.mono (by omega)) hg T.m_are_nexts T.d_are_nexts.kp (bd_are_nexts T) (sa_cons (se_var (i := 5)) (sa_cons (se_var (i := 2)) (sa_cons (se_var (i := 6)) sa_nil)))))) sa_nil) T.b_all)))))))).imp fun _ _ _ _ => spOf_run'
theorem sc_plain_odds : FnScope n_plain_odds p_plain_odds (defScope s_plain_odds) := ⟨rfl, rfl, rfl, by decide +kernel, rfl, by decide +kernel, by decide +kernel⟩
theorem bd_plain_odds (T : Txt K mg ad fd) : Binds K (fd 14) p_plain_odds [] := T.d_plain_odds.binds (ps := p_plain_odds) fun _ _ _ _ _ _ us hl => match us, hl with | [_, _], _ => rfl
theorem ok_plain_odds (T : Txt K mg ad fd) : FnG P w K mg base 1 (ad 14) (fd 14) p_plain_odds (spOf K 2 f_plain_odds) := (fnG_of (m := m_plain_odds) T.d_plain_odds sc_plain_odds fun cdv A outer s H E hr hg =>
    (sl_one (ss_ret (se_tuple (sa_cons (se_lc (own := [("at", 2)]) (is := [2]) rfl sc_plain_odds.nd (si_range1 (sa_cons (se_var (i := 1)) sa_nil) T.b_range) (blkOk_by (own := [("at", 2)]) (N := n_plain_odds) (sc := defScope s_plain_odds) (by decide +kernel)) (by decide) (fun _ _ _ _ _ => (sg_name (i := 2) sc_plain_odds.nd)) (fun _ _ _ _ _ => sts_nil) (fun _ _ _ _ _ => (se_if (sb_eq hr (se_var (i := 2)) (se_var (i := 0))) (se_glob T.g_ONE (by rfl)) (se_glob T.g_ZERO (by rfl))))) sa_nil) T.b_tuple)))).imp fun _ _ _ _ => spOf_run'
theorem sc_still_by : FnScope n_still_by p_still_by (defScope s_still_by) := ⟨rfl, rfl, rfl, by decide +kernel, rfl, by decide +kernel, by decide +kernel⟩
theorem bd_still_by (T : Txt K mg ad fd) : Binds K (fd 15) p_still_by [] := T.d_still_by.binds (ps := p_still_by) fun _ _ _ _ _ _ us hl => match us, hl with | [_, _], _ => rfl
theorem ok_still_by (T : Txt K mg ad fd) : FnG P w K mg base 2 (ad 15) (fd 15) p_still_by (spOf K 2 f_still_by) := (fnG_of (m := m_still_by) T.d_still_by sc_still_by fun cdv A outer s H E hr hg =>
    (sl_one (ss_ret (se_tuple (sa_cons (se_lc (own := [("deed", 2), ("deeds", 3)]) (is := [2, 3]) rfl sc_still_by.nd (si_z2 (sa_cons (se_var (i := 1)) (sa_cons (se_ix (se_var (i := 0)) se_int) sa_nil)) T.b_zip) (blkOk_by (own := [("deed", 2), ("deeds", 3)]) (N := n_still_by) (sc := defScope s_still_by) (by decide +kernel)) (by decide) (fun _ _ _ _ _ => (sg_tup rfl (sgs_cons (sg_name (i := 2) sc_still_by.nd) (sgs_cons (sg_name (i := 3) sc_still_by.nd) sgs_nil)))) (fun _ _ _ _ _ => sts_nil) (fun _ _ _ _ _ => (se_call (ok_plain_odds T) (hr.mono (by omega)) hg T.m_plain_odds T.d_plain_odds.kp (bd_plain_odds T) (sa_cons (se_var (i := 2)) (sa_cons (se_len (sa_cons (se_var (i := 3)) sa_nil) T.b_len) sa_nil))))) sa_nil) T.b_tuple)))).imp fun _ _ _ _ => spOf_run'
end
end WW
namespace WW
open PySem PySem.Spec L2 Dh
section
variable {P : Program} {w : World} {K : PySem.W.Frag} {mg : Str → Option Value} {base : Heap} {ad : Nat → Addr} {fd : Nat → FuncData}
theorem sc_choice_by : FnScope n_choice_by p_choice_by (defScope s_choice_by) := ⟨rfl, rfl, rfl, by decide +kernel, rfl, by decide +kernel, by decide +kernel⟩
theorem bd_choice_by (T : Txt K mg ad fd) : Binds K (fd 16) p_choice_by [] := T.d_choice_by.binds (ps := p_choice_by) fun _ _ _ _ _ _ us hl => match us, hl with | [_], _ => rfl
theorem ok_choice_by (T : Txt K mg ad fd) : FnG P w K mg base 1 (ad 16) (fd 16) p_choice_by (spOf K 1 f_choice_by) := (fnG_of (m := m_choice_by) T.d_choice_by sc_choice_by fun cdv A outer s H E hr hg =>
    (sl_cons (ss_if (sb_not (sb_val (se_all rfl (sa_cons (se_lc2 (own := [("odds", 1), ("each", 2)]) (is := [1]) (is1 := [2]) (vs1 := [2]) rfl sc_choice_by.nd (si_seq (se_var (i := 0))) (blkOk_by (own := [("odds", 1), ("each", 2)]) (N := n_choice_by) (sc := defScope s_choice_by) (by decide +kernel)) (by decide) (by decide) (by decide) (gok_name 1) (fun _ _ _ _ _ => (sg_name (i := 1) sc_choice_by.nd)) (fun _ _ _ _ _ => sts_nil) (fun _ _ _ _ _ => (si_seq (se_var (i := 1)))) (fun _ _ _ _ _ => (sg_name (i := 2) sc_choice_by.nd)) (fun _ _ _ _ _ => sts_nil) (fun _ _ _ _ _ => (se_in hr (se_var (i := 2)) (se_tup (sa_cons (se_glob T.g_ZERO (by rfl)) (sa_cons (se_glob T.g_ONE (by rfl)) sa_nil)))))) sa_nil) T.b_all)))
    (sl_one (ss_ret se_non))
    sl_nil)
    (sl_one (ss_ret (se_tuple (sa_cons (se_lc (own := [("odds", 1)]) (is := [1]) rfl sc_choice_by.nd (si_seq (se_var (i := 0))) (blkOk_by (own := [("odds", 1)]) (N := n_choice_by) (sc := defScope s_choice_by) (by decide +kernel)) (by decide) (fun _ _ _ _ _ => (sg_name (i := 1) sc_choice_by.nd)) (fun _ _ _ _ _ => sts_nil) (fun _ _ _ _ _ => (se_idxT hr (se_var (i := 1)) (se_glob T.g_ONE (by rfl))))) sa_nil) T.b_tuple))))).imp fun _ _ _ _ => spOf_run'
theorem sc_doubled_by : FnScope n_doubled_by p_doubled_by (defScope s_doubled_by) := ⟨rfl, rfl, rfl, by decide +kernel, rfl, by decide +kernel, by decide +kernel⟩
theorem bd_doubled_by (T : Txt K mg ad fd) : Binds K (fd 17) p_doubled_by [] := T.d_doubled_by.binds (ps := p_doubled_by) fun _ _ _ _ _ _ us hl => match us, hl with | [_], _ => rfl
theorem ok_doubled_by (T : Txt K mg ad fd) : FnG P w K mg base 1 (ad 17) (fd 17) p_doubled_by (spOf K 1 f_doubled_by) := (fnG_of (m := m_doubled_by) T.d_doubled_by sc_doubled_by fun cdv A outer s H E hr hg =>
    (sl_one (ss_ret (se_sub (se_len (sa_cons (se_lc2 (own := [("odds", 1), ("each", 2)]) (is := [1]) (is1 := [2]) (vs1 := [2]) rfl sc_doubled_by.nd (si_seq (se_var (i := 0))) (blkOk_by (own := [("odds", 1), ("each", 2)]) (N := n_doubled_by) (sc := defScope s_doubled_by) (by decide +kernel)) (by decide) (by decide) (by decide) (gok_name 1) (fun _ _ _ _ _ => (sg_name (i := 1) sc_doubled_by.nd)) (fun _ _ _ _ _ => sts_nil) (fun _ _ _ _ _ => (si_seq (se_var (i := 1)))) (fun _ _ _ _ _ => (sg_name (i := 2) sc_doubled_by.nd)) (fun _ _ _ _ _ => sts_one (sb_ne hr (se_var (i := 2)) (se_glob T.g_ZERO (by rfl)))) (fun _ _ _ _ _ => (se_var (i := 2)))) sa_nil) T.b_len) (se_len (sa_cons (se_var (i := 0)) sa_nil) T.b_len))))).imp fun _ _ _ _ => spOf_run'
theorem sc_minded_by : FnScope n_minded_by p_minded_by (defScope s_minded_by) := ⟨rfl, rfl, rfl, by decide +kernel, rfl, by decide +kernel, by decide +kernel⟩
theorem bd_minded_by (T : Txt K mg ad fd) : Binds K (fd 18) p_minded_by [] := T.d_minded_by.binds (ps := p_minded_by) fun _ _ _ _ _ _ us hl => match us, hl with | [_], _ => rfl
theorem ok_minded_by (T : Txt K mg ad fd) : FnG P w K mg base 1 (ad 18) (fd 18) p_minded_by (spOf K 1 f_minded_by) := (fnG_of (m := m_minded_by) T.d_minded_by sc_minded_by fun cdv A outer s H E hr hg =>
    (sl_one (ss_ret (se_tup (sa_cons se_int (sa_cons (se_tuple (sa_cons (se_lc (own := [("odds", 1)]) (is := [1]) rfl sc_minded_by.nd (si_seq (se_var (i := 0))) (blkOk_by (own := [("odds", 1)]) (N := n_minded_by) (sc := defScope s_minded_by) (by decide +kernel)) (by decide) (fun _ _ _ _ _ => (sg_name (i := 1) sc_minded_by.nd)) (fun _ _ _ _ _ => sts_nil) (fun _ _ _ _ _ => (se_tup (sa_cons (se_var (i := 1)) sa_nil)))) sa_nil) T.b_tuple) (sa_cons (se_tuple (sa_cons (se_lc (own := [("odds", 1)]) (is := [1]) rfl sc_minded_by.nd (si_seq (se_var (i := 0))) (blkOk_by (own := [("odds", 1)]) (N := n_minded_by) (sc := defScope s_minded_by) (by decide +kernel)) (by decide) (fun _ _ _ _ _ => (sg_name (i := 1) sc_minded_by.nd)) (fun _ _ _ _ _ => sts_nil) (fun _ _ _ _ _ => (se_mul (se_tup (sa_cons (se_tup (sa_cons se_int sa_nil)) sa_nil)) (se_len (sa_cons (se_var (i := 1)) sa_nil) T.b_len)))) sa_nil) T.b_tuple) sa_nil))))))).imp fun _ _ _ _ => spOf_run'
theorem sc_are_chances : FnScope n_are_chances p_are_chances (defScope s_are_chances) := ⟨rfl, rfl, rfl, by decide +kernel, rfl, by decide +kernel, by decide +kernel⟩
theorem bd_are_chances (T : Txt K mg ad fd) : Binds K (fd 19) p_are_chances [] := T.d_are_chances.binds (ps := p_are_chances) fun _ _ _ _ _ _ us hl => match us, hl with | [_, _], _ => rfl
theorem ok_are_chances (T : Txt K mg ad fd) : FnG P w K mg base 4 (ad 19) (fd 19) p_are_chances (spOf K 2 f_are_chances) := (fnG_of (m := m_are_chances) T.d_are_chances sc_are_chances fun cdv A outer s H E hr hg =>
    (sl_cons (ss_if (sb_w (sw_or (sb_not (sb_val (se_isi (T := "tuple") (by decide) (se_var (i := 0)) T.b_isinstance T.b_tuple (by decide +kernel)))) (sw_or1 (sb_not (sb_val (se_all rfl (sa_cons (se_lc (own := [("each", 3)]) (is := [3]) rfl sc_are_chances.nd (si_seq (se_var (i := 0))) (blkOk_by (own := [("each", 3)]) (N := n_are_chances) (sc := defScope s_are_chances) (by decide +kernel)) (by decide) (fun _ _ _ _ _ => (sg_name (i := 3) sc_are_chances.nd)) (fun _ _ _ _ _ => sts_nil) (fun _ _ _ _ _ => (se_call (ok_is_tuple_of T) (hr.mono (by omega)) hg T.m_is_tuple_of T.d_is_tuple_of.kp (bd_is_tuple_of T) (sa_cons (se_var (i := 3)) (sa_cons se_int sa_nil))))) sa_nil) T.b_all))))))
    (sl_one (ss_ret se_bl))
    sl_nil)
    (sl_cons (ss_if (sb_not (sb_val (se_all rfl (sa_cons (se_lc (own := [("stand", 4), ("chance", 5)]) (is := [4, 5]) rfl sc_are_chances.nd (si_seq (se_var (i := 0))) (blkOk_by (own := [("stand", 4), ("chance", 5)]) (N := n_are_chances) (sc := defScope s_are_chances) (by decide +kernel)) (by decide) (fun _ _ _ _ _ => (sg_tup rfl (sgs_cons (sg_name (i := 4) sc_are_chances.nd) (sgs_cons (sg_name (i := 5) sc_are_chances.nd) sgs_nil)))) (fun _ _ _ _ _ => sts_nil) (fun _ _ _ _ _ => (se_and (se_call (ok_is_between T) (hr.mono (by omega)) hg T.m_is_between T.d_is_between.kp (bd_is_between T) (sa_cons (se_var (i := 4)) (sa_cons se_int (sa_cons (se_sub (se_var (i := 1)) se_int) sa_nil)))) (se_and (se_call (ok_is_ratio T) (hr.mono (by omega)) hg T.m_is_ratio T.d_is_ratio.kp (bd_is_ratio T) (sa_cons (se_var (i := 5)) sa_nil)) (se_one (se_gt (se_ix (se_var (i := 5)) se_int) se_int)))))) sa_nil) T.b_all)))
    (sl_one (ss_ret se_bl))
    sl_nil)
    (sl_cons (ss_setLc (i := 2) (own := [("stand", 4), ("_", 6)]) (is := [4, 6]) rfl sc_are_chances.nd rfl rfl (sw_true rfl rfl rfl (by decide +kernel)) (si_seq (se_var (i := 0))) (blkOk_by (own := [("stand", 4), ("_", 6)]) (N := n_are_chances) (sc := defScope s_are_chances) (by decide +kernel)) (by decide) (fun _ _ _ _ _ => (sg_tup rfl (sgs_cons (sg_name (i := 4) sc_are_chances.nd) (sgs_cons (sg_name (i := 6) sc_are_chances.nd) sgs_nil)))) (fun _ _ _ _ _ => sts_nil) (fun _ _ _ _ _ => (se_var (i := 4))))
    (sl_one (ss_frz [2] (ss_ret (se_and (se_all rfl (sa_cons (se_lc (own := [("one", 7), ("two", 8)]) (is := [7, 8]) rfl sc_are_chances.nd (si_z2 (sa_cons (se_var (i := 2)) (sa_cons (se_sl (se_var (i := 2)) (so_some se_int) so_none) sa_nil)) T.b_zip) (blkOk_by (own := [("one", 7), ("two", 8)]) (N := n_are_chances) (sc := defScope s_are_chances) (by decide +kernel)) (by decide) (fun _ _ _ _ _ => (sg_tup rfl (sgs_cons (sg_name (i := 7) sc_are_chances.nd) (sgs_cons (sg_name (i := 8) sc_are_chances.nd) sgs_nil)))) (fun _ _ _ _ _ => sts_nil) (fun _ _ _ _ _ => (se_lt (se_var (i := 7)) (se_var (i := 8))))) sa_nil) T.b_all) (se_one (se_eq hr (se_call (ok_total T) (hr.mono (by omega)) hg T.m_total T.d_total.kp (bd_total T) (sa_cons (se_lc (own := [("_", 6), ("chance", 5)]) (is := [6, 5]) rfl sc_are_chances.nd (si_seq (se_var (i := 0))) (blkOk_by (own := [("_", 6), ("chance", 5)]) (N := n_are_chances) (sc := defScope s_are_chances) (by decide +kernel)) (by decide) (fun _ _ _ _ _ => (sg_tup rfl (sgs_cons (sg_name (i := 6) sc_are_chances.nd) (sgs_cons (sg_name (i := 5) sc_are_chances.nd) sgs_nil)))) (fun _ _ _ _ _ => sts_nil) (fun _ _ _ _ _ => (se_var (i := 5)))) sa_nil)) (se_glob T.g_ONE (by rfl)))))))))))).imp fun _ _ _ _ => spOf_run'
theorem sc_is_deed : FnScope n_is_deed p_is_deed (defScope s_is_deed) := ⟨rfl, rfl, rfl, by decide +kernel, rfl, by decide +kernel, by decide +kernel⟩
theorem bd_is_deed (T : Txt K mg ad fd) : Binds K (fd 20) p_is_deed [] := T.d_is_deed.binds (ps := p_is_deed) fun _ _ _ _ _ _ us hl => match us, hl with | [_, _, _], _ => rfl
theorem ok_is_deed (T : Txt K mg ad fd) : FnG P w K mg base 5 (ad 20) (fd 20) p_is_deed (spOf K 3 f_is_deed) := (fnG_of (m := m_is_deed) T.d_is_deed sc_is_deed fun cdv A outer s H E hr hg =>
    (sl_one (ss_ret (se_and (se_call (ok_is_tuple_of T) (hr.mono (by omega)) hg T.m_is_tuple_of T.d_is_tuple_of.kp (bd_is_tuple_of T) (sa_cons (se_var (i := 0)) (sa_cons se_int sa_nil))) (se_and (se_call (ok_are_chances T) (hr.mono (by omega)) hg T.m_are_chances T.d_are_chances.kp (bd_are_chances T) (sa_cons (se_ix (se_var (i := 0)) se_int) (sa_cons (se_var (i := 2)) sa_nil))) (se_one (se_call (ok_is_row T) (hr.mono (by omega)) hg T.m_is_row T.d_is_row.kp (bd_is_row T) (sa_cons (se_ix (se_var (i := 0)) se_int) (sa_cons (se_var (i := 1)) sa_nil))))))))).imp fun _ _ _ _ => spOf_run'
theorem sc_is_stand : FnScope n_is_stand p_is_stand (defScope s_is_stand) := ⟨rfl, rfl, rfl, by decide +kernel, rfl, by decide +kernel, by decide +kernel⟩
theorem bd_is_stand (T : Txt K mg ad fd) : Binds K (fd 21) p_is_stand [] := T.d_is_stand.binds (ps := p_is_stand) fun _ _ _ _ _ _ us hl => match us, hl with | [_, _, _], _ => rfl
theorem ok_is_stand (T : Txt K mg ad fd) : FnG P w K mg base 6 (ad 21) (fd 21) p_is_stand (spOf K 3 f_is_stand) := (fnG_of (m := m_is_stand) T.d_is_stand sc_is_stand fun cdv A outer s H E hr hg =>
    (sl_cons (ss_if (sb_w (sw_or (sb_not (sb_val (se_isi (T := "tuple") (by decide) (se_var (i := 0)) T.b_isinstance T.b_tuple (by decide +kernel)))) (sw_or1 (sb_not (sb_val (se_call (ok_is_between T) (hr.mono (by omega)) hg T.m_is_between T.d_is_between.kp (bd_is_between T) (sa_cons (se_len (sa_cons (se_var (i := 0)) sa_nil) T.b_len) (sa_cons se_int (sa_cons (se_glob T.g_MOST_DEEDS (by rfl)) sa_nil)))))))))
    (sl_one (ss_ret se_bl))
    sl_nil)
    (sl_one (ss_ret (se_all rfl (sa_cons (se_lc (own := [("each", 3)]) (is := [3]) rfl sc_is_stand.nd (si_seq (se_var (i := 0))) (blkOk_by (own := [("each", 3)]) (N := n_is_stand) (sc := defScope s_is_stand) (by decide +kernel)) (by decide) (fun _ _ _ _ _ => (sg_name (i := 3) sc_is_stand.nd)) (fun _ _ _ _ _ => sts_nil) (fun _ _ _ _ _ => (se_call (ok_is_deed T) (hr.mono (by omega)) hg T.m_is_deed T.d_is_deed.kp (bd_is_deed T) (sa_cons (se_var (i := 3)) (sa_cons (se_var (i := 1)) (sa_cons (se_var (i := 2)) sa_nil)))))) sa_nil) T.b_all))))).imp fun _ _ _ _ => spOf_run'
theorem sc_is_share : FnScope n_is_share p_is_share (defScope s_is_share) := ⟨rfl, rfl, rfl, by decide +kernel, rfl, by decide +kernel, by decide +kernel⟩
theorem bd_is_share (T : Txt K mg ad fd) : Binds K (fd 22) p_is_share [] := T.d_is_share.binds (ps := p_is_share) fun _ _ _ _ _ _ us hl => match us, hl with | [_], _ => rfl
theorem ok_is_share (T : Txt K mg ad fd) : FnG P w K mg base 3 (ad 22) (fd 22) p_is_share (spOf K 1 f_is_share) := (fnG_of (m := m_is_share) T.d_is_share sc_is_share fun cdv A outer s H E hr hg =>
    (sl_one (ss_ret (se_and (se_call (ok_is_ratio T) (hr.mono (by omega)) hg T.m_is_ratio T.d_is_ratio.kp (bd_is_ratio T) (sa_cons (se_var (i := 0)) sa_nil)) (se_one (se_lelt se_int (se_ix (se_var (i := 0)) se_int) (se_ix (se_var (i := 0)) se_int))))))).imp fun _ _ _ _ => spOf_run'
theorem sc_is_house_by : FnScope n_is_house_by p_is_house_by (defScope s_is_house_by) := ⟨rfl, rfl, rfl, by decide +kernel, rfl, by decide +kernel, by decide +kernel⟩
theorem bd_is_house_by (T : Txt K mg ad fd) : Binds K (fd 23) p_is_house_by [] := T.d_is_house_by.binds (ps := p_is_house_by) fun _ _ _ _ _ _ us hl => match us, hl with | [_], _ => rfl
theorem ok_is_house_by (T : Txt K mg ad fd) : FnG P w K mg base 7 (ad 23) (fd 23) p_is_house_by (spOf K 1 f_is_house_by) := (fnG_of (m := m_is_house_by) T.d_is_house_by sc_is_house_by fun cdv A outer s H E hr hg =>
    (sl_cons (ss_if (sb_w (sw_or (sb_not (sb_val (se_call (ok_is_tuple_of T) (hr.mono (by omega)) hg T.m_is_tuple_of T.d_is_tuple_of.kp (bd_is_tuple_of T) (sa_cons (se_var (i := 0)) (sa_cons se_int sa_nil))))) (sw_or (sb_not (sb_val (se_call (ok_is_share T) (hr.mono (by omega)) hg T.m_is_share T.d_is_share.kp (bd_is_share T) (sa_cons (se_ix (se_var (i := 0)) se_int) sa_nil)))) (sw_or1 (sb_not (sb_val (se_call (ok_is_between T) (hr.mono (by omega)) hg T.m_is_between T.d_is_between.kp (bd_is_between T) (sa_cons (se_ix (se_var (i := 0)) se_int) (sa_cons se_int (sa_cons (se_glob T.g_MOST_PAYS (by rfl)) sa_nil))))))))))
    (sl_one (ss_ret se_bl))
    sl_nil)
    (sl_cons (ss_set (i := 1) sc_is_house_by.nd rfl (.inr rfl) (se_ix (se_var (i := 0)) se_int))
    (sl_cons (ss_if (sb_w (sw_or (sb_not (sb_val (se_isi (T := "tuple") (by decide) (se_var (i := 1)) T.b_isinstance T.b_tuple (by decide +kernel)))) (sw_or1 (sb_not (sb_val (se_call (ok_is_between T) (hr.mono (by omega)) hg T.m_is_between T.d_is_between.kp (bd_is_between T) (sa_cons (se_len (sa_cons (se_var (i := 1)) sa_nil) T.b_len) (sa_cons se_int (sa_cons (se_glob T.g_MOST_STANDS (by rfl)) sa_nil)))))))))
    (sl_one (ss_ret se_bl))
    sl_nil)
    (sl_one (ss_ret (se_all rfl (sa_cons (se_lc (own := [("each", 2)]) (is := [2]) rfl sc_is_house_by.nd (si_seq (se_var (i := 1))) (blkOk_by (own := [("each", 2)]) (N := n_is_house_by) (sc := defScope s_is_house_by) (by decide +kernel)) (by decide) (fun _ _ _ _ _ => (sg_name (i := 2) sc_is_house_by.nd)) (fun _ _ _ _ _ => sts_nil) (fun _ _ _ _ _ => (se_call (ok_is_stand T) (hr.mono (by omega)) hg T.m_is_stand T.d_is_stand.kp (bd_is_stand T) (sa_cons (se_var (i := 2)) (sa_cons (se_ix (se_var (i := 0)) se_int) (sa_cons (se_len (sa_cons (se_var (i := 1)) sa_nil) T.b_len) sa_nil)))))) sa_nil) T.b_all))))))).imp fun _ _ _ _ => spOf_run'
theorem sc_check_house : FnScope n_check_house p_check_house (defScope s_check_house) := ⟨rfl, rfl, rfl, by decide +kernel, rfl, by decide +kernel, by decide +kernel⟩
theorem bd_check_house (T : Txt K mg ad fd) : Binds K (fd 24) p_check_house [] := T.d_check_house.binds (ps := p_check_house) fun _ _ _ _ _ _ us hl => match us, hl with | [_], _ => rfl
theorem ok_check_house (T : Txt K mg ad fd) : FnG P w K mg base 8 (ad 24) (fd 24) p_check_house (spOf K 1 f_check_house) := (fnG_of (m := m_check_house) T.d_check_house sc_check_house fun cdv A outer s H E hr hg =>
    (sl_one (ss_if (sb_not (sb_val (se_call (ok_is_house_by T) (hr.mono (by omega)) hg T.m_is_house_by T.d_is_house_by.kp (bd_is_house_by T) (sa_cons (se_var (i := 0)) sa_nil))))
    (sl_one ss_never)
    sl_nil))).imp fun _ _ _ _ => spOf_run'
theorem sc_check_still : FnScope n_check_still p_check_still (defScope s_check_still) := ⟨rfl, rfl, rfl, by decide +kernel, rfl, by decide +kernel, by decide +kernel⟩
theorem bd_check_still (T : Txt K mg ad fd) : Binds K (fd 25) p_check_still [] := T.d_check_still.binds (ps := p_check_still) fun _ _ _ _ _ _ us hl => match us, hl with | [_, _], _ => rfl
theorem ok_check_still (T : Txt K mg ad fd) : FnG P w K mg base 5 (ad 25) (fd 25) p_check_still (spOf K 2 f_check_still) := (fnG_of (m := m_check_still) T.d_check_still sc_check_still fun cdv A outer s H E hr hg =>
    (sl_cons (ss_if (sb_not (sb_val (se_call (ok_is_tuple_of T) (hr.mono (by omega)) hg T.m_is_tuple_of T.d_is_tuple_of.kp (bd_is_tuple_of T) (sa_cons (se_var (i := 1)) (sa_cons (se_len (sa_cons (se_ix (se_var (i := 0)) se_int) sa_nil) T.b_len) sa_nil)))))
    (sl_one ss_never)
    sl_nil)
    (sl_one (ss_for PassesOwn.never rfl (si_enum (sa_cons (se_var (i := 1)) sa_nil) T.b_enumerate) (sg_tup rfl (sgs_cons (sg_name (i := 2) sc_check_still.nd) (sgs_cons (sg_name (i := 3) sc_check_still.nd) sgs_nil)))
    (sl_one (ss_if (sb_not (sb_val (se_call (ok_is_chance_row T) (hr.mono (by omega)) hg T.m_is_chance_row T.d_is_chance_row.kp (bd_is_chance_row T) (sa_cons (se_var (i := 3)) (sa_cons (se_len (sa_cons (se_ix (se_ix (se_var (i := 0)) se_int) (se_var (i := 2))) sa_nil) T.b_len) sa_nil)))))
    (sl_one ss_never)
    sl_nil)))))).imp fun _ _ _ _ => spOf_run'
theorem sc_check_choice : FnScope n_check_choice p_check_choice (defScope s_check_choice) := ⟨rfl, rfl, rfl, by decide +kernel, rfl, by decide +kernel, by decide +kernel⟩
theorem bd_check_choice (T : Txt K mg ad fd) : Binds K (fd 26) p_check_choice [] := T.d_check_choice.binds (ps := p_check_choice) fun _ _ _ _ _ _ us hl => match us, hl with | [_, _], _ => rfl
theorem ok_check_choice (T : Txt K mg ad fd) : FnG P w K mg base 3 (ad 26) (fd 26) p_check_choice (spOf K 2 f_check_choice) := (fnG_of (m := m_check_choice) T.d_check_choice sc_check_choice fun cdv A outer s H E hr hg =>
    (sl_cons (ss_if (sb_not (sb_val (se_call (ok_is_tuple_of T) (hr.mono (by omega)) hg T.m_is_tuple_of T.d_is_tuple_of.kp (bd_is_tuple_of T) (sa_cons (se_var (i := 1)) (sa_cons (se_len (sa_cons (se_ix (se_var (i := 0)) se_int) sa_nil) T.b_len) sa_nil)))))
    (sl_one ss_never)
    sl_nil)
    (sl_one (ss_for PassesOwn.never rfl (si_enum (sa_cons (se_var (i := 1)) sa_nil) T.b_enumerate) (sg_tup rfl (sgs_cons (sg_name (i := 2) sc_check_choice.nd) (sgs_cons (sg_name (i := 3) sc_check_choice.nd) sgs_nil)))
    (sl_one (ss_if (sb_not (sb_val (se_call (ok_is_between T) (hr.mono (by omega)) hg T.m_is_between T.d_is_between.kp (bd_is_between T) (sa_cons (se_var (i := 3)) (sa_cons se_int (sa_cons (se_sub (se_len (sa_cons (se_ix (se_ix (se_var (i := 0)) se_int) (se_var (i := 2))) sa_nil) T.b_len) se_int) sa_nil))))))
    (sl_one ss_never)
    sl_nil)))))).imp fun _ _ _ _ => spOf_run'
theorem sc_is_still : FnScope n_is_still p_is_still (defScope s_is_still) := ⟨rfl, rfl, rfl, by decide +kernel, rfl, by decide +kernel, by decide +kernel⟩
theorem bd_is_still (T : Txt K mg ad fd) : Binds K (fd 27) p_is_still [] := T.d_is_still.binds (ps := p_is_still) fun _ _ _ _ _ _ us hl => match us, hl with | [_, _], _ => rfl
theorem kb_is_still_10 (T : Txt K mg ad fd) : KB0 K (fd 27) p_is_still ["value", "house"] [1, 0] := by
  obtain ⟨oc, od, kV, doc, pm, an, cdv, ct, osl, e, _, _⟩ := T.d_is_still.ex
  rw [e]
  intro s ws hK hl
  match ws, hl with
  | [_, _], _ => exact BindsTo.of_eq rfl
theorem ok_is_still (T : Txt K mg ad fd) : FnG P w K mg base 9 (ad 27) (fd 27) p_is_still (spOf K 2 f_is_still) := (fnG_of (m := m_is_still) T.d_is_still sc_is_still fun cdv A outer s H E hr hg =>
    (sl_cons (ss_drop (se_call (ok_check_house T) (hr.mono (by omega)) hg T.m_check_house T.d_check_house.kp (bd_check_house T) (sa_cons (se_var (i := 0)) sa_nil)))
    (sl_one (ss_ret (se_call (ok_is_still_by T) (hr.mono (by omega)) hg T.m_is_still_by T.d_is_still_by.kp (bd_is_still_by T) (sa_cons (se_var (i := 0)) (sa_cons (se_var (i := 1)) sa_nil))))))).imp fun _ _ _ _ => spOf_run'
theorem sc_is_choice : FnScope n_is_choice p_is_choice (defScope s_is_choice) := ⟨rfl, rfl, rfl, by decide +kernel, rfl, by decide +kernel, by decide +kernel⟩
theorem bd_is_choice (T : Txt K mg ad fd) : Binds K (fd 28) p_is_choice [] := T.d_is_choice.binds (ps := p_is_choice) fun _ _ _ _ _ _ us hl => match us, hl with | [_, _], _ => rfl
theorem kb_is_choice_10 (T : Txt K mg ad fd) : KB0 K (fd 28) p_is_choice ["value", "house"] [1, 0] := by
  obtain ⟨oc, od, kV, doc, pm, an, cdv, ct, osl, e, _, _⟩ := T.d_is_choice.ex
  rw [e]
  intro s ws hK hl
  match ws, hl with
  | [_, _], _ => exact BindsTo.of_eq rfl
theorem ok_is_choice (T : Txt K mg ad fd) : FnG P w K mg base 9 (ad 28) (fd 28) p_is_choice (spOf K 2 f_is_choice) := (fnG_of (m := m_is_choice) T.d_is_choice sc_is_choice fun cdv A outer s H E hr hg =>
    (sl_cons (ss_drop (se_call (ok_check_house T) (hr.mono (by omega)) hg T.m_check_house T.d_check_house.kp (bd_check_house T) (sa_cons (se_var (i := 0)) sa_nil)))
    (sl_one (ss_ret (se_call (ok_is_choice_by T) (hr.mono (by omega)) hg T.m_is_choice_by T.d_is_choice_by.kp (bd_is_choice_by T) (sa_cons (se_var (i := 0)) (sa_cons (se_var (i := 1)) sa_nil))))))).imp fun _ _ _ _ => spOf_run'
theorem sc_is_minded : FnScope n_is_minded p_is_minded (defScope s_is_minded) := ⟨rfl, rfl, rfl, by decide +kernel, rfl, by decide +kernel, by decide +kernel⟩
theorem bd_is_minded (T : Txt K mg ad fd) : Binds K (fd 29) p_is_minded [] := T.d_is_minded.binds (ps := p_is_minded) fun _ _ _ _ _ _ us hl => match us, hl with | [_, _], _ => rfl
theorem ok_is_minded (T : Txt K mg ad fd) : FnG P w K mg base 9 (ad 29) (fd 29) p_is_minded (spOf K 2 f_is_minded) := (fnG_of (m := m_is_minded) T.d_is_minded sc_is_minded fun cdv A outer s H E hr hg =>
    (sl_cons (ss_drop (se_call (ok_check_house T) (hr.mono (by omega)) hg T.m_check_house T.d_check_house.kp (bd_check_house T) (sa_cons (se_var (i := 0)) sa_nil)))
    (sl_one (ss_ret (se_call (ok_is_minded_by T) (hr.mono (by omega)) hg T.m_is_minded_by T.d_is_minded_by.kp (bd_is_minded_by T) (sa_cons (se_var (i := 0)) (sa_cons (se_var (i := 1)) sa_nil))))))).imp fun _ _ _ _ => spOf_run'
theorem sc_still_of : FnScope n_still_of p_still_of (defScope s_still_of) := ⟨rfl, rfl, rfl, by decide +kernel, rfl, by decide +kernel, by decide +kernel⟩
theorem bd_still_of (T : Txt K mg ad fd) : Binds K (fd 30) p_still_of [] := T.d_still_of.binds (ps := p_still_of) fun _ _ _ _ _ _ us hl => match us, hl with | [_, _], _ => rfl
theorem kb_still_of_10 (T : Txt K mg ad fd) : KB0 K (fd 30) p_still_of ["choice", "house"] [1, 0] := by
  obtain ⟨oc, od, kV, doc, pm, an, cdv, ct, osl, e, _, _⟩ := T.d_still_of.ex
  rw [e]
  intro s ws hK hl
  match ws, hl with
  | [_, _], _ => exact BindsTo.of_eq rfl
theorem ok_still_of (T : Txt K mg ad fd) : FnG P w K mg base 9 (ad 30) (fd 30) p_still_of (spOf K 2 f_still_of) := (fnG_of (m := m_still_of) T.d_still_of sc_still_of fun cdv A outer s H E hr hg =>
    (sl_cons (ss_drop (se_call (ok_check_house T) (hr.mono (by omega)) hg T.m_check_house T.d_check_house.kp (bd_check_house T) (sa_cons (se_var (i := 0)) sa_nil)))
    (sl_cons (ss_drop (se_call (ok_check_choice T) (hr.mono (by omega)) hg T.m_check_choice T.d_check_choice.kp (bd_check_choice T) (sa_cons (se_var (i := 0)) (sa_cons (se_var (i := 1)) sa_nil))))
    (sl_one (ss_ret (se_call (ok_still_by T) (hr.mono (by omega)) hg T.m_still_by T.d_still_by.kp (bd_still_by T) (sa_cons (se_var (i := 0)) (sa_cons (se_var (i := 1)) sa_nil)))))))).imp fun _ _ _ _ => spOf_run'
theorem sc_choice_of : FnScope n_choice_of p_choice_of (defScope s_choice_of) := ⟨rfl, rfl, rfl, by decide +kernel, rfl, by decide +kernel, by decide +kernel⟩
theorem bd_choice_of (T : Txt K mg ad fd) : Binds K (fd 31) p_choice_of [] := T.d_choice_of.binds (ps := p_choice_of) fun _ _ _ _ _ _ us hl => match us, hl with | [_, _], _ => rfl
theorem kb_choice_of_01 (T : Txt K mg ad fd) : KB0 K (fd 31) p_choice_of ["house", "still"] [0, 1] := by
  obtain ⟨oc, od, kV, doc, pm, an, cdv, ct, osl, e, _, _⟩ := T.d_choice_of.ex
  rw [e]
  intro s ws hK hl
  match ws, hl with
  | [_, _], _ => exact BindsTo.of_eq rfl
theorem ok_choice_of (T : Txt K mg ad fd) : FnG P w K mg base 9 (ad 31) (fd 31) p_choice_of (spOf K 2 f_choice_of) := (fnG_of (m := m_choice_of) T.d_choice_of sc_choice_of fun cdv A outer s H E hr hg =>
    (sl_cons (ss_drop (se_call (ok_check_house T) (hr.mono (by omega)) hg T.m_check_house T.d_check_house.kp (bd_check_house T) (sa_cons (se_var (i := 0)) sa_nil)))
    (sl_cons (ss_drop (se_call (ok_check_still T) (hr.mono (by omega)) hg T.m_check_still T.d_check_still.kp (bd_check_still T) (sa_cons (se_var (i := 0)) (sa_cons (se_var (i := 1)) sa_nil))))
    (sl_one (ss_ret (se_call (ok_choice_by T) (hr.mono (by omega)) hg T.m_choice_by T.d_choice_by.kp (bd_choice_by T) (sa_cons (se_var (i := 1)) sa_nil))))))).imp fun _ _ _ _ => spOf_run'
end
end WW
namespace WW
open PySem PySem.Spec L2 Dh
section
variable {P : Program} {w : World} {K : PySem.W.Frag} {mg : Str → Option Value} {base : Heap} {ad : Nat → Addr} {fd : Nat → FuncData}
theorem sc_doubled : FnScope n_doubled p_doubled (defScope s_doubled) := ⟨rfl, rfl, rfl, by decide +kernel, rfl, by decide +kernel, by decide +kernel⟩
theorem bd_doubled (T : Txt K mg ad fd) : Binds K (fd 32) p_doubled [] := T.d_doubled.binds (ps := p_doubled) fun _ _ _ _ _ _ us hl => match us, hl with | [_, _], _ => rfl
theorem kb_doubled_10 (T : Txt K mg ad fd) : KB0 K (fd 32) p_doubled ["still", "house"] [1, 0] := by
  obtain ⟨oc, od, kV, doc, pm, an, cdv, ct, osl, e, _, _⟩ := T.d_doubled.ex
  rw [e]
  intro s ws hK hl
  match ws, hl with
  | [_, _], _ => exact BindsTo.of_eq rfl
theorem ok_doubled (T : Txt K mg ad fd) : FnG P w K mg base 9 (ad 32) (fd 32) p_doubled (spOf K 2 f_doubled) := (fnG_of (m := m_doubled) T.d_doubled sc_doubled fun cdv A outer s H E hr hg =>
    (sl_cons (ss_drop (se_call (ok_check_house T) (hr.mono (by omega)) hg T.m_check_house T.d_check_house.kp (bd_check_house T) (sa_cons (se_var (i := 0)) sa_nil)))
    (sl_cons (ss_drop (se_call (ok_check_still T) (hr.mono (by omega)) hg T.m_check_still T.d_check_still.kp (bd_check_still T) (sa_cons (se_var (i := 0)) (sa_cons (se_var (i := 1)) sa_nil))))
    (sl_one (ss_ret (se_call (ok_doubled_by T) (hr.mono (by omega)) hg T.m_doubled_by T.d_doubled_by.kp (bd_doubled_by T) (sa_cons (se_var (i := 1)) sa_nil))))))).imp fun _ _ _ _ => spOf_run'
theorem sc_minded_of : FnScope n_minded_of p_minded_of (defScope s_minded_of) := ⟨rfl, rfl, rfl, by decide +kernel, rfl, by decide +kernel, by decide +kernel⟩
theorem bd_minded_of (T : Txt K mg ad fd) : Binds K (fd 33) p_minded_of [] := T.d_minded_of.binds (ps := p_minded_of) fun _ _ _ _ _ _ us hl => match us, hl with | [_, _], _ => rfl
theorem kb_minded_of_10 (T : Txt K mg ad fd) : KB0 K (fd 33) p_minded_of ["still", "house"] [1, 0] := by
  obtain ⟨oc, od, kV, doc, pm, an, cdv, ct, osl, e, _, _⟩ := T.d_minded_of.ex
  rw [e]
  intro s ws hK hl
  match ws, hl with
  | [_, _], _ => exact BindsTo.of_eq rfl
theorem ok_minded_of (T : Txt K mg ad fd) : FnG P w K mg base 9 (ad 33) (fd 33) p_minded_of (spOf K 2 f_minded_of) := (fnG_of (m := m_minded_of) T.d_minded_of sc_minded_of fun cdv A outer s H E hr hg =>
    (sl_cons (ss_drop (se_call (ok_check_house T) (hr.mono (by omega)) hg T.m_check_house T.d_check_house.kp (bd_check_house T) (sa_cons (se_var (i := 0)) sa_nil)))
    (sl_cons (ss_drop (se_call (ok_check_still T) (hr.mono (by omega)) hg T.m_check_still T.d_check_still.kp (bd_check_still T) (sa_cons (se_var (i := 0)) (sa_cons (se_var (i := 1)) sa_nil))))
    (sl_one (ss_ret (se_call (ok_minded_by T) (hr.mono (by omega)) hg T.m_minded_by T.d_minded_by.kp (bd_minded_by T) (sa_cons (se_var (i := 1)) sa_nil))))))).imp fun _ _ _ _ => spOf_run'
theorem sc_law_spring : FnScope n_law_spring p_law_spring (defScope s_law_spring) := ⟨rfl, rfl, rfl, by decide +kernel, rfl, by decide +kernel, by decide +kernel⟩
theorem bd_law_spring (T : Txt K mg ad fd) : Binds K (fd 34) p_law_spring [] := T.d_law_spring.binds (ps := p_law_spring) fun _ _ _ _ _ _ us hl => match us, hl with | [_, _], _ => rfl
theorem ok_law_spring (T : Txt K mg ad fd) : FnG P w K mg base 1 (ad 34) (fd 34) p_law_spring (spOf K 2 f_law_spring) := (fnG_of (m := m_law_spring) T.d_law_spring sc_law_spring fun cdv A outer s H E hr hg =>
    (sl_cons (ss_set (i := 2) sc_law_spring.nd rfl (.inl rfl) (se_add se_int (se_mul se_int (se_var (i := 1)))))
    (sl_cons (ss_for PassesOwn.never rfl (si_seq (se_sl (se_var (i := 0)) so_none (so_some se_int))) (sg_name (i := 3) sc_law_spring.nd)
    (sl_one (ss_set (i := 2) sc_law_spring.nd rfl (.inl rfl) (se_mod (se_toint (sa_cons (se_add (se_add (se_mul (se_var (i := 2)) se_int) (se_mul (se_mod (se_toint (sa_cons (se_var (i := 3)) sa_nil) T.b_int) se_int) se_int)) se_int) sa_nil) T.b_int) se_int))))
    (sl_cons (ss_set (i := 4) sc_law_spring.nd rfl (.inl rfl) (se_if (sb_lt (se_var (i := 1)) (se_len (sa_cons (se_var (i := 0)) sa_nil) T.b_len)) (se_toint (sa_cons (se_ix (se_var (i := 0)) (se_var (i := 1))) sa_nil) T.b_int) se_int))
    (sl_cons (ss_set (i := 2) sc_law_spring.nd rfl (.inl rfl) (se_mod (se_toint (sa_cons (se_add (se_add (se_mul (se_var (i := 2)) se_int) (se_mul (se_mod (se_toint (sa_cons (se_var (i := 4)) sa_nil) T.b_int) se_int) se_int)) se_int) sa_nil) T.b_int) se_int))
    (sl_one (ss_ret (se_lst (sa_cons (se_if (sb_w (sw_or (sb_lt (se_var (i := 4)) se_int) (sw_or1 (sb_ge (se_var (i := 4)) (se_pow se_int se_int))))) (se_abs (sa_cons (se_var (i := 4)) sa_nil) T.b_abs) se_int) (sa_cons (se_var (i := 2)) (sa_cons se_int sa_nil))))))))))).imp fun _ _ _ _ => spOf_run'
theorem sc_law_pick : FnScope n_law_pick p_law_pick (defScope s_law_pick) := ⟨rfl, rfl, rfl, by decide +kernel, rfl, by decide +kernel, by decide +kernel⟩
theorem bd_law_pick (T : Txt K mg ad fd) : Binds K (fd 35) p_law_pick [] := T.d_law_pick.binds (ps := p_law_pick) fun _ _ _ _ _ _ us hl => match us, hl with | [_, _], _ => rfl
theorem ok_law_pick (T : Txt K mg ad fd) : FnG P w K mg base 1 (ad 35) (fd 35) p_law_pick (spOf K 2 f_law_pick) := (fnG_of (m := m_law_pick) T.d_law_pick sc_law_pick fun cdv A outer s H E hr hg =>
    (sl_cons (ss_if (sb_gt (se_ix (se_var (i := 0)) se_int) se_int)
    (sl_cons (ss_pair (i := 0) (j := 2) rfl sc_law_pick.nd (se_divmod (sa_cons (se_ix (se_var (i := 0)) se_int) (sa_cons (se_var (i := 1)) sa_nil)) T.b_divmod) (pg_sub (pv 0) se_int set_list))
    (sl_one (ss_retV (i := 2))))
    sl_nil)
    (sl_cons (ss_put (i := 0) (se_add (se_ix (se_var (i := 0)) se_int) se_int) (pg_sub (pv 0) se_int set_list))
    (sl_cons (ss_set (i := 3) sc_law_pick.nd rfl (.inl rfl) (se_mod (se_toint (sa_cons (se_add (se_mul (se_ix (se_var (i := 0)) se_int) se_int) (se_mul se_int (se_ix (se_var (i := 0)) se_int))) sa_nil) T.b_int) se_int))
    (sl_cons (ss_put (i := 0) (se_mod (se_toint (sa_cons (se_add (se_mul (se_var (i := 3)) (se_add (se_mod (se_toint (sa_cons (se_var (i := 3)) sa_nil) T.b_int) se_int) se_int)) (se_ix (se_var (i := 0)) se_int)) sa_nil) T.b_int) se_int) (pg_sub (pv 0) se_int set_list))
    (sl_one (ss_ret (se_mod (se_toint (sa_cons (se_fdiv (se_ix (se_var (i := 0)) se_int) se_int) sa_nil) T.b_int) (se_var (i := 1)))))))))).imp fun _ _ _ _ => spOf_run'
theorem sc_law_any_of : FnScope n_law_any_of p_law_any_of (defScope s_law_any_of) := ⟨rfl, rfl, rfl, by decide +kernel, rfl, by decide +kernel, by decide +kernel⟩
theorem bd_law_any_of (T : Txt K mg ad fd) : Binds K (fd 36) p_law_any_of [] := T.d_law_any_of.binds (ps := p_law_any_of) fun _ _ _ _ _ _ us hl => match us, hl with | [_, _], _ => rfl
theorem ok_law_any_of (T : Txt K mg ad fd) : FnG P w K mg base 2 (ad 36) (fd 36) p_law_any_of (spOf K 2 f_law_any_of) := (fnG_of (m := m_law_any_of) T.d_law_any_of sc_law_any_of fun cdv A outer s H E hr hg =>
    (sl_one (ss_ret (se_ix (se_var (i := 1)) (se_call (ok_law_pick T) (hr.mono (by omega)) hg T.m_law_pick T.d_law_pick.kp (bd_law_pick T) (sa_cons (se_var (i := 0)) (sa_cons (se_len (sa_cons (se_var (i := 1)) sa_nil) T.b_len) sa_nil))))))).imp fun _ _ _ _ => spOf_run'
theorem sc_law_frac : FnScope n_law_frac p_law_frac (defScope s_law_frac) := ⟨rfl, rfl, rfl, by decide +kernel, rfl, by decide +kernel, by decide +kernel⟩
theorem bd_law_frac (T : Txt K mg ad fd) : Binds K (fd 37) p_law_frac [] := T.d_law_frac.binds (ps := p_law_frac) fun _ _ _ _ _ _ us hl => match us, hl with | [_, _], _ => rfl
theorem ok_law_frac (T : Txt K mg ad fd) : FnG P w K mg base 1 (ad 37) (fd 37) p_law_frac (spOf K 2 f_law_frac) := (fnG_of (m := m_law_frac) T.d_law_frac sc_law_frac fun cdv A outer s H E hr hg =>
    (sl_cons (ss_par (i := 2) (j := 3) rfl sc_law_frac.nd (sa_cons (se_abs (sa_cons (se_var (i := 0)) sa_nil) T.b_abs) (sa_cons (se_abs (sa_cons (se_var (i := 1)) sa_nil) T.b_abs) sa_nil)))
    (sl_cons (ss_while PassesOwn.never (sb_gt (se_var (i := 3)) se_int)
    (sl_one (ss_par (i := 2) (j := 3) rfl sc_law_frac.nd (sa_cons (se_var (i := 3)) (sa_cons (se_mod (se_toint (sa_cons (se_var (i := 2)) sa_nil) T.b_int) (se_var (i := 3))) sa_nil)))))
    (sl_one (ss_ret (se_if (sb_gt (se_var (i := 1)) se_int) (se_tup (sa_cons (se_fdiv (se_var (i := 0)) (se_var (i := 2))) (sa_cons (se_fdiv (se_var (i := 1)) (se_var (i := 2))) sa_nil))) (se_tup (sa_cons (se_sub se_int (se_fdiv (se_var (i := 0)) (se_var (i := 2)))) (sa_cons (se_sub se_int (se_fdiv (se_var (i := 1)) (se_var (i := 2)))) sa_nil))))))))).imp fun _ _ _ _ => spOf_run'
theorem sc_law_plus : FnScope n_law_plus p_law_plus (defScope s_law_plus) := ⟨rfl, rfl, rfl, by decide +kernel, rfl, by decide +kernel, by decide +kernel⟩
theorem bd_law_plus (T : Txt K mg ad fd) : Binds K (fd 38) p_law_plus [] := T.d_law_plus.binds (ps := p_law_plus) fun _ _ _ _ _ _ us hl => match us, hl with | [_, _], _ => rfl
theorem ok_law_plus (T : Txt K mg ad fd) : FnG P w K mg base 2 (ad 38) (fd 38) p_law_plus (spOf K 2 f_law_plus) := (fnG_of (m := m_law_plus) T.d_law_plus sc_law_plus fun cdv A outer s H E hr hg =>
    (sl_one (ss_ret (se_call (ok_law_frac T) (hr.mono (by omega)) hg T.m_law_frac T.d_law_frac.kp (bd_law_frac T) (sa_cons (se_add (se_mul (se_ix (se_var (i := 0)) se_int) (se_ix (se_var (i := 1)) se_int)) (se_mul (se_ix (se_var (i := 1)) se_int) (se_ix (se_var (i := 0)) se_int))) (sa_cons (se_mul (se_ix (se_var (i := 0)) se_int) (se_ix (se_var (i := 1)) se_int)) sa_nil)))))).imp fun _ _ _ _ => spOf_run'
theorem sc_law_total : FnScope n_law_total p_law_total (defScope s_law_total) := ⟨rfl, rfl, rfl, by decide +kernel, rfl, by decide +kernel, by decide +kernel⟩
theorem bd_law_total (T : Txt K mg ad fd) : Binds K (fd 39) p_law_total [] := T.d_law_total.binds (ps := p_law_total) fun _ _ _ _ _ _ us hl => match us, hl with | [_], _ => rfl
theorem ok_law_total (T : Txt K mg ad fd) : FnG P w K mg base 3 (ad 39) (fd 39) p_law_total (spOf K 1 f_law_total) := (fnG_of (m := m_law_total) T.d_law_total sc_law_total fun cdv A outer s H E hr hg =>
    (sl_cons (ss_set (i := 1) sc_law_total.nd rfl (.inl rfl) (se_tup (sa_cons se_int (sa_cons se_int sa_nil))))
    (sl_cons (ss_for PassesOwn.never rfl (si_seq (se_var (i := 0))) (sg_name (i := 2) sc_law_total.nd)
    (sl_one (ss_set (i := 1) sc_law_total.nd rfl (.inl rfl) (se_call (ok_law_plus T) (hr.mono (by omega)) hg T.m_law_plus T.d_law_plus.kp (bd_law_plus T) (sa_cons (se_var (i := 1)) (sa_cons (se_var (i := 2)) sa_nil))))))
    (sl_one (ss_retV (i := 1)))))).imp fun _ _ _ _ => spOf_run'
theorem sc_law_part : FnScope n_law_part p_law_part (defScope s_law_part) := ⟨rfl, rfl, rfl, by decide +kernel, rfl, by decide +kernel, by decide +kernel⟩
theorem bd_law_part (T : Txt K mg ad fd) : Binds K (fd 40) p_law_part [] := T.d_law_part.binds (ps := p_law_part) fun _ _ _ _ _ _ us hl => match us, hl with | [_], _ => rfl
theorem ok_law_part (T : Txt K mg ad fd) : FnG P w K mg base 2 (ad 40) (fd 40) p_law_part (spOf K 1 f_law_part) := (fnG_of (m := m_law_part) T.d_law_part sc_law_part fun cdv A outer s H E hr hg =>
    (sl_cons (ss_set (i := 1) sc_law_part.nd rfl (.inl rfl) (se_call (ok_law_pick T) (hr.mono (by omega)) hg T.m_law_pick T.d_law_pick.kp (bd_law_pick T) (sa_cons (se_var (i := 0)) (sa_cons se_int sa_nil))))
    (sl_cons (ss_if (sb_lt (se_var (i := 1)) se_int)
    (sl_one (ss_ret (se_ix (se_tup (sa_cons (se_tup (sa_cons se_int (sa_cons se_int sa_nil))) (sa_cons (se_tup (sa_cons se_int (sa_cons se_int sa_nil))) (sa_cons (se_tup (sa_cons se_int (sa_cons se_int sa_nil))) (sa_cons (se_tup (sa_cons se_int (sa_cons se_int sa_nil))) (sa_cons (se_tup (sa_cons se_int (sa_cons se_int sa_nil))) (sa_cons (se_tup (sa_cons se_int (sa_cons se_int sa_nil))) (sa_cons (se_tup (sa_cons se_int (sa_cons se_int sa_nil))) sa_nil)))))))) (se_var (i := 1)))))
    sl_nil)
    (sl_cons (ss_set (i := 2) sc_law_part.nd rfl (.inl rfl) (se_add se_int (se_call (ok_law_pick T) (hr.mono (by omega)) hg T.m_law_pick T.d_law_pick.kp (bd_law_pick T) (sa_cons (se_var (i := 0)) (sa_cons se_int sa_nil)))))
    (sl_one (ss_ret (se_call (ok_law_frac T) (hr.mono (by omega)) hg T.m_law_frac T.d_law_frac.kp (bd_law_frac T) (sa_cons (se_call (ok_law_pick T) (hr.mono (by omega)) hg T.m_law_pick T.d_law_pick.kp (bd_law_pick T) (sa_cons (se_var (i := 0)) (sa_cons (se_var (i := 2)) sa_nil))) (sa_cons (se_var (i := 2)) sa_nil))))))))).imp fun _ _ _ _ => spOf_run'
theorem sc_law_gains : FnScope n_law_gains p_law_gains (defScope s_law_gains) := ⟨rfl, rfl, rfl, by decide +kernel, rfl, by decide +kernel, by decide +kernel⟩
theorem bd_law_gains (T : Txt K mg ad fd) : Binds K (fd 41) p_law_gains [] := T.d_law_gains.binds (ps := p_law_gains) fun _ _ _ _ _ _ us hl => match us, hl with | [_, _], _ => rfl
theorem ok_law_gains (T : Txt K mg ad fd) : FnG P w K mg base 3 (ad 41) (fd 41) p_law_gains (spOf K 2 f_law_gains) := (fnG_of (m := m_law_gains) T.d_law_gains sc_law_gains fun cdv A outer s H E hr hg =>
    (sl_cons (ss_set (i := 2) sc_law_gains.nd rfl (.inl rfl) (se_lst sa_nil))
    (sl_cons (ss_for PassesOwn.never rfl (si_range1 (sa_cons (se_var (i := 1)) sa_nil) T.b_range) (sg_name (i := 3) sc_law_gains.nd)
    (sl_one (ss_if (sb_eq hr (se_call (ok_law_pick T) (hr.mono (by omega)) hg T.m_law_pick T.d_law_pick.kp (bd_law_pick T) (sa_cons (se_var (i := 0)) (sa_cons se_int sa_nil))) se_int)
    (sl_one (ss_append (i := 2) (se_call (ok_law_frac T) (hr.mono (by omega)) hg T.m_law_frac T.d_law_frac.kp (bd_law_frac T) (sa_cons (se_sub (se_call (ok_law_pick T) (hr.mono (by omega)) hg T.m_law_pick T.d_law_pick.kp (bd_law_pick T) (sa_cons (se_var (i := 0)) (sa_cons se_int sa_nil))) se_int) (sa_cons (se_add se_int (se_call (ok_law_pick T) (hr.mono (by omega)) hg T.m_law_pick T.d_law_pick.kp (bd_law_pick T) (sa_cons (se_var (i := 0)) (sa_cons se_int sa_nil)))) sa_nil)))))
    (sl_one (ss_append (i := 2) (se_call (ok_law_frac T) (hr.mono (by omega)) hg T.m_law_frac T.d_law_frac.kp (bd_law_frac T) (sa_cons (se_sub (se_call (ok_law_pick T) (hr.mono (by omega)) hg T.m_law_pick T.d_law_pick.kp (bd_law_pick T) (sa_cons (se_var (i := 0)) (sa_cons se_int sa_nil))) se_int) (sa_cons (se_call (ok_law_any_of T) (hr.mono (by omega)) hg T.m_law_any_of T.d_law_any_of.kp (bd_law_any_of T) (sa_cons (se_var (i := 0)) (sa_cons (se_tup (sa_cons se_int (sa_cons se_int (sa_cons se_int (sa_cons se_int (sa_cons se_int sa_nil)))))) sa_nil))) sa_nil))))))))
    (sl_one (ss_ret (se_tuple (sa_cons (se_var (i := 2)) sa_nil) T.b_tuple)))))).imp fun _ _ _ _ => spOf_run'
theorem sc_law_parts : FnScope n_law_parts p_law_parts (defScope s_law_parts) := ⟨rfl, rfl, rfl, by decide +kernel, rfl, by decide +kernel, by decide +kernel⟩
theorem bd_law_parts (T : Txt K mg ad fd) : Binds K (fd 42) p_law_parts [] := T.d_law_parts.binds (ps := p_law_parts) fun _ _ _ _ _ _ us hl => match us, hl with | [_, _], _ => rfl
theorem ok_law_parts (T : Txt K mg ad fd) : FnG P w K mg base 2 (ad 42) (fd 42) p_law_parts (spOf K 2 f_law_parts) := (fnG_of (m := m_law_parts) T.d_law_parts sc_law_parts fun cdv A outer s H E hr hg =>
    (sl_cons (ss_set (i := 2) sc_law_parts.nd rfl (.inl rfl) (se_lst sa_nil))
    (sl_cons (ss_for PassesOwn.never rfl (si_range1 (sa_cons (se_var (i := 1)) sa_nil) T.b_range) (sg_name (i := 3) sc_law_parts.nd)
    (sl_cons (ss_set (i := 4) sc_law_parts.nd rfl (.inl rfl) (se_call (ok_law_pick T) (hr.mono (by omega)) hg T.m_law_pick T.d_law_pick.kp (bd_law_pick T) (sa_cons (se_var (i := 0)) (sa_cons se_int sa_nil))))
    (sl_one (ss_append (i := 2) (se_if (sb_lt (se_var (i := 4)) se_int) (se_ix (se_tup (sa_cons se_int (sa_cons se_int (sa_cons se_int (sa_cons se_int (sa_cons se_int (sa_cons se_int (sa_cons se_int (sa_cons se_int (sa_cons se_int (sa_cons se_int (sa_cons se_int (sa_cons se_int sa_nil))))))))))))) (se_var (i := 4))) (se_add se_int (se_call (ok_law_pick T) (hr.mono (by omega)) hg T.m_law_pick T.d_law_pick.kp (bd_law_pick T) (sa_cons (se_var (i := 0)) (sa_cons se_int sa_nil)))))))))
    (sl_cons (ss_if (sb_eq hr (se_sum rfl (sa_cons (se_var (i := 2)) sa_nil) T.b_sum) se_int)
    (sl_one (ss_put (i := 2) se_int (pg_sub (pv 2) (se_call (ok_law_pick T) (hr.mono (by omega)) hg T.m_law_pick T.d_law_pick.kp (bd_law_pick T) (sa_cons (se_var (i := 0)) (sa_cons (se_var (i := 1)) sa_nil))) set_list)))
    sl_nil)
    (sl_one (ss_retV (i := 2))))))).imp fun _ _ _ _ => spOf_run'
theorem sc_law_chances : FnScope n_law_chances p_law_chances (defScope s_law_chances) := ⟨rfl, rfl, rfl, by decide +kernel, rfl, by decide +kernel, by decide +kernel⟩
theorem bd_law_chances (T : Txt K mg ad fd) : Binds K (fd 43) p_law_chances [] := T.d_law_chances.binds (ps := p_law_chances) fun _ _ _ _ _ _ us hl => match us, hl with | [_, _], _ => rfl
theorem ok_law_chances (T : Txt K mg ad fd) : FnG P w K mg base 3 (ad 43) (fd 43) p_law_chances (spOf K 2 f_law_chances) := (fnG_of (m := m_law_chances) T.d_law_chances sc_law_chances fun cdv A outer s H E hr hg =>
    (sl_cons (ss_set (i := 2) sc_law_chances.nd rfl (.inr rfl) (se_call (ok_law_parts T) (hr.mono (by omega)) hg T.m_law_parts T.d_law_parts.kp (bd_law_parts T) (sa_cons (se_var (i := 0)) (sa_cons (se_var (i := 1)) sa_nil))))
    (sl_one (ss_ret (se_tuple (sa_cons (se_lc (own := [("_law_at", 3)]) (is := [3]) rfl sc_law_chances.nd (si_range1 (sa_cons (se_var (i := 1)) sa_nil) T.b_range) (blkOk_by (own := [("_law_at", 3)]) (N := n_law_chances) (sc := defScope s_law_chances) (by decide +kernel)) (by decide) (fun _ _ _ _ _ => (sg_name (i := 3) sc_law_chances.nd)) (fun _ _ _ _ _ => sts_one (sb_gt (se_ix (se_var (i := 2)) (se_var (i := 3))) se_int)) (fun _ _ _ _ _ => (se_tup (sa_cons (se_var (i := 3)) (sa_cons (se_call (ok_law_frac T) (hr.mono (by omega)) hg T.m_law_frac T.d_law_frac.kp (bd_law_frac T) (sa_cons (se_ix (se_var (i := 2)) (se_var (i := 3))) (sa_cons (se_sum rfl (sa_cons (se_var (i := 2)) sa_nil) T.b_sum) sa_nil))) sa_nil))))) sa_nil) T.b_tuple))))).imp fun _ _ _ _ => spOf_run'
theorem sc_law_odds : FnScope n_law_odds p_law_odds (defScope s_law_odds) := ⟨rfl, rfl, rfl, by decide +kernel, rfl, by decide +kernel, by decide +kernel⟩
theorem bd_law_odds (T : Txt K mg ad fd) : Binds K (fd 44) p_law_odds [] := T.d_law_odds.binds (ps := p_law_odds) fun _ _ _ _ _ _ us hl => match us, hl with | [_, _], _ => rfl
theorem ok_law_odds (T : Txt K mg ad fd) : FnG P w K mg base 3 (ad 44) (fd 44) p_law_odds (spOf K 2 f_law_odds) := (fnG_of (m := m_law_odds) T.d_law_odds sc_law_odds fun cdv A outer s H E hr hg =>
    (sl_cons (ss_set (i := 2) sc_law_odds.nd rfl (.inr rfl) (se_call (ok_law_parts T) (hr.mono (by omega)) hg T.m_law_parts T.d_law_parts.kp (bd_law_parts T) (sa_cons (se_var (i := 0)) (sa_cons (se_var (i := 1)) sa_nil))))
    (sl_one (ss_frz [2] (ss_ret (se_tuple (sa_cons (se_lc (own := [("_law_part_here", 3)]) (is := [3]) rfl sc_law_odds.nd (si_seq (se_var (i := 2))) (blkOk_by (own := [("_law_part_here", 3)]) (N := n_law_odds) (sc := defScope s_law_odds) (by decide +kernel)) (by decide) (fun _ _ _ _ _ => (sg_name (i := 3) sc_law_odds.nd)) (fun _ _ _ _ _ => sts_nil) (fun _ _ _ _ _ => (se_call (ok_law_frac T) (hr.mono (by omega)) hg T.m_law_frac T.d_law_frac.kp (bd_law_frac T) (sa_cons (se_var (i := 3)) (sa_cons (se_sum rfl (sa_cons (se_var (i := 2)) sa_nil) T.b_sum) sa_nil))))) sa_nil) T.b_tuple)))))).imp fun _ _ _ _ => spOf_run'
theorem sc_law_sized : FnScope n_law_sized p_law_sized (defScope s_law_sized) := ⟨rfl, rfl, rfl, by decide +kernel, rfl, by decide +kernel, by decide +kernel⟩
theorem bd_law_sized (T : Txt K mg ad fd) : Binds K (fd 45) p_law_sized [] := T.d_law_sized.binds (ps := p_law_sized) fun _ _ _ _ _ _ us hl => match us, hl with | [_, _, _], _ => rfl
theorem ok_law_sized (T : Txt K mg ad fd) : FnG P w K mg base 4 (ad 45) (fd 45) p_law_sized (spOf K 3 f_law_sized) := (fnG_of (m := m_law_sized) T.d_law_sized sc_law_sized fun cdv A outer s H E hr hg =>
    (sl_cons (ss_par (i := 3) (j := 4) rfl sc_law_sized.nd (sa_cons (se_call (ok_law_part T) (hr.mono (by omega)) hg T.m_law_part T.d_law_part.kp (bd_law_part T) (sa_cons (se_var (i := 0)) sa_nil)) (sa_cons (se_lst sa_nil) sa_nil)))
    (sl_cons (ss_for PassesOwn.never rfl (si_seq (se_var (i := 1))) (sg_name (i := 5) sc_law_sized.nd)
    (sl_cons (ss_set (i := 6) sc_law_sized.nd rfl (.inl rfl) (se_lst sa_nil))
    (sl_cons (ss_for PassesOwn.never rfl (si_range1 (sa_cons (se_var (i := 5)) sa_nil) T.b_range) (sg_name (i := 7) sc_law_sized.nd)
    (sl_one (ss_if (sb_w (sw_and (sb_ne hr (se_var (i := 6)) (se_lst sa_nil)) (sw_and1 (sb_eq hr (se_call (ok_law_pick T) (hr.mono (by omega)) hg T.m_law_pick T.d_law_pick.kp (bd_law_pick T) (sa_cons (se_var (i := 0)) (sa_cons se_int sa_nil))) se_int))))
    (sl_one (ss_append (i := 6) (se_ix (se_var (i := 6)) se_int)))
    (sl_cons (ss_set (i := 8) sc_law_sized.nd rfl (.inl rfl) (se_call (ok_law_chances T) (hr.mono (by omega)) hg T.m_law_chances T.d_law_chances.kp (bd_law_chances T) (sa_cons (se_var (i := 0)) (sa_cons (se_len (sa_cons (se_var (i := 1)) sa_nil) T.b_len) sa_nil))))
    (sl_one (ss_append (i := 6) (se_tup (sa_cons (se_var (i := 8)) (sa_cons (se_call (ok_law_gains T) (hr.mono (by omega)) hg T.m_law_gains T.d_law_gains.kp (bd_law_gains T) (sa_cons (se_var (i := 0)) (sa_cons (se_var (i := 2)) sa_nil))) sa_nil)))))))))
    (sl_one (ss_append (i := 4) (se_tuple (sa_cons (se_var (i := 6)) sa_nil) T.b_tuple))))))
    (sl_one (ss_ret (se_tup (sa_cons (se_var (i := 3)) (sa_cons (se_var (i := 2)) (sa_cons (se_tuple (sa_cons (se_var (i := 4)) sa_nil) T.b_tuple) sa_nil))))))))).imp fun _ _ _ _ => spOf_run'
theorem sc_law_world : FnScope n_law_world p_law_world (defScope s_law_world) := ⟨rfl, rfl, rfl, by decide +kernel, rfl, by decide +kernel, by decide +kernel⟩
theorem bd_law_world (T : Txt K mg ad fd) : Binds K (fd 46) p_law_world [] := T.d_law_world.binds (ps := p_law_world) fun _ _ _ _ _ _ us hl => match us, hl with | [_, _, _, _], _ => rfl
theorem ok_law_world (T : Txt K mg ad fd) : FnG P w K mg base 5 (ad 46) (fd 46) p_law_world (spOf K 4 f_law_world) := (fnG_of (m := m_law_world) T.d_law_world sc_law_world fun cdv A outer s H E hr hg =>
    (sl_cons (ss_set (i := 4) sc_law_world.nd rfl (.inl rfl) (se_lst sa_nil))
    (sl_cons (ss_for PassesOwn.never rfl (si_range1 (sa_cons (se_add se_int (se_call (ok_law_pick T) (hr.mono (by omega)) hg T.m_law_pick T.d_law_pick.kp (bd_law_pick T) (sa_cons (se_var (i := 0)) (sa_cons (se_var (i := 1)) sa_nil)))) sa_nil) T.b_range) (sg_name (i := 5) sc_law_world.nd)
    (sl_one (ss_append (i := 4) (se_add se_int (se_call (ok_law_pick T) (hr.mono (by omega)) hg T.m_law_pick T.d_law_pick.kp (bd_law_pick T) (sa_cons (se_var (i := 0)) (sa_cons (se_var (i := 2)) sa_nil)))))))
    (sl_one (ss_frz [4] (ss_ret (se_call (ok_law_sized T) (hr.mono (by omega)) hg T.m_law_sized T.d_law_sized.kp (bd_law_sized T) (sa_cons (se_var (i := 0)) (sa_cons (se_var (i := 4)) (sa_cons (se_var (i := 3)) sa_nil)))))))))).imp fun _ _ _ _ => spOf_run'
theorem sc_law_plan : FnScope n_law_plan p_law_plan (defScope s_law_plan) := ⟨rfl, rfl, rfl, by decide +kernel, rfl, by decide +kernel, by decide +kernel⟩
theorem bd_law_plan (T : Txt K mg ad fd) : Binds K (fd 47) p_law_plan [] := T.d_law_plan.binds (ps := p_law_plan) fun _ _ _ _ _ _ us hl => match us, hl with | [_, _], _ => rfl
theorem ok_law_plan (T : Txt K mg ad fd) : FnG P w K mg base 4 (ad 47) (fd 47) p_law_plan (spOf K 2 f_law_plan) := (fnG_of (m := m_law_plan) T.d_law_plan sc_law_plan fun cdv A outer s H E hr hg =>
    (sl_cons (ss_par (i := 2) (j := 3) rfl sc_law_plan.nd (sa_cons (se_lst sa_nil) (sa_cons (se_eq hr (se_call (ok_law_pick T) (hr.mono (by omega)) hg T.m_law_pick T.d_law_pick.kp (bd_law_pick T) (sa_cons (se_var (i := 0)) (sa_cons se_int sa_nil))) se_int) sa_nil)))
    (sl_cons (ss_for PassesOwn.never rfl (si_seq (se_ix (se_var (i := 1)) se_int)) (sg_name (i := 4) sc_law_plan.nd)
    (sl_one (ss_if (sb_val (se_var (i := 3)))
    (sl_cons (ss_set (i := 5) sc_law_plan.nd rfl (.inr rfl) (se_call (ok_law_pick T) (hr.mono (by omega)) hg T.m_law_pick T.d_law_pick.kp (bd_law_pick T) (sa_cons (se_var (i := 0)) (sa_cons (se_len (sa_cons (se_var (i := 4)) sa_nil) T.b_len) sa_nil))))
    (sl_one (ss_append (i := 2) (se_tuple (sa_cons (se_lc (own := [("_law_spot", 6)]) (is := [6]) rfl sc_law_plan.nd (si_range1 (sa_cons (se_len (sa_cons (se_var (i := 4)) sa_nil) T.b_len) sa_nil) T.b_range) (blkOk_by (own := [("_law_spot", 6)]) (N := n_law_plan) (sc := defScope s_law_plan) (by decide +kernel)) (by decide) (fun _ _ _ _ _ => (sg_name (i := 6) sc_law_plan.nd)) (fun _ _ _ _ _ => sts_nil) (fun _ _ _ _ _ => (se_tup (sa_cons (se_if (sb_eq hr (se_var (i := 6)) (se_var (i := 5))) se_int se_int) (sa_cons se_int sa_nil))))) sa_nil) T.b_tuple))))
    (sl_one (ss_append (i := 2) (se_call (ok_law_odds T) (hr.mono (by omega)) hg T.m_law_odds T.d_law_odds.kp (bd_law_odds T) (sa_cons (se_var (i := 0)) (sa_cons (se_len (sa_cons (se_var (i := 4)) sa_nil) T.b_len) sa_nil))))))))
    (sl_one (ss_ret (se_tuple (sa_cons (se_var (i := 2)) sa_nil) T.b_tuple)))))).imp fun _ _ _ _ => spOf_run'
end
end WW
namespace WW
open PySem PySem.Spec L2 Dh
section
variable {P : Program} {w : World} {K : PySem.W.Frag} {mg : Str → Option Value} {base : Heap} {ad : Nat → Addr} {fd : Nat → FuncData}
theorem sc_law_chosen : FnScope n_law_chosen p_law_chosen (defScope s_law_chosen) := ⟨rfl, rfl, rfl, by decide +kernel, rfl, by decide +kernel, by decide +kernel⟩
theorem bd_law_chosen (T : Txt K mg ad fd) : Binds K (fd 48) p_law_chosen [] := T.d_law_chosen.binds (ps := p_law_chosen) fun _ _ _ _ _ _ us hl => match us, hl with | [_, _], _ => rfl
theorem ok_law_chosen (T : Txt K mg ad fd) : FnG P w K mg base 2 (ad 48) (fd 48) p_law_chosen (spOf K 2 f_law_chosen) := (fnG_of (m := m_law_chosen) T.d_law_chosen sc_law_chosen fun cdv A outer s H E hr hg =>
    (sl_cons (ss_set (i := 2) sc_law_chosen.nd rfl (.inl rfl) (se_lst sa_nil))
    (sl_cons (ss_for PassesOwn.never rfl (si_seq (se_ix (se_var (i := 1)) se_int)) (sg_name (i := 3) sc_law_chosen.nd)
    (sl_one (ss_append (i := 2) (se_call (ok_law_pick T) (hr.mono (by omega)) hg T.m_law_pick T.d_law_pick.kp (bd_law_pick T) (sa_cons (se_var (i := 0)) (sa_cons (se_len (sa_cons (se_var (i := 3)) sa_nil) T.b_len) sa_nil))))))
    (sl_one (ss_ret (se_tuple (sa_cons (se_var (i := 2)) sa_nil) T.b_tuple)))))).imp fun _ _ _ _ => spOf_run'
theorem sc_law_sure : FnScope n_law_sure p_law_sure (defScope s_law_sure) := ⟨rfl, rfl, rfl, by decide +kernel, rfl, by decide +kernel, by decide +kernel⟩
theorem bd_law_sure (T : Txt K mg ad fd) : Binds K (fd 49) p_law_sure [] := T.d_law_sure.binds (ps := p_law_sure) fun _ _ _ _ _ _ us hl => match us, hl with | [_, _], _ => rfl
theorem ok_law_sure (T : Txt K mg ad fd) : FnG P w K mg base 1 (ad 49) (fd 49) p_law_sure (spOf K 2 f_law_sure) := (fnG_of (m := m_law_sure) T.d_law_sure sc_law_sure fun cdv A outer s H E hr hg =>
    (sl_cons (ss_set (i := 2) sc_law_sure.nd rfl (.inl rfl) (se_lst sa_nil))
    (sl_cons (ss_for PassesOwn.never rfl (si_z2 (sa_cons (se_ix (se_var (i := 0)) se_int) (sa_cons (se_var (i := 1)) sa_nil)) T.b_zip) (sg_tup rfl (sgs_cons (sg_name (i := 3) sc_law_sure.nd) (sgs_cons (sg_name (i := 4) sc_law_sure.nd) sgs_nil)))
    (sl_one (ss_append (i := 2) (se_tuple (sa_cons (se_lc (own := [("_law_spot", 5)]) (is := [5]) rfl sc_law_sure.nd (si_range1 (sa_cons (se_len (sa_cons (se_var (i := 3)) sa_nil) T.b_len) sa_nil) T.b_range) (blkOk_by (own := [("_law_spot", 5)]) (N := n_law_sure) (sc := defScope s_law_sure) (by decide +kernel)) (by decide) (fun _ _ _ _ _ => (sg_name (i := 5) sc_law_sure.nd)) (fun _ _ _ _ _ => sts_nil) (fun _ _ _ _ _ => (se_tup (sa_cons (se_if (sb_eq hr (se_var (i := 5)) (se_var (i := 4))) se_int se_int) (sa_cons se_int sa_nil))))) sa_nil) T.b_tuple))))
    (sl_one (ss_ret (se_tuple (sa_cons (se_var (i := 2)) sa_nil) T.b_tuple)))))).imp fun _ _ _ _ => spOf_run'
theorem sc_law_mindful : FnScope n_law_mindful p_law_mindful (defScope s_law_mindful) := ⟨rfl, rfl, rfl, by decide +kernel, rfl, by decide +kernel, by decide +kernel⟩
theorem bd_law_mindful (T : Txt K mg ad fd) : Binds K (fd 50) p_law_mindful [] := T.d_law_mindful.binds (ps := p_law_mindful) fun _ _ _ _ _ _ us hl => match us, hl with | [_, _, _], _ => rfl
theorem ok_law_mindful (T : Txt K mg ad fd) : FnG P w K mg base 4 (ad 50) (fd 50) p_law_mindful (spOf K 3 f_law_mindful) := (fnG_of (m := m_law_mindful) T.d_law_mindful sc_law_mindful fun cdv A outer s H E hr hg =>
    (sl_cons (ss_par2f (i := 3) (j := 4) rfl sc_law_mindful.nd (sa2_cons (se_lst sa_nil) (sa2_cons (se_lst sa_nil) sa2_nil)))
    (sl_cons (ss_for PassesOwn.never rfl (si_seq (se_ix (se_var (i := 1)) se_int)) (sg_name (i := 5) sc_law_mindful.nd)
    (sl_cons (ss_set (i := 6) sc_law_mindful.nd rfl (.inl rfl) (se_lst sa_nil))
    (sl_cons (ss_for PassesOwn.never rfl (si_range1 (sa_cons (se_var (i := 2)) sa_nil) T.b_range) (sg_name (i := 7) sc_law_mindful.nd)
    (sl_one (ss_append (i := 6) (se_call (ok_law_odds T) (hr.mono (by omega)) hg T.m_law_odds T.d_law_odds.kp (bd_law_odds T) (sa_cons (se_var (i := 0)) (sa_cons (se_len (sa_cons (se_var (i := 5)) sa_nil) T.b_len) sa_nil))))))
    (sl_cons (ss_append (i := 3) (se_tuple (sa_cons (se_var (i := 6)) sa_nil) T.b_tuple))
    (sl_cons (ss_set (i := 6) sc_law_mindful.nd rfl (.inl rfl) (se_lst sa_nil))
    (sl_cons (ss_for PassesOwn.never rfl (si_seq (se_var (i := 5))) (sg_name (i := 8) sc_law_mindful.nd)
    (sl_cons (ss_set (i := 9) sc_law_mindful.nd rfl (.inl rfl) (se_lst sa_nil))
    (sl_cons (ss_for PassesOwn.never rfl (si_range1 (sa_cons (se_var (i := 2)) sa_nil) T.b_range) (sg_name (i := 7) sc_law_mindful.nd)
    (sl_one (ss_append (i := 9) (se_call (ok_law_pick T) (hr.mono (by omega)) hg T.m_law_pick T.d_law_pick.kp (bd_law_pick T) (sa_cons (se_var (i := 0)) (sa_cons (se_var (i := 2)) sa_nil))))))
    (sl_one (ss_append (i := 6) (se_tuple (sa_cons (se_var (i := 9)) sa_nil) T.b_tuple))))))
    (sl_one (ss_append (i := 4) (se_tuple (sa_cons (se_var (i := 6)) sa_nil) T.b_tuple)))))))))
    (sl_one (ss_ret (se_tup (sa_cons (se_var (i := 2)) (sa_cons (se_tuple (sa_cons (se_var (i := 3)) sa_nil) T.b_tuple) (sa_cons (se_tuple (sa_cons (se_var (i := 4)) sa_nil) T.b_tuple) sa_nil))))))))).imp fun _ _ _ _ => spOf_run'
theorem sc_law_is_whole : FnScope n_law_is_whole p_law_is_whole (defScope s_law_is_whole) := ⟨rfl, rfl, rfl, by decide +kernel, rfl, by decide +kernel, by decide +kernel⟩
theorem bd_law_is_whole (T : Txt K mg ad fd) : Binds K (fd 51) p_law_is_whole [] := T.d_law_is_whole.binds (ps := p_law_is_whole) fun _ _ _ _ _ _ us hl => match us, hl with | [_], _ => rfl
theorem ok_law_is_whole (T : Txt K mg ad fd) : FnG P w K mg base 1 (ad 51) (fd 51) p_law_is_whole (spOf K 1 f_law_is_whole) := (fnG_of (m := m_law_is_whole) T.d_law_is_whole sc_law_is_whole fun cdv A outer s H E hr hg =>
    (sl_one (ss_ret (se_and (se_isi (T := "int") (by decide) (se_var (i := 0)) T.b_isinstance T.b_int (by decide +kernel)) (se_one (se_not (se_isi (T := "bool") (by decide) (se_var (i := 0)) T.b_isinstance T.b_bool (by decide +kernel)))))))).imp fun _ _ _ _ => spOf_run'
theorem sc_law_is_tuple : FnScope n_law_is_tuple p_law_is_tuple (defScope s_law_is_tuple) := ⟨rfl, rfl, rfl, by decide +kernel, rfl, by decide +kernel, by decide +kernel⟩
theorem bd_law_is_tuple (T : Txt K mg ad fd) : Binds K (fd 52) p_law_is_tuple [] := T.d_law_is_tuple.binds (ps := p_law_is_tuple) fun _ _ _ _ _ _ us hl => match us, hl with | [_, _], _ => rfl
theorem ok_law_is_tuple (T : Txt K mg ad fd) : FnG P w K mg base 1 (ad 52) (fd 52) p_law_is_tuple (spOf K 2 f_law_is_tuple) := (fnG_of (m := m_law_is_tuple) T.d_law_is_tuple sc_law_is_tuple fun cdv A outer s H E hr hg =>
    (sl_one (ss_ret (se_and (se_isi (T := "tuple") (by decide) (se_var (i := 0)) T.b_isinstance T.b_tuple (by decide +kernel)) (se_one (se_eq hr (se_len (sa_cons (se_var (i := 0)) sa_nil) T.b_len) (se_var (i := 1)))))))).imp fun _ _ _ _ => spOf_run'
theorem sc_law_is_frac : FnScope n_law_is_frac p_law_is_frac (defScope s_law_is_frac) := ⟨rfl, rfl, rfl, by decide +kernel, rfl, by decide +kernel, by decide +kernel⟩
theorem bd_law_is_frac (T : Txt K mg ad fd) : Binds K (fd 53) p_law_is_frac [] := T.d_law_is_frac.binds (ps := p_law_is_frac) fun _ _ _ _ _ _ us hl => match us, hl with | [_], _ => rfl
theorem ok_law_is_frac (T : Txt K mg ad fd) : FnG P w K mg base 2 (ad 53) (fd 53) p_law_is_frac (spOf K 1 f_law_is_frac) := (fnG_of (m := m_law_is_frac) T.d_law_is_frac sc_law_is_frac fun cdv A outer s H E hr hg =>
    (sl_cons (ss_if (sb_w (sw_or (sb_not (sb_val (se_call (ok_law_is_tuple T) (hr.mono (by omega)) hg T.m_law_is_tuple T.d_law_is_tuple.kp (bd_law_is_tuple T) (sa_cons (se_var (i := 0)) (sa_cons se_int sa_nil))))) (sw_or (sb_not (sb_val (se_call (ok_law_is_whole T) (hr.mono (by omega)) hg T.m_law_is_whole T.d_law_is_whole.kp (bd_law_is_whole T) (sa_cons (se_ix (se_var (i := 0)) se_int) sa_nil)))) (sw_or1 (sb_not (sb_val (se_call (ok_law_is_whole T) (hr.mono (by omega)) hg T.m_law_is_whole T.d_law_is_whole.kp (bd_law_is_whole T) (sa_cons (se_ix (se_var (i := 0)) se_int) sa_nil))))))))
    (sl_one (ss_ret se_bl))
    sl_nil)
    (sl_one (ss_ret (se_and (se_gt (se_ix (se_var (i := 0)) se_int) se_int) (se_one (se_eq hr (se_call (ok_law_frac T) (hr.mono (by omega)) hg T.m_law_frac T.d_law_frac.kp (bd_law_frac T) (sa_cons (se_ix (se_var (i := 0)) se_int) (sa_cons (se_ix (se_var (i := 0)) se_int) sa_nil))) (se_var (i := 0))))))))).imp fun _ _ _ _ => spOf_run'
theorem sc_law_is_row : FnScope n_law_is_row p_law_is_row (defScope s_law_is_row) := ⟨rfl, rfl, rfl, by decide +kernel, rfl, by decide +kernel, by decide +kernel⟩
theorem bd_law_is_row (T : Txt K mg ad fd) : Binds K (fd 54) p_law_is_row [] := T.d_law_is_row.binds (ps := p_law_is_row) fun _ _ _ _ _ _ us hl => match us, hl with | [_, _], _ => rfl
theorem ok_law_is_row (T : Txt K mg ad fd) : FnG P w K mg base 3 (ad 54) (fd 54) p_law_is_row (spOf K 2 f_law_is_row) := (fnG_of (m := m_law_is_row) T.d_law_is_row sc_law_is_row fun cdv A outer s H E hr hg =>
    (sl_one (ss_ret (se_and (se_call (ok_law_is_tuple T) (hr.mono (by omega)) hg T.m_law_is_tuple T.d_law_is_tuple.kp (bd_law_is_tuple T) (sa_cons (se_var (i := 0)) (sa_cons (se_var (i := 1)) sa_nil))) (se_one (se_all rfl (sa_cons (se_lc (own := [("_law_x", 2)]) (is := [2]) rfl sc_law_is_row.nd (si_seq (se_var (i := 0))) (blkOk_by (own := [("_law_x", 2)]) (N := n_law_is_row) (sc := defScope s_law_is_row) (by decide +kernel)) (by decide) (fun _ _ _ _ _ => (sg_name (i := 2) sc_law_is_row.nd)) (fun _ _ _ _ _ => sts_nil) (fun _ _ _ _ _ => (se_call (ok_law_is_frac T) (hr.mono (by omega)) hg T.m_law_is_frac T.d_law_is_frac.kp (bd_law_is_frac T) (sa_cons (se_var (i := 2)) sa_nil)))) sa_nil) T.b_all)))))).imp fun _ _ _ _ => spOf_run'
theorem sc_law_is_odds : FnScope n_law_is_odds p_law_is_odds (defScope s_law_is_odds) := ⟨rfl, rfl, rfl, by decide +kernel, rfl, by decide +kernel, by decide +kernel⟩
theorem bd_law_is_odds (T : Txt K mg ad fd) : Binds K (fd 55) p_law_is_odds [] := T.d_law_is_odds.binds (ps := p_law_is_odds) fun _ _ _ _ _ _ us hl => match us, hl with | [_, _], _ => rfl
theorem ok_law_is_odds (T : Txt K mg ad fd) : FnG P w K mg base 4 (ad 55) (fd 55) p_law_is_odds (spOf K 2 f_law_is_odds) := (fnG_of (m := m_law_is_odds) T.d_law_is_odds sc_law_is_odds fun cdv A outer s H E hr hg =>
    (sl_cons (ss_if (sb_not (sb_val (se_call (ok_law_is_row T) (hr.mono (by omega)) hg T.m_law_is_row T.d_law_is_row.kp (bd_law_is_row T) (sa_cons (se_var (i := 0)) (sa_cons (se_var (i := 1)) sa_nil)))))
    (sl_one (ss_ret se_bl))
    sl_nil)
    (sl_one (ss_ret (se_and (se_all rfl (sa_cons (se_lc (own := [("_law_x", 2)]) (is := [2]) rfl sc_law_is_odds.nd (si_seq (se_var (i := 0))) (blkOk_by (own := [("_law_x", 2)]) (N := n_law_is_odds) (sc := defScope s_law_is_odds) (by decide +kernel)) (by decide) (fun _ _ _ _ _ => (sg_name (i := 2) sc_law_is_odds.nd)) (fun _ _ _ _ _ => sts_nil) (fun _ _ _ _ _ => (se_ge (se_ix (se_var (i := 2)) se_int) se_int))) sa_nil) T.b_all) (se_one (se_eq hr (se_call (ok_law_total T) (hr.mono (by omega)) hg T.m_law_total T.d_law_total.kp (bd_law_total T) (sa_cons (se_var (i := 0)) sa_nil)) (se_tup (sa_cons se_int (sa_cons se_int sa_nil)))))))))).imp fun _ _ _ _ => spOf_run'
theorem sc_law_is_mindful : FnScope n_law_is_mindful p_law_is_mindful (defScope s_law_is_mindful) := ⟨rfl, rfl, rfl, by decide +kernel, rfl, by decide +kernel, by decide +kernel⟩
theorem bd_law_is_mindful (T : Txt K mg ad fd) : Binds K (fd 56) p_law_is_mindful [] := T.d_law_is_mindful.binds (ps := p_law_is_mindful) fun _ _ _ _ _ _ us hl => match us, hl with | [_, _], _ => rfl
theorem ok_law_is_mindful (T : Txt K mg ad fd) : FnG P w K mg base 5 (ad 56) (fd 56) p_law_is_mindful (spOf K 2 f_law_is_mindful) := (fnG_of (m := m_law_is_mindful) T.d_law_is_mindful sc_law_is_mindful fun cdv A outer s H E hr hg =>
    (sl_cons (ss_if (sb_w (sw_or (sb_not (sb_val (se_call (ok_law_is_tuple T) (hr.mono (by omega)) hg T.m_law_is_tuple T.d_law_is_tuple.kp (bd_law_is_tuple T) (sa_cons (se_var (i := 1)) (sa_cons se_int sa_nil))))) (sw_or (sb_not (sb_val (se_call (ok_law_is_whole T) (hr.mono (by omega)) hg T.m_law_is_whole T.d_law_is_whole.kp (bd_law_is_whole T) (sa_cons (se_ix (se_var (i := 1)) se_int) sa_nil)))) (sw_or1 (sb_not (sb_lele se_int (se_ix (se_var (i := 1)) se_int) se_int))))))
    (sl_one (ss_ret se_bl))
    sl_nil)
    (sl_cons (ss_if (sb_w (sw_or (sb_not (sb_val (se_call (ok_law_is_tuple T) (hr.mono (by omega)) hg T.m_law_is_tuple T.d_law_is_tuple.kp (bd_law_is_tuple T) (sa_cons (se_ix (se_var (i := 1)) se_int) (sa_cons (se_len (sa_cons (se_ix (se_var (i := 0)) se_int) sa_nil) T.b_len) sa_nil))))) (sw_or1 (sb_not (sb_val (se_call (ok_law_is_tuple T) (hr.mono (by omega)) hg T.m_law_is_tuple T.d_law_is_tuple.kp (bd_law_is_tuple T) (sa_cons (se_ix (se_var (i := 1)) se_int) (sa_cons (se_len (sa_cons (se_ix (se_var (i := 0)) se_int) sa_nil) T.b_len) sa_nil))))))))
    (sl_one (ss_ret se_bl))
    sl_nil)
    (sl_cons (ss_for PassesOwn.never rfl (si_z3 (sa_cons (se_ix (se_var (i := 0)) se_int) (sa_cons (se_ix (se_var (i := 1)) se_int) (sa_cons (se_ix (se_var (i := 1)) se_int) sa_nil))) T.b_zip) (sg_tup rfl (sgs_cons (sg_name (i := 2) sc_law_is_mindful.nd) (sgs_cons (sg_name (i := 3) sc_law_is_mindful.nd) (sgs_cons (sg_name (i := 4) sc_law_is_mindful.nd) sgs_nil))))
    (sl_cons (ss_if (sb_w (sw_or (sb_not (sb_val (se_call (ok_law_is_tuple T) (hr.mono (by omega)) hg T.m_law_is_tuple T.d_law_is_tuple.kp (bd_law_is_tuple T) (sa_cons (se_var (i := 3)) (sa_cons (se_ix (se_var (i := 1)) se_int) sa_nil))))) (sw_or1 (sb_not (sb_val (se_call (ok_law_is_tuple T) (hr.mono (by omega)) hg T.m_law_is_tuple T.d_law_is_tuple.kp (bd_law_is_tuple T) (sa_cons (se_var (i := 4)) (sa_cons (se_len (sa_cons (se_var (i := 2)) sa_nil) T.b_len) sa_nil))))))))
    (sl_one (ss_ret se_bl))
    sl_nil)
    (sl_cons (ss_if (sb_not (sb_val (se_all rfl (sa_cons (se_lc (own := [("_law_row", 5)]) (is := [5]) rfl sc_law_is_mindful.nd (si_seq (se_var (i := 3))) (blkOk_by (own := [("_law_row", 5)]) (N := n_law_is_mindful) (sc := defScope s_law_is_mindful) (by decide +kernel)) (by decide) (fun _ _ _ _ _ => (sg_name (i := 5) sc_law_is_mindful.nd)) (fun _ _ _ _ _ => sts_nil) (fun _ _ _ _ _ => (se_call (ok_law_is_odds T) (hr.mono (by omega)) hg T.m_law_is_odds T.d_law_is_odds.kp (bd_law_is_odds T) (sa_cons (se_var (i := 5)) (sa_cons (se_len (sa_cons (se_var (i := 2)) sa_nil) T.b_len) sa_nil))))) sa_nil) T.b_all)))
    (sl_one (ss_ret se_bl))
    sl_nil)
    (sl_one (ss_for PassesOwn.never rfl (si_seq (se_var (i := 4))) (sg_name (i := 5) sc_law_is_mindful.nd)
    (sl_cons (ss_if (sb_not (sb_val (se_call (ok_law_is_tuple T) (hr.mono (by omega)) hg T.m_law_is_tuple T.d_law_is_tuple.kp (bd_law_is_tuple T) (sa_cons (se_var (i := 5)) (sa_cons (se_ix (se_var (i := 1)) se_int) sa_nil)))))
    (sl_one (ss_ret se_bl))
    sl_nil)
    (sl_one (ss_if (sb_not (sb_val (se_all rfl (sa_cons (se_lc (own := [("_law_mind", 6)]) (is := [6]) rfl sc_law_is_mindful.nd (si_seq (se_var (i := 5))) (blkOk_by (own := [("_law_mind", 6)]) (N := n_law_is_mindful) (sc := defScope s_law_is_mindful) (by decide +kernel)) (by decide) (fun _ _ _ _ _ => (sg_name (i := 6) sc_law_is_mindful.nd)) (fun _ _ _ _ _ => sts_nil) (fun _ _ _ _ _ => (se_and (se_call (ok_law_is_whole T) (hr.mono (by omega)) hg T.m_law_is_whole T.d_law_is_whole.kp (bd_law_is_whole T) (sa_cons (se_var (i := 6)) sa_nil)) (se_one (se_lelt se_int (se_var (i := 6)) (se_ix (se_var (i := 1)) se_int)))))) sa_nil) T.b_all)))
    (sl_one (ss_ret se_bl))
    sl_nil))))))))
    (sl_one (ss_ret se_bl)))))).imp fun _ _ _ _ => spOf_run'
theorem sc_law_is_chosen : FnScope n_law_is_chosen p_law_is_chosen (defScope s_law_is_chosen) := ⟨rfl, rfl, rfl, by decide +kernel, rfl, by decide +kernel, by decide +kernel⟩
theorem bd_law_is_chosen (T : Txt K mg ad fd) : Binds K (fd 57) p_law_is_chosen [] := T.d_law_is_chosen.binds (ps := p_law_is_chosen) fun _ _ _ _ _ _ us hl => match us, hl with | [_, _], _ => rfl
theorem ok_law_is_chosen (T : Txt K mg ad fd) : FnG P w K mg base 2 (ad 57) (fd 57) p_law_is_chosen (spOf K 2 f_law_is_chosen) := (fnG_of (m := m_law_is_chosen) T.d_law_is_chosen sc_law_is_chosen fun cdv A outer s H E hr hg =>
    (sl_cons (ss_if (sb_not (sb_val (se_call (ok_law_is_tuple T) (hr.mono (by omega)) hg T.m_law_is_tuple T.d_law_is_tuple.kp (bd_law_is_tuple T) (sa_cons (se_var (i := 1)) (sa_cons (se_len (sa_cons (se_ix (se_var (i := 0)) se_int) sa_nil) T.b_len) sa_nil)))))
    (sl_one (ss_ret se_bl))
    sl_nil)
    (sl_one (ss_ret (se_all rfl (sa_cons (se_lc (own := [("_law_stand", 2), ("_law_at", 3)]) (is := [2, 3]) rfl sc_law_is_chosen.nd (si_z2 (sa_cons (se_ix (se_var (i := 0)) se_int) (sa_cons (se_var (i := 1)) sa_nil)) T.b_zip) (blkOk_by (own := [("_law_stand", 2), ("_law_at", 3)]) (N := n_law_is_chosen) (sc := defScope s_law_is_chosen) (by decide +kernel)) (by decide) (fun _ _ _ _ _ => (sg_tup rfl (sgs_cons (sg_name (i := 2) sc_law_is_chosen.nd) (sgs_cons (sg_name (i := 3) sc_law_is_chosen.nd) sgs_nil)))) (fun _ _ _ _ _ => sts_nil) (fun _ _ _ _ _ => (se_and (se_call (ok_law_is_whole T) (hr.mono (by omega)) hg T.m_law_is_whole T.d_law_is_whole.kp (bd_law_is_whole T) (sa_cons (se_var (i := 3)) sa_nil)) (se_one (se_lelt se_int (se_var (i := 3)) (se_len (sa_cons (se_var (i := 2)) sa_nil) T.b_len)))))) sa_nil) T.b_all))))).imp fun _ _ _ _ => spOf_run'
theorem sc_law_odd : FnScope n_law_odd p_law_odd (defScope s_law_odd) := ⟨rfl, rfl, rfl, by decide +kernel, rfl, by decide +kernel, by decide +kernel⟩
theorem bd_law_odd (T : Txt K mg ad fd) : Binds K (fd 58) p_law_odd [] := T.d_law_odd.binds (ps := p_law_odd) fun _ _ _ _ _ _ us hl => match us, hl with | [_], _ => rfl
theorem ok_law_odd (T : Txt K mg ad fd) : FnG P w K mg base 3 (ad 58) (fd 58) p_law_odd (spOf K 1 f_law_odd) := (fnG_of (m := m_law_odd) T.d_law_odd sc_law_odd fun cdv A outer s H E hr hg =>
    (sl_one (ss_ret (se_call (ok_law_any_of T) (hr.mono (by omega)) hg T.m_law_any_of T.d_law_any_of.kp (bd_law_any_of T) (sa_cons (se_var (i := 0)) (sa_cons (se_tup (sa_cons se_non (sa_cons se_bl (sa_cons se_bl (sa_cons se_int (sa_cons se_int (sa_cons se_int (sa_cons se_int (sa_cons se_int (sa_cons (se_neg se_int) (sa_cons se_int (sa_cons se_str (sa_cons se_str (sa_cons se_str (sa_cons (se_tup sa_nil) (sa_cons (se_tup (sa_cons se_int sa_nil)) (sa_cons (se_tup (sa_cons se_int sa_nil)) (sa_cons (se_tup (sa_cons se_int (sa_cons se_int sa_nil))) (sa_cons (se_tup (sa_cons se_int (sa_cons se_int sa_nil))) (sa_cons (se_tup (sa_cons se_int (sa_cons se_int sa_nil))) (sa_cons (se_tup (sa_cons se_int (sa_cons se_int sa_nil))) (sa_cons (se_tup (sa_cons se_int (sa_cons se_int sa_nil))) (sa_cons (se_tup (sa_cons se_int (sa_cons se_int sa_nil))) (sa_cons (se_tup (sa_cons (se_neg se_int) (sa_cons se_int sa_nil))) (sa_cons (se_tup (sa_cons se_int (sa_cons (se_neg se_int) sa_nil))) (sa_cons (se_tup (sa_cons se_bl (sa_cons se_int sa_nil))) (sa_cons (se_tup (sa_cons se_int (sa_cons se_bl sa_nil))) (sa_cons (se_tup (sa_cons (se_tup (sa_cons se_int (sa_cons se_int sa_nil))) sa_nil)) (sa_cons (se_tup (sa_cons (se_tup (sa_cons se_int (sa_cons se_int sa_nil))) sa_nil)) (sa_cons (se_tup (sa_cons se_int (sa_cons se_int (sa_cons se_int sa_nil)))) (sa_cons (se_tup (sa_cons (se_tup (sa_cons se_int (sa_cons se_int sa_nil))) (sa_cons (se_tup (sa_cons se_int (sa_cons se_int sa_nil))) sa_nil))) (sa_cons (se_tup (sa_cons (se_tup (sa_cons se_int (sa_cons se_int sa_nil))) (sa_cons (se_tup (sa_cons se_int (sa_cons se_int sa_nil))) sa_nil))) (sa_cons (se_tup (sa_cons (se_tup (sa_cons (se_tup (sa_cons se_int (sa_cons se_int sa_nil))) sa_nil)) sa_nil)) (sa_cons (se_tup (sa_cons se_int (sa_cons se_int (sa_cons se_int sa_nil)))) (sa_cons (se_tup (sa_cons (se_tup (sa_cons se_int (sa_cons se_int sa_nil))) (sa_cons (se_tup (sa_cons se_int (sa_cons se_int sa_nil))) (sa_cons (se_tup (sa_cons se_int (sa_cons se_int sa_nil))) sa_nil)))) (sa_cons (se_tup (sa_cons se_non sa_nil)) (sa_cons (se_tup (sa_cons (se_tup sa_nil) sa_nil)) (sa_cons (se_lst sa_nil) (sa_cons (se_lst (sa_cons se_int sa_nil)) (sa_cons (se_lst (sa_cons (se_tup (sa_cons se_int (sa_cons se_int sa_nil))) sa_nil)) (sa_cons (se_lst (sa_cons (se_lst (sa_cons (se_tup (sa_cons se_int (sa_cons se_int sa_nil))) sa_nil)) sa_nil)) (sa_cons se_dict0 (sa_cons se_dict1 (sa_cons (se_tup (sa_cons se_str (sa_cons se_non sa_nil))) sa_nil)))))))))))))))))))))))))))))))))))))))))))) sa_nil)))))).imp fun _ _ _ _ => spOf_run'
theorem sc_law_twice : FnScope n_law_twice p_law_twice (defScope s_law_twice) := ⟨rfl, rfl, rfl, by decide +kernel, rfl, by decide +kernel, by decide +kernel⟩
theorem bd_law_twice (T : Txt K mg ad fd) : Binds K (fd 59) p_law_twice [] := T.d_law_twice.binds (ps := p_law_twice) fun _ _ _ _ _ _ us hl => match us, hl with | [_], _ => rfl
theorem ok_law_twice (T : Txt K mg ad fd) : FnG P w K mg base 1 (ad 59) (fd 59) p_law_twice (spOf K 1 f_law_twice) := (fnG_of (m := m_law_twice) T.d_law_twice sc_law_twice fun cdv A outer s H E hr hg =>
    (sl_cons (ss_if (sb_w (sw_and (sb_eq hr (se_len (sa_cons (se_var (i := 0)) sa_nil) T.b_len) se_int) (sw_and (sb_val (se_isi (T := "int") (by decide) (se_ix (se_var (i := 0)) se_int) T.b_isinstance T.b_int (by decide +kernel))) (sw_and1 (sb_val (se_isi (T := "int") (by decide) (se_ix (se_var (i := 0)) se_int) T.b_isinstance T.b_int (by decide +kernel)))))))
    (sl_one (ss_ret (se_tup (sa_cons (se_mul (se_ix (se_var (i := 0)) se_int) se_int) (sa_cons (se_mul (se_ix (se_var (i := 0)) se_int) se_int) sa_nil)))))
    sl_nil)
    (sl_one (ss_ret (se_add (se_var (i := 0)) (se_var (i := 0))))))).imp fun _ _ _ _ => spOf_run'
theorem sc_law_bent : FnScope n_law_bent p_law_bent (defScope s_law_bent) := ⟨rfl, rfl, rfl, by decide +kernel, rfl, by decide +kernel, by decide +kernel⟩
theorem bd_law_bent (T : Txt K mg ad fd) : Binds K (fd 60) p_law_bent [] := T.d_law_bent.binds (ps := p_law_bent) fun _ _ _ _ _ _ us hl => match us, hl with | [_, _], _ => rfl
theorem len_law_bent : ∀ (n : Nat) cs s r, f_law_bent n cs s = some r → cs.length = 2
  | 0, _, _, _, h => by cases h
  | n + 1, cs, s, r, h => run'_len cs s r h
theorem ok_law_bent : ∀ (n : Nat) (T : Txt K mg ad fd), FnG P w K mg base (3 + n) (ad 60) (fd 60) p_law_bent (spOf K 2 (f_law_bent n))
  | 0, T => ⟨(by rintro vs H Q E ⟨sp, fz, cs, sto, r, sto', hl, a, B, e, q⟩; cases e), (by rintro A outer s H args us vs Q _ _ _ _ _ ⟨sp, fz, cs, sto, r, sto', hl, a, B, e, q⟩; cases e)⟩
  | n + 1, T => by
    have ih := ok_law_bent n T
    have hlen := len_law_bent n
    exact (fnG_of (k := 3 + n) (m := m_law_bent (f_law_bent n)) T.d_law_bent sc_law_bent fun cdv A outer s H E hr hg =>
      (sl_cons (ss_if (sb_w (sw_and (sb_val (se_isi (T := "tuple") (by decide) (se_var (i := 1)) T.b_isinstance T.b_tuple (by decide +kernel))) (sw_and (sb_gt (se_len (sa_cons (se_var (i := 1)) sa_nil) T.b_len) se_int) (sw_and1 (sb_gt (se_call (ok_law_pick T) (hr.mono (by omega)) hg T.m_law_pick T.d_law_pick.kp (bd_law_pick T) (sa_cons (se_var (i := 0)) (sa_cons se_int sa_nil))) se_int)))))
    (sl_cons (ss_set (i := 2) sc_law_bent.nd rfl (.inl rfl) (se_call (ok_law_pick T) (hr.mono (by omega)) hg T.m_law_pick T.d_law_pick.kp (bd_law_pick T) (sa_cons (se_var (i := 0)) (sa_cons (se_len (sa_cons (se_var (i := 1)) sa_nil) T.b_len) sa_nil))))
    (sl_one (ss_ret (se_add (se_add (se_sl (se_var (i := 1)) so_none (so_some (se_var (i := 2)))) (se_tup (sa_cons (se_callR ih hr hg T.m_law_bent T.d_law_bent.kp (bd_law_bent T) (sa_cons (se_var (i := 0)) (sa_cons (se_ix (se_var (i := 1)) (se_var (i := 2))) sa_nil)) (by omega) hlen) sa_nil))) (se_sl (se_var (i := 1)) (so_some (se_add (se_var (i := 2)) se_int)) so_none)))))
    sl_nil)
    (sl_cons (ss_set (i := 3) sc_law_bent.nd rfl (.inl rfl) (se_call (ok_law_pick T) (hr.mono (by omega)) hg T.m_law_pick T.d_law_pick.kp (bd_law_pick T) (sa_cons (se_var (i := 0)) (sa_cons se_int sa_nil))))
    (sl_cons (ss_if (sb_w (sw_and (sb_val (se_isi (T := "tuple") (by decide) (se_var (i := 1)) T.b_isinstance T.b_tuple (by decide +kernel))) (sw_and1 (sb_lt (se_var (i := 3)) se_int))))
    (sl_cons (ss_set (i := 4) sc_law_bent.nd rfl (.inl rfl) (se_call (ok_law_twice T) (hr.mono (by omega)) hg T.m_law_twice T.d_law_twice.kp (bd_law_twice T) (sa_cons (se_var (i := 1)) sa_nil)))
    (sl_one (ss_ret (se_ix (se_tup (sa_cons (se_add (se_var (i := 1)) (se_sl (se_var (i := 1)) (so_some (se_neg se_int)) so_none)) (sa_cons (se_sl (se_var (i := 1)) (so_some se_int) so_none) (sa_cons (se_sl (se_var (i := 1)) so_none (so_some (se_neg se_int))) (sa_cons (se_rev (se_var (i := 1))) (sa_cons (se_list (sa_cons (se_var (i := 1)) sa_nil) T.b_list) (sa_cons (se_tup (sa_cons (se_var (i := 1)) sa_nil)) (sa_cons (se_var (i := 4)) sa_nil)))))))) (se_var (i := 3))))))
    sl_nil)
    (sl_cons (ss_if (sb_w (sw_and (sb_val (se_isi (T := "int") (by decide) (se_var (i := 1)) T.b_isinstance T.b_int (by decide +kernel))) (sw_and1 (sb_lt (se_var (i := 3)) se_int))))
    (sl_one (ss_ret (se_ix (se_tup (sa_cons (se_sub (se_var (i := 1)) se_int) (sa_cons (se_add (se_var (i := 1)) se_int) (sa_cons (se_sub se_int (se_var (i := 1))) (sa_cons (se_mul (se_var (i := 1)) se_int) (sa_cons (se_gt (se_var (i := 1)) se_int) (sa_cons (se_add (se_var (i := 1)) se_int) (sa_cons (se_tostr (sa_cons (se_var (i := 1)) sa_nil) T.b_str) sa_nil)))))))) (se_var (i := 3)))))
    sl_nil)
    (sl_one (ss_ret (se_call (ok_law_odd T) (hr.mono (by omega)) hg T.m_law_odd T.d_law_odd.kp (bd_law_odd T) (sa_cons (se_var (i := 0)) sa_nil))))))))).imp fun _ _ _ _ => spOf_run'
theorem sc_law_maybe : FnScope n_law_maybe p_law_maybe (defScope s_law_maybe) := ⟨rfl, rfl, rfl, by decide +kernel, rfl, by decide +kernel, by decide +kernel⟩
theorem bd_law_maybe (T : Txt K mg ad fd) : Binds K (fd 61) p_law_maybe [] := T.d_law_maybe.binds (ps := p_law_maybe) fun _ _ _ _ _ _ us hl => match us, hl with | [_, _], _ => rfl
theorem ok_law_maybe (T : Txt K mg ad fd) : FnG P w K mg base 10 (ad 61) (fd 61) p_law_maybe (spOf K 2 f_law_maybe) := (fnG_of (m := m_law_maybe) T.d_law_maybe sc_law_maybe fun cdv A outer s H E hr hg =>
    (sl_cons (ss_set (i := 2) sc_law_maybe.nd rfl (.inl rfl) (se_call (ok_law_pick T) (hr.mono (by omega)) hg T.m_law_pick T.d_law_pick.kp (bd_law_pick T) (sa_cons (se_var (i := 0)) (sa_cons se_int sa_nil))))
    (sl_cons (ss_if (sb_lt (se_var (i := 2)) se_int)
    (sl_one (ss_retV (i := 1)))
    sl_nil)
    (sl_one (ss_ret (se_if (sb_lt (se_var (i := 2)) se_int) (se_callR (ok_law_bent 6 T) hr hg T.m_law_bent T.d_law_bent.kp (bd_law_bent T) (sa_cons (se_var (i := 0)) (sa_cons (se_var (i := 1)) sa_nil)) (by omega) (len_law_bent 6)) (se_call (ok_law_odd T) (hr.mono (by omega)) hg T.m_law_odd T.d_law_odd.kp (bd_law_odd T) (sa_cons (se_var (i := 0)) sa_nil)))))))).imp fun _ _ _ _ => spOf_run'
theorem sc_law_is_plan : FnScope n_law_is_plan p_law_is_plan (defScope s_law_is_plan) := ⟨rfl, rfl, rfl, by decide +kernel, rfl, by decide +kernel, by decide +kernel⟩
theorem bd_law_is_plan (T : Txt K mg ad fd) : Binds K (fd 62) p_law_is_plan [] := T.d_law_is_plan.binds (ps := p_law_is_plan) fun _ _ _ _ _ _ us hl => match us, hl with | [_, _], _ => rfl
theorem ok_law_is_plan (T : Txt K mg ad fd) : FnG P w K mg base 5 (ad 62) (fd 62) p_law_is_plan (spOf K 2 f_law_is_plan) := (fnG_of (m := m_law_is_plan) T.d_law_is_plan sc_law_is_plan fun cdv A outer s H E hr hg =>
    (sl_cons (ss_if (sb_not (sb_val (se_call (ok_law_is_tuple T) (hr.mono (by omega)) hg T.m_law_is_tuple T.d_law_is_tuple.kp (bd_law_is_tuple T) (sa_cons (se_var (i := 1)) (sa_cons (se_len (sa_cons (se_ix (se_var (i := 0)) se_int) sa_nil) T.b_len) sa_nil)))))
    (sl_one (ss_ret se_bl))
    sl_nil)
    (sl_one (ss_ret (se_all rfl (sa_cons (se_lc (own := [("_law_stand", 2), ("_law_row", 3)]) (is := [2, 3]) rfl sc_law_is_plan.nd (si_z2 (sa_cons (se_ix (se_var (i := 0)) se_int) (sa_cons (se_var (i := 1)) sa_nil)) T.b_zip) (blkOk_by (own := [("_law_stand", 2), ("_law_row", 3)]) (N := n_law_is_plan) (sc := defScope s_law_is_plan) (by decide +kernel)) (by decide) (fun _ _ _ _ _ => (sg_tup rfl (sgs_cons (sg_name (i := 2) sc_law_is_plan.nd) (sgs_cons (sg_name (i := 3) sc_law_is_plan.nd) sgs_nil)))) (fun _ _ _ _ _ => sts_nil) (fun _ _ _ _ _ => (se_call (ok_law_is_odds T) (hr.mono (by omega)) hg T.m_law_is_odds T.d_law_is_odds.kp (bd_law_is_odds T) (sa_cons (se_var (i := 3)) (sa_cons (se_len (sa_cons (se_var (i := 2)) sa_nil) T.b_len) sa_nil))))) sa_nil) T.b_all))))).imp fun _ _ _ _ => spOf_run'
theorem sc_law_chosen_of : FnScope n_law_chosen_of p_law_chosen_of (defScope s_law_chosen_of) := ⟨rfl, rfl, rfl, by decide +kernel, rfl, by decide +kernel, by decide +kernel⟩
theorem bd_law_chosen_of (T : Txt K mg ad fd) : Binds K (fd 63) p_law_chosen_of [] := T.d_law_chosen_of.binds (ps := p_law_chosen_of) fun _ _ _ _ _ _ us hl => match us, hl with | [_], _ => rfl
theorem ok_law_chosen_of (T : Txt K mg ad fd) : FnG P w K mg base 1 (ad 63) (fd 63) p_law_chosen_of (spOf K 1 f_law_chosen_of) := (fnG_of (m := m_law_chosen_of) T.d_law_chosen_of sc_law_chosen_of fun cdv A outer s H E hr hg =>
    (sl_cons (ss_set (i := 1) sc_law_chosen_of.nd rfl (.inl rfl) (se_lst sa_nil))
    (sl_cons (ss_for PassesOwn.never rfl (si_seq (se_var (i := 0))) (sg_name (i := 2) sc_law_chosen_of.nd)
    (sl_cons (ss_setLc (i := 3) (own := [("_law_at", 4)]) (is := [4]) rfl sc_law_chosen_of.nd rfl rfl (sw_true rfl rfl rfl (by decide +kernel)) (si_range1 (sa_cons (se_len (sa_cons (se_var (i := 2)) sa_nil) T.b_len) sa_nil) T.b_range) (blkOk_by (own := [("_law_at", 4)]) (N := n_law_chosen_of) (sc := defScope s_law_chosen_of) (by decide +kernel)) (by decide) (fun _ _ _ _ _ => (sg_name (i := 4) sc_law_chosen_of.nd)) (fun _ _ _ _ _ => sts_one (sb_eq hr (se_ix (se_var (i := 2)) (se_var (i := 4))) (se_tup (sa_cons se_int (sa_cons se_int sa_nil))))) (fun _ _ _ _ _ => (se_var (i := 4))))
    (sl_cons (ss_if (sb_eq hr (se_len (sa_cons (se_var (i := 3)) sa_nil) T.b_len) se_int)
    (sl_one (ss_ret se_non))
    sl_nil)
    (sl_one (ss_append (i := 1) (se_ix (se_var (i := 3)) se_int))))))
    (sl_one (ss_ret (se_tuple (sa_cons (se_var (i := 1)) sa_nil) T.b_tuple)))))).imp fun _ _ _ _ => spOf_run'
end
end WW
namespace WW
open PySem PySem.Spec L2 Dh
section
variable {P : Program} {w : World} {K : PySem.W.Frag} {mg : Str → Option Value} {base : Heap} {ad : Nat → Addr} {fd : Nat → FuncData}
theorem sc_law_doubled : FnScope n_law_doubled p_law_doubled (defScope s_law_doubled) := ⟨rfl, rfl, rfl, by decide +kernel, rfl, by decide +kernel, by decide +kernel⟩
theorem bd_law_doubled (T : Txt K mg ad fd) : Binds K (fd 64) p_law_doubled [] := T.d_law_doubled.binds (ps := p_law_doubled) fun _ _ _ _ _ _ us hl => match us, hl with | [_], _ => rfl
theorem ok_law_doubled (T : Txt K mg ad fd) : FnG P w K mg base 1 (ad 64) (fd 64) p_law_doubled (spOf K 1 f_law_doubled) := (fnG_of (m := m_law_doubled) T.d_law_doubled sc_law_doubled fun cdv A outer s H E hr hg =>
    (sl_one (ss_ret (se_sub (se_sum rfl (sa_cons (se_lc (own := [("_law_odds_here", 1)]) (is := [1]) rfl sc_law_doubled.nd (si_seq (se_var (i := 0))) (blkOk_by (own := [("_law_odds_here", 1)]) (N := n_law_doubled) (sc := defScope s_law_doubled) (by decide +kernel)) (by decide) (fun _ _ _ _ _ => (sg_name (i := 1) sc_law_doubled.nd)) (fun _ _ _ _ _ => sts_nil) (fun _ _ _ _ _ => (se_len (sa_cons (se_lc (own := [("_law_x", 2)]) (is := [2]) rfl sc_law_doubled.nd (si_seq (se_var (i := 1))) (blkOk_by (own := [("_law_x", 2)]) (N := n_law_doubled) (sc := relS _ (defScope s_law_doubled)) (by decide +kernel)) (by decide) (fun _ _ _ _ _ => (sg_name (i := 2) sc_law_doubled.nd)) (fun _ _ _ _ _ => sts_one (sb_gt (se_ix (se_var (i := 2)) se_int) se_int)) (fun _ _ _ _ _ => (se_var (i := 2)))) sa_nil) T.b_len))) sa_nil) T.b_sum) (se_len (sa_cons (se_var (i := 0)) sa_nil) T.b_len))))).imp fun _ _ _ _ => spOf_run'
theorem sc_law_minded_of : FnScope n_law_minded_of p_law_minded_of (defScope s_law_minded_of) := ⟨rfl, rfl, rfl, by decide +kernel, rfl, by decide +kernel, by decide +kernel⟩
theorem bd_law_minded_of (T : Txt K mg ad fd) : Binds K (fd 65) p_law_minded_of [] := T.d_law_minded_of.binds (ps := p_law_minded_of) fun _ _ _ _ _ _ us hl => match us, hl with | [_, _], _ => rfl
theorem ok_law_minded_of (T : Txt K mg ad fd) : FnG P w K mg base 1 (ad 65) (fd 65) p_law_minded_of (spOf K 2 f_law_minded_of) := (fnG_of (m := m_law_minded_of) T.d_law_minded_of sc_law_minded_of fun cdv A outer s H E hr hg =>
    (sl_cons (ss_setLc (i := 2) (own := [("_law_stand", 3)]) (is := [3]) rfl sc_law_minded_of.nd rfl rfl (sw_true rfl rfl rfl (by decide +kernel)) (si_seq (se_ix (se_var (i := 0)) se_int)) (blkOk_by (own := [("_law_stand", 3)]) (N := n_law_minded_of) (sc := defScope s_law_minded_of) (by decide +kernel)) (by decide) (fun _ _ _ _ _ => (sg_name (i := 3) sc_law_minded_of.nd)) (fun _ _ _ _ _ => sts_nil) (fun _ _ _ _ _ => (se_tuple (sa_cons (se_lc (own := [("_law_deed", 4)]) (is := [4]) rfl sc_law_minded_of.nd (si_seq (se_var (i := 3))) (blkOk_by (own := [("_law_deed", 4)]) (N := n_law_minded_of) (sc := relS _ (defScope s_law_minded_of)) (by decide +kernel)) (by decide) (fun _ _ _ _ _ => (sg_name (i := 4) sc_law_minded_of.nd)) (fun _ _ _ _ _ => sts_nil) (fun _ _ _ _ _ => (se_tup (sa_cons se_int sa_nil)))) sa_nil) T.b_tuple)))
    (sl_one (ss_ret (se_tup (sa_cons se_int (sa_cons (se_tuple (sa_cons (se_lc (own := [("_law_odds_here", 5)]) (is := [5]) rfl sc_law_minded_of.nd (si_seq (se_var (i := 1))) (blkOk_by (own := [("_law_odds_here", 5)]) (N := n_law_minded_of) (sc := defScope s_law_minded_of) (by decide +kernel)) (by decide) (fun _ _ _ _ _ => (sg_name (i := 5) sc_law_minded_of.nd)) (fun _ _ _ _ _ => sts_nil) (fun _ _ _ _ _ => (se_tup (sa_cons (se_var (i := 5)) sa_nil)))) sa_nil) T.b_tuple) (sa_cons (se_tuple (sa_cons (se_var (i := 2)) sa_nil) T.b_tuple) sa_nil)))))))).imp fun _ _ _ _ => spOf_run'
theorem sc_law_right : FnScope n_law_right p_law_right (defScope s_law_right) := ⟨rfl, rfl, rfl, by decide +kernel, rfl, by decide +kernel, by decide +kernel⟩
theorem bd_law_right (T : Txt K mg ad fd) : Binds K (fd 66) p_law_right [] := T.d_law_right.binds (ps := p_law_right) fun _ _ _ _ _ _ us hl => match us, hl with | [_], _ => rfl
theorem ok_law_right (T : Txt K mg ad fd) : FnG P w K mg base 11 (ad 66) (fd 66) p_law_right (spOf K 1 f_law_right) := (fnG_of (m := m_law_right) T.d_law_right sc_law_right fun cdv A outer s H E hr hg =>
    (sl_cons (ss_set (i := 1) sc_law_right.nd rfl (.inl rfl) (se_call (ok_law_world T) (hr.mono (by omega)) hg T.m_law_world T.d_law_world.kp (bd_law_world T) (sa_cons (se_var (i := 0)) (sa_cons se_int (sa_cons se_int (sa_cons (se_add se_int (se_call (ok_law_pick T) (hr.mono (by omega)) hg T.m_law_pick T.d_law_pick.kp (bd_law_pick T) (sa_cons (se_var (i := 0)) (sa_cons se_int sa_nil)))) sa_nil))))))
    (sl_cons (ss_par (i := 2) (j := 3) rfl sc_law_right.nd (sa_cons (se_call (ok_law_plan T) (hr.mono (by omega)) hg T.m_law_plan T.d_law_plan.kp (bd_law_plan T) (sa_cons (se_var (i := 0)) (sa_cons (se_var (i := 1)) sa_nil))) (sa_cons (se_call (ok_law_chosen T) (hr.mono (by omega)) hg T.m_law_chosen T.d_law_chosen.kp (bd_law_chosen T) (sa_cons (se_var (i := 0)) (sa_cons (se_var (i := 1)) sa_nil))) sa_nil)))
    (sl_cons (ss_set (i := 4) sc_law_right.nd rfl (.inl rfl) (se_call (ok_law_mindful T) (hr.mono (by omega)) hg T.m_law_mindful T.d_law_mindful.kp (bd_law_mindful T) (sa_cons (se_var (i := 0)) (sa_cons (se_var (i := 1)) (sa_cons (se_add se_int (se_call (ok_law_pick T) (hr.mono (by omega)) hg T.m_law_pick T.d_law_pick.kp (bd_law_pick T) (sa_cons (se_var (i := 0)) (sa_cons se_int sa_nil)))) sa_nil)))))
    (sl_cons (ss_set (i := 5) sc_law_right.nd rfl (.inl rfl) (se_lst (sa_cons (se_call (ok_law_sure T) (hr.mono (by omega)) hg T.m_law_sure T.d_law_sure.kp (bd_law_sure T) (sa_cons (se_var (i := 1)) (sa_cons (se_var (i := 3)) sa_nil))) (sa_cons (se_var (i := 3)) (sa_cons (se_call (ok_law_chosen_of T) (hr.mono (by omega)) hg T.m_law_chosen_of T.d_law_chosen_of.kp (bd_law_chosen_of T) (sa_cons (se_var (i := 2)) sa_nil)) (sa_cons (se_call (ok_law_doubled T) (hr.mono (by omega)) hg T.m_law_doubled T.d_law_doubled.kp (bd_law_doubled T) (sa_cons (se_var (i := 2)) sa_nil)) (sa_cons se_int sa_nil)))))))
    (sl_cons (ss_append (i := 5) (se_call (ok_law_minded_of T) (hr.mono (by omega)) hg T.m_law_minded_of T.d_law_minded_of.kp (bd_law_minded_of T) (sa_cons (se_var (i := 1)) (sa_cons (se_var (i := 2)) sa_nil))))
    (sl_cons (ss_set (i := 6) sc_law_right.nd rfl (.inl rfl) (se_lst (sa_cons (se_call (ok_still_of T) (hr.mono (by omega)) hg T.m_still_of T.d_still_of.kp (bd_still_of T) (sa_cons (se_var (i := 1)) (sa_cons (se_var (i := 3)) sa_nil))) (sa_cons (se_call (ok_choice_of T) (hr.mono (by omega)) hg T.m_choice_of T.d_choice_of.kp (bd_choice_of T) (sa_cons (se_var (i := 1)) (sa_cons (se_call (ok_law_sure T) (hr.mono (by omega)) hg T.m_law_sure T.d_law_sure.kp (bd_law_sure T) (sa_cons (se_var (i := 1)) (sa_cons (se_var (i := 3)) sa_nil))) sa_nil))) (sa_cons (se_callK (ks := ["house", "still"]) (π := [0, 1]) (ok_choice_of T) (hr.mono (by omega)) hg T.m_choice_of T.d_choice_of.kp (kb_choice_of_01 T) (sk_cons (se_var (i := 1)) (sk_cons (se_var (i := 2)) sk_nil))) sa_nil)))))
    (sl_cons (ss_set (i := 6) sc_law_right.nd rfl (.inl rfl) (se_add (se_var (i := 6)) (se_lst (sa_cons (se_call (ok_doubled T) (hr.mono (by omega)) hg T.m_doubled T.d_doubled.kp (bd_doubled T) (sa_cons (se_var (i := 1)) (sa_cons (se_var (i := 2)) sa_nil))) (sa_cons (se_callK (ks := ["still", "house"]) (π := [1, 0]) (ok_doubled T) (hr.mono (by omega)) hg T.m_doubled T.d_doubled.kp (kb_doubled_10 T) (sk_cons (se_callK (ks := ["choice", "house"]) (π := [1, 0]) (ok_still_of T) (hr.mono (by omega)) hg T.m_still_of T.d_still_of.kp (kb_still_of_10 T) (sk_cons (se_var (i := 3)) (sk_cons (se_var (i := 1)) sk_nil))) (sk_cons (se_var (i := 1)) sk_nil))) sa_nil)))))
    (sl_cons (ss_if (sb_ne hr (se_repr hr hg (sa_cons (se_add (se_var (i := 6)) (se_lst (sa_cons (se_call (ok_minded_of T) (hr.mono (by omega)) hg T.m_minded_of T.d_minded_of.kp (bd_minded_of T) (sa_cons (se_var (i := 1)) (sa_cons (se_var (i := 2)) sa_nil))) sa_nil))) sa_nil) T.b_repr) (se_repr hr hg (sa_cons (se_var (i := 5)) sa_nil) T.b_repr))
    (sl_one (ss_ret se_bl))
    sl_nil)
    (sl_cons (ss_if (sb_not (sb_val (se_call (ok_is_minded T) (hr.mono (by omega)) hg T.m_is_minded T.d_is_minded.kp (bd_is_minded T) (sa_cons (se_var (i := 1)) (sa_cons (se_callK (ks := ["still", "house"]) (π := [1, 0]) (ok_minded_of T) (hr.mono (by omega)) hg T.m_minded_of T.d_minded_of.kp (kb_minded_of_10 T) (sk_cons (se_var (i := 2)) (sk_cons (se_var (i := 1)) sk_nil))) sa_nil)))))
    (sl_one (ss_ret se_bl))
    sl_nil)
    (sl_cons (ss_par3 (i := 2) (j := 3) (l := 4) rfl sc_law_right.nd (sa_cons (se_call (ok_law_maybe T) (hr.mono (by omega)) hg T.m_law_maybe T.d_law_maybe.kp (bd_law_maybe T) (sa_cons (se_var (i := 0)) (sa_cons (se_var (i := 2)) sa_nil))) (sa_cons (se_call (ok_law_maybe T) (hr.mono (by omega)) hg T.m_law_maybe T.d_law_maybe.kp (bd_law_maybe T) (sa_cons (se_var (i := 0)) (sa_cons (se_var (i := 3)) sa_nil))) (sa_cons (se_call (ok_law_maybe T) (hr.mono (by omega)) hg T.m_law_maybe T.d_law_maybe.kp (bd_law_maybe T) (sa_cons (se_var (i := 0)) (sa_cons (se_var (i := 4)) sa_nil))) sa_nil))))
    (sl_cons (ss_set (i := 7) sc_law_right.nd rfl (.inl rfl) (se_lst (sa_cons (se_call (ok_is_still T) (hr.mono (by omega)) hg T.m_is_still T.d_is_still.kp (bd_is_still T) (sa_cons (se_var (i := 1)) (sa_cons (se_var (i := 2)) sa_nil))) (sa_cons (se_call (ok_is_choice T) (hr.mono (by omega)) hg T.m_is_choice T.d_is_choice.kp (bd_is_choice T) (sa_cons (se_var (i := 1)) (sa_cons (se_var (i := 3)) sa_nil))) (sa_cons (se_call (ok_is_minded T) (hr.mono (by omega)) hg T.m_is_minded T.d_is_minded.kp (bd_is_minded T) (sa_cons (se_var (i := 1)) (sa_cons (se_var (i := 4)) sa_nil))) sa_nil)))))
    (sl_cons (ss_set (i := 7) sc_law_right.nd rfl (.inl rfl) (se_add (se_var (i := 7)) (se_lst (sa_cons (se_callK (ks := ["value", "house"]) (π := [1, 0]) (ok_is_still T) (hr.mono (by omega)) hg T.m_is_still T.d_is_still.kp (kb_is_still_10 T) (sk_cons (se_var (i := 2)) (sk_cons (se_var (i := 1)) sk_nil))) (sa_cons (se_callK (ks := ["value", "house"]) (π := [1, 0]) (ok_is_choice T) (hr.mono (by omega)) hg T.m_is_choice T.d_is_choice.kp (kb_is_choice_10 T) (sk_cons (se_var (i := 3)) (sk_cons (se_var (i := 1)) sk_nil))) sa_nil)))))
    (sl_cons (ss_set (i := 8) sc_law_right.nd rfl (.inl rfl) (se_lst (sa_cons (se_call (ok_law_is_plan T) (hr.mono (by omega)) hg T.m_law_is_plan T.d_law_is_plan.kp (bd_law_is_plan T) (sa_cons (se_var (i := 1)) (sa_cons (se_var (i := 2)) sa_nil))) (sa_cons (se_call (ok_law_is_chosen T) (hr.mono (by omega)) hg T.m_law_is_chosen T.d_law_is_chosen.kp (bd_law_is_chosen T) (sa_cons (se_var (i := 1)) (sa_cons (se_var (i := 3)) sa_nil))) (sa_cons (se_call (ok_law_is_mindful T) (hr.mono (by omega)) hg T.m_law_is_mindful T.d_law_is_mindful.kp (bd_law_is_mindful T) (sa_cons (se_var (i := 1)) (sa_cons (se_var (i := 4)) sa_nil))) sa_nil)))))
    (sl_one (ss_ret (se_eq hr (se_repr hr hg (sa_cons (se_var (i := 7)) sa_nil) T.b_repr) (se_repr hr hg (sa_cons (se_add (se_var (i := 8)) (se_sl (se_var (i := 8)) so_none (so_some se_int))) sa_nil) T.b_repr)))))))))))))))))).imp fun _ _ _ _ => spOf_run'
theorem sc_law : FnScope n_law p_law (defScope s_law) := ⟨rfl, rfl, rfl, by decide +kernel, rfl, by decide +kernel, by decide +kernel⟩
theorem ok_law (T : Txt K mg ad fd) : FnG P w K mg base 12 (ad 67) (fd 67) p_law (spOf K 1 f_law) := (fnG_of (m := m_law) T.d_law sc_law fun cdv A outer s H E hr hg =>
    (sl_one (ss_ret (se_all rfl (sa_cons (se_lc (own := [("_law_lap", 1)]) (is := [1]) rfl sc_law.nd (si_range1 (sa_cons (se_max2 rfl (sa_cons se_int (sa_cons (se_min2 rfl (sa_cons (se_len (sa_cons (se_var (i := 0)) sa_nil) T.b_len) (sa_cons se_int sa_nil)) T.b_min) sa_nil)) T.b_max) sa_nil) T.b_range) (blkOk_by (own := [("_law_lap", 1)]) (N := n_law) (sc := defScope s_law) (by decide +kernel)) (by decide) (fun _ _ _ _ _ => (sg_name (i := 1) sc_law.nd)) (fun _ _ _ _ _ => sts_nil) (fun _ _ _ _ _ => (se_callN (ok_law_right T) hr hg T.m_law_right T.d_law_right.kp (bd_law_right T) (sa_cons (se_call (ok_law_spring T) (hr.mono (by omega)) hg T.m_law_spring T.d_law_spring.kp (bd_law_spring T) (sa_cons (se_var (i := 0)) (sa_cons (se_var (i := 1)) sa_nil))) sa_nil) (by omega)))) sa_nil) T.b_all)))).imp fun _ _ _ _ => spOf_run'
end
end WW
namespace WW
open PySem PySem.Spec L2 Dh PyProof.Rows
theorem txtH {K : PySem.W.Frag} {h : Heap} {mg : Str → Option Value} (X : K.In h) (G : h.Ns mainGlobals mg) (c : SaysM csl bsl fal fnl K) : Txt K mg (fun i => He.ga K (nml.getD i "")) (fun i => fdAt K (nml.getD i "")) :=
  { d_is_whole := c.func 0 68,
    m_is_whole := He.glo_ok X G (c.sy.fact 0),
    d_is_between := c.func 1 69,
    m_is_between := He.glo_ok X G (c.sy.fact 1),
    d_is_tuple_of := c.func 2 70,
    m_is_tuple_of := He.glo_ok X G (c.sy.fact 2),
    d_is_ratio := c.func 3 71,
    m_is_ratio := He.glo_ok X G (c.sy.fact 3),
    d_is_row := c.func 4 72,
    m_is_row := He.glo_ok X G (c.sy.fact 4),
    d_ratio := c.func 5 73,
    m_ratio := He.glo_ok X G (c.sy.fact 5),
    d_plus := c.func 6 74,
    m_plus := He.glo_ok X G (c.sy.fact 6),
    d_total := c.func 7 75,
    m_total := He.glo_ok X G (c.sy.fact 7),
    d_is_chance_row := c.func 8 76,
    m_is_chance_row := He.glo_ok X G (c.sy.fact 8),
    d_is_still_by := c.func 9 77,
    m_is_still_by := He.glo_ok X G (c.sy.fact 9),
    d_is_choice_by := c.func 10 78,
    m_is_choice_by := He.glo_ok X G (c.sy.fact 10),
    d_are_odds := c.func 11 79,
    m_are_odds := He.glo_ok X G (c.sy.fact 11),
    d_are_nexts := c.func 12 80,
    m_are_nexts := He.glo_ok X G (c.sy.fact 12),
    d_is_minded_by := c.func 13 81,
    m_is_minded_by := He.glo_ok X G (c.sy.fact 13),
    d_plain_odds := c.func 14 82,
    m_plain_odds := He.glo_ok X G (c.sy.fact 14),
    d_still_by := c.func 15 83,
    m_still_by := He.glo_ok X G (c.sy.fact 15),
    d_choice_by := c.func 16 84,
    m_choice_by := He.glo_ok X G (c.sy.fact 16),
    d_doubled_by := c.func 17 85,
    m_doubled_by := He.glo_ok X G (c.sy.fact 17),
    d_minded_by := c.func 18 86,
    m_minded_by := He.glo_ok X G (c.sy.fact 18),
    d_are_chances := c.func 19 87,
    m_are_chances := He.glo_ok X G (c.sy.fact 19),
    d_is_deed := c.func 20 88,
    m_is_deed := He.glo_ok X G (c.sy.fact 20),
    d_is_stand := c.func 21 89,
    m_is_stand := He.glo_ok X G (c.sy.fact 21),
    d_is_share := c.func 22 90,
    m_is_share := He.glo_ok X G (c.sy.fact 22),
    d_is_house_by := c.func 23 91,
    m_is_house_by := He.glo_ok X G (c.sy.fact 23),
    d_check_house := c.func 24 92,
    m_check_house := He.glo_ok X G (c.sy.fact 24),
    d_check_still := c.func 25 93,
    m_check_still := He.glo_ok X G (c.sy.fact 25),
    d_check_choice := c.func 26 94,
    m_check_choice := He.glo_ok X G (c.sy.fact 26),
    d_is_still := c.func 27 95,
    m_is_still := He.glo_ok X G (c.sy.fact 27),
    d_is_choice := c.func 28 96,
    m_is_choice := He.glo_ok X G (c.sy.fact 28),
    d_is_minded := c.func 29 97,
    m_is_minded := He.glo_ok X G (c.sy.fact 29),
    d_still_of := c.func 30 98,
    m_still_of := He.glo_ok X G (c.sy.fact 30),
    d_choice_of := c.func 31 99,
    m_choice_of := He.glo_ok X G (c.sy.fact 31),
    d_doubled := c.func 32 100,
    m_doubled := He.glo_ok X G (c.sy.fact 32),
    d_minded_of := c.func 33 101,
    m_minded_of := He.glo_ok X G (c.sy.fact 33),
    d_law_spring := c.func 34 102,
    m_law_spring := He.glo_ok X G (c.sy.fact 34),
    d_law_pick := c.func 35 103,
    m_law_pick := He.glo_ok X G (c.sy.fact 35),
    d_law_any_of := c.func 36 104,
    m_law_any_of := He.glo_ok X G (c.sy.fact 36),
    d_law_frac := c.func 37 105,
    m_law_frac := He.glo_ok X G (c.sy.fact 37),
    d_law_plus := c.func 38 106,
    m_law_plus := He.glo_ok X G (c.sy.fact 38),
    d_law_total := c.func 39 107,
    m_law_total := He.glo_ok X G (c.sy.fact 39),
    d_law_part := c.func 40 108,
    m_law_part := He.glo_ok X G (c.sy.fact 40),
    d_law_gains := c.func 41 109,
    m_law_gains := He.glo_ok X G (c.sy.fact 41),
    d_law_parts := c.func 42 110,
    m_law_parts := He.glo_ok X G (c.sy.fact 42),
    d_law_chances := c.func 43 111,
    m_law_chances := He.glo_ok X G (c.sy.fact 43),
    d_law_odds := c.func 44 112,
    m_law_odds := He.glo_ok X G (c.sy.fact 44),
    d_law_sized := c.func 45 113,
    m_law_sized := He.glo_ok X G (c.sy.fact 45),
    d_law_world := c.func 46 114,
    m_law_world := He.glo_ok X G (c.sy.fact 46),
    d_law_plan := c.func 47 115,
    m_law_plan := He.glo_ok X G (c.sy.fact 47),
    d_law_chosen := c.func 48 116,
    m_law_chosen := He.glo_ok X G (c.sy.fact 48),
    d_law_sure := c.func 49 117,
    m_law_sure := He.glo_ok X G (c.sy.fact 49),
    d_law_mindful := c.func 50 118,
    m_law_mindful := He.glo_ok X G (c.sy.fact 50),
    d_law_is_whole := c.func 51 119,
    m_law_is_whole := He.glo_ok X G (c.sy.fact 51),
    d_law_is_tuple := c.func 52 120,
    m_law_is_tuple := He.glo_ok X G (c.sy.fact 52),
    d_law_is_frac := c.func 53 121,
    m_law_is_frac := He.glo_ok X G (c.sy.fact 53),
    d_law_is_row := c.func 54 122,
    m_law_is_row := He.glo_ok X G (c.sy.fact 54),
    d_law_is_odds := c.func 55 123,
    m_law_is_odds := He.glo_ok X G (c.sy.fact 55),
    d_law_is_mindful := c.func 56 124,
    m_law_is_mindful := He.glo_ok X G (c.sy.fact 56),
    d_law_is_chosen := c.func 57 125,
    m_law_is_chosen := He.glo_ok X G (c.sy.fact 57),
    d_law_odd := c.func 58 126,
    m_law_odd := He.glo_ok X G (c.sy.fact 58),
    d_law_twice := c.func 59 127,
    m_law_twice := He.glo_ok X G (c.sy.fact 59),
    d_law_bent := c.func 60 128,
    m_law_bent := He.glo_ok X G (c.sy.fact 60),
    d_law_maybe := c.func 61 129,
    m_law_maybe := He.glo_ok X G (c.sy.fact 61),
    d_law_is_plan := c.func 62 130,
    m_law_is_plan := He.glo_ok X G (c.sy.fact 62),
    d_law_chosen_of := c.func 63 131,
    m_law_chosen_of := He.glo_ok X G (c.sy.fact 63),
    d_law_doubled := c.func 64 132,
    m_law_doubled := He.glo_ok X G (c.sy.fact 64),
    d_law_minded_of := c.func 65 133,
    m_law_minded_of := He.glo_ok X G (c.sy.fact 65),
    d_law_right := c.func 66 134,
    m_law_right := He.glo_ok X G (c.sy.fact 66),
    d_law := c.func 67 135,
    m_law := He.glo_ok X G (c.sy.fact 67),
    b_abs := He.free_ok X G (c.sy.fact 136),
    b_all := He.free_ok X G (c.sy.fact 137),
    b_bool := He.free_ok X G (c.sy.fact 138),
    b_divmod := He.free_ok X G (c.sy.fact 139),
    b_enumerate := He.free_ok X G (c.sy.fact 140),
    b_int := He.free_ok X G (c.sy.fact 141),
    b_isinstance := He.free_ok X G (c.sy.fact 142),
    b_len := He.free_ok X G (c.sy.fact 143),
    b_list := He.free_ok X G (c.sy.fact 144),
    b_max := He.free_ok X G (c.sy.fact 145),
    b_min := He.free_ok X G (c.sy.fact 146),
    b_range := He.free_ok X G (c.sy.fact 147),
    b_repr := He.free_ok X G (c.sy.fact 148),
    b_str := He.free_ok X G (c.sy.fact 149),
    b_sum := He.free_ok X G (c.sy.fact 150),
    b_tuple := He.free_ok X G (c.sy.fact 151),
    b_zip := He.free_ok X G (c.sy.fact 152),
    b_gcd := c.blt X G 0,
    g_MOST_DEEDS := c.con X G 0,
    g_MOST_MINDS := c.con X G 1,
    g_MOST_PAYS := c.con X G 2,
    g_MOST_STANDS := c.con X G 3,
    g_ONE := c.con X G 4,
    g_ZERO := c.con X G 5 }
theorem all_mkH {P : Program} {w : World} {K : PySem.W.Frag} {h : Heap} {mg : Str → Option Value} {fa : Addr} (X : K.In h) (G : h.Ns mainGlobals mg) (hfa : mg "law" = some (.ref fa)) (c : SaysM csl bsl fal fnl K) :
    ∃ fd : FuncData, (∀ (s : Shared) (v : Value), BindsTo s fd ⟨[v], []⟩ [("_law_script", v)]) ∧ ∀ base : Heap, K.In base → base.Ns mainGlobals mg → FnG P w K mg base 12 fa fd ["_law_script"] (spOf K 1 f_law) := by
  have e := hfa.symm.trans (He.glo_ok X G (c.sy.fact 67 (f := .glo "law") rfl))
  have T := txtH X G c
  cases e
  refine ⟨_, fun s v => ?_, fun base _ _ => ok_law T⟩
  obtain ⟨oc, od, kV, doc, pm, an, cdv, ct, osl, e, _, _⟩ := T.d_law.ex
  rw [e]
  exact .of_eq rfl
end WW
open PySem PySem.W PySem.Calls PyProof.Rows
set_option maxHeartbeats 0 in
theorem PySem.Challenge.cw_deedhouses_k03_plans_of_anything_holds : PySem.Challenge.rw_deedhouses_k03_plans_of_anything.Holds := by
  w_on; o_law
  refine HandSHeadRun.head_imp (r := OpenLaw.row PySem.Challenge.rw_deedhouses_k03_plans_of_anything) (q := view (OpenLaw.row PySem.Challenge.rw_deedhouses_k03_plans_of_anything).prog [0, 86]) (H := WW.hkM) (ob := WW.obM) (M := 6000) (loose := WW.loose) (d := HandSHeadRun.topDef (OpenLaw.row PySem.Challenge.rw_deedhouses_k03_plans_of_anything).prog 86) (kwd := []) WW.obM_eq
    WW.runM (by kernel_rfl) (by kernel_rfl) (by kernel_rfl) (by rfl) (by first | assumption | decide +kernel) (by decide +kernel) ⟨rfl, rfl, rfl, rfl, rfl, by decide +kernel⟩ ?hw ?hc
  case hw => w_witness2
  case hc =>
    refine Dh.law_endH (l := PySem.Challenge.rw_deedhouses_k03_plans_of_anything) (n := 63) (k := 12) (x := "_law_script") (g := WW.f_law) rfl (by decide) (by kernel_rfl) ⟨rfl, by decide, by decide⟩ WW.plain ?F
    intro w mg fa h Y G hmg0
    obtain ⟨K, KX, c⟩ := Y
    have hmg : mg ("law" : PySem.Str) = some (.ref fa) := by
      have e : (HandSHeadRun.topDef (OpenLaw.row PySem.Challenge.rw_deedhouses_k03_plans_of_anything).prog 86).name = ("law" : PySem.Str) := by kernel_rfl
      rw [← e]
      exact hmg0
    obtain ⟨fd, hb, hF⟩ := WW.all_mkH KX G hmg c
    exact ⟨K, fd, KX, hb, hF⟩
