import PyProof.Rows.All
import Wide.All
import OpenK.AllK
import Wide.FinOn
import HandS.ForMost
import HandS.Walk
import HandS.Gcd
import HandS.IsInst
import HandS.WideBits
import HandS.TupAny
import HandS.TupMul
import HandS.Zip
import HandS.Iter
import KE.GoesEnum
import HandS.Style
import HandS.EndBits
import PySem.Challenge.RW_deedhouses_k02_houses_starts_and_weighte
set_option Elab.async false
set_option linter.all false
set_option maxRecDepth 100000
set_option maxHeartbeats 4000000
/-! Dh1: values by what they are (PyData), frames by cells, and the judgement «this expression is that Lean function» -/
namespace Dh
open PySem PySem.Spec L2

/-- what an expression gives: a datum that stays; a list just made; a list of the frame's own, looked at; the spring -/
inductive R where
  | d (x : PyData) | f (xs : List PyData) | b (xs : List PyData) | s
/-- what a slot holds -/
inductive Cl where
  | d (x : PyData) | o (xs : List PyData) | s
abbrev Ev := List (Option Cl)
abbrev Sto := List Int
abbrev Mx := Ev → Sto → Option (R × Sto)
abbrev Mt := Ev → Sto → Option (Bool × Sto)
abbrev Ma := Ev → Sto → Option (List R × Sto)
abbrev Fz := Addr → Prop

/-- a list that stays -/
def FzL (K : PySem.W.Frag) (fz : Fz) (H : Hp) (a : Addr) (xs : List V) : Prop :=
  (H a = some (.lst xs) ∧ fz a) ∨ (∃ o, H a = some (.frz o (.lst xs))) ∨
    ∃ (o : Obj) (its : Array Value) (n : Nat), K.lookup a = some o ∧ o.cls = .type "list" ∧ o.dict = none ∧ o.data = .seq its n ∧ its.size ≤ sizeLine ∧ Vals xs its.toList
theorem FzL.sq {K : PySem.W.Frag} {fz : Fz} {H : Hp} {a : Addr} {xs : List V} (h : FzL K fz H a xs) : SqL K H a xs := by
  rcases h with ⟨h, _⟩ | h | h
  · exact .inl (.inl h)
  · exact .inl (.inr h)
  · exact .inr h

mutual
/-- the value v is the datum d, for as long as what is frozen stays -/
inductive Im (K : PySem.W.Frag) (fz : Fz) (H : Hp) : V → PyData → Prop
  | non : Im K fz H .non .none
  | bl (b : Bool) : Im K fz H (.bl b) (.bool b)
  | int (i : Int) : Im K fz H (.int i) (.int i)
  | str (x : Str) : Im K fz H (.str x) (.str x)
  | lst {a : Addr} {xs : List V} {ds : List PyData} : FzL K fz H a xs → ImA K fz H xs ds → Im K fz H (.ref a) (.list ds)
  | tup {a : Addr} {xs : List V} {ds : List PyData} : SqT K H a xs → ImA K fz H xs ds → Im K fz H (.ref a) (.tuple ds)
  | dct {a : Addr} {kvs : List (Key × V)} {ds : List (PyData × PyData)} : H a = some (.dK kvs) → fz a → ImA K fz H (kvs.map fun p => kV p.1) (ds.map (·.1)) → ImA K fz H (kvs.map (·.2)) (ds.map (·.2)) → Im K fz H (.ref a) (.dict ds)
inductive ImA (K : PySem.W.Frag) (fz : Fz) (H : Hp) : List V → List PyData → Prop
  | nil : ImA K fz H [] []
  | cons {v : V} {vs : List V} {d : PyData} {ds : List PyData} : Im K fz H v d → ImA K fz H vs ds → ImA K fz H (v :: vs) (d :: ds)
end

/-- from one moment to a later one: what was tracked stands, but the spring; what is newly frozen was not there -/
structure Stp (sp : Option Addr) (fz : Fz) (H : Hp) (fz' : Fz) (H' : Hp) : Prop where
  mono : ∀ a, fz a → fz' a
  ext : ∀ a o, H a = some o → some a ≠ sp → H' a = some o
  new : ∀ a, fz' a → fz a ∨ (some a ≠ sp ∧ H a = none)
  trk : (∀ a, fz a → H a ≠ none) → ∀ a, fz' a → H' a ≠ none

section
variable {K : PySem.W.Frag} {sp : Option Addr} {fz fz1 fz2 : Fz} {H H1 H2 : Hp}
theorem Stp.refl : Stp sp fz H fz H := ⟨fun _ h => h, fun _ _ h _ => h, fun _ h => .inl h, fun h => h⟩
theorem Stp.back (s : Stp sp fz H fz1 H1) {a : Addr} (n : some a ≠ sp) (h : H1 a = none) : H a = none := by
  cases q : H a with
  | none => rfl
  | some o => rw [s.ext a o q n] at h; cases h
theorem Stp.trans (s : Stp sp fz H fz1 H1) (t : Stp sp fz1 H1 fz2 H2) : Stp sp fz H fz2 H2 where
  mono := fun a h => t.mono a (s.mono a h)
  ext := fun a o h n => t.ext a o (s.ext a o h n) n
  new := fun a h => by
    rcases t.new a h with h | ⟨n, h⟩
    · exact s.new a h
    · exact .inr ⟨n, s.back n h⟩
  trk := fun h => t.trk (s.trk h)
theorem Stp.nsp (s : Stp sp fz H fz1 H1) (n : ∀ a, sp = some a → ¬ fz a) : ∀ a, sp = some a → ¬ fz1 a := fun a e h => by
  rcases s.new a h with h | ⟨h, _⟩
  · exact n a e h
  · exact h e.symm
/-- a new object -/
theorem Stp.laid {a : Addr} {o : HO} (h : H a = none) : Stp sp fz H fz (upd H a o) :=
  ⟨fun _ h => h, fun b u q _ => by rw [upd_ne (ne_of_none q h)]; exact q, fun _ h => .inl h, fun t b q z => by
    by_cases e : b = a
    · subst e; rw [upd_same] at z; cases z
    · rw [upd_ne e] at z; exact t b q z⟩
/-- a new object, frozen -/
theorem Stp.frz {a : Addr} {o : HO} (h : H a = none) (n : some a ≠ sp) : Stp sp fz H (fun b => fz b ∨ b = a) (upd H a o) :=
  ⟨fun _ h => .inl h, fun b u q _ => by rw [upd_ne (ne_of_none q h)]; exact q, fun b q => by
    rcases q with q | q
    · exact .inl q
    · subst q; exact .inr ⟨n, h⟩, fun t b q z => by
    by_cases e : b = a
    · subst e; rw [upd_same] at z; cases z
    · rw [upd_ne e] at z
      rcases q with q | q
      · exact t b q z
      · exact e q⟩
/-- a list that was just made is frozen -/
theorem Stp.freeze {a : Addr} {o : HO} (s : Stp sp fz H fz1 H1) (h0 : H a = none) (n : some a ≠ sp) (h : H1 a = some o) : Stp sp fz H (fun b => fz1 b ∨ b = a) H1 :=
  ⟨fun b q => .inl (s.mono b q), s.ext, fun b q => by
    rcases q with q | q
    · exact s.new b q
    · subst q; exact .inr ⟨n, h0⟩, fun t b q z => by
    rcases q with q | q
    · exact s.trk t b q z
    · subst q; rw [h] at z; cases z⟩

def SpL (sp : Option Addr) (H : Hp) (sto : Sto) : Prop := ∀ a, sp = some a → H a = some (.lst (sto.map V.int))
theorem SpL.ne {sto : Sto} {a : Addr} {o : Option HO} (l : SpL sp H sto) (h : H a = o) (n : o ≠ some (.lst (sto.map V.int))) : some a ≠ sp := fun e => n (h.symm.trans (l a e.symm))
theorem SpL.upd {sto : Sto} {a : Addr} {o : HO} (l : SpL sp H sto) (n : some a ≠ sp) : SpL sp (L2.upd H a o) sto := fun p e => by
  have : p ≠ a := fun z => n (by rw [← z, e])
  rw [upd_ne this]
  exact l p e
/-- the value is the spring -/
def IsS (sp : Option Addr) (v : V) : Prop := ∃ a, sp = some a ∧ v = .ref a
/-- the spring stands, it is not frozen, what is frozen is tracked -/
structure Bs (sp : Option Addr) (fz : Fz) (H : Hp) (sto : Sto) : Prop where
  spl : SpL sp H sto
  nsp : ∀ a, sp = some a → ¬ fz a
  trk : ∀ a, fz a → H a ≠ none
theorem Bs.step {sto sto' : Sto} (B : Bs sp fz H sto) (s : Stp sp fz H fz1 H1) (l : SpL sp H1 sto') : Bs sp fz1 H1 sto' := ⟨l, s.nsp B.nsp, s.trk B.trk⟩

theorem ne_spring {sto : Sto} {a : Addr} {xs : List V} (l : SpL sp H sto) (h : H a = some (.tup xs)) : some a ≠ sp := by
  exact l.ne h (by intro z; cases z)
theorem SqT.stp {sto : Sto} {a : Addr} {xs : List V} (s : Stp sp fz H fz1 H1) (B : Bs sp fz H sto) (h : SqT K H a xs) : SqT K H1 a xs := by
  rcases h with (h | ⟨o, h⟩) | h
  · exact .inl (.inl (s.ext _ _ h (ne_spring B.spl h)))
  · exact .inl (.inr ⟨o, s.ext _ _ h (B.spl.ne h (by intro z; cases z))⟩)
  · exact .inr h
theorem FzL.stp {sto : Sto} {a : Addr} {xs : List V} (s : Stp sp fz H fz1 H1) (B : Bs sp fz H sto) (h : FzL K fz H a xs) : FzL K fz1 H1 a xs := by
  rcases h with ⟨h, f⟩ | ⟨o, h⟩ | h
  · exact .inl ⟨s.ext _ _ h (by intro e; exact B.nsp _ e.symm f), s.mono _ f⟩
  · exact .inr (.inl ⟨o, s.ext _ _ h (B.spl.ne h (by intro z; cases z))⟩)
  · exact .inr (.inr h)
mutual
theorem Im.stp {sto : Sto} (s : Stp sp fz H fz1 H1) (B : Bs sp fz H sto) : ∀ {v : V} {d : PyData}, Im K fz H v d → Im K fz1 H1 v d
  | _, _, .non => .non
  | _, _, .bl b => .bl b
  | _, _, .int i => .int i
  | _, _, .str x => .str x
  | _, _, .lst h a => .lst (h.stp s B) (ImA.stp s B a)
  | _, _, .tup h a => .tup (SqT.stp s B h) (ImA.stp s B a)
  | _, _, .dct h f a b => .dct (s.ext _ _ h (by intro e; exact B.nsp _ e.symm f)) (s.mono _ f) (ImA.stp s B a) (ImA.stp s B b)
theorem ImA.stp {sto : Sto} (s : Stp sp fz H fz1 H1) (B : Bs sp fz H sto) : ∀ {v : List V} {d : List PyData}, ImA K fz H v d → ImA K fz1 H1 v d
  | _, _, .nil => .nil
  | _, _, .cons h t => .cons (Im.stp s B h) (ImA.stp s B t)
end
mutual
theorem Im.fzm (g : ∀ a, fz a → fz1 a) : ∀ {v : V} {d : PyData}, Im K fz H v d → Im K fz1 H v d
  | _, _, .non => .non
  | _, _, .bl b => .bl b
  | _, _, .int i => .int i
  | _, _, .str x => .str x
  | _, _, .lst h a => .lst (by
      rcases h with ⟨h, f⟩ | h | h
      · exact .inl ⟨h, g _ f⟩
      · exact .inr (.inl h)
      · exact .inr (.inr h)) (ImA.fzm g a)
  | _, _, .tup h a => .tup h (ImA.fzm g a)
  | _, _, .dct h f a b => .dct h (g _ f) (ImA.fzm g a) (ImA.fzm g b)
theorem ImA.fzm (g : ∀ a, fz a → fz1 a) : ∀ {v : List V} {d : List PyData}, ImA K fz H v d → ImA K fz1 H v d
  | _, _, .nil => .nil
  | _, _, .cons h t => .cons (Im.fzm g h) (ImA.fzm g t)
end
theorem ImA.length : ∀ {v : List V} {d : List PyData}, ImA K fz H v d → v.length = d.length
  | _, _, .nil => rfl
  | _, _, .cons _ t => by rw [List.length_cons, List.length_cons, ImA.length t]
theorem ImA.at : ∀ {v : List V} {d : List PyData}, ImA K fz H v d → ∀ (i : Nat) (x : PyData), d[i]? = some x → ∃ w, v[i]? = some w ∧ Im K fz H w x
  | _, _, .nil, i, x, h => by simp at h
  | _, _, .cons h t, 0, x, e => by
    simp only [List.getElem?_cons_zero, Option.some.injEq] at e
    subst e
    exact ⟨_, rfl, h⟩
  | _, _, .cons h t, i + 1, x, e => by
    simp only [List.getElem?_cons_succ] at e ⊢
    exact ImA.at t i x e
theorem ImA.get : ∀ {v : List V} {d : List PyData}, ImA K fz H v d → ∀ (i : Nat) (w : V), v[i]? = some w → ∃ x, d[i]? = some x ∧ Im K fz H w x
  | _, _, .nil, i, x, h => by simp at h
  | _, _, .cons h t, 0, x, e => by
    simp only [List.getElem?_cons_zero, Option.some.injEq] at e
    subst e
    exact ⟨_, rfl, h⟩
  | _, _, .cons h t, i + 1, x, e => by
    simp only [List.getElem?_cons_succ] at e ⊢
    exact ImA.get t i x e
theorem ImA.append : ∀ {v : List V} {d : List PyData}, ImA K fz H v d → ∀ {v' : List V} {d' : List PyData}, ImA K fz H v' d' → ImA K fz H (v ++ v') (d ++ d')
  | _, _, .nil, _, _, h => h
  | _, _, .cons h t, _, _, h' => .cons h (t.append h')
theorem ImA.drop : ∀ {v : List V} {d : List PyData} (n : Nat), ImA K fz H v d → ImA K fz H (v.drop n) (d.drop n)
  | _, _, 0, h => by simpa using h
  | _, _, n + 1, .nil => by simpa using ImA.nil
  | _, _, n + 1, .cons h t => by simpa using ImA.drop n t
theorem ImA.take : ∀ {v : List V} {d : List PyData} (n : Nat), ImA K fz H v d → ImA K fz H (v.take n) (d.take n)
  | _, _, 0, h => by simpa using ImA.nil
  | _, _, n + 1, .nil => by simpa using ImA.nil
  | _, _, n + 1, .cons h t => by simpa using ImA.cons h (ImA.take n t)
theorem ImA.set : ∀ {v : List V} {d : List PyData} (i : Nat) {w : V} {x : PyData}, ImA K fz H v d → Im K fz H w x → ImA K fz H (v.set i w) (d.set i x)
  | _, _, i, _, _, .nil, _ => by simpa using ImA.nil
  | _, _, 0, _, _, .cons h t, q => by simpa using ImA.cons q t
  | _, _, i + 1, _, _, .cons h t, q => by simpa using ImA.cons h (ImA.set i t q)
theorem ImA.ints : ∀ (ns : List Int), ImA K fz H (ns.map V.int) (ns.map PyData.int)
  | [] => .nil
  | n :: r => .cons (.int n) (ImA.ints r)
end

/-- the context of a frame: the spring's place, what was frozen and the heap at the entry -/
structure Cn where
  sp : Option Addr
  fz0 : Fz
  H0 : Hp

def CellOk (K : PySem.W.Frag) (C : Cn) (fz : Fz) (H : Hp) (σ : St) (i : Nat) : Cl → Prop
  | .d x => ∃ v, σ[i]? = some (some v) ∧ Im K fz H v x
  | .o xs => ∃ a vs, σ[i]? = some (some (.ref a)) ∧ H a = some (.lst vs) ∧ ImA K fz H vs xs ∧ ¬ fz a ∧ some a ≠ C.sp ∧ C.H0 a = none
  | .s => ∃ a, C.sp = some a ∧ σ[i]? = some (some (.ref a))

structure Fm (K : PySem.W.Frag) (C : Cn) (fz : Fz) (ρ : Ev) (sto : Sto) (σ : St) (H : Hp) : Prop where
  len : ρ.length = σ.length
  st : Stp C.sp C.fz0 C.H0 fz H
  bs : Bs C.sp fz H sto
  vars : ∀ (i : Nat) (c : Cl), ρ[i]? = some (some c) → CellOk K C fz H σ i c
  sep : ∀ (i j : Nat) (xs ys : List PyData) (a : Addr), i ≠ j → ρ[i]? = some (some (.o xs)) → ρ[j]? = some (some (.o ys)) → σ[i]? = some (some (.ref a)) → σ[j]? ≠ some (some (.ref a))

section
variable {K : PySem.W.Frag} {C : Cn} {fz fz1 : Fz} {ρ : Ev} {sto sto' : Sto} {σ : St} {H H1 : Hp}
theorem Fm.step (F : Fm K C fz ρ sto σ H) (s : Stp C.sp fz H fz1 H1) (l : SpL C.sp H1 sto') : Fm K C fz1 ρ sto' σ H1 where
  len := F.len
  st := F.st.trans s
  bs := F.bs.step s l
  vars := fun i c h => by
    have q := F.vars i c h
    cases c with
    | d x => obtain ⟨v, e, q⟩ := q; exact ⟨v, e, q.stp s F.bs⟩
    | o xs =>
      obtain ⟨a, vs, e, h1, h2, h3, h4, h5⟩ := q
      refine ⟨a, vs, e, s.ext _ _ h1 h4, h2.stp s F.bs, fun z => ?_, h4, h5⟩
      rcases s.new a z with z | ⟨_, z⟩
      · exact h3 z
      · rw [h1] at z; cases z
    | s => exact q
  sep := F.sep
end

/-- what an expression gives, seen from the heap H at its start -/
def ImR (K : PySem.W.Frag) (sp : Option Addr) (H : Hp) (fz' : Fz) (H' : Hp) (v : V) : R → Prop
  | .d x => Im K fz' H' v x
  | .f xs => ∃ a vs, v = .ref a ∧ H' a = some (.lst vs) ∧ ImA K fz' H' vs xs ∧ ¬ fz' a ∧ some a ≠ sp ∧ H a = none
  | .b xs => ∃ a vs, v = .ref a ∧ H' a = some (.lst vs) ∧ ImA K fz' H' vs xs ∧ some a ≠ sp
  | .s => IsS sp v

section
variable {K : PySem.W.Frag} {sp : Option Addr} {fz fz1 fz2 : Fz} {H H1 H2 : Hp} {sto : Sto} {v : V} {r : R}
/-- later on -/
theorem ImR.stp (h : ImR K sp H fz1 H1 v r) (s : Stp sp fz1 H1 fz2 H2) (B : Bs sp fz1 H1 sto) : ImR K sp H fz2 H2 v r := by
  cases r with
  | d x => exact Im.stp s B h
  | f xs =>
    obtain ⟨a, vs, e, h1, h2, h3, h4, h5⟩ := h
    refine ⟨a, vs, e, s.ext _ _ h1 h4, h2.stp s B, fun z => ?_, h4, h5⟩
    rcases s.new a z with z | ⟨_, z⟩
    · exact h3 z
    · rw [h1] at z; cases z
  | b xs =>
    obtain ⟨a, vs, e, h1, h2, h4⟩ := h
    exact ⟨a, vs, e, s.ext _ _ h1 h4, h2.stp s B, h4⟩
  | s => exact h
/-- seen from an earlier start -/
theorem ImR.early (h : ImR K sp H1 fz2 H2 v r) (s : Stp sp fz H fz1 H1) : ImR K sp H fz2 H2 v r := by
  cases r with
  | d x => exact h
  | f xs =>
    obtain ⟨a, vs, e, h1, h2, h3, h4, h5⟩ := h
    exact ⟨a, vs, e, h1, h2, h3, h4, s.back h4 h5⟩
  | b xs => exact h
  | s => exact h
end

/-! ### the judgements -/
def rdE (K : PySem.W.Frag) (m : Mx) : TE := fun σ H Q => ∃ (C : Cn) (fz : Fz) (ρ : Ev) (sto : Sto) (r : R) (sto' : Sto), Fm K C fz ρ sto σ H ∧ m ρ sto = some (r, sto') ∧
  ∀ v fz' H', Stp C.sp fz H fz' H' → SpL C.sp H' sto' → ImR K C.sp H fz' H' v r → Q v H'
def rdT (K : PySem.W.Frag) (m : Mt) : TT := fun σ H Q => ∃ (C : Cn) (fz : Fz) (ρ : Ev) (sto : Sto) (r : Bool) (sto' : Sto), Fm K C fz ρ sto σ H ∧ m ρ sto = some (r, sto') ∧
  ∀ fz' H', Stp C.sp fz H fz' H' → SpL C.sp H' sto' → Q r H'
abbrev ImRs (K : PySem.W.Frag) (sp : Option Addr) (H : Hp) (fz' : Fz) (H' : Hp) : List V → List R → Prop := Paired (ImR K sp H fz' H')
def rdA (K : PySem.W.Frag) (m : Ma) : TA := fun σ H Q => ∃ (C : Cn) (fz : Fz) (ρ : Ev) (sto : Sto) (r : List R) (sto' : Sto), Fm K C fz ρ sto σ H ∧ m ρ sto = some (r, sto') ∧
  ∀ vs fz' H', Stp C.sp fz H fz' H' → SpL C.sp H' sto' → ImRs K C.sp H fz' H' vs r → Q vs H'
def SE (X : Cx) (e : Expr) (m : Mx) : Prop := PE X e (rdE X.K m)
def SB (X : Cx) (e : Expr) (m : Mt) : Prop := PT X e (rdT X.K m)
/-- a test among and | or -/
def SW (X : Cx) (e : Expr) (m : Mt) : Prop := PW X e (rdT X.K m)
def SA (X : Cx) (es : List Expr) (m : Ma) : Prop := PA X es (rdA X.K m)

theorem PE.imp {X : Cx} {e : Expr} {t t' : TE} (h : PE X e t) (q : ∀ σ H Q, t' σ H Q → t σ H Q) : PE X e t' := ⟨fun pins s σ H Q I w => h.run pins s σ H Q I (q _ _ _ w)⟩
theorem PT.imp {X : Cx} {e : Expr} {t t' : TT} (h : PT X e t) (q : ∀ σ H Q, t' σ H Q → t σ H Q) : PT X e t' := ⟨fun pins s σ H Q I w => h.run pins s σ H Q I (q _ _ _ w)⟩
theorem PW.imp {X : Cx} {e : Expr} {t t' : TT} (h : PW X e t) (q : ∀ σ H Q, t' σ H Q → t σ H Q) : PW X e t' := ⟨fun wh pins s σ H Q I w => h.run wh pins s σ H Q I (q _ _ _ w)⟩
theorem PA.imp {X : Cx} {e : List Expr} {t t' : TA} (h : PA X e t) (q : ∀ σ H Q, t' σ H Q → t σ H Q) : PA X e t' := ⟨fun p pins s σ H Q I w => h.run p pins s σ H Q I (q _ _ _ w)⟩
theorem PS.imp {X : Cx} {e : Stmt} {t t' : TS} (h : PS X e t) (q : ∀ D σ H, t' D σ H → t D σ H) : PS X e t' := ⟨fun pins s σ H D I w => h.run pins s σ H D I (q _ _ _ w)⟩
theorem PSs.imp {X : Cx} {e : List Stmt} {t t' : TS} (h : PSs X e t) (q : ∀ D σ H, t' D σ H → t D σ H) : PSs X e t' := ⟨fun pins s σ H D I w => h.run pins s σ H D I (q _ _ _ w)⟩

/-! ### sequencing, in Option -/
def bnd {α β : Type} (a : Ev → Sto → Option (α × Sto)) (f : α → Ev → Sto → Option (β × Sto)) : Ev → Sto → Option (β × Sto) := fun ρ s =>
  match a ρ s with
  | some (x, s1) => f x ρ s1
  | none => none
theorem bnd_some {α β : Type} {a : Ev → Sto → Option (α × Sto)} {f : α → Ev → Sto → Option (β × Sto)} {ρ : Ev} {s : Sto} {y : β} {s2 : Sto} (h : bnd a f ρ s = some (y, s2)) : ∃ x s1, a ρ s = some (x, s1) ∧ f x ρ s1 = some (y, s2) := by
  unfold bnd at h
  split at h
  · rename_i x s1 e
    exact ⟨x, s1, e, h⟩
  · cases h
def ret {α : Type} (x : Option α) : Sto → Option (α × Sto) := fun s => match x with | some y => some (y, s) | none => none
theorem ret_some {α : Type} {x : Option α} {s : Sto} {y : α} {s2 : Sto} (h : ret x s = some (y, s2)) : x = some y ∧ s2 = s := by
  unfold ret at h
  split at h
  · rename_i z
    cases h
    exact ⟨rfl, rfl⟩
  · cases h

/-- one value, then a rule by values -/
def m1 (f : R → Option R) (a : Mx) : Mx := bnd a fun x _ => ret (f x)
def m2 (f : R → R → Option R) (a b : Mx) : Mx := bnd a fun x => bnd b fun y _ => ret (f x y)
def mA (f : List R → Option R) (a : Ma) : Mx := bnd a fun x _ => ret (f x)

/-- by values: from a heap with the spring, the rule's reading r follows from the function f -/
def Ok1 (K : PySem.W.Frag) (r : V → Hp → VK → Prop) (f : R → Option R) : Prop := ∀ (sp : Option Addr) (fz : Fz) (H H0 : Hp) (sto : Sto) (v : V) (x z : R) (Q : VK), Bs sp fz H sto → ImR K sp H0 fz H v x → f x = some z →
  (∀ u fz' H', Stp sp fz H fz' H' → SpL sp H' sto → ImR K sp H fz' H' u z ∨ (x = z ∧ u = v) → Q u H') → r v H Q
def Ok2 (K : PySem.W.Frag) (r : R2) (f : R → R → Option R) : Prop := ∀ (sp : Option Addr) (fz : Fz) (H H0 : Hp) (sto : Sto) (v w : V) (x y z : R) (Q : VK), Bs sp fz H sto → ImR K sp H0 fz H v x → ImR K sp H0 fz H w y → f x y = some z →
  (∀ u fz' H', Stp sp fz H fz' H' → SpL sp H' sto → ImR K sp H fz' H' u z → Q u H') → r v w H Q
def OkA (K : PySem.W.Frag) (r : List V → Hp → VK → Prop) (f : List R → Option R) : Prop := ∀ (sp : Option Addr) (fz fzS : Fz) (H H0 : Hp) (sto : Sto) (vs : List V) (xs : List R) (z : R) (Q : VK), Stp sp fzS H0 fz H → Bs sp fz H sto → ImRs K sp H0 fz H vs xs → f xs = some z →
  (∀ u fz' H', Stp sp fzS H0 fz' H' → SpL sp H' sto → ImR K sp H0 fz' H' u z → Q u H') → r vs H Q

section
variable {K : PySem.W.Frag} {sp : Option Addr} {fz fz1 fz2 : Fz} {H H1 H2 : Hp} {sto : Sto}
theorem ImRs.stp : ∀ {vs : List V} {rs : List R}, ImRs K sp H fz1 H1 vs rs → Stp sp fz1 H1 fz2 H2 → Bs sp fz1 H1 sto → ImRs K sp H fz2 H2 vs rs
  | _, _, .nil, _, _ => .nil
  | _, _, .cons h t, s, B => .cons (h.stp s B) (ImRs.stp t s B)
theorem ImRs.early : ∀ {vs : List V} {rs : List R}, ImRs K sp H1 fz2 H2 vs rs → Stp sp fz H fz1 H1 → ImRs K sp H fz2 H2 vs rs
  | _, _, .nil, _ => .nil
  | _, _, .cons h t, s => .cons (h.early s) (ImRs.early t s)
end

section
variable {X : Cx} {a b : Expr} {ma mb : Mx}
/-- two expressions, then a rule -/
theorem rd_two {K : PySem.W.Frag} {r : R2} {f : R → R → Option R} (hf : Ok2 K r f) {σ : St} {H : Hp} {Q : VK} (h : rdE K (m2 f ma mb) σ H Q) : tOp r (rdE K ma) (rdE K mb) σ H Q := by
  obtain ⟨C, fz, ρ, sto, z, sto', F, e, k⟩ := h
  obtain ⟨x, s1, ea, e⟩ := bnd_some e
  obtain ⟨y, s2, eb, e⟩ := bnd_some e
  obtain ⟨ef, rfl⟩ := ret_some e
  refine ⟨C, fz, ρ, sto, x, s1, F, ea, fun v fz1 H1 st1 l1 i1 => ?_⟩
  refine ⟨C, fz1, ρ, s1, y, sto', F.step st1 l1, eb, fun w fz2 H2 st2 l2 i2 => ?_⟩
  have B1 := F.bs.step st1 l1
  refine hf C.sp fz2 H2 H sto' v w x y z Q (B1.step st2 l2) (i1.stp st2 B1) (i2.early st1) ef fun u fz3 H3 st3 l3 i3 => ?_
  exact k u fz3 H3 ((st1.trans st2).trans st3) l3 (i3.early (st1.trans st2))
theorem rd_one {K : PySem.W.Frag} {r : V → Hp → VK → Prop} {f : R → Option R} (hf : Ok1 K r f) {σ : St} {H : Hp} {Q : VK} (h : rdE K (m1 f ma) σ H Q) : tUn r (rdE K ma) σ H Q := by
  obtain ⟨C, fz, ρ, sto, z, sto', F, e, k⟩ := h
  obtain ⟨x, s1, ea, e⟩ := bnd_some e
  obtain ⟨ef, rfl⟩ := ret_some e
  refine ⟨C, fz, ρ, sto, x, sto', F, ea, fun v fz1 H1 st1 l1 i1 => ?_⟩
  refine hf C.sp fz1 H1 H sto' v x z Q (F.bs.step st1 l1) i1 ef fun u fz3 H3 st3 l3 i3 => ?_
  refine k u fz3 H3 (st1.trans st3) l3 ?_
  rcases i3 with i3 | ⟨rfl, rfl⟩
  · exact i3.early st1
  · exact i1.stp st3 (F.bs.step st1 l1)
theorem rd_args {K : PySem.W.Frag} {r : List V → Hp → VK → Prop} {f : List R → Option R} {m : Ma} (hf : OkA K r f) {σ : St} {H : Hp} {Q : VK} (h : rdE K (mA f m) σ H Q) : tCB r (rdA K m) σ H Q := by
  obtain ⟨C, fz, ρ, sto, z, sto', F, e, k⟩ := h
  obtain ⟨x, s1, ea, e⟩ := bnd_some e
  obtain ⟨ef, rfl⟩ := ret_some e
  refine ⟨C, fz, ρ, sto, x, sto', F, ea, fun v fz1 H1 st1 l1 i1 => ?_⟩
  exact hf C.sp fz1 fz H1 H sto' v x z Q st1 (F.bs.step st1 l1) i1 ef fun u fz3 H3 st3 l3 i3 => k u fz3 H3 st3 l3 i3
end

/-! ### arguments -/
def maNil : Ma := fun _ s => some ([], s)
def maCons (a : Mx) (r : Ma) : Ma := bnd a fun x => bnd r fun xs _ s => some (x :: xs, s)
section
variable {X : Cx} {e : Expr} {es : List Expr} {me : Mx} {mr : Ma}
theorem sa_nil : SA X [] maNil := PA.imp pa_nil fun σ H Q h => by
  obtain ⟨C, fz, ρ, sto, r, sto', F, e, k⟩ := h
  cases e
  exact k [] fz H .refl F.bs.spl .nil
theorem sa_cons (he : SE X e me) (hr : SA X es mr) (hs : starEach (e :: es) X.env = (false, eval e X.env) :: starEach es X.env := by rfl) : SA X (e :: es) (maCons me mr) := PA.imp (pa_cons he hr hs) fun σ H Q h => by
  obtain ⟨C, fz, ρ, sto, r, sto', F, e, k⟩ := h
  obtain ⟨x, s1, ea, e⟩ := bnd_some e
  obtain ⟨xs, s2, eb, e⟩ := bnd_some e
  cases e
  refine ⟨C, fz, ρ, sto, x, s1, F, ea, fun v fz1 H1 st1 l1 i1 => ?_⟩
  refine ⟨C, fz1, ρ, s1, xs, sto', F.step st1 l1, eb, fun vs fz2 H2 st2 l2 i2 => ?_⟩
  exact k (v :: vs) fz2 H2 (st1.trans st2) l2 (.cons (i1.stp st2 (F.bs.step st1 l1)) (i2.early st1))
end

/-! ### names, constants -/
def rdCl : Cl → R
  | .d x => .d x
  | .o xs => .b xs
  | .s => .s
def mVar (i : Nat) : Mx := fun ρ s => match ρ[i]? with
  | some (some c) => some (rdCl c, s)
  | _ => none
def mKon (x : PyData) : Mx := fun _ s => some (.d x, s)
section
variable {X : Cx}
theorem se_var {i : Nat} {x : Str} {pos : Pos} (hN : X.N[i]? = some x := by rfl) (hv : Vis X.env.scope x := by first | exact Or.inl rfl | exact Or.inr (Or.inl rfl) | exact Or.inr (Or.inr rfl)) (hd : (x == ("__debug__" : Str)) = false := by decide)
    (hcd : (x == ("__classdict__" : Str)) = false := by decide) : SE X (.Name x pos) (mVar i) := PE.imp (pe_var hN hv hd hcd) fun σ H Q h => by
  obtain ⟨C, fz, ρ, sto, r, sto', F, e, k⟩ := h
  unfold mVar at e
  split at e
  · rename_i c hc
    cases e
    have q := F.vars i c hc
    cases c with
    | d x => obtain ⟨v, e, q⟩ := q; exact ⟨v, e, k v fz H .refl F.bs.spl q⟩
    | o xs =>
      obtain ⟨a, vs, e, h1, h2, h3, h4, h5⟩ := q
      exact ⟨_, e, k _ fz H .refl F.bs.spl ⟨a, vs, rfl, h1, h2, h4⟩⟩
    | s => obtain ⟨a, ea, q⟩ := q; exact ⟨_, q, k _ fz H .refl F.bs.spl ⟨a, ea, rfl⟩⟩
  · cases e
theorem rd_kon {K : PySem.W.Frag} {v : V} {x : PyData} (hv : ∀ fz H, Im K fz H v x) {σ : St} {H : Hp} {Q : VK} (h : rdE K (mKon x) σ H Q) : tC v σ H Q := by
  obtain ⟨C, fz, ρ, sto, r, sto', F, e, k⟩ := h
  cases e
  exact k v fz H .refl F.bs.spl (hv _ _)
theorem se_int {i : Int} {j pos} : SE X (.Constant (.int i) j pos) (mKon (.int i)) := PE.imp pe_int fun _ _ _ h => rd_kon (fun _ _ => .int i) h
theorem se_bl {i : Bool} {j pos} : SE X (.Constant (.bool i) j pos) (mKon (.bool i)) := PE.imp pe_bl fun _ _ _ h => rd_kon (fun _ _ => .bl i) h
theorem se_non {j pos} : SE X (.Constant .none j pos) (mKon .none) := PE.imp pe_non fun _ _ _ h => rd_kon (fun _ _ => .non) h
theorem se_str {i : Str} {j pos} : SE X (.Constant (.str i) j pos) (mKon (.str i)) := PE.imp pe_str fun _ _ _ h => rd_kon (fun _ _ => .str i) h
/-- a constant of the text -/
structure GlK (K : PySem.W.Frag) (mg : Str → Option Value) (x : Str) (d : PyData) : Prop where
  ex : ∃ v u, mg x = some u ∧ RelV v u ∧ ∀ fz H, Im K fz H v d
theorem se_glob {x : Str} {d : PyData} {pos : Pos} (hk : GlK X.K X.mg x d) (hg : Gl X x) (hd : (x == ("__debug__" : Str)) = false := by decide) : SE X (.Name x pos) (mKon d) := by
  obtain ⟨v, u, hm, r, q⟩ := hk.ex
  exact PE.imp (pe_glob hg hm r hd) fun _ _ _ h => rd_kon q h
end
end Dh

/-! Dh2: operators, comparisons, tests, displays, items, slices, calls of built-ins -/
namespace Dh
open PySem PySem.Spec L2

theorem OpR.or {X : Cx} {f : Value → Value → Sem Value} {r r' : R2} (h : OpR X f r) (h' : OpR X f r') : OpR X f (fun x y H Q => r x y H Q ∨ r' x y H Q) := fun pins s σ H x y v u Q I rx ry q => by
  rcases q with q | q
  · exact h pins s σ H x y v u Q I rx ry q
  · exact h' pins s σ H x y v u Q I rx ry q
theorem CallR.or {X : Cx} {f : Value} {r r' : List V → Hp → VK → Prop} (h : CallR X f r) (h' : CallR X f r') : CallR X f (fun x H Q => r x H Q ∨ r' x H Q) := fun pins s σ H x v Q I rx q => by
  rcases q with q | q
  · exact h pins s σ H x v Q I rx q
  · exact h' pins s σ H x v Q I rx q

section
variable {X : Cx} {a b : Expr} {ma mb : Mx} {pos : Pos}
theorem se_op {op : Operator} {r : R2} {f : R → R → Option R} (ho : OpR X (binaryOp op) r) (hf : Ok2 X.K r f) (ha : SE X a ma) (hb : SE X b mb) : SE X (.BinOp a op b pos) (m2 f ma mb) := PE.imp (pe_op ho ha hb) fun _ _ _ h => rd_two hf h
theorem se_un {op : UnaryOp} {r : V → Hp → VK → Prop} {f : R → Option R} (ho : UnR X (unaryOp op) r) (hf : Ok1 X.K r f) (ha : SE X a ma) : SE X (.UnaryOp op a pos) (m1 f ma) := PE.imp (pe_un ho ha) fun _ _ _ h => rd_one hf h
theorem se_cmp {op : CmpOp} {r : R2} {f : R → R → Option R} (ho : OpR X (compareOp op) r) (hf : Ok2 X.K r f) (ha : SE X a ma) (hb : SE X b mb) (hm : behindInMarks op b = false) : SE X (.Compare a [op] [b] pos) (m2 f ma mb) := PE.imp (pe_cmpR ho ha hb hm) fun _ _ _ h => rd_two hf h
/-- the truth of a bool -/
def bT (a : Mx) : Mt := bnd a fun x _ s => match x with | .d (.bool k) => some (k, s) | _ => none
theorem rd_bT {K : PySem.W.Frag} {m : Mx} {σ : L2.St} {H : Hp} {Q : Bool → Hp → Prop} (h : rdT K (bT m) σ H Q) : rdE K m σ H fun x H1 => ∃ c, x = .bl c ∧ Q c H1 := by
  obtain ⟨C, fz, ρ, sto, z, sto', F, e, k⟩ := h
  obtain ⟨x, s1, ea, e⟩ := bnd_some e
  split at e
  · rename_i k'
    cases e
    exact ⟨C, fz, ρ, sto, _, _, F, ea, fun v fz1 H1 st1 l1 i1 => by cases i1; exact ⟨_, rfl, k fz1 H1 st1 l1⟩⟩
  · cases e
theorem sb_val (h : SE X a ma) (he : ∀ whole, isTrue a X.env whole = (do let v ← whole; standAt a.pos; holding [v] (truthy v)) := by intro _; rfl) : SB X a (bT ma) := PT.imp (pt_val h he) fun _ _ _ q => rd_bT q
theorem sb_cmp {op : CmpOp} {r : R2} {f : R → R → Option R} (ho : OpR X (compareOp op) r) (hf : Ok2 X.K r f) (ha : SE X a ma) (hb : SE X b mb) (hm : behindInMarks op b = false) : SB X (.Compare a [op] [b] pos) (bT (m2 f ma mb)) :=
  PT.imp (pt_cmpR ho ha hb hm) fun σ H Q q => rd_two (Q := fun x H' => ∃ k, x = .bl k ∧ Q k H') hf (rd_bT q)
end

/-! ### ints -/
def fI (g : Int → Int → Option PyData) : R → R → Option R
  | .d (.int i), .d (.int j) => (g i j).map .d
  | _, _ => none
theorem fI_some {g : Int → Int → Option PyData} {x y z : R} (h : fI g x y = some z) : ∃ i j d, x = .d (.int i) ∧ y = .d (.int j) ∧ g i j = some d ∧ z = .d d := by
  unfold fI at h
  split at h
  · rename_i i j
    cases q : g i j with
    | none => rw [q] at h; cases h
    | some d => rw [q] at h; cases h; exact ⟨i, j, d, rfl, rfl, q, rfl⟩
  · cases h
theorem ok_I {K : PySem.W.Frag} {C : Int → Int → Prop} {gv : Int → Int → V} {g : Int → Int → Option PyData} (hg : ∀ i j d, g i j = some d → C i j ∧ ∀ fz H, Im K fz H (gv i j) d) : Ok2 K (rI C gv) (fI g) := by
  intro sp fz H H0 sto v w x y z Q B ix iy e k
  obtain ⟨i, j, d, rfl, rfl, q, rfl⟩ := fI_some e
  cases ix
  cases iy
  obtain ⟨c, im⟩ := hg i j d q
  exact ⟨i, j, rfl, rfl, c, k _ fz H .refl B.spl (im _ _)⟩
theorem ok_I0 {K : PySem.W.Frag} {gv : Int → Int → V} {g : Int → Int → Option PyData} (hg : ∀ i j d, g i j = some d → ∀ fz H, Im K fz H (gv i j) d) : Ok2 K (rI0 gv) (fI g) := by
  intro sp fz H H0 sto v w x y z Q B ix iy e k
  obtain ⟨i, j, d, rfl, rfl, q, rfl⟩ := fI_some e
  cases ix
  cases iy
  exact ⟨i, j, rfl, rfl, k _ fz H .refl B.spl (hg i j d q _ _)⟩
def gMns (i j : Int) : Option PyData := some (.int (i - j))
def gLt (i j : Int) : Option PyData := some (.bool (decide (i < j)))
def gLe (i j : Int) : Option PyData := some (.bool (decide (i ≤ j)))
def gGt (i j : Int) : Option PyData := some (.bool (decide (j < i)))
def gGe (i j : Int) : Option PyData := some (.bool (decide (j ≤ i)))
def gFdiv (i j : Int) : Option PyData := if j ≠ 0 ∧ Builtin.divisionGoesByPylong i j = false then some (.int (i.fdiv j)) else none
def gMod (i j : Int) : Option PyData := if j ≠ 0 then some (.int (i.fmod j)) else none
def gPow (i j : Int) : Option PyData := if 0 ≤ j ∧ j ≤ 1000000 ∧ i.natAbs < 2 ^ 64 then some (.int (i ^ j.toNat)) else none
/-- two factors of together at most 2^27 bits -/
def mulOk (i j : Int) : Bool := Nat.ble (Builtin.Int.intBits i + Builtin.Int.intBits j) 134217728
def CFdivP (i j : Int) : Prop := j ≠ 0 ∧ Builtin.divisionGoesByPylong i j = false
section
variable {X : Cx} {a b : Expr} {ma mb : Mx} {pos : Pos}
theorem op_fdivP : OpR X (binaryOp .FloorDiv) (rI CFdivP fun i j => .int (i.fdiv j)) := opI fun _ _ _ _ _ _ _ hc q => PyProof.Rows.floordiv_int hc.1 q (.inl hc.2)
theorem se_sub (ha : SE X a ma) (hb : SE X b mb) : SE X (.BinOp a .Sub b pos) (m2 (fI gMns) ma mb) := se_op op_sub (ok_I0 fun i j d e _ _ => by cases e; exact .int _) ha hb
theorem se_fdiv (ha : SE X a ma) (hb : SE X b mb) : SE X (.BinOp a .FloorDiv b pos) (m2 (fI gFdiv) ma mb) := se_op op_fdivP (ok_I fun i j d e => by
  unfold gFdiv at e
  split at e
  · rename_i c; cases e; exact ⟨c, fun _ _ => .int _⟩
  · cases e) ha hb
theorem se_mod (ha : SE X a ma) (hb : SE X b mb) : SE X (.BinOp a .Mod b pos) (m2 (fI gMod) ma mb) := se_op op_modN (ok_I fun i j d e => by
  unfold gMod at e
  split at e
  · rename_i c; cases e; exact ⟨c, fun _ _ => .int _⟩
  · cases e) ha hb
theorem se_pow (ha : SE X a ma) (hb : SE X b mb) : SE X (.BinOp a .Pow b pos) (m2 (fI gPow) ma mb) := se_op op_pow (ok_I fun i j d e => by
  unfold gPow at e
  split at e
  · rename_i c; cases e; exact ⟨c, fun _ _ => .int _⟩
  · cases e) ha hb
theorem ok_lt {K : PySem.W.Frag} : Ok2 K (rI0 fun i j => .bl (decide (i < j))) (fI gLt) := ok_I0 fun i j d e _ _ => by cases e; exact .bl _
theorem ok_le {K : PySem.W.Frag} : Ok2 K (rI0 fun i j => .bl (decide (i ≤ j))) (fI gLe) := ok_I0 fun i j d e _ _ => by cases e; exact .bl _
theorem ok_gt {K : PySem.W.Frag} : Ok2 K (rI0 fun i j => .bl (decide (j < i))) (fI gGt) := ok_I0 fun i j d e _ _ => by cases e; exact .bl _
theorem ok_ge {K : PySem.W.Frag} : Ok2 K (rI0 fun i j => .bl (decide (j ≤ i))) (fI gGe) := ok_I0 fun i j d e _ _ => by cases e; exact .bl _
theorem se_lt (ha : SE X a ma) (hb : SE X b mb) : SE X (.Compare a [.Lt] [b] pos) (m2 (fI gLt) ma mb) := se_cmp op_lt ok_lt ha hb (nomark _)
theorem se_le (ha : SE X a ma) (hb : SE X b mb) : SE X (.Compare a [.LtE] [b] pos) (m2 (fI gLe) ma mb) := se_cmp op_le ok_le ha hb (nomark _)
theorem se_gt (ha : SE X a ma) (hb : SE X b mb) : SE X (.Compare a [.Gt] [b] pos) (m2 (fI gGt) ma mb) := se_cmp op_gt ok_gt ha hb (nomark _)
theorem se_ge (ha : SE X a ma) (hb : SE X b mb) : SE X (.Compare a [.GtE] [b] pos) (m2 (fI gGe) ma mb) := se_cmp op_ge ok_ge ha hb (nomark _)
theorem sb_lt (ha : SE X a ma) (hb : SE X b mb) : SB X (.Compare a [.Lt] [b] pos) (bT (m2 (fI gLt) ma mb)) := sb_cmp op_lt ok_lt ha hb (nomark _)
theorem sb_le (ha : SE X a ma) (hb : SE X b mb) : SB X (.Compare a [.LtE] [b] pos) (bT (m2 (fI gLe) ma mb)) := sb_cmp op_le ok_le ha hb (nomark _)
theorem sb_gt (ha : SE X a ma) (hb : SE X b mb) : SB X (.Compare a [.Gt] [b] pos) (bT (m2 (fI gGt) ma mb)) := sb_cmp op_gt ok_gt ha hb (nomark _)
theorem sb_ge (ha : SE X a ma) (hb : SE X b mb) : SB X (.Compare a [.GtE] [b] pos) (bT (m2 (fI gGe) ma mb)) := sb_cmp op_ge ok_ge ha hb (nomark _)
def fNeg : R → Option R
  | .d (.int i) => some (.d (.int (-i)))
  | _ => none
theorem se_neg (ha : SE X a ma) : SE X (.UnaryOp .USub a pos) (m1 fNeg ma) := se_un un_neg (by
  intro sp fz H H0 sto v x z Q B ix e k
  unfold fNeg at e
  split at e
  · cases e
    cases ix
    exact ⟨_, rfl, k _ fz H .refl B.spl (.inl (.int _))⟩
  · cases e) ha
end

/-! ### + and * -/
/-- a list that is looked at -/
def rdL : R → Option (List PyData)
  | .d (.list xs) => some xs
  | .f xs => some xs
  | .b xs => some xs
  | _ => none
/-- where it stands -/
theorem ImR.list {K : PySem.W.Frag} {sp : Option Addr} {fz : Fz} {H H0 : Hp} {v : V} {x : R} {xs : List PyData} (i : ImR K sp H0 fz H v x) (e : rdL x = some xs) : ∃ a vs, v = .ref a ∧ SqL K H a vs ∧ ImA K fz H vs xs := by
  unfold rdL at e
  split at e
  · cases e
    cases i with
    | lst h a => exact ⟨_, _, rfl, h.sq, a⟩
  · cases e
    obtain ⟨a, vs, e, h1, h2, _⟩ := i
    exact ⟨a, vs, e, .inl (.inl h1), h2⟩
  · cases e
    obtain ⟨a, vs, e, h1, h2, _⟩ := i
    exact ⟨a, vs, e, .inl (.inl h1), h2⟩
  · cases e
def rdQ : R → Option (List PyData)
  | .d (.tuple xs) => some xs
  | r => rdL r
theorem ImR.seq {K : PySem.W.Frag} {sp : Option Addr} {fz : Fz} {H H0 : Hp} {v : V} {x : R} {xs : List PyData} (i : ImR K sp H0 fz H v x) (e : rdQ x = some xs) : ∃ a vs, v = .ref a ∧ (SqL K H a vs ∨ SqT K H a vs) ∧ ImA K fz H vs xs := by
  unfold rdQ at e
  split at e
  · cases e
    cases i with
    | tup h a => exact ⟨_, _, rfl, .inr h, a⟩
  · obtain ⟨a, vs, e1, h1, h2⟩ := i.list e
    exact ⟨a, vs, e1, .inl h1, h2⟩
theorem ImR.tup {K : PySem.W.Frag} {sp : Option Addr} {fz : Fz} {H H0 : Hp} {v : V} {xs : List PyData} (i : ImR K sp H0 fz H v (.d (.tuple xs))) : ∃ a vs, v = .ref a ∧ SqT K H a vs ∧ ImA K fz H vs xs := by
  cases i with
  | tup h a => exact ⟨_, _, rfl, h, a⟩
/-- a new tuple of data -/
theorem new_tup {K : PySem.W.Frag} {sp : Option Addr} {fz : Fz} {H : Hp} {sto : Sto} {p : Addr} {vs : List V} {xs : List PyData} (B : Bs sp fz H sto) (a : ImA K fz H vs xs) (hp : H p = none) :
    Stp sp fz H fz (upd H p (.tup vs)) ∧ SpL sp (upd H p (.tup vs)) sto ∧ Im K fz (upd H p (.tup vs)) (.ref p) (.tuple xs) := by
  have s : Stp sp fz H fz (upd H p (.tup vs)) := .laid hp
  have e : some p ≠ sp := B.spl.ne hp (by intro z; cases z)
  exact ⟨s, B.spl.upd e, .tup (SqT.of upd_same) (a.stp s B)⟩
/-- a new list of data -/
theorem new_lst {K : PySem.W.Frag} {sp : Option Addr} {fz : Fz} {H : Hp} {sto : Sto} {p : Addr} {vs : List V} {xs : List PyData} (B : Bs sp fz H sto) (a : ImA K fz H vs xs) (hp : H p = none) :
    Stp sp fz H fz (upd H p (.lst vs)) ∧ SpL sp (upd H p (.lst vs)) sto ∧ ImR K sp H fz (upd H p (.lst vs)) (.ref p) (.f xs) := by
  have s : Stp sp fz H fz (upd H p (.lst vs)) := .laid hp
  have e : some p ≠ sp := B.spl.ne hp (by intro z; cases z)
  exact ⟨s, B.spl.upd e, ⟨p, vs, rfl, upd_same, a.stp s B, fun q => B.trk p q hp, e, hp⟩⟩

/-! ### + -/
def fAdd : R → R → Option R
  | .d (.int i), .d (.int j) => some (.d (.int (i + j)))
  | .d (.str x), .d (.str y) => if x.length + y.length ≤ sizeLine then some (.d (.str (x ++ y))) else none
  | .d (.tuple xs), .d (.tuple ys) => if xs.length + ys.length ≤ sizeLine then some (.d (.tuple (xs ++ ys))) else none
  | .f xs, .f ys => if xs.length + ys.length ≤ sizeLine then some (.f (xs ++ ys)) else none
  | .f xs, .b ys => if xs.length + ys.length ≤ sizeLine then some (.f (xs ++ ys)) else none
  | .b xs, .f ys => if xs.length + ys.length ≤ sizeLine then some (.f (xs ++ ys)) else none
  | .b xs, .b ys => if xs.length + ys.length ≤ sizeLine then some (.f (xs ++ ys)) else none
  | _, _ => none
def rAdd (K : PySem.W.Frag) : R2 := fun x y H Q => rI0 (fun i j => .int (i + j)) x y H Q ∨ (∃ i j, x = .str i ∧ y = .str j ∧ i.length + j.length ≤ sizeLine ∧ Q (.str (i ++ j)) H) ∨ rCatA K x y H Q ∨ rCat x y H Q
/-- a tracked list (own, or just made) -/
def trL : R → Option (List PyData)
  | .f xs => some xs
  | .b xs => some xs
  | _ => none
theorem ImR.trk {K : PySem.W.Frag} {sp : Option Addr} {fz : Fz} {H H0 : Hp} {v : V} {x : R} {xs : List PyData} (i : ImR K sp H0 fz H v x) (e : trL x = some xs) : ∃ a vs, v = .ref a ∧ H a = some (.lst vs) ∧ ImA K fz H vs xs := by
  unfold trL at e
  split at e
  · cases e
    obtain ⟨a, vs, e, h1, h2, _⟩ := i
    exact ⟨a, vs, e, h1, h2⟩
  · cases e
    obtain ⟨a, vs, e, h1, h2, _⟩ := i
    exact ⟨a, vs, e, h1, h2⟩
  · cases e
theorem ok_cat {K : PySem.W.Frag} {sp : Option Addr} {fz : Fz} {H H0 : Hp} {sto : Sto} {v w : V} {x y : R} {xs ys : List PyData} {Q : VK} (B : Bs sp fz H sto) (ix : ImR K sp H0 fz H v x) (iy : ImR K sp H0 fz H w y) (ex : trL x = some xs) (ey : trL y = some ys) (hz : xs.length + ys.length ≤ sizeLine)
    (k : ∀ u fz' H', Stp sp fz H fz' H' → SpL sp H' sto → ImR K sp H fz' H' u (.f (xs ++ ys)) → Q u H') : rCat v w H Q := by
  obtain ⟨a, vs, rfl, h1, h2⟩ := ix.trk ex
  obtain ⟨b, ws, rfl, h3, h4⟩ := iy.trk ey
  refine ⟨a, b, vs, ws, rfl, rfl, h1, h3, by rw [h2.length, h4.length]; exact hz, fun p hp => ?_⟩
  obtain ⟨s, l, i⟩ := new_lst B (h2.append h4) hp
  exact k _ fz _ s l i
theorem ok_add {K : PySem.W.Frag} : Ok2 K (rAdd K) fAdd := by
  intro sp fz H H0 sto v w x y z Q B ix iy e k
  unfold fAdd at e
  split at e
  · cases e; cases ix; cases iy
    exact .inl ⟨_, _, rfl, rfl, k _ fz H .refl B.spl (.int _)⟩
  · split at e
    · rename_i hz
      cases e; cases ix; cases iy
      exact .inr (.inl ⟨_, _, rfl, rfl, hz, k _ fz H .refl B.spl (.str _)⟩)
    · cases e
  · split at e
    · rename_i xs ys hz
      cases e
      obtain ⟨a, vs, rfl, h1, h2⟩ := ix.tup
      obtain ⟨b, ws, rfl, h3, h4⟩ := iy.tup
      refine .inr (.inr (.inl ⟨a, b, vs, ws, rfl, rfl, h1, h3, by rw [h2.length, h4.length]; exact hz, fun q => ?_, fun _ q => ?_, fun _ _ p hp => ?_⟩))
      · subst q
        have q2 : xs = [] := List.length_eq_zero_iff.mp h2.length.symm
        subst q2
        exact k _ fz H .refl B.spl (show Im K fz H _ _ from .tup h3 h4)
      · subst q
        have q2 : ys = [] := List.length_eq_zero_iff.mp h4.length.symm
        subst q2
        exact k _ fz H .refl B.spl (show Im K fz H _ _ from .tup h1 (by rw [List.append_nil]; exact h2))
      · obtain ⟨s, l, i⟩ := new_tup B (h2.append h4) hp
        exact k _ fz _ s l i
    · cases e
  · split at e
    · rename_i hz; cases e
      exact .inr (.inr (.inr (ok_cat B ix iy rfl rfl hz k)))
    · cases e
  · split at e
    · rename_i hz; cases e
      exact .inr (.inr (.inr (ok_cat B ix iy rfl rfl hz k)))
    · cases e
  · split at e
    · rename_i hz; cases e
      exact .inr (.inr (.inr (ok_cat B ix iy rfl rfl hz k)))
    · cases e
  · split at e
    · rename_i hz; cases e
      exact .inr (.inr (.inr (ok_cat B ix iy rfl rfl hz k)))
    · cases e
  · cases e
section
variable {X : Cx} {a b : Expr} {ma mb : Mx} {pos : Pos}
theorem se_add (ha : SE X a ma) (hb : SE X b mb) : SE X (.BinOp a .Add b pos) (m2 fAdd ma mb) := se_op (op_add.or (op_add_str.or (op_catA.or op_cat))) ok_add ha hb
end
/-! ### * -/
def fMul : R → R → Option R
  | .d (.int i), .d (.int j) => if mulOk i j = true then some (.d (.int (i * j))) else none
  | .d (.tuple xs), .d (.int k) => if xs ≠ [] ∧ 2 ≤ k ∧ k ≤ 1000 ∧ xs.length ≤ 1000 then some (.d (.tuple (List.replicate k.toNat xs).flatten)) else none
  | .f xs, .d (.int k) => if 0 ≤ k ∧ k < 2 ^ 63 ∧ xs.length * k.toNat ≤ sizeLine then some (.f (List.replicate k.toNat xs).flatten) else none
  | .b xs, .d (.int k) => if 0 ≤ k ∧ k < 2 ^ 63 ∧ xs.length * k.toNat ≤ sizeLine then some (.f (List.replicate k.toNat xs).flatten) else none
  | _, _ => none
theorem ImA.rep {K : PySem.W.Frag} {fz : Fz} {H : Hp} {vs : List V} {xs : List PyData} (h : ImA K fz H vs xs) : ∀ n : Nat, ImA K fz H (List.replicate n vs).flatten (List.replicate n xs).flatten
  | 0 => by simpa using ImA.nil
  | n + 1 => by
    rw [List.replicate_succ, List.replicate_succ, List.flatten_cons, List.flatten_cons]
    exact h.append (h.rep n)
theorem ok_rep {K : PySem.W.Frag} {sp : Option Addr} {fz : Fz} {H H0 : Hp} {sto : Sto} {v : V} {x : R} {xs : List PyData} {j : Int} {Q : VK} (B : Bs sp fz H sto) (ix : ImR K sp H0 fz H v x) (ex : trL x = some xs) (hz : 0 ≤ j ∧ j < 2 ^ 63 ∧ xs.length * j.toNat ≤ sizeLine)
    (k : ∀ u fz' H', Stp sp fz H fz' H' → SpL sp H' sto → ImR K sp H fz' H' u (.f (List.replicate j.toNat xs).flatten) → Q u H') : rRep v (.int j) H Q := by
  obtain ⟨a, vs, rfl, h1, h2⟩ := ix.trk ex
  refine ⟨a, j, vs, rfl, rfl, h1, by omega, hz.2.1, by rw [h2.length]; exact hz.2.2, fun p hp => ?_⟩
  obtain ⟨s, l, i⟩ := new_lst B (h2.rep j.toNat) hp
  exact k _ fz _ s l i
theorem ok_mul {K : PySem.W.Frag} : Ok2 K (fun x y H Q => rI CMulX (fun i j => .int (i * j)) x y H Q ∨ rRepT K x y H Q ∨ rRep x y H Q) fMul := by
  intro sp fz H H0 sto v w x y z Q B ix iy e k
  unfold fMul at e
  split at e
  · split at e
    · rename_i hz; cases e; cases ix; cases iy
      exact .inl ⟨_, _, rfl, rfl, (by unfold CMulX; have := Nat.le_of_ble_eq_true hz; omega), k _ fz H .refl B.spl (.int _)⟩
    · cases e
  · split at e
    · rename_i xs j hz
      cases e; cases iy
      obtain ⟨a, vs, rfl, h1, h2⟩ := ix.tup
      refine .inr (.inl ⟨a, j, vs, rfl, rfl, h1, fun q => ?_, hz.2.1, hz.2.2.1, by rw [h2.length]; exact hz.2.2.2, fun p hp => ?_⟩)
      · subst q; exact hz.1 (List.length_eq_zero_iff.mp h2.length.symm)
      · obtain ⟨s, l, i⟩ := new_tup B (h2.rep j.toNat) hp
        exact k _ fz _ s l i
    · cases e
  · split at e
    · rename_i hz; cases e; cases iy
      exact .inr (.inr (ok_rep B ix rfl hz k))
    · cases e
  · split at e
    · rename_i hz; cases e; cases iy
      exact .inr (.inr (ok_rep B ix rfl hz k))
    · cases e
  · cases e
section
variable {X : Cx} {a b : Expr} {ma mb : Mx} {pos : Pos}
theorem se_mul (ha : SE X a ma) (hb : SE X b mb) : SE X (.BinOp a .Mult b pos) (m2 fMul ma mb) := se_op (op_mulX.or (op_repT.or op_rep)) ok_mul ha hb
end

/-! ### == of data -/
section
variable {X : Cx} {pins : List (Addr × Obj)} {σ : L2.St} {H : Hp} {s : Shared} {fz : Fz}
-- without a dict
mutual
def noDict : PyData → Bool
  | .list xs => noDicts xs
  | .tuple xs => noDicts xs
  | .dict _ => false
  | _ => true
def noDicts : List PyData → Bool
  | [] => true
  | x :: xs => noDict x && noDicts xs
end
mutual
theorem Im.dp : ∀ {v : V} {d : PyData}, Im X.K fz H v d → noDict d = true → Dp X.K H v d
  | _, _, .non, _ => .non
  | _, _, .bl b, _ => .bl b
  | _, _, .int i, _ => .int i
  | _, _, .str x, _ => .str x
  | _, _, .lst h a, q => .lst h.sq (ImA.dp a (by simpa [noDict] using q))
  | _, _, .tup h a, q => .tup h (ImA.dp a (by simpa [noDict] using q))
  | _, _, .dct _ _ _ _, q => by simp [noDict] at q
theorem ImA.dp : ∀ {v : List V} {d : List PyData}, ImA X.K fz H v d → noDicts d = true → DpAll X.K H v d
  | _, _, .nil, _ => .nil
  | _, _, .cons h t, q => by
    simp only [noDicts, Bool.and_eq_true] at q
    exact .cons (Im.dp h q.1) (ImA.dp t q.2)
end
/-- any datum that is looked at -/
def rdD : R → Option PyData
  | .d x => some x
  | .f xs => some (.list xs)
  | .b xs => some (.list xs)
  | .s => none
theorem ImR.dp {sp : Option Addr} {H0 : Hp} {v : V} {x : R} {d : PyData} (i : ImR X.K sp H0 fz H v x) (e : rdD x = some d) (hn : noDict d = true) : Dp X.K H v d := by
  cases x with
  | d x => cases e; exact Im.dp i hn
  | f xs =>
    cases e
    obtain ⟨a, vs, rfl, h1, h2, _⟩ := i
    exact .lst (.inl (.inl h1)) (ImA.dp h2 (by simpa [noDict] using hn))
  | b xs =>
    cases e
    obtain ⟨a, vs, rfl, h1, h2, _⟩ := i
    exact .lst (.inl (.inl h1)) (ImA.dp h2 (by simpa [noDict] using hn))
  | s => cases e
end
/-- data that == may be asked of here -/
def eqOk (d : PyData) : Bool := noDict d && SeqAt.shaped d
def fEqD (neg : Bool) : R → R → Option R := fun x y => match rdD x, rdD y with
  | some d, some e => if eqOk d = true ∧ eqOk e = true then some (.d (.bool (if neg then !PyData.eqv d e else PyData.eqv d e))) else none
  | _, _ => none
def strOf : R → Option Str
  | .d (.str x) => some x
  | _ => none
/-- ==; of any two texts, or of two data without a dict that are not too deep -/
def fEq (neg : Bool) : R → R → Option R := fun x y => match strOf x, strOf y with
  | some a, some b => some (.d (.bool (if neg then !(a == b) else a == b)))
  | _, _ => fEqD neg x y
section
variable {X : Cx} {a b : Expr} {ma mb : Mx} {pos : Pos}
theorem strOf_some {x : R} {a : Str} (h : strOf x = some a) : x = .d (.str a) := by
  unfold strOf at h
  split at h
  · cases h; rfl
  · cases h
theorem fEq_some {neg : Bool} {x y z : R} (h : fEqD neg x y = some z) : ∃ d e, rdD x = some d ∧ rdD y = some e ∧ noDict d = true ∧ noDict e = true ∧ SeqAt.shaped d = true ∧ SeqAt.shaped e = true ∧ z = .d (.bool (if neg then !PyData.eqv d e else PyData.eqv d e)) := by
  unfold fEqD at h
  split at h
  · rename_i d e h1 h2
    split at h
    · rename_i hz
      cases h
      simp only [eqOk, Bool.and_eq_true] at hz
      exact ⟨d, e, h1, h2, hz.1.1, hz.2.1, hz.1.2, hz.2.2, rfl⟩
    · cases h
  · cases h
theorem ok_eq : Ok2 X.K (fun x y H Q => rEq x y H Q ∨ rEqD X.K x y H Q) (fEq false) := by
  intro sp fz H H0 sto v w x y z Q B ix iy h k
  unfold fEq at h
  split at h
  · rename_i a b ea eb
    cases strOf_some ea
    cases strOf_some eb
    cases h
    cases ix
    cases iy
    exact .inl ⟨rfl, k _ fz H .refl B.spl (by rw [dec_str]; exact .bl _)⟩
  · obtain ⟨d, e, h1, h2, n1, n2, s1, s2, rfl⟩ := fEq_some h
    exact .inr ⟨d, e, ix.dp h1 n1, iy.dp h2 n2, s1, s2, k _ fz H .refl B.spl (.bl _)⟩
theorem ok_ne : Ok2 X.K (fun x y H Q => rNe x y H Q ∨ rNeD X.K x y H Q) (fEq true) := by
  intro sp fz H H0 sto v w x y z Q B ix iy h k
  unfold fEq at h
  split at h
  · rename_i a b ea eb
    cases strOf_some ea
    cases strOf_some eb
    cases h
    cases ix
    cases iy
    exact .inl ⟨rfl, k _ fz H .refl B.spl (by rw [dec_str]; exact .bl _)⟩
  · obtain ⟨d, e, h1, h2, n1, n2, s1, s2, rfl⟩ := fEq_some h
    exact .inr ⟨d, e, ix.dp h1 n1, iy.dp h2 n2, s1, s2, k _ fz H .refl B.spl (.bl _)⟩
theorem se_eq {k : Nat} (hr : Room k X.A) (ha : SE X a ma) (hb : SE X b mb) : SE X (.Compare a [.Eq] [b] pos) (m2 (fEq false) ma mb) := se_cmp (op_eq.or (op_eqD hr.units)) ok_eq ha hb (nomark _)
theorem se_ne {k : Nat} (hr : Room k X.A) (ha : SE X a ma) (hb : SE X b mb) : SE X (.Compare a [.NotEq] [b] pos) (m2 (fEq true) ma mb) := se_cmp (op_ne.or (op_neD hr.units)) ok_ne ha hb (nomark _)
theorem sb_eq {k : Nat} (hr : Room k X.A) (ha : SE X a ma) (hb : SE X b mb) : SB X (.Compare a [.Eq] [b] pos) (bT (m2 (fEq false) ma mb)) := sb_cmp (op_eq.or (op_eqD hr.units)) ok_eq ha hb (nomark _)
theorem sb_ne {k : Nat} (hr : Room k X.A) (ha : SE X a ma) (hb : SE X b mb) : SB X (.Compare a [.NotEq] [b] pos) (bT (m2 (fEq true) ma mb)) := sb_cmp (op_ne.or (op_neD hr.units)) ok_ne ha hb (nomark _)
end

/-! ### a < b < c -/
/-- two comparisons of ints -/
def mChain (g1 g2 : Int → Int → Option PyData) (a b c : Mx) : Mx := bnd a fun x => bnd b fun y => bnd (fun _ => ret (fI g1 x y)) fun z => match z with
  | .d (.bool true) => bnd c fun w _ => ret (fI g2 y w)
  | .d (.bool false) => fun _ s => some (.d (.bool false), s)
  | _ => fun _ _ => none
theorem rd_chain {K : PySem.W.Frag} {r r' : R2} {g1 g2 : Int → Int → Option PyData} (h1 : Ok2 K r (fI g1)) (h2 : Ok2 K r' (fI g2)) {ma mb mc : Mx} {σ : L2.St} {H : Hp} {Q : VK} (h : rdE K (mChain g1 g2 ma mb mc) σ H Q) :
    tChain r r' (rdE K ma) (rdE K mb) (rdE K mc) σ H Q := by
  obtain ⟨C, fz, ρ, sto, z, sto', F, e, k⟩ := h
  obtain ⟨x, s1, ea, e1⟩ := bnd_some e
  obtain ⟨y, s2, eb, e2⟩ := bnd_some e1
  obtain ⟨z1, s3, ec, e3⟩ := bnd_some e2
  clear e e1 e2
  obtain ⟨ef, rfl⟩ := ret_some ec
  refine ⟨C, fz, ρ, sto, x, s1, F, ea, fun v fz1 H1 st1 l1 i1 => ?_⟩
  refine ⟨C, fz1, ρ, s1, y, s3, F.step st1 l1, eb, fun w fz2 H2 st2 l2 i2 => ?_⟩
  have B1 := F.bs.step st1 l1
  have B2 := B1.step st2 l2
  refine h1 C.sp fz2 H2 H s3 v w x y z1 _ B2 (i1.stp st2 B1) (i2.early st1) ef fun u fz3 H3 st3 l3 i3 => ?_
  have B3 := B2.step st3 l3
  split at e3
  · cases i3
    obtain ⟨y', s4, ed, e4⟩ := bnd_some e3
    obtain ⟨eg, rfl⟩ := ret_some e4
    refine ⟨true, rfl, ?_⟩
    refine ⟨C, fz3, ρ, s3, y', sto', ((F.step st1 l1).step st2 l2).step st3 l3, ed, fun w' fz4 H4 st4 l4 i4 => ?_⟩
    have B4 := B3.step st4 l4
    refine h2 C.sp fz4 H4 H sto' w w' y y' z _ B4 ((i2.early st1).stp (st3.trans st4) B2) (i4.early ((st1.trans st2).trans st3)) eg fun u fz5 H5 st5 l5 i5 => ?_
    exact k u fz5 H5 ((((st1.trans st2).trans st3).trans st4).trans st5) l5 (i5.early (((st1.trans st2).trans st3).trans st4))
  · cases i3
    cases e3
    exact ⟨false, rfl, k _ fz3 H3 ((st1.trans st2).trans st3) l3 (.bl _)⟩
  · cases e3
section
variable {X : Cx} {a b c : Expr} {ma mb mc : Mx} {pos : Pos}
theorem se_ltlt (ha : SE X a ma) (hb : SE X b mb) (hc : SE X c mc) (hm : lastMarks [.Lt, .Lt] [b, c] = false := by rfl) : SE X (.Compare a [.Lt, .Lt] [b, c] pos) (mChain gLt gLt ma mb mc) := PE.imp (pe_chain op_lt op_lt ha hb hc hm) fun _ _ _ h => rd_chain ok_lt ok_lt h
theorem se_lelt (ha : SE X a ma) (hb : SE X b mb) (hc : SE X c mc) (hm : lastMarks [.LtE, .Lt] [b, c] = false := by rfl) : SE X (.Compare a [.LtE, .Lt] [b, c] pos) (mChain gLe gLt ma mb mc) := PE.imp (pe_chain op_le op_lt ha hb hc hm) fun _ _ _ h => rd_chain ok_le ok_lt h
theorem se_lele (ha : SE X a ma) (hb : SE X b mb) (hc : SE X c mc) (hm : lastMarks [.LtE, .LtE] [b, c] = false := by rfl) : SE X (.Compare a [.LtE, .LtE] [b, c] pos) (mChain gLe gLe ma mb mc) := PE.imp (pe_chain op_le op_le ha hb hc hm) fun _ _ _ h => rd_chain ok_le ok_le h
theorem se_ltle (ha : SE X a ma) (hb : SE X b mb) (hc : SE X c mc) (hm : lastMarks [.Lt, .LtE] [b, c] = false := by rfl) : SE X (.Compare a [.Lt, .LtE] [b, c] pos) (mChain gLt gLe ma mb mc) := PE.imp (pe_chain op_lt op_le ha hb hc hm) fun _ _ _ h => rd_chain ok_lt ok_le h
theorem sb_ltlt (ha : SE X a ma) (hb : SE X b mb) (hc : SE X c mc) (hm : lastMarks [.Lt, .Lt] [b, c] = false := by rfl) : SB X (.Compare a [.Lt, .Lt] [b, c] pos) (bT (mChain gLt gLt ma mb mc)) := PT.imp (pt_chain op_lt op_lt ha hb hc hm) fun σ H Q h => rd_chain (Q := fun x H' => ∃ k, x = .bl k ∧ Q k H') ok_lt ok_lt (rd_bT h)
theorem sb_lelt (ha : SE X a ma) (hb : SE X b mb) (hc : SE X c mc) (hm : lastMarks [.LtE, .Lt] [b, c] = false := by rfl) : SB X (.Compare a [.LtE, .Lt] [b, c] pos) (bT (mChain gLe gLt ma mb mc)) := PT.imp (pt_chain op_le op_lt ha hb hc hm) fun σ H Q h => rd_chain (Q := fun x H' => ∃ k, x = .bl k ∧ Q k H') ok_le ok_lt (rd_bT h)
theorem sb_lele (ha : SE X a ma) (hb : SE X b mb) (hc : SE X c mc) (hm : lastMarks [.LtE, .LtE] [b, c] = false := by rfl) : SB X (.Compare a [.LtE, .LtE] [b, c] pos) (bT (mChain gLe gLe ma mb mc)) := PT.imp (pt_chain op_le op_le ha hb hc hm) fun σ H Q h => rd_chain (Q := fun x H' => ∃ k, x = .bl k ∧ Q k H') ok_le ok_le (rd_bT h)
theorem sb_ltle (ha : SE X a ma) (hb : SE X b mb) (hc : SE X c mc) (hm : lastMarks [.Lt, .LtE] [b, c] = false := by rfl) : SB X (.Compare a [.Lt, .LtE] [b, c] pos) (bT (mChain gLt gLe ma mb mc)) := PT.imp (pt_chain op_lt op_le ha hb hc hm) fun σ H Q h => rd_chain (Q := fun x H' => ∃ k, x = .bl k ∧ Q k H') ok_lt ok_le (rd_bT h)
end
end Dh

/-! Dh3: and, or, not, displays, items, slices, calls of built-ins -/
namespace Dh
open PySem PySem.Spec L2

/-! ### and, or, not -/
def mAnd (a b : Mx) : Mx := bnd a fun x => match x with
  | .d (.bool true) => b
  | .d (.bool false) => fun _ s => some (.d (.bool false), s)
  | _ => fun _ _ => none
def mOr (a b : Mx) : Mx := bnd a fun x => match x with
  | .d (.bool false) => b
  | .d (.bool true) => fun _ s => some (.d (.bool true), s)
  | _ => fun _ _ => none
def fNot : R → Option R
  | .d (.bool k) => some (.d (.bool (!k)))
  | _ => none
def tAnd2 (a b : Mt) : Mt := bnd a fun x => match x with
  | true => b
  | false => fun _ s => some (false, s)
def tOr2 (a b : Mt) : Mt := bnd a fun x => match x with
  | false => b
  | true => fun _ s => some (true, s)
def tNot2 (a : Mt) : Mt := bnd a fun x _ s => some (!x, s)
def mIf (c : Mt) (a b : Mx) : Mx := bnd c fun x => match x with
  | true => a
  | false => b
section
variable {X : Cx} {a b c : Expr} {rest : List Expr} {ma mb : Mx} {ta tb tc : Mt} {pos : Pos}
theorem rd_and {K : PySem.W.Frag} {σ : L2.St} {H : Hp} {Q : VK} (h : rdE K (mAnd ma mb) σ H Q) : tAndV (rdE K ma) (rdE K mb) σ H Q := by
  obtain ⟨C, fz, ρ, sto, z, sto', F, e, k⟩ := h
  obtain ⟨x, s1, ea, e1⟩ := bnd_some e
  clear e
  refine ⟨C, fz, ρ, sto, x, s1, F, ea, fun v fz1 H1 st1 l1 i1 => ?_⟩
  split at e1
  · cases i1
    refine ⟨true, rfl, ?_⟩
    rw [if_pos rfl]
    exact ⟨C, fz1, ρ, s1, z, sto', F.step st1 l1, e1, fun u fz2 H2 st2 l2 i2 => k u fz2 H2 (st1.trans st2) l2 (i2.early st1)⟩
  · cases i1
    cases e1
    refine ⟨false, rfl, ?_⟩
    rw [if_neg Bool.false_ne_true]
    exact k _ fz1 H1 st1 l1 (.bl _)
  · cases e1
theorem rd_or {K : PySem.W.Frag} {σ : L2.St} {H : Hp} {Q : VK} (h : rdE K (mOr ma mb) σ H Q) : tOrV (rdE K ma) (rdE K mb) σ H Q := by
  obtain ⟨C, fz, ρ, sto, z, sto', F, e, k⟩ := h
  obtain ⟨x, s1, ea, e1⟩ := bnd_some e
  clear e
  refine ⟨C, fz, ρ, sto, x, s1, F, ea, fun v fz1 H1 st1 l1 i1 => ?_⟩
  split at e1
  · cases i1
    refine ⟨false, rfl, ?_⟩
    rw [if_neg Bool.false_ne_true]
    exact ⟨C, fz1, ρ, s1, z, sto', F.step st1 l1, e1, fun u fz2 H2 st2 l2 i2 => k u fz2 H2 (st1.trans st2) l2 (i2.early st1)⟩
  · cases i1
    cases e1
    refine ⟨true, rfl, ?_⟩
    rw [if_pos rfl]
    exact k _ fz1 H1 st1 l1 (.bl _)
  · cases e1
theorem se_one {op : BoolOp} (ha : SE X a ma) : SE X (.BoolOp op [a] pos) ma := pe_one ha
theorem se_and (ha : SE X a ma) (hb : SE X (.BoolOp .And (b :: rest) pos) mb) : SE X (.BoolOp .And (a :: b :: rest) pos) (mAnd ma mb) := PE.imp (pe_and ha hb) fun _ _ _ h => rd_and h
theorem se_or (ha : SE X a ma) (hb : SE X (.BoolOp .Or (b :: rest) pos) mb) : SE X (.BoolOp .Or (a :: b :: rest) pos) (mOr ma mb) := PE.imp (pe_or ha hb) fun _ _ _ h => rd_or h
theorem rd_not {K : PySem.W.Frag} {σ : L2.St} {H : Hp} {Q : VK} (h : rdE K (m1 fNot ma) σ H Q) : tNotV (rdE K ma) σ H Q := by
  refine rd_one (r := fun x H Q => ∃ c, x = .bl c ∧ Q (.bl (!c)) H) ?_ h
  intro sp fz H H0 sto v x z Q B ix e k
  unfold fNot at e
  split at e
  · cases e
    cases ix
    exact ⟨_, rfl, k _ fz H .refl B.spl (.inl (.bl _))⟩
  · cases e
theorem se_not (ha : SE X a ma) : SE X (.UnaryOp .Not a pos) (m1 fNot ma) := PE.imp (pe_not ha) fun _ _ _ h => rd_not h
theorem rt_and {K : PySem.W.Frag} {σ : L2.St} {H : Hp} {Q : Bool → Hp → Prop} (h : rdT K (tAnd2 ta tb) σ H Q) : tAnd (rdT K ta) (rdT K tb) σ H Q := by
  obtain ⟨C, fz, ρ, sto, z, sto', F, e, k⟩ := h
  obtain ⟨x, s1, ea, e1⟩ := bnd_some e
  clear e
  refine ⟨C, fz, ρ, sto, x, s1, F, ea, fun fz1 H1 st1 l1 => ?_⟩
  cases x with
  | true =>
    rw [if_pos rfl]
    exact ⟨C, fz1, ρ, s1, z, sto', F.step st1 l1, e1, fun fz2 H2 st2 l2 => k fz2 H2 (st1.trans st2) l2⟩
  | false =>
    rw [if_neg Bool.false_ne_true]
    cases e1
    exact k fz1 H1 st1 l1
theorem rt_or {K : PySem.W.Frag} {σ : L2.St} {H : Hp} {Q : Bool → Hp → Prop} (h : rdT K (tOr2 ta tb) σ H Q) : tOr (rdT K ta) (rdT K tb) σ H Q := by
  obtain ⟨C, fz, ρ, sto, z, sto', F, e, k⟩ := h
  obtain ⟨x, s1, ea, e1⟩ := bnd_some e
  clear e
  refine ⟨C, fz, ρ, sto, x, s1, F, ea, fun fz1 H1 st1 l1 => ?_⟩
  cases x with
  | false =>
    rw [if_neg Bool.false_ne_true]
    exact ⟨C, fz1, ρ, s1, z, sto', F.step st1 l1, e1, fun fz2 H2 st2 l2 => k fz2 H2 (st1.trans st2) l2⟩
  | true =>
    rw [if_pos rfl]
    cases e1
    exact k fz1 H1 st1 l1
theorem rt_not {K : PySem.W.Frag} {σ : L2.St} {H : Hp} {Q : Bool → Hp → Prop} (h : rdT K (tNot2 ta) σ H Q) : tNot (rdT K ta) σ H Q := by
  obtain ⟨C, fz, ρ, sto, z, sto', F, e, k⟩ := h
  obtain ⟨x, s1, ea, e1⟩ := bnd_some e
  cases e1
  exact ⟨C, fz, ρ, sto, x, _, F, ea, fun fz1 H1 st1 l1 => k fz1 H1 st1 l1⟩
theorem sw_and1 (ha : SB X a ta) : SW X (.BoolOp .And [a] pos) ta := pw_and1 ha
theorem sw_or1 (ha : SB X a ta) : SW X (.BoolOp .Or [a] pos) ta := pw_or1 ha
theorem sw_and (ha : SB X a ta) (hb : SW X (.BoolOp .And (b :: rest) pos) tb) : SW X (.BoolOp .And (a :: b :: rest) pos) (tAnd2 ta tb) := PW.imp (pw_and ha hb) fun _ _ _ h => rt_and h
theorem sw_or (ha : SB X a ta) (hb : SW X (.BoolOp .Or (b :: rest) pos) tb) : SW X (.BoolOp .Or (a :: b :: rest) pos) (tOr2 ta tb) := PW.imp (pw_or ha hb) fun _ _ _ h => rt_or h
theorem sb_w {e : Expr} {t : Mt} (h : SW X e t) : SB X e t := PW.pt h
theorem sb_not (ha : SB X a ta) : SB X (.UnaryOp .Not a pos) (tNot2 ta) := PT.imp (pt_not ha) fun _ _ _ h => rt_not h
theorem rd_if {K : PySem.W.Frag} {σ : L2.St} {H : Hp} {Q : VK} (h : rdE K (mIf ta ma mb) σ H Q) : tIf (rdT K ta) (rdE K ma) (rdE K mb) σ H Q := by
  obtain ⟨C, fz, ρ, sto, z, sto', F, e, k⟩ := h
  obtain ⟨x, s1, ea, e1⟩ := bnd_some e
  clear e
  refine ⟨C, fz, ρ, sto, x, s1, F, ea, fun fz1 H1 st1 l1 => ?_⟩
  cases x with
  | true =>
    rw [if_pos rfl]
    exact ⟨C, fz1, ρ, s1, z, sto', F.step st1 l1, e1, fun u fz2 H2 st2 l2 i2 => k u fz2 H2 (st1.trans st2) l2 (i2.early st1)⟩
  | false =>
    rw [if_neg Bool.false_ne_true]
    exact ⟨C, fz1, ρ, s1, z, sto', F.step st1 l1, e1, fun u fz2 H2 st2 l2 i2 => k u fz2 H2 (st1.trans st2) l2 (i2.early st1)⟩
theorem se_if (hc : SB X c ta) (ha : SE X a ma) (hb : SE X b mb) : SE X (.IfExp c a b pos) (mIf ta ma mb) := PE.imp (pe_ifExp hc ha hb) fun _ _ _ h => rd_if h
end

/-! ### displays -/
/-- a datum to be kept (a list that was just made is frozen) -/
def toD : R → Option PyData
  | .d x => some x
  | .f xs => some (.list xs)
  | _ => none
def toDs : List R → Option (List PyData)
  | [] => some []
  | r :: rs => match toD r, toDs rs with
    | some x, some xs => some (x :: xs)
    | _, _ => none
section
variable {K : PySem.W.Frag} {sp : Option Addr} {fz fz1 : Fz} {H H1 : Hp} {sto : Sto}
/-- keeping one -/
theorem ImR.keep {v : V} {r : R} {x : PyData} (i : ImR K sp H fz1 H1 v r) (e : toD r = some x) (s : Stp sp fz H fz1 H1) (B : Bs sp fz1 H1 sto) :
    ∃ fz2 : Fz, Stp sp fz H fz2 H1 ∧ Bs sp fz2 H1 sto ∧ (∀ a, fz1 a → fz2 a) ∧ Im K fz2 H1 v x := by
  unfold toD at e
  split at e
  · cases e
    exact ⟨fz1, s, B, fun _ h => h, i⟩
  · cases e
    obtain ⟨a, vs, rfl, h1, h2, h3, h4, h5⟩ := i
    have s2 := s.freeze h5 h4 h1
    refine ⟨_, s2, ⟨B.spl, fun c ec q => ?_, fun b q z => ?_⟩, fun b q => .inl q, .lst (.inl ⟨h1, .inr rfl⟩) (h2.fzm fun b q => .inl q)⟩
    · rcases q with q | q
      · exact B.nsp c ec q
      · exact h4 (by subst q; exact ec.symm)
    · rcases q with q | q
      · exact B.trk b q z
      · subst q; rw [h1] at z; cases z
  · cases e
theorem ImRs.keep : ∀ {vs : List V} {rs : List R} {xs : List PyData} {fz1 : Fz}, ImRs K sp H fz1 H1 vs rs → toDs rs = some xs → Stp sp fz H fz1 H1 → Bs sp fz1 H1 sto →
    ∀ fzA : Fz, Stp sp fz H fzA H1 → Bs sp fzA H1 sto → (∀ a, fz1 a → fzA a) → ∃ fz2 : Fz, Stp sp fz H fz2 H1 ∧ Bs sp fz2 H1 sto ∧ (∀ a, fzA a → fz2 a) ∧ ImA K fz2 H1 vs xs
  | _, _, _, _, .nil, e, s, B, fzA, sA, BA, g => by
    cases e
    exact ⟨fzA, sA, BA, fun _ h => h, .nil⟩
  | _, _, _, fz1, .cons (a := v) (b := r) h t, e, s, B, fzA, sA, BA, g => by
    unfold toDs at e
    split at e
    · rename_i x xs e1 e2
      cases e
      -- the head, frozen beside what is frozen already
      have : ∃ fzB : Fz, Stp sp fz H fzB H1 ∧ Bs sp fzB H1 sto ∧ (∀ a, fzA a → fzB a) ∧ Im K fzB H1 v x := by
        unfold toD at e1
        split at e1
        · cases e1
          exact ⟨fzA, sA, BA, fun _ h => h, Im.fzm g h⟩
        · cases e1
          obtain ⟨a, vs, rfl, h1, h2, h3, h4, h5⟩ := h
          refine ⟨_, sA.freeze h5 h4 h1, ⟨BA.spl, fun c ec q => ?_, fun b q z => ?_⟩, fun b q => .inl q, .lst (.inl ⟨h1, .inr rfl⟩) (h2.fzm fun b q => .inl (g b q))⟩
          · rcases q with q | q
            · exact BA.nsp c ec q
            · exact h4 (by subst q; exact ec.symm)
          · rcases q with q | q
            · exact BA.trk b q z
            · subst q; rw [h1] at z; cases z
        · cases e1
      obtain ⟨fzB, sB, BB, gB, iB⟩ := this
      obtain ⟨fz2, s2, B2, g2, i2⟩ := ImRs.keep t e2 s B fzB sB BB fun a q => gB a (g a q)
      exact ⟨fz2, s2, B2, fun a q => g2 a (gB a q), .cons (iB.fzm g2) i2⟩
    · cases e
end
def fTup (rs : List R) : Option R := match toDs rs with
  | some xs => if xs.length ≤ sizeLine then some (.d (.tuple xs)) else none
  | none => none
def fLst (rs : List R) : Option R := match toDs rs with
  | some xs => if xs.length ≤ sizeLine then some (.f xs) else none
  | none => none
section
variable {X : Cx} {es : List Expr} {m : Ma} {pos : Pos}
theorem se_tup {x1} (h : SA X es m) : SE X (.Tuple es x1 pos) (mA fTup m) := PE.imp (pe_tup (x1 := x1) h) fun σ H Q q => by
  refine rd_args (r := fun xs H1 Q => xs.length ≤ sizeLine ∧ ∀ p, H1 p = none → Q (.ref p) (upd H1 p (.tup xs))) ?_ q
  intro sp fz fzS H H0 sto vs xs z Q s B i e k
  unfold fTup at e
  split at e
  · rename_i ds hd
    split at e
    · rename_i hz
      cases e
      obtain ⟨fz2, s2, B2, g2, a⟩ := ImRs.keep i hd s B fz s B fun _ h => h
      refine ⟨by rw [a.length]; exact hz, fun p hp => ?_⟩
      obtain ⟨s3, l3, i3⟩ := new_tup B2 a hp
      exact k _ fz2 _ (s2.trans s3) l3 i3
    · cases e
  · cases e
theorem se_lst (h : SA X es m) : SE X (.List es pos) (mA fLst m) := PE.imp (pe_lst h) fun σ H Q q => by
  refine rd_args (r := fun xs H1 Q => xs.length ≤ sizeLine ∧ ∀ p, H1 p = none → Q (.ref p) (upd H1 p (.lst xs))) ?_ q
  intro sp fz fzS H H0 sto vs xs z Q s B i e k
  unfold fLst at e
  split at e
  · rename_i ds hd
    split at e
    · rename_i hz
      cases e
      obtain ⟨fz2, s2, B2, g2, a⟩ := ImRs.keep i hd s B fz s B fun _ h => h
      refine ⟨by rw [a.length]; exact hz, fun p hp => ?_⟩
      obtain ⟨s3, l3, i3⟩ := new_lst B2 a hp
      exact k _ fz2 _ (s2.trans s3) l3 (i3.early s2)
    · cases e
  · cases e
end

/-! ### items and slices -/
def fIx (sto : Sto) : R → R → Option R
  | .s, .d (.int i) => (atI sto i).map fun j => .d (.int j)
  | x, .d (.int i) => match rdQ x with
    | some xs => (atI xs i).map .d
    | none => none
  | _, _ => none
/-- an item: of the spring, too -/
def mIx (a b : Mx) : Mx := bnd a fun x => bnd b fun y _ s => match fIx s x y with
  | some z => some (z, s)
  | none => none
theorem atI_some {α : Type} {xs : List α} {i : Int} {x : α} (h : atI xs i = some x) : ∃ j, ixN xs.length i = some j ∧ xs[j]? = some x := by
  unfold atI at h
  cases q : ixN xs.length i with
  | none => rw [q] at h; cases h
  | some j => rw [q] at h; exact ⟨j, rfl, h⟩
theorem atI_im {K : PySem.W.Frag} {fz : Fz} {H : Hp} {vs : List V} {xs : List PyData} {i : Int} {x : PyData} (a : ImA K fz H vs xs) (h : atI xs i = some x) : ∃ w, atI vs i = some w ∧ Im K fz H w x := by
  obtain ⟨j, h1, h2⟩ := atI_some h
  obtain ⟨w, h3, h4⟩ := a.at j x h2
  refine ⟨w, ?_, h4⟩
  unfold atI
  rw [a.length, h1]
  exact h3
theorem atI_map {i : Int} {sto : Sto} {j : Int} (h : atI sto i = some j) : atI (sto.map V.int) i = some (.int j) := by
  obtain ⟨k, h1, h2⟩ := atI_some h
  unfold atI
  rw [List.length_map, h1]
  show (sto.map V.int)[k]? = _
  rw [List.getElem?_map, h2]
  rfl
def rIxQ (K : PySem.W.Frag) : R2 := fun x y H Q => rIxL K x y H Q ∨ rIxT K x y H Q
section
variable {X : Cx} {a b : Expr} {ma mb : Mx} {pos : Pos}
theorem fIx_ok {K : PySem.W.Frag} {sp : Option Addr} {fz : Fz} {H H0 : Hp} {sto : Sto} {v w : V} {x y z : R} {Q : VK} (B : Bs sp fz H sto) (ix : ImR K sp H0 fz H v x) (iy : ImR K sp H0 fz H w y) (e : fIx sto x y = some z) (k : ∀ u, ImR K sp H fz H u z → Q u H) : rIxQ K v w H Q := by
  unfold fIx at e
  split at e
  · rename_i i
    cases iy
    cases q : atI sto i with
    | none => rw [q] at e; cases e
    | some j =>
      rw [q] at e; cases e
      obtain ⟨a, ea, rfl⟩ := (show IsS sp v from ix)
      exact .inl ⟨a, _, i, _, rfl, rfl, .inl (.inl (B.spl a ea)), atI_map q, k _ (.int j)⟩
  · rename_i i _
    cases iy
    split at e
    · rename_i xs hx
      cases q : atI xs i with
      | none => rw [q] at e; cases e
      | some d =>
        rw [q] at e; cases e
        obtain ⟨a, vs, rfl, h, im⟩ := ix.seq hx
        obtain ⟨u, hu, iu⟩ := atI_im im q
        rcases h with h | h
        · exact .inl ⟨a, vs, i, u, rfl, rfl, h, hu, k _ iu⟩
        · exact .inr ⟨a, vs, i, u, rfl, rfl, h, hu, k _ iu⟩
    · cases e
  · cases e
theorem se_ix (ha : SE X a ma) (hb : SE X b mb) (hs : PlainIx b := by exact fun _ _ => rfl) : SE X (.Subscript a b pos) (mIx ma mb) := PE.imp (pe_ix (ix_list.or ix_tup) ha hb hs) fun σ H Q h => by
  obtain ⟨C, fz, ρ, sto, z, sto', F, e, k⟩ := h
  obtain ⟨x, s1, ea, e1⟩ := bnd_some e
  obtain ⟨y, s2, eb, e2⟩ := bnd_some e1
  clear e e1
  split at e2
  · rename_i z' ez
    cases e2
    refine ⟨C, fz, ρ, sto, x, s1, F, ea, fun v fz1 H1 st1 l1 i1 => ?_⟩
    refine ⟨C, fz1, ρ, s1, y, sto', F.step st1 l1, eb, fun w fz2 H2 st2 l2 i2 => ?_⟩
    have B1 := F.bs.step st1 l1
    exact fIx_ok (B1.step st2 l2) (i1.stp st2 B1) (i2.early st1) ez fun u iu => k u fz2 H2 (st1.trans st2) l2 (iu.early (st1.trans st2))
  · cases e2
end
end Dh

/-! Dh4: statements -/
namespace Dh
open PySem PySem.Spec L2

inductive Out where
  | nx | bk | ct | rt (r : R)
abbrev Ms := Ev → Sto → Option (Out × Ev × Sto)

/-- through a statement: what is frozen, and all that is no list, stands -/
structure Sts (sp : Option Addr) (fz : Fz) (H : Hp) (fz' : Fz) (H' : Hp) : Prop where
  mono : ∀ a, fz a → fz' a
  kept : ∀ a o, H a = some o → some a ≠ sp → (fz a ∨ ∀ xs, o ≠ .lst xs) → H' a = some o
section
variable {K : PySem.W.Frag} {sp : Option Addr} {fz fz1 fz2 : Fz} {H H1 H2 : Hp} {sto : Sto}
theorem Sts.refl : Sts sp fz H fz H := ⟨fun _ h => h, fun _ _ h _ _ => h⟩
theorem Sts.trans (s : Sts sp fz H fz1 H1) (t : Sts sp fz1 H1 fz2 H2) : Sts sp fz H fz2 H2 :=
  ⟨fun a h => t.mono a (s.mono a h), fun a o h n c => t.kept a o (s.kept a o h n c) n (c.imp (s.mono a) id)⟩
theorem Stp.sts (s : Stp sp fz H fz1 H1) : Sts sp fz H fz1 H1 := ⟨s.mono, fun a o h n _ => s.ext a o h n⟩
theorem SqT.sts {a : Addr} {xs : List V} (s : Sts sp fz H fz1 H1) (B : Bs sp fz H sto) (h : SqT K H a xs) : SqT K H1 a xs := by
  rcases h with (h | ⟨o, h⟩) | h
  · exact .inl (.inl (s.kept _ _ h (ne_spring B.spl h) (.inr fun _ z => nomatch z)))
  · exact .inl (.inr ⟨o, s.kept _ _ h (B.spl.ne h (by intro z; cases z)) (.inr fun _ z => nomatch z)⟩)
  · exact .inr h
theorem FzL.sts {a : Addr} {xs : List V} (s : Sts sp fz H fz1 H1) (B : Bs sp fz H sto) (h : FzL K fz H a xs) : FzL K fz1 H1 a xs := by
  rcases h with ⟨h, f⟩ | ⟨o, h⟩ | h
  · exact .inl ⟨s.kept _ _ h (by intro e; exact B.nsp _ e.symm f) (.inl f), s.mono _ f⟩
  · exact .inr (.inl ⟨o, s.kept _ _ h (B.spl.ne h (by intro z; cases z)) (.inr fun _ z => nomatch z)⟩)
  · exact .inr (.inr h)
mutual
theorem Im.sts (s : Sts sp fz H fz1 H1) (B : Bs sp fz H sto) : ∀ {v : V} {d : PyData}, Im K fz H v d → Im K fz1 H1 v d
  | _, _, .non => .non
  | _, _, .bl b => .bl b
  | _, _, .int i => .int i
  | _, _, .str x => .str x
  | _, _, .lst h a => .lst (h.sts s B) (ImA.sts s B a)
  | _, _, .tup h a => .tup (SqT.sts s B h) (ImA.sts s B a)
  | _, _, .dct h f a b => .dct (s.kept _ _ h (by intro e; exact B.nsp _ e.symm f) (.inl f)) (s.mono _ f) (ImA.sts s B a) (ImA.sts s B b)
theorem ImA.sts (s : Sts sp fz H fz1 H1) (B : Bs sp fz H sto) : ∀ {v : List V} {d : List PyData}, ImA K fz H v d → ImA K fz1 H1 v d
  | _, _, .nil => .nil
  | _, _, .cons h t => .cons (Im.sts s B h) (ImA.sts s B t)
end
end

def Fin (K : PySem.W.Frag) (C : Cn) (D : Ends) (out : Out) (fz' : Fz) (σ' : L2.St) (H' : Hp) : Prop := match out with
  | .nx => D.nx σ' H'
  | .bk => D.bk σ' H'
  | .ct => D.ct σ' H'
  | .rt r => ∀ v, ImR K C.sp C.H0 fz' H' v r → D.rt v H'
def rdS (K : PySem.W.Frag) (m : Ms) : TS := fun D σ H => ∃ (C : Cn) (fz : Fz) (ρ : Ev) (sto : Sto) (out : Out) (ρ' : Ev) (sto' : Sto), Fm K C fz ρ sto σ H ∧ m ρ sto = some (out, ρ', sto') ∧
  ∀ fz' σ' H', Fm K C fz' ρ' sto' σ' H' → Sts C.sp fz H fz' H' → Fin K C D out fz' σ' H'
def SS (X : Cx) (st : Stmt) (m : Ms) : Prop := PS X st (rdS X.K m)
def SL (X : Cx) (st : List Stmt) (m : Ms) : Prop := PSs X st (rdS X.K m)

def mNil : Ms := fun ρ s => some (.nx, ρ, s)
def mSeq (a b : Ms) : Ms := fun ρ s => match a ρ s with
  | some (.nx, ρ1, s1) => b ρ1 s1
  | some r => some r
  | none => none
def mIfS (c : Mt) (a b : Ms) : Ms := fun ρ s => match c ρ s with
  | some (true, s1) => a ρ s1
  | some (false, s1) => b ρ s1
  | none => none
def mRet (a : Mx) : Ms := fun ρ s => match a ρ s with
  | some (.d x, s1) => some (.rt (.d x), ρ, s1)
  | some (.f xs, s1) => some (.rt (.f xs), ρ, s1)
  | _ => none
/-- return of a name -/
def mRetV (i : Nat) : Ms := fun ρ s => match ρ[i]? with
  | some (some (.d x)) => some (.rt (.d x), ρ, s)
  | some (some (.o xs)) => some (.rt (.f xs), ρ, s)
  | _ => none
def mNever : Ms := fun _ _ => none
def toCl : R → Option Cl
  | .d x => some (.d x)
  | .f xs => some (.o xs)
  | .s => some .s
  | .b _ => none
def mSet (i : Nat) (a : Mx) : Ms := fun ρ s => match a ρ s with
  | some (r, s1) => match toCl r with
    | some c => some (.nx, ρ.set i (some c), s1)
    | none => none
  | none => none

section
variable {K : PySem.W.Frag} {C : Cn} {fz fz1 : Fz} {ρ : Ev} {sto sto' : Sto} {σ : L2.St} {H H1 : Hp}
/-- what is owned was not there at the entry -/
theorem Fm.owned (F : Fm K C fz ρ sto σ H) {i : Nat} {xs : List PyData} (h : ρ[i]? = some (some (.o xs))) : ∃ a vs, σ[i]? = some (some (.ref a)) ∧ H a = some (.lst vs) ∧ ImA K fz H vs xs ∧ ¬ fz a ∧ some a ≠ C.sp ∧ C.H0 a = none := F.vars i _ h
/-- a slot gets a value -/
theorem Fm.put (F : Fm K C fz ρ sto σ H) (i : Nat) {v : V} {c : Cl} (hi : i < σ.length) (ok : CellOk K C fz H (σ.set i (some v)) i c)
    (ap : ∀ xs a, c = .o xs → v = .ref a → ∀ j ys, j ≠ i → ρ[j]? = some (some (.o ys)) → σ[j]? ≠ some (some (.ref a))) : Fm K C fz (ρ.set i (some c)) sto (σ.set i (some v)) H where
  len := by rw [List.length_set, List.length_set, F.len]
  st := F.st
  bs := F.bs
  vars := fun j c' h => by
    by_cases e : j = i
    · subst e
      rw [List.getElem?_set_self (by rw [F.len]; exact hi)] at h
      cases h
      exact ok
    · rw [List.getElem?_set_ne (Ne.symm e)] at h
      have q := F.vars j c' h
      have ge : (σ.set i (some v))[j]? = σ[j]? := List.getElem?_set_ne (Ne.symm e)
      cases c' with
      | d x => obtain ⟨u, e1, e2⟩ := q; exact ⟨u, ge.trans e1, e2⟩
      | o xs => obtain ⟨a, vs, e1, e2⟩ := q; exact ⟨a, vs, ge.trans e1, e2⟩
      | s => obtain ⟨a, ea, q⟩ := q; exact ⟨a, ea, ge.trans q⟩
  sep := fun j k xs ys a hjk h1 h2 h3 h4 => by
    by_cases e : j = i
    · subst e
      rw [List.getElem?_set_self (by rw [F.len]; exact hi)] at h1
      rw [List.getElem?_set_ne hjk] at h2 h4
      rw [List.getElem?_set_self hi] at h3
      cases h1; cases h3
      exact ap xs a rfl rfl k ys (Ne.symm hjk) h2 h4
    · by_cases e2 : k = i
      · subst e2
        rw [List.getElem?_set_self (by rw [F.len]; exact hi)] at h2
        rw [List.getElem?_set_ne (Ne.symm hjk)] at h1 h3
        rw [List.getElem?_set_self hi] at h4
        cases h2; cases h4
        exact ap ys a rfl rfl j xs hjk h1 h3
      · rw [List.getElem?_set_ne (Ne.symm e)] at h1 h3
        rw [List.getElem?_set_ne (Ne.symm e2)] at h2 h4
        exact F.sep j k xs ys a hjk h1 h2 h3 h4
/-- a slot gets what an expression gave (seen from a heap H0 where F stood) -/
theorem Fm.give (F : Fm K C fz ρ sto σ H) (s : Stp C.sp fz H fz1 H1) (l : SpL C.sp H1 sto') {v : V} {r : R} {c : Cl} (i : ImR K C.sp H fz1 H1 v r) (e : toCl r = some c) {n : Nat} (hn : n < σ.length) : Fm K C fz1 (ρ.set n (some c)) sto' (σ.set n (some v)) H1 := by
  have F1 := F.step s l
  refine F1.put n hn ?_ ?_
  · have g : (σ.set n (some v))[n]? = some (some v) := List.getElem?_set_self hn
    cases r with
    | d x => cases e; exact ⟨v, g, i⟩
    | f xs =>
      cases e
      obtain ⟨a, vs, rfl, h1, h2, h3, h4, h5⟩ := i
      exact ⟨a, vs, g, h1, h2, h3, h4, F.st.back h4 h5⟩
    | b xs => cases e
    | s => cases e; obtain ⟨a, ea, rfl⟩ := (show IsS C.sp v from i); exact ⟨a, ea, g⟩
  · intro xs a ec ev j ys hj h1 h2
    subst ec
    cases r with
    | d x => cases e
    | f zs =>
      cases e
      obtain ⟨b, vs, eb, h3, h4, h5, h6, h7⟩ := i
      rw [ev] at eb; cases eb
      obtain ⟨b, ws, q1, q2, _⟩ := F.owned h1
      rw [h2] at q1; cases q1
      rw [h7] at q2; cases q2
    | b zs => cases e
    | s => cases e
end

section
variable {X : Cx} {st : Stmt} {rest : List Stmt} {e : Expr} {me : Mx} {ma mb : Ms} {tc : Mt} {pos : Pos}
theorem sl_nil : SL X [] mNil := PSs.imp pss_nil fun D σ H h => by
  obtain ⟨C, fz, ρ, sto, out, ρ', sto', F, e, k⟩ := h
  cases e
  exact k fz σ H F .refl
theorem rs_seq {K : PySem.W.Frag} {D : Ends} {σ : L2.St} {H : Hp} (h : rdS K (mSeq ma mb) D σ H) : tSeq (rdS K ma) (rdS K mb) D σ H := by
  obtain ⟨C, fz, ρ, sto, out, ρ', sto', F, e, k⟩ := h
  unfold mSeq at e
  split at e
  · rename_i ρ1 s1 e1
    refine ⟨C, fz, ρ, sto, .nx, ρ1, s1, F, e1, fun fz1 σ1 H1 F1 q1 => ?_⟩
    exact ⟨C, fz1, ρ1, s1, out, ρ', sto', F1, e, fun fz2 σ2 H2 F2 q2 => k fz2 σ2 H2 F2 (q1.trans q2)⟩
  · rename_i r hr e1
    cases e
    refine ⟨C, fz, ρ, sto, out, ρ', sto', F, e1, fun fz1 σ1 H1 F1 q1 => ?_⟩
    have q := k fz1 σ1 H1 F1 q1
    cases out with
    | nx => exact absurd rfl (hr ρ' sto')
    | bk => exact q
    | ct => exact q
    | rt r => exact q
  · cases e
theorem sl_cons (h1 : SS X st ma) (h2 : SL X rest mb) : SL X (st :: rest) (mSeq ma mb) := PSs.imp (pss_cons h1 h2) fun _ _ _ h => rs_seq h
theorem sl_one (h1 : SS X st ma) : SL X [st] ma := pss_one h1
theorem ss_pass : SS X (.Pass pos) mNil := PS.imp ps_pass fun D σ H h => by
  obtain ⟨C, fz, ρ, sto, out, ρ', sto', F, e, k⟩ := h
  cases e
  exact k fz σ H F .refl
theorem ss_break : SS X (.Break pos) (fun ρ s => some (.bk, ρ, s)) := PS.imp ps_break fun D σ H h => by
  obtain ⟨C, fz, ρ, sto, out, ρ', sto', F, e, k⟩ := h
  cases e
  exact k fz σ H F .refl
theorem ss_continue : SS X (.Continue pos) (fun ρ s => some (.ct, ρ, s)) := PS.imp ps_continue fun D σ H h => by
  obtain ⟨C, fz, ρ, sto, out, ρ', sto', F, e, k⟩ := h
  cases e
  exact k fz σ H F .refl
theorem ss_never : SS X st mNever := PS.imp ps_never fun D σ H h => by
  obtain ⟨C, fz, ρ, sto, out, ρ', sto', F, e, k⟩ := h
  cases e
theorem ss_if {c : Expr} {a b : List Stmt} (hc : SB X c tc) (ha : SL X a ma) (hb : SL X b mb) : SS X (.If c a b pos) (mIfS tc ma mb) := PS.imp (ps_if hc ha hb) fun D σ H h => by
  obtain ⟨C, fz, ρ, sto, out, ρ', sto', F, e, k⟩ := h
  unfold mIfS at e
  split at e
  · rename_i s1 e1
    refine ⟨C, fz, ρ, sto, true, s1, F, e1, fun fz1 H1 st1 l1 => ?_⟩
    refine iteT ?_
    exact ⟨C, fz1, ρ, s1, out, ρ', sto', F.step st1 l1, e, fun fz2 σ2 H2 F2 q2 => k fz2 σ2 H2 F2 (st1.sts.trans q2)⟩
  · rename_i s1 e1
    refine ⟨C, fz, ρ, sto, false, s1, F, e1, fun fz1 H1 st1 l1 => ?_⟩
    refine iteF ?_
    exact ⟨C, fz1, ρ, s1, out, ρ', sto', F.step st1 l1, e, fun fz2 σ2 H2 F2 q2 => k fz2 σ2 H2 F2 (st1.sts.trans q2)⟩
  · cases e
theorem ss_ret (he : SE X e me) : SS X (.Return (some e) pos) (mRet me) := PS.imp (ps_ret he) fun D σ H h => by
  obtain ⟨C, fz, ρ, sto, out, ρ', sto', F, e, k⟩ := h
  unfold mRet at e
  split at e
  · rename_i x s1 e1
    cases e
    exact ⟨C, fz, ρ, sto, _, _, F, e1, fun v fz1 H1 st1 l1 i1 => k fz1 σ H1 (F.step st1 l1) st1.sts v (i1.early F.st)⟩
  · rename_i x s1 e1
    cases e
    exact ⟨C, fz, ρ, sto, _, _, F, e1, fun v fz1 H1 st1 l1 i1 => k fz1 σ H1 (F.step st1 l1) st1.sts v (i1.early F.st)⟩
  · cases e
theorem ss_retN : SS X (.Return none pos) (fun ρ s => some (.rt (.d .none), ρ, s)) := PS.imp ps_retN fun D σ H h => by
  obtain ⟨C, fz, ρ, sto, out, ρ', sto', F, e, k⟩ := h
  cases e
  exact k fz σ H F .refl _ .non
theorem ss_retV {i : Nat} {x : Str} {p : Pos} (hN : X.N[i]? = some x := by rfl) (hv : Vis X.env.scope x := by first | exact Or.inl rfl | exact Or.inr (Or.inl rfl) | exact Or.inr (Or.inr rfl)) (hd : (x == ("__debug__" : Str)) = false := by decide)
    (hcd : (x == ("__classdict__" : Str)) = false := by decide) : SS X (.Return (some (.Name x p)) pos) (mRetV i) := PS.imp (ps_ret (pe_var hN hv hd hcd)) fun D σ H h => by
  obtain ⟨C, fz, ρ, sto, out, ρ', sto', F, e, k⟩ := h
  unfold mRetV at e
  split at e
  · rename_i x h1
    cases e
    obtain ⟨v, e1, e2⟩ := F.vars _ _ h1
    exact ⟨v, e1, k fz σ H F .refl v e2⟩
  · rename_i xs h1
    cases e
    obtain ⟨a, vs, e1, h2, h3, h4, h5, h6⟩ := F.owned h1
    exact ⟨_, e1, k fz σ H F .refl _ ⟨a, vs, rfl, h2, h3, h4, h5, h6⟩⟩
  · cases e
theorem PS.impI {X : Cx} {e : Stmt} {t t' : TS} (h : PS X e t) (q : ∀ D σ H, σ.length = X.N.length → t' D σ H → t D σ H) : PS X e t' := ⟨fun pins s σ H D I w => h.run pins s σ H D I (q _ _ _ I.len w)⟩
theorem rs_set {K : PySem.W.Frag} {i : Nat} {D : Ends} {σ : L2.St} {H : Hp} (hs : i < σ.length) (h : rdS K (mSet i me) D σ H) : tAsg (rdE K me) (gName i) D σ H := by
  obtain ⟨C, fz, ρ, sto, out, ρ', sto', F, e, k⟩ := h
  unfold mSet at e
  split at e
  · rename_i r s1 e1
    split at e
    · rename_i c ec
      cases e
      exact ⟨C, fz, ρ, sto, r, _, F, e1, fun v fz1 H1 st1 l1 i1 => k fz1 _ H1 (F.give st1 l1 i1 ec hs) st1.sts⟩
    · cases e
  · cases e
theorem lt_of_slot {i : Nat} {N : List Str} {x : Str} {σ : L2.St} (hi : N[i]? = some x) (hl : σ.length = N.length) : i < σ.length := by
  rw [hl]; exact (List.getElem?_eq_some_iff.mp hi).1
theorem ss_set {i : Nat} {x : Str} {p : Pos} (hN : X.N.Nodup) (hi : X.N[i]? = some x) (hx : Loc X.env.scope x) (he : SE X e me)
    (hs : swapsWith e (some (.Name x p)) pos.line X.env = pure false := by rfl) (hw : swappedStores [.Name x p] e X.env = pure none := by rfl)
    (hf : X.fn x = true ∨ X.env.scope.names.lookup x = some .local := by first | exact .inl rfl | exact .inr rfl) : SS X (.Assign [.Name x p] e pos) (mSet i me) :=
  PS.impI (ps_asg he (pg_name hN hi hx hf) hs hw) fun D σ H hl h => rs_set (lt_of_slot hi hl) h

/-! ### own lists are frozen ahead of a statement -/
def frz1 (ρ : Ev) (i : Nat) : Ev := match ρ[i]? with
  | some (some (.o xs)) => ρ.set i (some (.d (.list xs)))
  | _ => ρ
def frzs (ρ : Ev) : List Nat → Ev
  | [] => ρ
  | i :: r => frzs (frz1 ρ i) r
def mFrz (is : List Nat) (m : Ms) : Ms := fun ρ s => m (frzs ρ is) s
theorem Fm.frz1 {K : PySem.W.Frag} {C : Cn} {fz : Fz} {ρ : Ev} {sto : Sto} {σ : L2.St} {H : Hp} (F : Fm K C fz ρ sto σ H) (i : Nat) : ∃ fz2, Fm K C fz2 (Dh.frz1 ρ i) sto σ H ∧ Sts C.sp fz H fz2 H := by
  unfold Dh.frz1
  split
  · rename_i xs hx
    obtain ⟨a, vs, e1, h2, h3, h4, h5, h6⟩ := F.owned hx
    have hi : i < σ.length := (List.getElem?_eq_some_iff.mp e1).1
    refine ⟨fun b => fz b ∨ b = a, ⟨by rw [List.length_set, F.len], F.st.freeze h6 h5 h2, ⟨F.bs.spl, fun c ec q => ?_, fun b q z => ?_⟩, fun j c h => ?_, fun j k xs ys b hjk q1 q2 => ?_⟩, ⟨fun b q => .inl q, fun _ _ h _ _ => h⟩⟩
    · rcases q with q | q
      · exact F.bs.nsp c ec q
      · exact h5 (by subst q; exact ec.symm)
    · rcases q with q | q
      · exact F.bs.trk b q z
      · subst q; rw [h2] at z; cases z
    · by_cases ej : j = i
      · subst ej
        rw [List.getElem?_set_self (by rw [F.len]; exact hi)] at h
        cases h
        exact ⟨_, e1, .lst (.inl ⟨h2, .inr rfl⟩) (h3.fzm fun b q => .inl q)⟩
      · rw [List.getElem?_set_ne (Ne.symm ej)] at h
        have q := F.vars j c h
        cases c with
        | d x => obtain ⟨u, e1, e2⟩ := q; exact ⟨u, e1, e2.fzm fun b q => .inl q⟩
        | o ys =>
          obtain ⟨b, ws, g1, g2, g3, g4, g5, g6⟩ := q
          refine ⟨b, ws, g1, g2, g3.fzm fun b q => .inl q, fun z => ?_, g5, g6⟩
          rcases z with z | z
          · exact g4 z
          · subst z; exact F.sep j i ys xs _ ej h hx g1 e1
        | s => exact q
    · have ej : j ≠ i := fun z => by
        subst z
        rw [List.getElem?_set_self (by rw [F.len]; exact hi)] at q1
        cases q1
      have ek : k ≠ i := fun z => by
        subst z
        rw [List.getElem?_set_self (by rw [F.len]; exact hi)] at q2
        cases q2
      rw [List.getElem?_set_ne (Ne.symm ej)] at q1
      rw [List.getElem?_set_ne (Ne.symm ek)] at q2
      exact F.sep j k xs ys b hjk q1 q2
  · exact ⟨fz, F, .refl⟩
theorem Fm.frzs {K : PySem.W.Frag} {C : Cn} {sto : Sto} {σ : L2.St} {H : Hp} : ∀ (is : List Nat) {fz : Fz} {ρ : Ev}, Fm K C fz ρ sto σ H → ∃ fz2, Fm K C fz2 (Dh.frzs ρ is) sto σ H ∧ Sts C.sp fz H fz2 H
  | [], fz, ρ, F => ⟨fz, F, .refl⟩
  | i :: r, fz, ρ, F => by
    obtain ⟨fz1, F1, s1⟩ := F.frz1 i
    obtain ⟨fz2, F2, s2⟩ := Fm.frzs r F1
    exact ⟨fz2, F2, s1.trans s2⟩
theorem ss_frz (is : List Nat) (h : SS X st ma) : SS X st (mFrz is ma) := PS.imp h fun D σ H h => by
  obtain ⟨C, fz, ρ, sto, out, ρ', sto', F, e, k⟩ := h
  obtain ⟨fz2, F2, s2⟩ := F.frzs is
  exact ⟨C, fz2, _, sto, out, ρ', sto', F2, e, fun fz3 σ3 H3 F3 s3 => k fz3 σ3 H3 F3 (s2.trans s3)⟩
end
end Dh

/-! Dh5: stores into lists, targets, loops, comprehensions -/
namespace Dh
open PySem PySem.Spec L2

section
variable {K : PySem.W.Frag} {C : Cn} {fz fz1 : Fz} {ρ : Ev} {sto sto' : Sto} {σ : L2.St} {H H1 : Hp}
/-- an own list is written -/
theorem Fm.write (F : Fm K C fz ρ sto σ H) {i : Nat} {xs ys : List PyData} {a : Addr} {ws : List V} (h : ρ[i]? = some (some (.o xs))) (ha : σ[i]? = some (some (.ref a))) (im : ImA K fz H ws ys) :
    Fm K C fz (ρ.set i (some (.o ys))) sto σ (upd H a (.lst ws)) ∧ Sts C.sp fz H fz (upd H a (.lst ws)) := by
  obtain ⟨b, vs, e1, h2, h3, h4, h5, h6⟩ := F.owned h
  rw [ha] at e1; cases e1
  have hi : i < ρ.length := (List.getElem?_eq_some_iff.mp h).1
  have S : Sts C.sp fz H fz (upd H a (.lst ws)) := ⟨fun _ q => q, fun b o q n c => by
    have : b ≠ a := fun z => by
      subst z
      rcases c with c | c
      · exact h4 c
      · rw [h2] at q; cases q; exact c _ rfl
    rw [upd_ne this]; exact q⟩
  refine ⟨⟨by rw [List.length_set, F.len], ⟨F.st.mono, fun b o q n => ?_, F.st.new, fun t b q z => ?_⟩, ⟨?_, F.bs.nsp, fun b q z => ?_⟩, fun j c q => ?_, fun j k us zs b hjk q1 q2 => ?_⟩, S⟩
  · have : b ≠ a := fun z => by subst z; rw [h6] at q; cases q
    rw [upd_ne this]; exact F.st.ext b o q n
  · by_cases e : b = a
    · subst e; rw [upd_same] at z; cases z
    · rw [upd_ne e] at z; exact F.st.trk t b q z
  · exact F.bs.spl.upd h5
  · by_cases e : b = a
    · subst e; rw [upd_same] at z; cases z
    · rw [upd_ne e] at z; exact F.bs.trk b q z
  · by_cases ej : j = i
    · subst ej
      rw [List.getElem?_set_self hi] at q
      cases q
      exact ⟨a, ws, ha, upd_same, im.sts S F.bs, h4, h5, h6⟩
    · rw [List.getElem?_set_ne (Ne.symm ej)] at q
      have g := F.vars j c q
      cases c with
      | d x => obtain ⟨u, g1, g2⟩ := g; exact ⟨u, g1, g2.sts S F.bs⟩
      | o us =>
        obtain ⟨b, ts, g1, g2, g3, g4, g5, g6⟩ := g
        have : b ≠ a := fun z => by subst z; exact F.sep j i us xs _ ej q h g1 ha
        exact ⟨b, ts, g1, by rw [upd_ne this]; exact g2, g3.sts S F.bs, g4, g5, g6⟩
      | s => exact g
  · by_cases ej : j = i
    · subst ej
      rw [List.getElem?_set_ne hjk] at q2
      exact F.sep j k xs zs b hjk h q2
    · rw [List.getElem?_set_ne (Ne.symm ej)] at q1
      by_cases ek : k = i
      · subst ek
        exact F.sep j k us xs b hjk q1 h
      · rw [List.getElem?_set_ne (Ne.symm ek)] at q2
        exact F.sep j k us zs b hjk q1 q2
/-- the spring is written -/
theorem Fm.spring (F : Fm K C fz ρ sto σ H) (sto' : Sto) {p : Addr} (hp : C.sp = some p) : Fm K C fz ρ sto' σ (upd H p (.lst (sto'.map V.int))) ∧ Sts C.sp fz H fz (upd H p (.lst (sto'.map V.int))) := by
  have ne : ∀ b, some b ≠ C.sp → b ≠ p := fun b n e => n (by rw [e, hp])
  have S : Sts C.sp fz H fz (upd H p (.lst (sto'.map V.int))) := ⟨fun _ q => q, fun b o q n _ => by rw [upd_ne (ne b n)]; exact q⟩
  refine ⟨⟨F.len, ⟨F.st.mono, fun b o q n => by rw [upd_ne (ne b n)]; exact F.st.ext b o q n, F.st.new, fun t b q z => ?_⟩, ⟨fun b eb => ?_, F.bs.nsp, fun b q z => ?_⟩, fun j c q => ?_, F.sep⟩, S⟩
  · by_cases e : b = p
    · subst e; rw [upd_same] at z; cases z
    · rw [upd_ne e] at z; exact F.st.trk t b q z
  · rw [hp] at eb; cases eb; exact upd_same
  · by_cases e : b = p
    · subst e; rw [upd_same] at z; cases z
    · rw [upd_ne e] at z; exact F.bs.trk b q z
  · have g := F.vars j c q
    cases c with
    | d x => obtain ⟨u, g1, g2⟩ := g; exact ⟨u, g1, g2.sts S F.bs⟩
    | o us =>
      obtain ⟨b, ts, g1, g2, g3, g4, g5, g6⟩ := g
      exact ⟨b, ts, g1, by rw [upd_ne (ne b g5)]; exact g2, g3.sts S F.bs, g4, g5, g6⟩
    | s => exact g
/-- what was given is kept: the frame, with more frozen -/
theorem Fm.keep (F : Fm K C fz ρ sto σ H) (s : Stp C.sp fz H fz1 H1) (l : SpL C.sp H1 sto') {v : V} {r : R} {x : PyData} (i : ImR K C.sp H fz1 H1 v r) (e : toD r = some x) : ∃ fz2, Fm K C fz2 ρ sto' σ H1 ∧ Stp C.sp fz H fz2 H1 ∧ Im K fz2 H1 v x := by
  obtain ⟨fz2, s2, B2, g, im⟩ := i.keep e s (F.bs.step s l)
  exact ⟨fz2, F.step s2 l, s2, im⟩
end

/-! ### x.append(e) -/
def mApp (i : Nat) (a : Mx) : Ms := fun ρ s => match a ρ s with
  | some (r, s1) => match toD r, ρ[i]? with
    | some x, some (some (.o xs)) => if xs.length < sizeLine then some (.nx, ρ.set i (some (.o (xs ++ [x]))), s1) else none
    | _, _ => none
  | none => none
def mPut (i : Nat) (ix a : Mx) : Ms := fun ρ s => match a ρ s with
  | some (r, s1) => match ix ρ s1 with
    | some (.d (.int k), s2) => match ρ[i]? with
      | some (some (.o xs)) => match toD r, ixN xs.length k with
        | some x, some j => some (.nx, ρ.set i (some (.o (xs.set j x))), s2)
        | _, _ => none
      | some (some .s) => match r, ixN s2.length k with
        | .d (.int v), some j => some (.nx, ρ, s2.set j v)
        | _, _ => none
      | _ => none
    | _ => none
  | none => none
section
variable {X : Cx} {st : Stmt} {rest : List Stmt} {e : Expr} {me mi : Mx} {ma mb : Ms} {tc : Mt} {pos : Pos}
theorem ss_append {i : Nat} {x : Str} {p apos cpos : Pos} (he : SE X e me) (hN : X.N[i]? = some x := by rfl) (hv : Vis X.env.scope x := by first | exact Or.inl rfl | exact Or.inr (Or.inl rfl) | exact Or.inr (Or.inr rfl))
    (hse : starEach [e] X.env = (false, eval e X.env) :: starEach [] X.env := by rfl)
    (hfew : ((backTo cpos (starEach [e] X.env)).all (fun x => !x.1) && (backToKw cpos (keywordEach [] X.env)).all (fun x => x.1.isSome)
      && decide (([e] : List Expr).length + ([] : List Keyword).length + (if ([] : List Keyword).isEmpty then 0 else 1) < 30)) = true := by rfl)
    (hline : (apos.endLine == cpos.line) = true := by rfl)
    (hd : (x == ("__debug__" : Str)) = false := by decide) (hcd : (x == ("__classdict__" : Str)) = false := by decide) (hbase : attributeBase (.Name x p) "append" X.env (eval (.Name x p) X.env) = eval (.Name x p) X.env := by rfl)
    (hs : swapsWith (.Call (.Attribute (.Name x p) "append" apos) [e] [] cpos) none pos.line X.env = pure false := by rfl) : SS X (.Expr (.Call (.Attribute (.Name x p) "append" apos) [e] [] cpos) pos) (mApp i me) :=
  PS.imp (ps_expr (pe_bm PySem.F.plainAttrs_list PySem.F.slot_list_append PySem.F.type_list_append mt_append (pe_var hN hv hd hcd) (pa_cons he pa_nil hse) hbase hfew hline hse) hs) fun D σ H h => by
  obtain ⟨C, fz, ρ, sto, out, ρ', sto', F, e, k⟩ := h
  unfold mApp at e
  split at e
  · rename_i r s1 e1
    split at e
    · rename_i x xs er ex
      split at e
      · rename_i hz
        cases e
        obtain ⟨a, vs, ha, h2, h3, h4, h5, h6⟩ := F.owned ex
        refine ⟨_, ha, .inl ⟨rfl, vs, .inl (.inl h2)⟩, C, fz, ρ, sto, r, _, F, e1, fun v fz1 H1 st1 l1 i1 => ?_⟩
        obtain ⟨fz2, F2, st2, im⟩ := F.keep st1 l1 i1 er
        obtain ⟨a', vs', ha', q2, q3, q4, q5, q6⟩ := F2.owned ex
        rw [ha] at ha'; cases ha'
        refine ⟨a, vs', v, rfl, rfl, q2, by rw [q3.length]; exact hz, ?_⟩
        obtain ⟨F3, S3⟩ := F2.write (ys := xs ++ [x]) ex ha (q3.append (.cons im .nil))
        exact k fz2 σ _ F3 (st2.sts.trans S3)
      · cases e
    · cases e
  · cases e
/-- x[i] = e; hg is pg_sub (pv i) hix set_list -/
theorem ss_put {i : Nat} {tg : Expr} (he : SE X e me) (hg : PG X tg (gSub (tVar i) (rdE X.K mi) rSetL))
    (hs : swapsWithSole [tg] e pos.line X.env = pure false := by rfl) (hw : swappedStores [tg] e X.env = pure none := by rfl) (h1 : (assignEach [tg] X.env).map (·.2) = [assign tg X.env] := by rfl) : SS X (.Assign [tg] e pos) (mPut i mi me) :=
  PS.imp (ps_asg he hg hs hw h1) fun D σ H h => by
  obtain ⟨C, fz, ρ, sto, out, ρ', sto', F, e, k⟩ := h
  unfold mPut at e
  split at e
  · rename_i r s1 e1
    split at e
    · rename_i kk s2 e2
      refine ⟨C, fz, ρ, sto, r, s1, F, e1, fun v fz1 H1 st1 l1 i1 => ?_⟩
      have F1 := F.step st1 l1
      split at e
      · rename_i xs ex
        split at e
        · rename_i x j er ej
          cases e
          obtain ⟨a, vs, ha, h2, h3, h4, h5, h6⟩ := F.owned ex
          refine ⟨_, ha, C, fz1, ρ, s1, _, _, F1, e2, fun w fz2 H2 st2 l2 i2 => ?_⟩
          cases i2
          obtain ⟨fz3, F3, st3, im⟩ := F.keep (st1.trans st2) l2 (i1.stp st2 F1.bs) er
          obtain ⟨a', vs', ha', q2, q3, q4, q5, q6⟩ := F3.owned ex
          rw [ha] at ha'; cases ha'
          refine ⟨a, vs', kk, j, rfl, rfl, q2, by rw [q3.length]; exact ej, ?_⟩
          obtain ⟨F4, S4⟩ := F3.write (ys := xs.set j x) ex ha (q3.set j im)
          exact k fz3 σ _ F4 (st3.sts.trans S4)
        · cases e
      · rename_i ex
        split at e
        · rename_i v' j ej
          cases e
          obtain ⟨p, hp, hs⟩ := F.vars _ _ ex
          refine ⟨_, hs, C, fz1, ρ, s1, _, _, F1, e2, fun w fz2 H2 st2 l2 i2 => ?_⟩
          cases i2
          cases i1
          refine ⟨p, _, kk, j, rfl, rfl, l2 p hp, by rw [List.length_map]; exact ej, ?_⟩
          obtain ⟨F4, S4⟩ := (F1.step st2 l2).spring (s2.set j v') hp
          rw [← List.map_set]
          exact k fz2 σ _ F4 ((st1.trans st2).sts.trans S4)
        · cases e
      · cases e
    · cases e
  · cases e
end

/-! ### targets -/
abbrev Gx := PyData → Ev → Option Ev
def rdG (K : PySem.W.Frag) (is : List Nat) (g : Gx) : TG := fun v σ H Q => ∃ (C : Cn) (fz : Fz) (ρ : Ev) (sto : Sto) (x : PyData) (ρ' : Ev), Fm K C fz ρ sto σ H ∧ Im K fz H v x ∧ g x ρ = some ρ' ∧
  ∀ σ', σ'.length = σ.length → (∀ i, i ∉ is → σ'[i]? = σ[i]?) → Fm K C fz ρ' sto σ' H → Q σ' H
theorem PG.impI {X : Cx} {e : Expr} {t t' : TG} (h : PG X e t) (q : ∀ v σ H Q, σ.length = X.N.length → t' v σ H Q → t v σ H Q) : PG X e t' := ⟨fun pins s σ H v u Q I r w => h.run pins s σ H v u Q I r (q _ _ _ _ I.len w)⟩
theorem PGs.impI {X : Cx} {e : List Expr} {t t' : TGs} (h : PGs X e t) (q : ∀ v σ H Q, σ.length = X.N.length → t' v σ H Q → t v σ H Q) : PGs X e t' := ⟨fun pins s σ H v u Q I r w => h.run pins s σ H v u Q I r (q _ _ _ _ I.len w)⟩
def SG (X : Cx) (tg : Expr) (is : List Nat) (g : Gx) : Prop := PG X tg (rdG X.K is g)
abbrev Gxs := List PyData → Ev → Option Ev
def rdGs (K : PySem.W.Frag) (is : List Nat) (g : Gxs) : TGs := fun vs σ H Q => ∃ (C : Cn) (fz : Fz) (ρ : Ev) (sto : Sto) (xs : List PyData) (ρ' : Ev), Fm K C fz ρ sto σ H ∧ ImA K fz H vs xs ∧ g xs ρ = some ρ' ∧
  ∀ σ', σ'.length = σ.length → (∀ i, i ∉ is → σ'[i]? = σ[i]?) → Fm K C fz ρ' sto σ' H → Q σ' H
def SGs (X : Cx) (tg : List Expr) (is : List Nat) (g : Gxs) : Prop := PGs X tg (rdGs X.K is g)
def gN (i : Nat) : Gx := fun x ρ => some (ρ.set i (some (.d x)))
def gT (n : Nat) (g : Gxs) : Gx := fun x ρ => match x with
  | .tuple xs => if xs.length = n then g xs ρ else none
  | _ => none
def gsNil : Gxs := fun xs ρ => match xs with | [] => some ρ | _ => none
def gsCons (g : Gx) (r : Gxs) : Gxs := fun xs ρ => match xs with
  | x :: ys => match g x ρ with | some ρ1 => r ys ρ1 | none => none
  | [] => none
theorem Fm.name {K : PySem.W.Frag} {C : Cn} {fz : Fz} {ρ : Ev} {sto : Sto} {σ : L2.St} {H : Hp} (F : Fm K C fz ρ sto σ H) {v : V} {x : PyData} (im : Im K fz H v x) {i : Nat} (hi : i < σ.length) : Fm K C fz (ρ.set i (some (.d x))) sto (σ.set i (some v)) H :=
  F.put i hi ⟨v, List.getElem?_set_self hi, im⟩ fun xs a e => nomatch e
section
variable {X : Cx} {tg : Expr} {tgs : List Expr} {is js : List Nat} {g : Gx} {gs : Gxs} {pos : Pos}
theorem sg_name {i : Nat} {x : Str} (hN : X.N.Nodup) (hi : X.N[i]? = some x := by rfl) (hx : Loc X.env.scope x := by first | exact Or.inl rfl | exact Or.inr rfl)
    (hf : X.fn x = true ∨ X.env.scope.names.lookup x = some .local := by first | exact .inl rfl | exact .inr rfl) : SG X (.Name x pos) [i] (gN i) := PG.impI (pg_name hN hi hx hf) fun v σ H Q hl h => by
  obtain ⟨C, fz, ρ, sto, x, ρ', F, im, e, k⟩ := h
  cases e
  exact k _ (by rw [List.length_set]) (fun j hj => List.getElem?_set_ne fun z => hj (by rw [z]; exact List.mem_singleton.mpr rfl)) (F.name im (lt_of_slot hi hl))
theorem sgs_nil : SGs X [] [] gsNil := PGs.impI pgs_nil fun v σ H Q hl h => by
  obtain ⟨C, fz, ρ, sto, x, ρ', F, im, e, k⟩ := h
  cases im with
  | nil => cases e; exact ⟨rfl, k σ rfl (fun _ _ => rfl) F⟩
  | cons _ _ => cases e
theorem sgs_cons (h1 : SG X tg is g) (h2 : SGs X tgs js gs) (hs : (assignEach (tg :: tgs) X.env).map (·.2) = assign tg X.env :: (assignEach tgs X.env).map (·.2) := by rfl) : SGs X (tg :: tgs) (is ++ js) (gsCons g gs) := PGs.impI (pgs_cons h1 h2 hs) fun v σ H Q hl h => by
  obtain ⟨C, fz, ρ, sto, x, ρ', F, im, e, k⟩ := h
  cases im with
  | nil => cases e
  | cons a b =>
    unfold gsCons at e
    simp only at e
    split at e
    · rename_i ρ1 e1
      refine ⟨_, _, rfl, C, fz, ρ, sto, _, ρ1, F, a, e1, fun σ1 l1 o1 F1 => ?_⟩
      refine ⟨C, fz, ρ1, sto, _, ρ', F1, b, e, fun σ2 l2 o2 F2 => ?_⟩
      refine k σ2 (l2.trans l1) (fun i hi => ?_) F2
      rw [List.mem_append, not_or] at hi
      exact (o2 i hi.2).trans (o1 i hi.1)
    · cases e
theorem sg_tup {n k : Nat} (hc : X.calm = true) (h : SGs X tgs is gs) (hn : (assignEach tgs X.env).length = n := by rfl) (hst : (assignEach tgs X.env).findIdx? (·.1) = none := by rfl) : SG X (.Tuple tgs k pos) is (gT n gs) := PG.impI (pg_tup hc h hn hst) fun v σ H Q hl h => by
  obtain ⟨C, fz, ρ, sto, x, ρ', F, im, e, k⟩ := h
  unfold gT at e
  split at e
  · rename_i xs
    split at e
    · rename_i hz
      cases im with
      | tup hs ha => exact ⟨_, _, rfl, hs, by rw [ha.length]; exact hz, C, fz, ρ, sto, xs, ρ', F, ha, e, k⟩
    · cases e
  · cases e
/-- target = value -/
def mAsg (g : Gx) (a : Mx) : Ms := fun ρ s => match a ρ s with
  | some (r, s1) => match toD r with
    | some x => match g x ρ with
      | some ρ1 => some (.nx, ρ1, s1)
      | none => none
    | none => none
  | none => none
theorem ss_asg {e : Expr} {me : Mx} (he : SE X e me) (hg : SG X tg is g) (hs : swapsWithSole [tg] e pos.line X.env = pure false := by rfl) (hw : swappedStores [tg] e X.env = pure none := by rfl) (h1 : (assignEach [tg] X.env).map (·.2) = [assign tg X.env] := by rfl) : SS X (.Assign [tg] e pos) (mAsg g me) := PS.imp (ps_asg he hg hs hw h1) fun D σ H h => by
  obtain ⟨C, fz, ρ, sto, out, ρ', sto', F, e, k⟩ := h
  unfold mAsg at e
  split at e
  · rename_i r s1 e1
    split at e
    · rename_i x ex
      split at e
      · rename_i ρ1 eg
        cases e
        refine ⟨C, fz, ρ, sto, r, _, F, e1, fun v fz1 H1 st1 l1 i1 => ?_⟩
        obtain ⟨fz2, F2, st2, im⟩ := F.keep st1 l1 i1 ex
        exact ⟨C, fz2, ρ, _, x, ρ', F2, im, eg, fun σ1 _ _ F3 => k fz2 σ1 H1 F3 st2.sts⟩
      · cases e
    · cases e
  · cases e
/-- a, b = e1, e2 (two names of the def) -/
def mPar (i j : Nat) (a : Ma) : Ms := fun ρ s => match a ρ s with
  | some ([r, q], s1) => match toCl r, toCl q with
    | some c, some d => match c, d with
      | .o _, .o _ => none
      | c, d => some (.nx, (ρ.set i (some c)).set j (some d), s1)
    | _, _ => none
  | _ => none
theorem ss_par {i j : Nat} {x y : Str} {a b : Expr} {m : Ma} {px py pt : Pos} {kt k2 pt2} (hc : X.calm = true) (hN : X.N.Nodup) (ha : SA X [a, b] m) (hi : X.N[i]? = some x := by rfl) (hj : X.N[j]? = some y := by rfl) (hij : i ≠ j := by decide)
    (hx : X.env.scope.names.lookup x = some .local := by rfl) (hy : X.env.scope.names.lookup y = some .local := by rfl)
    (hw : swappedStores [.Tuple [.Name x px, .Name y py] kt pt] (.Tuple [a, b] k2 pt2) X.env = pure (some [x, y]) := by rfl)
    (hs : swapsWithSole [.Tuple [.Name x px, .Name y py] kt pt] (.Tuple [a, b] k2 pt2) pos.line X.env = pure false := by rfl) :
    SS X (.Assign [.Tuple [.Name x px, .Name y py] kt pt] (.Tuple [a, b] k2 pt2) pos) (mPar i j m) := PS.impI (ps_par hc hN hi hj hij hx hy ha hw hs) fun D σ H hl h => by
  obtain ⟨C, fz, ρ, sto, out, ρ', sto', F, e, k⟩ := h
  unfold mPar at e
  split at e
  · rename_i r q s1 e1
    split at e
    · rename_i c d ec ed
      split at e
      · cases e
      · rename_i no
        cases e
        refine ⟨C, fz, ρ, sto, _, _, F, e1, fun vs fz1 H1 st1 l1 i1 => ?_⟩
        cases i1 with
        | cons iv t =>
          cases t with
          | cons iw t =>
            cases t
            rename_i v w
            refine ⟨v, w, rfl, ?_⟩
            have hi' := lt_of_slot hi hl
            have hj' := lt_of_slot hj hl
            have F1 := F.give st1 l1 iv ec hi'
            -- the second one, its address apart from the first one's
            refine k fz1 _ H1 (F1.put j (by rw [List.length_set]; exact hj') ?_ ?_) st1.sts
            · have g : ((σ.set i (some v)).set j (some w))[j]? = some (some w) := List.getElem?_set_self (by rw [List.length_set]; exact hj')
              cases q with
              | d x => cases ed; exact ⟨w, g, iw⟩
              | f xs =>
                cases ed
                obtain ⟨a, vs, rfl, h1, h2, h3, h4, h5⟩ := iw
                exact ⟨a, vs, g, h1, h2, h3, h4, F.st.back h4 h5⟩
              | b xs => cases ed
              | s => cases ed; obtain ⟨a, ea, rfl⟩ := (show IsS C.sp w from iw); exact ⟨a, ea, g⟩
            · intro xs a edx ew n ys hn h1 h2
              subst edx
              cases q with
              | d x => cases ed
              | b x => cases ed
              | s => cases ed
              | f zs =>
                cases ed
                obtain ⟨b, vs, eb, h3, h4, h5, h6, h7⟩ := iw
                rw [ew] at eb; cases eb
                by_cases en : n = i
                · subst en
                  rw [List.getElem?_set_self (by rw [F.len]; exact hi')] at h1
                  cases h1
                  exact no ys _ rfl rfl
                · rw [List.getElem?_set_ne (Ne.symm en)] at h1 h2
                  obtain ⟨b, ws, q1, q2, _⟩ := F.owned h1
                  rw [h2] at q1; cases q1
                  rw [h7] at q2; cases q2
    · cases e
  · cases e
end
end Dh

/-! Dh6: sources, for, while, comprehensions -/
namespace Dh
open PySem PySem.Spec L2

abbrev Mi := Ev → Sto → Option (List PyData × Sto)
/-- J goes through the data xs, for as long as what is frozen stands -/
structure Goes (K : PySem.W.Frag) (sp : Option Addr) (fz : Fz) (H : Hp) (J : It) (xs : List PyData) : Prop where
  go : ∀ (i : Nat) fz1 H1 sto, i < xs.length → Sts sp fz H fz1 H1 → Bs sp fz1 H1 sto → J.go i H1
  stop : ∀ fz1 H1 sto, Sts sp fz H fz1 H1 → Bs sp fz1 H1 sto → J.stop xs.length H1
  yld : ∀ (i : Nat) (x : PyData) fz1 H1 sto v H2, xs[i]? = some x → Sts sp fz H fz1 H1 → Bs sp fz1 H1 sto → J.yld i H1 v H2 → Stp sp fz1 H1 fz1 H2 ∧ SpL sp H2 sto ∧ Im K fz1 H2 v x
def rdI (K : PySem.W.Frag) (m : Mi) : TI := fun σ H R => ∃ (C : Cn) (fz : Fz) (ρ : Ev) (sto : Sto) (xs : List PyData) (sto' : Sto), Fm K C fz ρ sto σ H ∧ m ρ sto = some (xs, sto') ∧
  ∀ J fz' H', Stp C.sp fz H fz' H' → SpL C.sp H' sto' → Goes K C.sp fz' H' J xs → R J H'
def SI (X : Cx) (tg iter : Expr) (m : Mi) : Prop := PI X tg iter (rdI X.K m)
theorem PI.imp {X : Cx} {tg e : Expr} {t t' : TI} (h : PI X tg e t) (q : ∀ σ H R, t' σ H R → t σ H R) : PI X tg e t' := ⟨fun pins s σ H R I w => h.run pins s σ H R I (q _ _ _ w)⟩

/-! ### for -/
def forRun (g : Gx) (body : Ms) : List PyData → Ms
  | [] => fun ρ s => some (.nx, ρ, s)
  | x :: xs => fun ρ s => match g x ρ with
    | none => none
    | some ρ1 => match body ρ1 s with
      | some (.nx, ρ2, s2) => forRun g body xs ρ2 s2
      | some (.ct, ρ2, s2) => forRun g body xs ρ2 s2
      | some (.bk, ρ2, s2) => some (.nx, ρ2, s2)
      | some (.rt r, ρ2, s2) => some (.rt r, ρ2, s2)
      | none => none
def mFor (it : Mi) (g : Gx) (body : Ms) : Ms := fun ρ s => match it ρ s with
  | some (xs, s1) => forRun g body xs ρ s1
  | none => none
section
variable {X : Cx} {tg iter : Expr} {is : List Nat} {g : Gx} {mi : Mi} {body : List Stmt} {mb : Ms} {pos : Pos}
theorem rs_for {K : PySem.W.Frag} {D : Ends} {σ : L2.St} {H : Hp} (h : rdS K (mFor mi g mb) D σ H) : tFor (rdI K mi) (rdG K is g) (rdS K mb) D σ H := by
  obtain ⟨C, fz, ρ, sto, out, ρ', sto', F, e, k⟩ := h
  unfold mFor at e
  split at e
  · rename_i xs s1 e1
    refine ⟨C, fz, ρ, sto, xs, s1, F, e1, fun J fz1 H1 st1 l1 G => ?_⟩
    have F1 := F.step st1 l1
    let W : Nat → Nat → L2.St → Hp → Prop := fun i m σ' H' => m = xs.length - i ∧ i ≤ xs.length ∧ ∃ fz2 ρ2 s2, Fm K C fz2 ρ2 s2 σ' H' ∧ Sts C.sp fz1 H1 fz2 H' ∧ forRun g mb (xs.drop i) ρ2 s2 = some (out, ρ', sto')
    refine ⟨W, ⟨xs.length, by simp, Nat.zero_le _, fz1, ρ, s1, F1, .refl, e⟩, ?_⟩
    rintro i m σ2 H2 ⟨rfl, hi, fz2, ρ2, s2, F2, S2, e2⟩
    by_cases hlt : i < xs.length
    · have hx : xs[i]? = some xs[i] := List.getElem?_eq_getElem hlt
      rw [List.drop_eq_getElem_cons hlt] at e2
      unfold forRun at e2
      split at e2
      · cases e2
      · rename_i ρ3 e3
        refine .inr ⟨G.go i fz2 H2 s2 hlt S2 F2.bs, fun σ' H' => W (i + 1) (xs.length - (i + 1)) σ' H', fun σ' H' w => ⟨xs.length - (i + 1), by omega, w⟩, fun v H3 y => ?_⟩
        obtain ⟨st3, l3, im⟩ := G.yld i _ fz2 H2 s2 v H3 hx S2 F2.bs y
        refine ⟨C, fz2, ρ2, s2, xs[i], ρ3, F2.step st3 l3, im, e3, fun σ4 hl4 ho4 F4 => ?_⟩
        have S3 := S2.trans st3.sts
        split at e2
        · rename_i ρ5 s5 e5
          refine ⟨C, fz2, ρ3, s2, .nx, ρ5, s5, F4, e5, fun fz6 σ6 H6 F6 S6 => ?_⟩
          exact ⟨rfl, hlt, fz6, ρ5, s5, F6, S3.trans S6, e2⟩
        · rename_i ρ5 s5 e5
          refine ⟨C, fz2, ρ3, s2, .ct, ρ5, s5, F4, e5, fun fz6 σ6 H6 F6 S6 => ?_⟩
          exact ⟨rfl, hlt, fz6, ρ5, s5, F6, S3.trans S6, e2⟩
        · rename_i ρ5 s5 e5
          cases e2
          refine ⟨C, fz2, ρ3, s2, .bk, ρ', sto', F4, e5, fun fz6 σ6 H6 F6 S6 => ?_⟩
          exact k fz6 σ6 H6 F6 (st1.sts.trans (S3.trans S6))
        · rename_i r ρ5 s5 e5
          cases e2
          refine ⟨C, fz2, ρ3, s2, .rt r, ρ', sto', F4, e5, fun fz6 σ6 H6 F6 S6 => ?_⟩
          exact k fz6 σ6 H6 F6 (st1.sts.trans (S3.trans S6))
        · cases e2
    · have ei : i = xs.length := by omega
      subst ei
      rw [List.drop_length] at e2
      cases e2
      exact .inl ⟨G.stop fz2 H2 _ S2 F2.bs, k fz2 σ2 H2 F2 (st1.sts.trans S2)⟩
  · cases e
theorem ss_for (hp : PassesOwn (model X.prog X.w) X.A X.env X.xe) (hc : X.calm = true) (hi : SI X tg iter mi) (hg : SG X tg is g) (hb : SL X body mb) (hs : ∀ x, foldedSetIterable iter X.env x = pure x := by intro _; rfl) :
    SS X (.For tg iter body [] pos) (mFor mi g mb) := PS.imp (ps_for hp hc hi hg hb hs) fun _ _ _ h => rs_for h
end

/-! ### while -/
def whRun (c : Mt) (body : Ms) : Nat → Ms
  | 0 => fun _ _ => none
  | n + 1 => fun ρ s => match c ρ s with
    | none => none
    | some (false, s1) => some (.nx, ρ, s1)
    | some (true, s1) => match body ρ s1 with
      | some (.nx, ρ2, s2) => whRun c body n ρ2 s2
      | some (.ct, ρ2, s2) => whRun c body n ρ2 s2
      | some (.bk, ρ2, s2) => some (.nx, ρ2, s2)
      | some (.rt r, ρ2, s2) => some (.rt r, ρ2, s2)
      | none => none
theorem whRun_eq {c : Mt} {body : Ms} {n : Nat} {ρ : Ev} {s : Sto} : whRun c body (n + 1) ρ s = (match c ρ s with
    | none => none
    | some (false, s1) => some (.nx, ρ, s1)
    | some (true, s1) => match body ρ s1 with
      | some (.nx, ρ2, s2) => whRun c body n ρ2 s2
      | some (.ct, ρ2, s2) => whRun c body n ρ2 s2
      | some (.bk, ρ2, s2) => some (.nx, ρ2, s2)
      | some (.rt r, ρ2, s2) => some (.rt r, ρ2, s2)
      | none => none) := rfl
theorem whRun_succ {c : Mt} {body : Ms} : ∀ {n : Nat} {ρ : Ev} {s : Sto} {r : Out × Ev × Sto}, whRun c body n ρ s = some r → whRun c body (n + 1) ρ s = some r
  | 0, _, _, _, h => by cases h
  | n + 1, ρ, s, r, h => by
    rw [whRun_eq] at h
    rw [whRun_eq]
    cases hc : c ρ s with
    | none => rw [hc] at h; cases h
    | some p =>
      obtain ⟨k, s1⟩ := p
      rw [hc] at h
      cases k with
      | false => exact h
      | true =>
        cases hb : body ρ s1 with
        | none => simp only [hb] at h; cases h
        | some q =>
          obtain ⟨out, ρ2, s2⟩ := q
          simp only [hb] at h ⊢
          cases out with
          | nx => exact whRun_succ h
          | ct => exact whRun_succ h
          | bk => exact h
          | rt r' => exact h
theorem whRun_le {c : Mt} {body : Ms} {n m : Nat} (h : n ≤ m) {ρ : Ev} {s : Sto} {r : Out × Ev × Sto} (e : whRun c body n ρ s = some r) : whRun c body m ρ s = some r := by
  induction h with
  | refl => exact e
  | step _ ih => exact whRun_succ ih
open Classical in
noncomputable def mWhile (c : Mt) (body : Ms) : Ms := fun ρ s => if h : ∃ (n : Nat) (r : Out × Ev × Sto), whRun c body n ρ s = some r then some (choose (choose_spec h)) else none
theorem mWhile_of {c : Mt} {body : Ms} {n : Nat} {ρ : Ev} {s : Sto} {r : Out × Ev × Sto} (e : whRun c body n ρ s = some r) : mWhile c body ρ s = some r := by
  have h : ∃ (n : Nat) (r : Out × Ev × Sto), whRun c body n ρ s = some r := ⟨n, r, e⟩
  unfold mWhile
  rw [dif_pos h]
  have q := Classical.choose_spec (Classical.choose_spec h)
  have a := whRun_le (Nat.le_max_left n (Classical.choose h)) e
  have b := whRun_le (Nat.le_max_right n (Classical.choose h)) q
  rw [a] at b
  exact b.symm
theorem mWhile_some {c : Mt} {body : Ms} {ρ : Ev} {s : Sto} {r : Out × Ev × Sto} (h : mWhile c body ρ s = some r) : ∃ n, whRun c body n ρ s = some r := by
  unfold mWhile at h
  split at h
  · rename_i q
    have p := Classical.choose_spec (Classical.choose_spec q)
    cases h
    exact ⟨_, p⟩
  · cases h
section
variable {X : Cx} {c : Expr} {tc : Mt} {body : List Stmt} {mb : Ms} {pos : Pos}
theorem rs_while {K : PySem.W.Frag} {D : Ends} {σ : L2.St} {H : Hp} (h : rdS K (mWhile tc mb) D σ H) : tWhile (rdT K tc) (rdS K mb) D σ H := by
  obtain ⟨C, fz, ρ, sto, out, ρ', sto', F, e, k⟩ := h
  obtain ⟨n, e⟩ := mWhile_some e
  let W : Nat → L2.St → Hp → Prop := fun m σ' H' => ∃ fz2 ρ2 s2, Fm K C fz2 ρ2 s2 σ' H' ∧ Sts C.sp fz H fz2 H' ∧ whRun tc mb m ρ2 s2 = some (out, ρ', sto')
  refine ⟨W, ⟨n, fz, ρ, sto, F, .refl, e⟩, ?_⟩
  rintro m σ2 H2 ⟨fz2, ρ2, s2, F2, S2, e2⟩
  cases m with
  | zero => cases e2
  | succ m =>
    unfold whRun at e2
    split at e2
    · cases e2
    · rename_i s3 e3
      cases e2
      exact ⟨C, fz2, ρ', s2, false, _, F2, e3, fun fz4 H4 st4 l4 => k fz4 σ2 H4 (F2.step st4 l4) (S2.trans st4.sts)⟩
    · rename_i s3 e3
      refine ⟨C, fz2, ρ2, s2, true, s3, F2, e3, fun fz4 H4 st4 l4 => ?_⟩
      have F4 := F2.step st4 l4
      have S4 := S2.trans st4.sts
      show ∃ N : L2.St → Hp → Prop, (∀ σ' H', N σ' H' → ∃ m', m' < m + 1 ∧ W m' σ' H') ∧ _
      refine ⟨fun σ' H' => W m σ' H', fun σ' H' w => ⟨m, Nat.lt_succ_self m, w⟩, ?_⟩
      split at e2
      · rename_i ρ5 s5 e5
        exact ⟨C, fz4, ρ2, s3, .nx, ρ5, s5, F4, e5, fun fz6 σ6 H6 F6 S6 => ⟨fz6, ρ5, s5, F6, S4.trans S6, e2⟩⟩
      · rename_i ρ5 s5 e5
        exact ⟨C, fz4, ρ2, s3, .ct, ρ5, s5, F4, e5, fun fz6 σ6 H6 F6 S6 => ⟨fz6, ρ5, s5, F6, S4.trans S6, e2⟩⟩
      · rename_i ρ5 s5 e5
        cases e2
        exact ⟨C, fz4, ρ2, s3, .bk, ρ', sto', F4, e5, fun fz6 σ6 H6 F6 S6 => k fz6 σ6 H6 F6 (S4.trans S6)⟩
      · rename_i r ρ5 s5 e5
        cases e2
        exact ⟨C, fz4, ρ2, s3, .rt r, ρ', sto', F4, e5, fun fz6 σ6 H6 F6 S6 => k fz6 σ6 H6 F6 (S4.trans S6)⟩
      · cases e2
theorem ss_while (hp : PassesOwn (model X.prog X.w) X.A X.env X.xe) (hc : SB X c tc) (hb : SL X body mb) : SS X (.While c body [] pos) (mWhile tc mb) := PS.imp (ps_while hp hc hb) fun _ _ _ h => rs_while h
end

/-! ### comprehensions -/
def wipeE (ρ : Ev) : List Nat → Ev
  | [] => ρ
  | v :: vs => (wipeE ρ vs).set v none
theorem wipeE_length (ρ : Ev) : ∀ vs : List Nat, (wipeE ρ vs).length = ρ.length
  | [] => rfl
  | v :: vs => by unfold wipeE; rw [List.length_set, wipeE_length ρ vs]
theorem wipeE_some {ρ : Ev} {i : Nat} {c : Cl} : ∀ {vs : List Nat}, (wipeE ρ vs)[i]? = some (some c) → ρ[i]? = some (some c) ∧ i ∉ vs
  | [], h => ⟨h, by simp⟩
  | v :: vs, h => by
    unfold wipeE at h
    by_cases e : i = v
    · subst e
      by_cases hi : i < (wipeE ρ vs).length
      · rw [List.getElem?_set_self hi] at h; cases h
      · rw [List.getElem?_eq_none (by rw [List.length_set]; omega)] at h; cases h
    · rw [List.getElem?_set_ne (Ne.symm e)] at h
      obtain ⟨h1, h2⟩ := wipeE_some h
      exact ⟨h1, by simp [e, h2]⟩
section
variable {K : PySem.W.Frag} {C : Cn} {fz fz1 : Fz} {ρ : Ev} {sto sto' : Sto} {σ : L2.St} {H H1 : Hp}
theorem Fm.wipe (F : Fm K C fz ρ sto σ H) (vs : List Nat) : Fm K C fz (wipeE ρ vs) sto (L2.wipe σ vs) H where
  len := by rw [wipeE_length, wipe_length, F.len]
  st := F.st
  bs := F.bs
  vars := fun i c h => by
    obtain ⟨h1, h2⟩ := wipeE_some h
    have q := F.vars i c h1
    cases c with
    | d x => obtain ⟨u, e1, e2⟩ := q; exact ⟨u, (wipe_out h2).trans e1, e2⟩
    | o xs => obtain ⟨a, vs, e1, e2⟩ := q; exact ⟨a, vs, (wipe_out h2).trans e1, e2⟩
    | s => obtain ⟨a, ea, q⟩ := q; exact ⟨a, ea, (wipe_out h2).trans q⟩
  sep := fun i j xs ys a hij h1 h2 h3 h4 => by
    obtain ⟨g1, n1⟩ := wipeE_some h1
    obtain ⟨g2, n2⟩ := wipeE_some h2
    rw [wipe_out n1] at h3
    rw [wipe_out n2] at h4
    exact F.sep i j xs ys a hij g1 g2 h3 h4
/-- a list that nobody owns is written -/
theorem Fm.side (F : Fm K C fz ρ sto σ H) {D : Addr} {ws : List V} (hD : ∃ us, H D = some (.lst us)) (nf : ¬ fz D) (ns : some D ≠ C.sp) (n0 : C.H0 D = none) (no : ∀ (i : Nat) (xs : List PyData), ρ[i]? = some (some (Cl.o xs)) → σ[i]? ≠ some (some (V.ref D))) :
    Fm K C fz ρ sto σ (upd H D (.lst ws)) ∧ Sts C.sp fz H fz (upd H D (.lst ws)) := by
  obtain ⟨us, hD⟩ := hD
  have S : Sts C.sp fz H fz (upd H D (.lst ws)) := ⟨fun _ q => q, fun b o q n c => by
    have : b ≠ D := fun z => by
      subst z
      rcases c with c | c
      · exact nf c
      · rw [hD] at q; cases q; exact c _ rfl
    rw [upd_ne this]; exact q⟩
  refine ⟨⟨F.len, ⟨F.st.mono, fun b o q n => ?_, F.st.new, fun t b q z => ?_⟩, ⟨?_, F.bs.nsp, fun b q z => ?_⟩, fun j c q => ?_, F.sep⟩, S⟩
  · have : b ≠ D := fun z => by subst z; rw [n0] at q; cases q
    rw [upd_ne this]; exact F.st.ext b o q n
  · by_cases e : b = D
    · subst e; rw [upd_same] at z; cases z
    · rw [upd_ne e] at z; exact F.st.trk t b q z
  · exact F.bs.spl.upd ns
  · by_cases e : b = D
    · subst e; rw [upd_same] at z; cases z
    · rw [upd_ne e] at z; exact F.bs.trk b q z
  · have g := F.vars j c q
    cases c with
    | d x => obtain ⟨u, g1, g2⟩ := g; exact ⟨u, g1, g2.sts S F.bs⟩
    | o us =>
      obtain ⟨b, ts, g1, g2, g3, g4, g5, g6⟩ := g
      have : b ≠ D := fun z => by subst z; exact no j us q g1
      exact ⟨b, ts, g1, by rw [upd_ne this]; exact g2, g3.sts S F.bs, g4, g5, g6⟩
    | s => exact g
end
def lcRun (vs : List Nat) (g : Gx) (t : Mt) (e : Mx) : List PyData → Ev → Sto → Option (List PyData × Sto)
  | [] => fun _ s => some ([], s)
  | x :: xs => fun ρ s => match g x (wipeE ρ vs) with
    | none => none
    | some ρ1 => match t ρ1 s with
      | none => none
      | some (false, s1) => lcRun vs g t e xs ρ s1
      | some (true, s1) => match e ρ1 s1 with
        | none => none
        | some (r, s2) => match toD r, lcRun vs g t e xs ρ s2 with
          | some y, some (ys, s3) => some (y :: ys, s3)
          | _, _ => none
def mLc (it : Mi) (vs : List Nat) (g : Gx) (t : Mt) (e : Mx) : Mx := fun ρ s => match it ρ s with
  | some (xs, s1) => match lcRun vs g t e xs ρ s1 with
    | some (ys, s2) => if ys.length ≤ sizeLine then some (.f ys, s2) else none
    | none => none
  | none => none
def mYes : Mt := fun _ s => some (true, s)
theorem wipe_agree {σ σ2 : L2.St} {vs is : List Nat} (hl : σ2.length = (wipe σ vs).length) (ho : ∀ i, i ∉ is → σ2[i]? = (wipe σ vs)[i]?) (hs : ∀ i, i ∈ is → i ∈ vs) : wipe σ2 vs = wipe σ vs := by
  have key : ∀ (τ : L2.St) (ws : List Nat) (i : Nat), (wipe τ ws)[i]? = if i ∈ ws then (if i < τ.length then some none else none) else τ[i]? := by
    intro τ ws
    induction ws with
    | nil => intro i; simp [wipe]
    | cons w ws ih =>
      intro i
      unfold wipe
      by_cases e : i = w
      · subst e
        by_cases hi : i < τ.length
        · rw [List.getElem?_set_self (by rw [wipe_length]; exact hi)]; simp [hi]
        · rw [List.getElem?_eq_none (by rw [List.length_set, wipe_length]; omega)]; simp [hi]
      · rw [List.getElem?_set_ne (Ne.symm e), ih i]
        simp [e]
  have hl' : σ2.length = σ.length := by rw [hl, wipe_length]
  apply List.ext_getElem?
  intro i
  rw [key σ2 vs i, key σ vs i, hl']
  by_cases hi : i ∈ vs
  · simp [hi]
  · simp only [hi, if_false]
    rw [ho i fun z => hi (hs i z), key σ vs i]
    simp [hi]
section
variable {K : PySem.W.Frag} {mi : Mi} {g : Gx} {is vs : List Nat} {mt : Mt} {me : Mx}
theorem rd_lc (hs : ∀ i, i ∈ is → i ∈ vs) {σ : L2.St} {H : Hp} {Q : VK} (h : rdE K (mLc mi vs g mt me) σ H Q) : tLc (rdI K mi) (rdG K is g) (rdT K mt) (rdE K me) vs σ H Q := by
  obtain ⟨C, fz, ρ, sto, z, sto', F, e, k⟩ := h
  unfold mLc at e
  split at e
  · rename_i xs s1 e1
    split at e
    · rename_i ys s2 e2
      split at e
      · rename_i hz
        cases e
        refine ⟨C, fz, ρ, sto, xs, s1, F, e1, fun J fz1 H1 st1 l1 G => ?_⟩
        have F1 := F.step st1 l1
        intro D hD
        have nD : some D ≠ C.sp := l1.ne hD (by intro z; cases z)
        have n0 : C.H0 D = none := F1.st.back nD hD
        have nfz : ¬ fz1 D := fun z => F1.bs.trk D z hD
        have noD : ∀ (i : Nat) (us : List PyData), ρ[i]? = some (some (Cl.o us)) → σ[i]? ≠ some (some (V.ref D)) := fun i us q1 q2 => by
          obtain ⟨a, ws, g1, g2, _⟩ := F1.owned q1
          rw [q2] at g1; cases g1
          rw [hD] at g2; cases g2
        let W : Nat → Nat → Hp → Prop := fun i m H' => m = xs.length - i ∧ i ≤ xs.length ∧ ∃ (fz2 : Fz) (s3 : Sto) (acc : List V) (ya yb : List PyData), Fm K C fz2 ρ s3 σ H' ∧ Stp C.sp fz1 H1 fz2 H' ∧ H' D = some (.lst acc) ∧ ImA K fz2 H' acc ya ∧ ¬ fz2 D ∧
          lcRun vs g mt me (xs.drop i) ρ s3 = some (yb, sto') ∧ ys = ya ++ yb
        have st2 : Stp C.sp fz1 H1 fz1 (upd H1 D (.lst [])) := .laid hD
        have l2 : SpL C.sp (upd H1 D (.lst [])) s1 := l1.upd nD
        refine ⟨W, ⟨xs.length, by simp, Nat.zero_le _, fz1, s1, [], [], ys, F1.step st2 l2, st2, upd_same, .nil, nfz, e2, rfl⟩, ?_⟩
        rintro i m H2 ⟨rfl, hi, fz2, s3, acc, ya, yb, F2, S2, hD2, im2, nf2, e3, ey⟩
        by_cases hlt : i < xs.length
        · have hx : xs[i]? = some xs[i] := List.getElem?_eq_getElem hlt
          rw [List.drop_eq_getElem_cons hlt] at e3
          unfold lcRun at e3
          split at e3
          · cases e3
          · rename_i ρ4 e4
            refine .inr ⟨G.go i fz2 H2 s3 hlt S2.sts F2.bs, fun H' => W (i + 1) (xs.length - (i + 1)) H', fun H' w => ⟨xs.length - (i + 1), by omega, w⟩, fun v H3 y => ?_⟩
            obtain ⟨st3, l3, im⟩ := G.yld i _ fz2 H2 s3 v H3 hx S2.sts F2.bs y
            have F3 := F2.step st3 l3
            refine ⟨C, fz2, wipeE ρ vs, s3, xs[i], ρ4, F3.wipe vs, im, e4, fun σ4 hl4 ho4 F4 => ?_⟩
            refine ⟨wipe_agree hl4 ho4 hs, ?_⟩
            have hD3 : H3 D = some (.lst acc) := st3.ext _ _ hD2 nD
            split at e3
            · cases e3
            · rename_i s5 e5
              refine ⟨C, fz2, ρ4, s3, false, s5, F4, e5, fun fz6 H6 st6 l6 => ?_⟩
              refine iteF ?_
              have F6 := F3.step st6 l6
              refine ⟨rfl, hlt, fz6, s5, acc, ya, yb, F6, (S2.trans st3).trans st6, st6.ext _ _ hD3 nD, (im2.stp st3 F2.bs).stp st6 F3.bs, fun z => ?_, e3, ey⟩
              rcases st6.new D z with z | ⟨_, z⟩
              · exact nf2 z
              · rw [hD3] at z; cases z
            · rename_i s5 e5
              refine ⟨C, fz2, ρ4, s3, true, s5, F4, e5, fun fz6 H6 st6 l6 => ?_⟩
              refine iteT ?_
              have F6 := F3.step st6 l6
              have F46 := F4.step st6 l6
              have hD6 : H6 D = some (.lst acc) := st6.ext _ _ hD3 nD
              split at e3
              · cases e3
              · rename_i r s7 e7
                split at e3
                · rename_i y ys' s8 ey' e8
                  cases e3
                  refine ⟨C, fz6, ρ4, s5, r, s7, F46, e7, fun w fz8 H8 st8 l8 i8 => ?_⟩
                  obtain ⟨fz9, F9, st9, im9⟩ := F6.keep st8 l8 i8 ey'
                  have hD8 : H8 D = some (.lst acc) := st8.ext _ _ hD6 nD
                  have nf9 : ¬ fz9 D := fun z => by
                    rcases st9.new D z with z | ⟨_, z⟩
                    · rcases st6.new D z with z | ⟨_, z⟩
                      · exact nf2 z
                      · rw [hD3] at z; cases z
                    · rw [hD6] at z; cases z
                  have ia : ImA K fz9 H8 acc ya := ((im2.stp st3 F2.bs).stp st6 F3.bs).stp st9 F6.bs
                  have il : acc.length = ya.length := ia.length
                  refine ⟨acc, hD8, ?_, rfl, hlt, fz9, s7, acc ++ [w], ya ++ [y], ys', ?_⟩
                  · rw [il]
                    have := congrArg List.length ey
                    rw [List.length_append, List.length_cons] at this
                    omega
                  · obtain ⟨F10, S10⟩ := F9.side (ws := acc ++ [w]) ⟨acc, hD8⟩ nf9 nD n0 noD
                    have st10 : Stp C.sp fz1 H1 fz9 (upd H8 D (.lst (acc ++ [w]))) := by
                      have q := (((S2.trans st3).trans st6).trans st9)
                      refine ⟨q.mono, fun b o qb n => ?_, q.new, fun t b qb z => ?_⟩
                      · have : b ≠ D := fun z => by subst z; rw [hD] at qb; cases qb
                        rw [upd_ne this]; exact q.ext b o qb n
                      · by_cases eb : b = D
                        · subst eb; rw [upd_same] at z; cases z
                        · rw [upd_ne eb] at z; exact q.trk t b qb z
                    exact ⟨F10, st10, upd_same, (ia.append (.cons im9 .nil)).sts S10 F9.bs, nf9, e8, by rw [ey, List.append_assoc]; rfl⟩
                · cases e3
        · have ei : i = xs.length := by omega
          subst ei
          rw [List.drop_length] at e3
          cases e3
          refine .inl ⟨G.stop fz2 H2 _ S2.sts F2.bs, ?_⟩
          refine k _ fz2 H2 (st1.trans S2) F2.bs.spl ⟨D, acc, rfl, hD2, ?_, nf2, nD, st1.back nD hD⟩
          rw [ey, List.append_nil]
          exact im2
      · cases e
    · cases e
  · cases e
end
section
variable {X : Cx} {elt tg iter : Expr} {ifs : List Expr} {scope : Scope} {own : List (Str × Nat)} {pos : Pos} {is : List Nat} {mi : Mi} {g : Gx} {mt : Mt} {me : Mx}
def STs (X : Cx) (ifs : List Expr) (t : Mt) : Prop := PTs X ifs (rdT X.K t)
theorem sts_nil : STs X [] mYes := ⟨fun pins s σ H Q I w => pts_nil.run pins s σ H Q I (by
  obtain ⟨C, fz, ρ, sto, r, sto', F, e, k⟩ := w
  cases e
  exact k fz H .refl F.bs.spl)⟩
theorem sts_one {c : Expr} {t : Mt} (h : SB X c t) : STs X [c] t := pts_one h
theorem se_lc (hc : X.calm = true) (hN : X.N.Nodup) (hi : SI X tg iter mi) (ok : BlkOk X.N X.env.scope scope own) (hs : ∀ i, i ∈ is → i ∈ own.map (·.2))
    (hg : ∀ (s : Shared) (H : Hp) (C : Addr) (cl : List (Str × Addr)) (fp : List Addr), SG (X.blk s H scope (compEnvC scope cl C X.env) fp) tg is g) (ht : ∀ (s : Shared) (H : Hp) (C : Addr) (cl : List (Str × Addr)) (fp : List Addr), STs (X.blk s H scope (compEnvC scope cl C X.env) fp) ifs mt)
    (he : ∀ (s : Shared) (H : Hp) (C : Addr) (cl : List (Str × Addr)) (fp : List Addr), SE (X.blk s H scope (compEnvC scope cl C X.env) fp) elt me) (hf : ∀ x, foldedSetIterable iter X.env x = pure x := by intro _; rfl) :
    SE X (.ListComp elt [⟨tg, iter, ifs, 0⟩] scope pos) (mLc mi (own.map (·.2)) g mt me) := PE.imp (pe_lc (g := rdG X.K is g) (tt := rdT X.K mt) (te := rdE X.K me) hc hN hi ok hg ht he hf) fun _ _ _ h => rd_lc hs h
/-- name = [..] -/
theorem ss_setLc {i : Nat} {y : Str} {py spos : Pos} (hc : X.calm = true) (hN : X.N.Nodup) (hy : X.N[i]? = some y) (hyl : X.env.scope.names.lookup y = some .local)
    (hsw : swapsWith (.ListComp elt [⟨tg, iter, ifs, 0⟩] scope pos) (some (.Name y py)) spos.line X.env = pure true) (hi : SI X tg iter mi) (ok : BlkOk X.N X.env.scope scope own) (hs : ∀ i, i ∈ is → i ∈ own.map (·.2))
    (hg : ∀ (s : Shared) (H : Hp) (C : Addr) (cl : List (Str × Addr)) (fp : List Addr), SG (X.blk s H scope (compEnvC scope cl C X.env) fp) tg is g) (ht : ∀ (s : Shared) (H : Hp) (C : Addr) (cl : List (Str × Addr)) (fp : List Addr), STs (X.blk s H scope (compEnvC scope cl C X.env) fp) ifs mt)
    (he : ∀ (s : Shared) (H : Hp) (C : Addr) (cl : List (Str × Addr)) (fp : List Addr), SE (X.blk s H scope (compEnvC scope cl C X.env) fp) elt me) (hf : ∀ x, foldedSetIterable iter X.env x = pure x := by intro _; rfl) :
    SS X (.Assign [.Name y py] (.ListComp elt [⟨tg, iter, ifs, 0⟩] scope pos) spos) (mSet i (mLc mi (own.map (·.2)) g mt me)) :=
  PS.impI (ps_setLc (g := rdG X.K is g) (tt := rdT X.K mt) (te := rdE X.K me) hc hN hy hyl hsw hi ok hg ht he hf) fun D σ H hl h => by
    obtain ⟨C, fz, ρ, sto, out, ρ', sto', F, e, k⟩ := h
    have : rdE X.K (mLc mi (own.map (·.2)) g mt me) σ H (fun x H1 => gName i x σ H1 D.nx) := by
      unfold mSet at e
      split at e
      · rename_i r s1 e1
        split at e
        · rename_i c ec
          cases e
          exact ⟨C, fz, ρ, sto, r, _, F, e1, fun v fz1 H1 st1 l1 i1 => k fz1 _ H1 (F.give st1 l1 i1 ec (lt_of_slot hy hl)) st1.sts⟩
        · cases e
      · cases e
    exact rd_lc hs this
end
end Dh

/-! Dh7: what is walked -/
namespace Dh
open PySem PySem.Spec L2 RZ

section
variable {K : PySem.W.Frag} {sp : Option Addr} {fz fz1 : Fz} {H H1 : Hp} {sto : Sto}
theorem Goes.of {J : It} {n : Nat} {G : Hp → Prop} {Y : Nat → Hp → V → Hp → Prop} {xs : List PyData} (w : Walk J n G Y) (hn : xs.length = n) (hg : ∀ fz1 H1 sto, Sts sp fz H fz1 H1 → Bs sp fz1 H1 sto → G H1)
    (hy : ∀ (i : Nat) (x : PyData) fz1 H1 sto v H2, xs[i]? = some x → Sts sp fz H fz1 H1 → Bs sp fz1 H1 sto → Y i H1 v H2 → Stp sp fz1 H1 fz1 H2 ∧ SpL sp H2 sto ∧ Im K fz1 H2 v x) : Goes K sp fz H J xs where
  go := fun i fz1 H1 sto hi s B => w.goes i H1 (by rw [← hn]; exact hi) (hg fz1 H1 sto s B)
  stop := fun fz1 H1 sto s B => by rw [hn]; exact w.stops H1 (hg fz1 H1 sto s B)
  yld := fun i x fz1 H1 sto v H2 hx s B y => hy i x fz1 H1 sto v H2 hx s B (w.yields i H1 v H2 (by rw [← hn]; exact (List.getElem?_eq_some_iff.mp hx).1) (hg fz1 H1 sto s B) y)
theorem goes_list {a : Addr} {vs : List V} {xs : List PyData} (h : FzL K fz H a vs) (im : ImA K fz H vs xs) (B0 : Bs sp fz H sto) : Goes K sp fz H (Itl K a) xs :=
  .of (walk_list (xs := vs)) im.length.symm (fun fz1 H1 sto s B => (h.sts s B0).sq) fun i x fz1 H1 sto v H2 hx s B y => by
    obtain ⟨rfl, e⟩ := y
    obtain ⟨w, hw, iw⟩ := im.at i x hx
    rw [e] at hw; cases hw
    exact ⟨.refl, B.spl, iw.sts s B0⟩
theorem goes_tup {a : Addr} {vs : List V} {xs : List PyData} (h : SqT K H a vs) (im : ImA K fz H vs xs) (B0 : Bs sp fz H sto) : Goes K sp fz H (Itt K a) xs :=
  .of (walk_tup (xs := vs)) im.length.symm (fun fz1 H1 sto s B => SqT.sts s B0 h) fun i x fz1 H1 sto v H2 hx s B y => by
    obtain ⟨rfl, e⟩ := y
    obtain ⟨w, hw, iw⟩ := im.at i x hx
    rw [e] at hw; cases hw
    exact ⟨.refl, B.spl, iw.sts s B0⟩
def rangeL (lo : Int) (n : Nat) : List PyData := (List.range n).map fun i => PyData.int (lo + (i : Nat))
theorem goes_range {lo : Int} {n : Nat} : Goes K sp fz H (Itr lo n) (rangeL lo n) :=
  .of walk_range (by unfold rangeL; rw [List.length_map, List.length_range]) (fun _ _ _ _ _ => trivial) fun i x fz1 H1 sto v H2 hx s B y => by
    obtain ⟨rfl, rfl⟩ := y
    unfold rangeL at hx
    rw [List.getElem?_map] at hx
    cases q : (List.range n)[i]? with
    | none => rw [q] at hx; cases hx
    | some j =>
      rw [q] at hx
      cases hx
      have : j = i := by
        obtain ⟨h1, h2⟩ := List.getElem?_eq_some_iff.mp q
        rw [List.getElem_range] at h2
        exact h2.symm
      subst this
      exact ⟨.refl, B.spl, .int _⟩
def pairs (xs ys : List PyData) : List PyData := (xs.zip ys).map fun p => PyData.tuple [p.1, p.2]
theorem pairs_at {xs ys : List PyData} {i : Nat} {z : PyData} (h : (pairs xs ys)[i]? = some z) : ∃ x y, xs[i]? = some x ∧ ys[i]? = some y ∧ z = .tuple [x, y] := by
  unfold pairs at h
  rw [List.getElem?_map] at h
  cases q : (xs.zip ys)[i]? with
  | none => rw [q] at h; cases h
  | some p =>
    rw [q] at h; cases h
    rw [List.getElem?_zip_eq_some] at q
    exact ⟨p.1, p.2, q.1, q.2, rfl⟩
/-- a new pair -/
theorem pair_new {H2 : Hp} {v w : V} {x y : PyData} {T : Addr} (B : Bs sp fz H sto) (i1 : Im K fz H v x) (i2 : Im K fz H w y) (hT : H T = none) (e : H2 = upd H T (.tup [v, w])) : Stp sp fz H fz H2 ∧ SpL sp H2 sto ∧ Im K fz H2 (.ref T) (.tuple [x, y]) := by
  subst e
  exact new_tup B (.cons i1 (.cons i2 .nil)) hT
theorem goes_zipL {a b : Addr} {vs ws : List V} {xs ys : List PyData} (h1 : FzL K fz H a vs) (h2 : FzL K fz H b ws) (m1 : ImA K fz H vs xs) (m2 : ImA K fz H ws ys) (B0 : Bs sp fz H sto) : Goes K sp fz H (Itz K a b) (pairs xs ys) :=
  .of (walk_zip (xs := vs) (ys := ws) rfl) (by unfold pairs; rw [List.length_map, List.length_zip, m1.length, m2.length]) (fun fz1 H1 sto s B => ⟨(h1.sts s B0).sq, (h2.sts s B0).sq⟩) fun i x fz1 H1 sto v H2 hx s B y => by
    obtain ⟨T, v1, v2, rfl, hT, e, g1, g2⟩ := y
    obtain ⟨x1, x2, q1, q2, rfl⟩ := pairs_at hx
    obtain ⟨u1, p1, i1⟩ := m1.at i x1 q1
    obtain ⟨u2, p2, i2⟩ := m2.at i x2 q2
    have g1' : vs[i]? = some v1 := g1
    have g2' : ws[i]? = some v2 := g2
    rw [g1'] at p1; cases p1
    rw [g2'] at p2; cases p2
    exact pair_new B (i1.sts s B0) (i2.sts s B0) hT e
theorem goes_zipT {a b : Addr} {vs ws : List V} {xs ys : List PyData} (h1 : SqT K H a vs) (h2 : SqT K H b ws) (m1 : ImA K fz H vs xs) (m2 : ImA K fz H ws ys) (B0 : Bs sp fz H sto) : Goes K sp fz H (ItzT K a b) (pairs xs ys) := by
  have len : (pairs xs ys).length = min vs.length ws.length := by unfold pairs; rw [List.length_map, List.length_zip, m1.length, m2.length]
  refine ⟨fun i fz1 H1 sto hi s B => ?_, fun fz1 H1 sto s B => ?_, fun i x fz1 H1 sto v H2 hx s B y => ?_⟩
  · rw [len] at hi
    have a1 : i < vs.length := by omega
    have a2 : i < ws.length := by omega
    exact ⟨vs, ws, vs[i], ws[i], SqT.sts s B0 h1, SqT.sts s B0 h2, List.getElem?_eq_getElem a1, List.getElem?_eq_getElem a2⟩
  · exact ⟨vs, ws, SqT.sts s B0 h1, SqT.sts s B0 h2, by rw [len]; omega⟩
  · obtain ⟨T, v1, v2, rfl, hT, e, g1, g2⟩ := y
    obtain ⟨x1, x2, q1, q2, rfl⟩ := pairs_at hx
    obtain ⟨u1, p1, i1⟩ := m1.at i x1 q1
    obtain ⟨u2, p2, i2⟩ := m2.at i x2 q2
    rw [g1 vs (SqT.sts s B0 h1)] at p1; cases p1
    rw [g2 ws (SqT.sts s B0 h2)] at p2; cases p2
    exact pair_new B (i1.sts s B0) (i2.sts s B0) hT e
end

/-! ### the sources' rules -/
section
variable {X : Cx} {tg l : Expr} {ml : Mx} {pos : Pos}
theorem pi_seq {tl : TE} (hl : PE X l tl) : PI X tg l (fun σ H R => tl σ H fun x H1 => ∃ a, x = .ref a ∧ (((∃ xs, SqL X.K H1 a xs) ∧ R (Itl X.K a) H1) ∨ ((∃ xs, SqT X.K H1 a xs) ∧ R (Itt X.K a) H1))) := ⟨fun pins s σ H R I h => by
  refine thn (hl.run pins s σ H _ I h) ?_
  rintro v s1 ⟨x, H1, I1, r1, a, rfl, q⟩
  cases r1
  have fr : ∀ b ∈ [s1.heap.objs.size], FpOk X pins H1 b := fun b hb => by
    rw [List.mem_singleton] at hb
    subst hb
    exact I1.fpOk (Nat.le_refl _) (I1.hok.fresh (Nat.le_refl _))
  rcases q with ⟨⟨xs, hq⟩, q⟩ | ⟨⟨xs, hq⟩, q⟩
  · obtain ⟨its, _, p, _⟩ := I1.list hq
    exact wpAny_pyIter_list p.isList ⟨_, _, _, _, H1, rfl, I1.kept (t' := s1.toks) (fun b o e => Heap.get?_push_of_some _ e), turn_list a _, ⟨_, Heap.get?_push_size _ rfl, rfl, rfl⟩, fr, q⟩
  · obtain ⟨its, _, p, _⟩ := I1.tuple hq
    exact wpAny_pyIter_tuple (show s1.heap.IsTuple a its.toArray from p) ⟨_, _, _, _, H1, rfl, I1.kept (t' := s1.toks) (fun b o e => Heap.get?_push_of_some _ e), turn_tuple a _, ⟨_, Heap.get?_push_size _ rfl, rfl, rfl⟩, fr, q⟩⟩
/-- the items of a list that stays, of one just made, of a tuple -/
def itemsOf : R → Option (List PyData)
  | .d (.list xs) => some xs
  | .d (.tuple xs) => some xs
  | .f xs => some xs
  | _ => none
def mSeqI (a : Mx) : Mi := bnd a fun x _ => ret (itemsOf x)
theorem si_seq (hl : SE X l ml) : SI X tg l (mSeqI ml) := PI.imp (pi_seq hl) fun σ H R h => by
  obtain ⟨C, fz, ρ, sto, xs, sto', F, e, k⟩ := h
  obtain ⟨x, s1, ea, e1⟩ := bnd_some e
  obtain ⟨ef, rfl⟩ := ret_some e1
  clear e e1
  refine ⟨C, fz, ρ, sto, x, _, F, ea, fun v fz1 H1 st1 l1 i1 => ?_⟩
  have B1 := F.bs.step st1 l1
  unfold itemsOf at ef
  split at ef
  · cases ef
    cases i1 with
    | lst h im => exact ⟨_, rfl, .inl ⟨⟨_, h.sq⟩, k _ fz1 H1 st1 l1 (goes_list h im B1)⟩⟩
  · cases ef
    cases i1 with
    | tup h im => exact ⟨_, rfl, .inr ⟨⟨_, h⟩, k _ fz1 H1 st1 l1 (goes_tup h im B1)⟩⟩
  · cases ef
    obtain ⟨a, vs, rfl, h1, h2, h3, h4, h5⟩ := i1
    have st2 := st1.freeze h5 h4 h1
    exact ⟨a, rfl, .inl ⟨⟨vs, .inl (.inl h1)⟩, k _ _ H1 st2 l1 (goes_list (.inl ⟨h1, .inr rfl⟩) (h2.fzm fun b q => .inl q) (F.bs.step st2 l1))⟩⟩
  · cases ef
def range1 : List R → Option (List PyData)
  | [.d (.int j)] => if -(2 ^ 62) ≤ j ∧ j < 2 ^ 62 then some (rangeL 0 j.toNat) else none
  | _ => none
def range2 : List R → Option (List PyData)
  | [.d (.int i), .d (.int j)] => if -(2 ^ 62) ≤ i ∧ i < 2 ^ 62 ∧ -(2 ^ 62) ≤ j ∧ j < 2 ^ 62 then some (rangeL i (j - i).toNat) else none
  | _ => none
def mArgI (f : List R → Option (List PyData)) (a : Ma) : Mi := bnd a fun x _ => ret (f x)
variable {a b : Expr} {m : Ma} {p : Pos}
theorem si_range1 (ha : SA X [a] m) (hm : X.mg "range" = none) (hg : Gl X "range" := by rfl) (hs : starEach [a] X.env = [(false, eval a X.env)] := by rfl) : SI X tg (.Call (.Name "range" p) [a] [] pos) (mArgI range1 m) := PI.imp (pi_range1 hg hm ha hs) fun σ H R h => by
  obtain ⟨C, fz, ρ, sto, xs, sto', F, e, k⟩ := h
  obtain ⟨x, s1, ea, e1⟩ := bnd_some e
  obtain ⟨ef, rfl⟩ := ret_some e1
  clear e e1
  refine ⟨C, fz, ρ, sto, x, _, F, ea, fun v fz1 H1 st1 l1 i1 => ?_⟩
  unfold range1 at ef
  split at ef
  · split at ef
    · rename_i hz
      cases ef
      cases i1 with
      | cons i1 t =>
        cases t; cases i1
        exact ⟨_, rfl, hz.1, hz.2, k _ fz1 H1 st1 l1 goes_range⟩
    · cases ef
  · cases ef
theorem si_range2 (ha : SA X [a, b] m) (hm : X.mg "range" = none) (hg : Gl X "range" := by rfl) (hs : starEach [a, b] X.env = [(false, eval a X.env), (false, eval b X.env)] := by rfl) (hs2 : starEach [b] X.env = [(false, eval b X.env)] := by rfl) : SI X tg (.Call (.Name "range" p) [a, b] [] pos) (mArgI range2 m) := PI.imp (pi_range2 hg hm ha hs hs2) fun σ H R h => by
  obtain ⟨C, fz, ρ, sto, xs, sto', F, e, k⟩ := h
  obtain ⟨x, s1, ea, e1⟩ := bnd_some e
  obtain ⟨ef, rfl⟩ := ret_some e1
  clear e e1
  refine ⟨C, fz, ρ, sto, x, _, F, ea, fun v fz1 H1 st1 l1 i1 => ?_⟩
  unfold range2 at ef
  split at ef
  · split at ef
    · rename_i hz
      cases ef
      cases i1 with
      | cons i1 t =>
        cases t with
        | cons i2 t =>
          cases t; cases i1; cases i2
          exact ⟨_, _, rfl, hz, k _ fz1 H1 st1 l1 goes_range⟩
    · cases ef
  · cases ef
/-- zip of two lists, of two tuples -/
def zip2 : List R → Option (List PyData)
  | [.d (.tuple xs), .d (.tuple ys)] => some (pairs xs ys)
  | [x, y] => match toD x, toD y with
    | some (.list xs), some (.list ys) => some (pairs xs ys)
    | _, _ => none
  | _ => none
theorem si_zip {elts : List Expr} {kk : Nat} {tpos : Pos} (ha : SA X [a, b] m) (hm : X.mg "zip" = none) (hg : Gl X "zip" := by rfl) (hs : starEach [a, b] X.env = (false, eval a X.env) :: starEach [b] X.env := by rfl) (hpl : (backTo pos (starEach [b] X.env)).any (·.1) = false := by rfl) :
    SI X (.Tuple elts kk tpos) (.Call (.Name "zip" p) [a, b] [] pos) (mArgI zip2 m) := PI.imp (pi_zipA hg hm ha hs hpl) fun σ H R h => by
  obtain ⟨C, fz, ρ, sto, xs, sto', F, e, k⟩ := h
  obtain ⟨x, s1, ea, e1⟩ := bnd_some e
  obtain ⟨ef, rfl⟩ := ret_some e1
  clear e e1
  refine ⟨C, fz, ρ, sto, x, _, F, ea, fun v fz1 H1 st1 l1 i1 => ?_⟩
  have B1 := F.bs.step st1 l1
  unfold zip2 at ef
  split at ef
  · cases ef
    cases i1 with
    | cons i1 t =>
      cases t with
      | cons i2 t =>
        cases t
        cases i1 with
        | tup h1 m1 =>
          cases i2 with
          | tup h2 m2 => exact ⟨_, _, _, _, rfl, .inr ⟨h1, h2, k _ fz1 H1 st1 l1 (goes_zipT h1 h2 m1 m2 B1)⟩⟩
  · split at ef
    · rename_i q1 q2
      cases ef
      obtain ⟨fz2, st2, B2, g, im⟩ := ImRs.keep (xs := [.list _, .list _]) i1 (by unfold toDs; rw [q1]; unfold toDs; rw [q2]; rfl) st1 B1 fz1 st1 B1 fun _ h => h
      cases im with
      | cons j1 tt =>
        cases tt with
        | cons j2 tt =>
          cases tt
          cases j1 with
          | lst h1 m1 =>
            cases j2 with
            | lst h2 m2 => exact ⟨_, _, _, _, rfl, .inl ⟨h1.sq, h2.sq, k _ fz2 H1 st2 l1 (goes_zipL h1 h2 m1 m2 B2)⟩⟩
    · cases ef
  · cases ef
end
end Dh

/-! Dh8: defs -/
namespace Dh
open PySem PySem.Spec L2 PySem.W

/-- a def's promise, called where no repr is under way -/
structure FnG (P : Program) (w : World) (K : PySem.W.Frag) (mg : Str → Option Value) (base : Heap) (k : Nat) (f : Addr) (fd : FuncData) (ps : List Str) (sp : Sp) : Prop where
  len : ∀ vs H Q E, sp vs H Q E → vs.length = ps.length
  run : ∀ (A : Around) (outer : List Env) (s : Shared) (H : Hp) (args : Args) (us : List Value) (vs : List V) (Q : VK), Room k A → A.guards = some [] → Env0 P w K mg base A outer s H → BindsTo s fd args (ps.zip us) → Vals vs us → sp vs H Q E0 →
    codeAny (model P w) A (.call (.ref f) args) (CR CX0 outer P w H s Q E0) s
theorem FnG.mono {P : Program} {w : World} {K : PySem.W.Frag} {mg : Str → Option Value} {base : Heap} {j k : Nat} {f : Addr} {fd : FuncData} {ps : List Str} {sp : Sp} (F : FnG P w K mg base j f fd ps sp) (h : j ≤ k) : FnG P w K mg base k f fd ps sp :=
  ⟨F.len, fun A outer s H args us vs Q hr => F.run A outer s H args us vs Q (hr.mono h)⟩

def ArgOk (K : PySem.W.Frag) (fz : Fz) (sp : Option Addr) (H : Hp) (v : V) : Cl → Prop
  | .d x => Im K fz H v x
  | .s => IsS sp v
  | .o _ => False
abbrev Fx := List Cl → Sto → Option (R × Sto)
/-- the promise of a def that computes g -/
def spOf (K : PySem.W.Frag) (n : Nat) (g : Fx) : Sp := fun vs H Q _ => ∃ (sp : Option Addr) (fz : Fz) (cs : List Cl) (sto : Sto) (r : R) (sto' : Sto), cs.length = n ∧ Paired (ArgOk K fz sp H) vs cs ∧ Bs sp fz H sto ∧ g cs sto = some (r, sto') ∧
  ∀ v fz' H', Stp sp fz H fz' H' → SpL sp H' sto' → ImR K sp H fz' H' v r → Q v H'
/-- a body as a function of its arguments; n slots -/
def run (n : Nat) (m : Ms) : Fx := fun cs s => match m (cs.map some ++ List.replicate (n - cs.length) none) s with
  | some (.rt r, _, s') => some (r, s')
  | some (.nx, _, s') => some (.d .none, s')
  | _ => none

theorem start_cells (N : List Str) (cs : List Cl) (vs : List V) (h : vs.length = cs.length) : (cs.map some ++ List.replicate (N.length - cs.length) (none : Option Cl)).length = (L2.start N vs).length := by
  unfold L2.start
  simp only [List.length_append, List.length_map, List.length_replicate, h]
theorem pLen {α β : Type} {R : α → β → Prop} : ∀ {l₁ : List α} {l₂ : List β}, Paired R l₁ l₂ → l₁.length = l₂.length
  | _, _, .nil => rfl
  | _, _, .cons _ t => by rw [List.length_cons, List.length_cons, pLen t]
theorem pAt {α β : Type} {R : α → β → Prop} : ∀ {l₁ : List α} {l₂ : List β}, Paired R l₁ l₂ → ∀ (i : Nat) (b : β), l₂[i]? = some b → ∃ a, l₁[i]? = some a ∧ R a b
  | _, _, .nil, i, b, h => by simp at h
  | _, _, .cons r t, 0, b, h => by simp at h; subst h; exact ⟨_, rfl, r⟩
  | _, _, .cons r t, i + 1, b, h => by
    simp only [List.getElem?_cons_succ] at h ⊢
    exact pAt t i b h
section
variable {P : Program} {w : World} {K : PySem.W.Frag} {mg : Str → Option Value} {base : Heap}
/-- the frame at a def's entry -/
theorem fm_start {N : List Str} {sp : Option Addr} {fz : Fz} {cs : List Cl} {sto : Sto} {vs : List V} {H : Hp} (a : Paired (ArgOk K fz sp H) vs cs) (B : Bs sp fz H sto) : Fm K ⟨sp, fz, H⟩ fz (cs.map some ++ List.replicate (N.length - cs.length) none) sto (L2.start N vs) H := by
  have key : ∀ (i : Nat) (c : Cl), (cs.map some ++ List.replicate (N.length - cs.length) (none : Option Cl))[i]? = some (some c) → cs[i]? = some c ∧ ∃ v, (L2.start N vs)[i]? = some (some v) ∧ ArgOk K fz sp H v c := by
    intro i c h
    by_cases hi : i < cs.length
    · rw [List.getElem?_append_left (by rw [List.length_map]; exact hi), List.getElem?_map] at h
      cases q : cs[i]? with
      | none => rw [q] at h; cases h
      | some d =>
        rw [q] at h
        cases h
        obtain ⟨v, hv, r⟩ := pAt a i c q
        refine ⟨rfl, v, ?_, r⟩
        unfold L2.start
        rw [List.getElem?_append_left (by rw [List.length_map, (pLen a)]; exact hi), List.getElem?_map, hv]
        rfl
    · rw [List.getElem?_append_right (by rw [List.length_map]; omega), List.getElem?_replicate] at h
      split at h <;> cases h
  refine ⟨start_cells N cs vs (pLen a), .refl, B, fun i c h => ?_, fun i j xs ys b hij h1 h2 => ?_⟩
  · obtain ⟨_, v, hv, r⟩ := key i c h
    cases c with
    | d x => exact ⟨v, hv, r⟩
    | o xs => exact False.elim r
    | s => obtain ⟨a, ea, rfl⟩ := (show IsS sp v from r); exact ⟨a, ea, hv⟩
  · obtain ⟨_, v, hv, r⟩ := key i _ h1
    exact False.elim r
/-- A DEF: its body as the function m -/
theorem fnG_of {x qual : Str} {st : Stmt} {f : Addr} {fd : FuncData} {N ps : List Str} {k : Nat} {m : Ms} (F : Fun K x qual st f fd) (S : FnScope N ps (defScope st))
    (hb : ∀ (cdv : Value) (A : Around) (outer : List Env) (s : Shared) (H : Hp) (E : XK), Room k (A.deeper (PyProof.Rows.envOfC qual (defScope st) s.heap.objs.size f cdv)) → A.guards = some [] → SL (cxOf CX0 P w K mg base N qual (defScope st) f cdv A outer s H E).nox (defBody st) m) :
    FnG P w K mg base (k + 1) f fd ps (spOf K ps.length (run N.length m)) := by
  obtain ⟨oc, od, kV, doc, pm, an, cdv, ct, osl, rfl, lk, hcd⟩ := F.ex
  have hlen : ∀ vs H Q E, spOf K ps.length (run N.length m) vs H Q E → vs.length = ps.length := by
    rintro vs H Q E ⟨sp, fz, cs, sto, r, sto', hl, a, _⟩
    rw [(pLen a), hl]
  refine ⟨hlen, fun A outer s H args us vs Q hr hg e0 bd rv hsp => ?_⟩
  have hl : vs.length = ps.length := hlen vs H Q E0 hsp
  have hK : K.In s.heap := e0.mod.kin.keeps fun b o q => (e0.bs b o q).1
  have hkind : ∀ y ∈ ps.zip us, (defScope st).names.lookup y.1 = some .local ∨ ((defScope st).names.lookup y.1 = some .cell ∧ ((cellsFrom (s.heap.objs.size + 1) (defScope st).names []).lookup y.1).isSome = true) := by
    rintro ⟨n, v⟩ hy
    rcases S.par n (List.of_mem_zip hy).1 with q | q
    · left; exact q
    · right; exact ⟨q, PySem.W.cellsFrom_some _ _ _ (.inl q)⟩
  have lim := e0.mod.nolimit.keeps fun b o q => (e0.bs b o q).1
  refine codeAny_call_function hr.depth (hK _ _ lk) rfl S.co S.gen rfl (PySem.W.codeRec_of hK hcd) (bd _ _ _ _ (wpAny_newFunctionEnv_cells S.kind hkind ?_))
  rintro env rfl s1 hx
  refine ⟨lim.keeps hx.toInCall.keep, codeAny_func ?_⟩
  obtain ⟨sp, fz, cs, sto, r, sto', hc, a, B, e, q⟩ := hsp
  have I0 := inv_start (CX := CX0) (P := P) (K := K) (mg := mg) (base := base) (E := E0) S hr.hd e0 hl rv hx
  have hbody := (hb cdv A outer s H E0 (hr.deeper _) hg).nox
  have F0 : Fm K ⟨sp, fz, H⟩ fz (cs.map some ++ List.replicate (N.length - cs.length) none) sto (L2.start N vs) H := fm_start a B
  have hrd : rdS K m { nx := fun _ H' => Q .non H', rt := Q } (L2.start N vs) H := by
    unfold run at e
    split at e
    · rename_i r' ρ' s' em
      cases e
      exact ⟨⟨sp, fz, H⟩, fz, _, sto, .rt r, ρ', sto', F0, em, fun fz' σ' H' F' S' v i => q v fz' H' F'.st F'.bs.spl i⟩
    · rename_i ρ' s' em
      cases e
      exact ⟨⟨sp, fz, H⟩, fz, _, sto, .nx, ρ', sto', F0, em, fun fz' σ' H' F' S' => q .non fz' H' F'.st F'.bs.spl .non⟩
    · cases e
  refine wpAny_mono (hbody.run [] s1 (L2.start N vs) H _ I0 hrd) (fun fl s' hs => ?_) fun _ _ z => z
  cases fl with
  | ret u =>
    obtain ⟨v, σ', H', J, rv', qv⟩ := hs
    exact ⟨v, H', J.os, J.bare, J.base, J.hok, rv', qv⟩
  | next =>
    obtain ⟨σ', H', J, qv⟩ := hs
    exact ⟨.non, H', J.os, J.bare, J.base, J.hok, rfl, qv⟩
  | brk => obtain ⟨_, _, _, z⟩ := hs; exact z.elim
  | cont => obtain ⟨_, _, _, z⟩ := hs; exact z.elim
end

/-! ### calls -/
def toArg : R → Option Cl
  | .d x => some (.d x)
  | .f xs => some (.d (.list xs))
  | .s => some .s
  | .b _ => none
def toArgs : List R → Option (List Cl)
  | [] => some []
  | r :: rs => match toArg r, toArgs rs with
    | some x, some xs => some (x :: xs)
    | _, _ => none
/-- a call; π: where each parameter's value stands among the written ones -/
def mCall (g : Fx) (a : Ma) : Mx := bnd a fun rs _ s => match toArgs rs with
  | some cs => g cs s
  | none => none
section
variable {K : PySem.W.Frag} {sp : Option Addr} {fz fz1 : Fz} {H H1 : Hp} {sto : Sto}
theorem ArgOk.fzm {v : V} {c : Cl} (h : ArgOk K fz sp H v c) (g : ∀ a, fz a → fz1 a) : ArgOk K fz1 sp H v c := by
  cases c with
  | d x => exact Im.fzm g h
  | o x => exact h
  | s => exact h
theorem ImRs.args : ∀ {vs : List V} {rs : List R} {cs : List Cl} {fz1 : Fz}, ImRs K sp H fz1 H1 vs rs → toArgs rs = some cs → ∀ fzA : Fz, Stp sp fz H fzA H1 → Bs sp fzA H1 sto → (∀ a, fz1 a → fzA a) →
    ∃ fz2 : Fz, Stp sp fz H fz2 H1 ∧ Bs sp fz2 H1 sto ∧ (∀ a, fzA a → fz2 a) ∧ Paired (ArgOk K fz2 sp H1) vs cs
  | _, _, _, _, .nil, e, fzA, sA, BA, g => by
    cases e
    exact ⟨fzA, sA, BA, fun _ h => h, .nil⟩
  | _, _, _, fz1, .cons (a := v) (b := r) h t, e, fzA, sA, BA, g => by
    unfold toArgs at e
    split at e
    · rename_i x xs e1 e2
      cases e
      have : ∃ fzB : Fz, Stp sp fz H fzB H1 ∧ Bs sp fzB H1 sto ∧ (∀ a, fzA a → fzB a) ∧ ArgOk K fzB sp H1 v x := by
        unfold toArg at e1
        split at e1
        · cases e1
          exact ⟨fzA, sA, BA, fun _ h => h, Im.fzm g h⟩
        · cases e1
          obtain ⟨a, vs, rfl, h1, h2, h3, h4, h5⟩ := h
          refine ⟨_, sA.freeze h5 h4 h1, ⟨BA.spl, fun c ec q => ?_, fun b q z => ?_⟩, fun b q => .inl q, .lst (.inl ⟨h1, .inr rfl⟩) (h2.fzm fun b q => .inl (g b q))⟩
          · rcases q with q | q
            · exact BA.nsp c ec q
            · exact h4 (by subst q; exact ec.symm)
          · rcases q with q | q
            · exact BA.trk b q z
            · subst q; rw [h1] at z; cases z
        · cases e1
          exact ⟨fzA, sA, BA, fun _ h => h, h⟩
        · cases e1
      obtain ⟨fzB, sB, BB, gB, iB⟩ := this
      obtain ⟨fz2, s2, B2, g2, i2⟩ := ImRs.args t e2 fzB sB BB fun a q => gB a (g a q)
      exact ⟨fz2, s2, B2, fun a q => g2 a (gB a q), .cons (iB.fzm g2) i2⟩
    · cases e
end
section
variable {X : Cx} {k : Nat} {f : Addr} {fd : FuncData} {ps : List Str} {x : Str} {p pos : Pos} {e : Expr} {es : List Expr} {m : Ma} {g : Fx}
theorem run_fnG {sp : Sp} {pins : List (Addr × Obj)} {σ : L2.St} {H : Hp} {s : Shared} {Q : VK} {us : List Value} {vs : List V} {args : Args} (F : FnG X.prog X.w X.K X.mg X.base k f fd ps sp) (hr : Room k X.A) (hg : X.A.guards = some [])
    (I : Inv X pins σ H s) (hb : BindsTo s fd args (ps.zip us)) (r : Vals vs us) (h : sp vs H Q E0) : codeAny (model X.prog X.w) X.A (.call (.ref f) args) (fun r s' => match r with | .ok (.ret u) => EP X pins σ Q u s' | .ok _ => False | .error e => X.xe e s') s := by
  refine codeAny_mono (F.run X.A X.stack s H args us vs Q hr hg I.env0 hb r h) fun res s' hq => ?_
  match res, hq with
  | .error e, hq => exact False.elim hq
  | .ok (.ret u), hq => exact I.after hq
  | .ok .next, hq => exact False.elim hq
  | .ok .brk, hq => exact False.elim hq
  | .ok .cont, hq => exact False.elim hq
def tCallG (sp : Sp) (t : TA) : TE := fun σ H Q => t σ H fun vs H1 => sp vs H1 Q E0
theorem pe_callG {sp : Sp} {t : TA} (F : FnG X.prog X.w X.K X.mg X.base k f fd ps sp) (hr : Room k X.A) (hgd : X.A.guards = some []) (hm : X.mg x = some (.ref f)) (hk : PySem.W.keepIn X.K (.ref f) = true) (hb : Binds X.K fd ps []) (ha : PA X (e :: es) t) (hg : Gl X x)
    (hdb : (x == ("__debug__" : Str)) = false := by decide) (he : starEach (e :: es) X.env = (false, eval e X.env) :: starEach es X.env := by rfl) (hpl : (backTo pos (starEach es X.env)).any (·.1) = false := by rfl) :
    PE X (.Call (.Name x p) (e :: es) [] pos) (tCallG sp t) := ⟨fun pins s σ H Q I h => by
  refine wpAny_Call_Name_kw (ld_glob I hg hm (PySem.W.callWith_K (h₀ := X.base) I.ok.mod.kin hk (thn (ha.run pos pins s σ H _ I h) ?_) he hpl) hdb)
  rintro us s1 ⟨vs, H1, I1, r, q⟩
  have hl : (us ++ []).length = ps.length := by rw [List.append_nil, ← r.length]; exact F.len _ _ _ _ q
  have b := hb s1 us I1.kIn hl
  rw [List.append_nil] at b
  refine ⟨I1.kIn, wpAny_call (codeAny_mono (run_fnG F hr hgd I1 b r q) fun res s' hq => ?_)⟩
  match res, hq with
  | .error e, hq => exact hq
  | .ok (.ret u), hq => exact hq
  | .ok .next, hq => exact False.elim hq
  | .ok .brk, hq => exact False.elim hq
  | .ok .cont, hq => exact False.elim hq⟩
theorem rd_call {K : PySem.W.Frag} {n : Nat} {σ : L2.St} {H : Hp} {Q : VK} (hn : ∀ cs s r, g cs s = some r → cs.length = n) (h : rdE K (mCall g m) σ H Q) : tCallG (spOf K n g) (rdA K m) σ H Q := by
  obtain ⟨C, fz, ρ, sto, z, sto', F, e, k⟩ := h
  obtain ⟨rs, s1, ea, e1⟩ := bnd_some e
  clear e
  split at e1
  · rename_i cs ec
    refine ⟨C, fz, ρ, sto, rs, s1, F, ea, fun vs fz1 H1 st1 l1 i1 => ?_⟩
    obtain ⟨fz2, st2, B2, _, a⟩ := ImRs.args i1 ec fz1 st1 (F.bs.step st1 l1) fun _ h => h
    exact ⟨C.sp, fz2, cs, s1, z, sto', hn cs s1 _ e1, a, B2, e1, fun v fz3 H3 st3 l3 i3 => k v fz3 H3 (st2.trans st3) l3 (i3.early st2)⟩
  · cases e1
/-- a def of n parameters -/
def run' (n l : Nat) (m : Ms) : Fx := fun cs s => if cs.length = n then run l m cs s else none
theorem run'_len {n l : Nat} {m : Ms} : ∀ cs s r, run' n l m cs s = some r → cs.length = n := fun cs s r h => by
  unfold run' at h
  split at h
  · assumption
  · cases h
theorem spOf_run' {K : PySem.W.Frag} {n l : Nat} {m : Ms} {vs : List V} {H : Hp} {Q : VK} {E : XK} (h : spOf K n (run' n l m) vs H Q E) : spOf K n (run l m) vs H Q E := by
  obtain ⟨sp, fz, cs, sto, r, sto', hl, a, B, e, q⟩ := h
  unfold run' at e
  rw [if_pos hl] at e
  exact ⟨sp, fz, cs, sto, r, sto', hl, a, B, e, q⟩
theorem FnG.imp {P : Program} {w : World} {K : PySem.W.Frag} {mg : Str → Option Value} {base : Heap} {j : Nat} {f : Addr} {fd : FuncData} {ps : List Str} {sp sp' : Sp} (F : FnG P w K mg base j f fd ps sp) (h : ∀ vs H Q E, sp' vs H Q E → sp vs H Q E) : FnG P w K mg base j f fd ps sp' :=
  ⟨fun vs H Q E q => F.len vs H Q E (h _ _ _ _ q), fun A outer s H args us vs Q hr hg e0 bd rv q => F.run A outer s H args us vs Q hr hg e0 bd rv (h _ _ _ _ q)⟩
theorem se_call {n l : Nat} {mb : Ms} (F : FnG X.prog X.w X.K X.mg X.base k f fd ps (spOf X.K n (run' n l mb))) (hr : Room k X.A) (hgd : X.A.guards = some []) (hm : X.mg x = some (.ref f)) (hk : PySem.W.keepIn X.K (.ref f) = true) (hb : Binds X.K fd ps []) (ha : SA X (e :: es) m) (hg : Gl X x := by rfl)
    (hdb : (x == ("__debug__" : Str)) = false := by decide) (he : starEach (e :: es) X.env = (false, eval e X.env) :: starEach es X.env := by rfl) (hpl : (backTo pos (starEach es X.env)).any (·.1) = false := by rfl) :
    SE X (.Call (.Name x p) (e :: es) [] pos) (mCall (run' n l mb) m) := PE.imp (pe_callG F hr hgd hm hk hb ha hg hdb he hpl) fun _ _ _ h => rd_call run'_len h
end
end Dh

/-! Dh9: built-in functions, slices -/
namespace Dh
open PySem PySem.Spec L2

section
variable {X : Cx} {x : Str} {p pos : Pos} {e : Expr} {es : List Expr} {m : Ma} {id T : String} {r : List V → Hp → VK → Prop} {f : List R → Option R}
theorem se_bi (hc : CallR X (.builtin id) r) (hf : OkA X.K r f) (ha : SA X (e :: es) m) (hm : X.mg x = none) (hv : bootBuiltins x = some (.builtin id)) (hg : Gl X x := by rfl) (hn : x ≠ "__name__" := by decide) (hdb : (x == ("__debug__" : Str)) = false := by decide)
    (he : starEach (e :: es) X.env = (false, eval e X.env) :: starEach es X.env := by rfl) (hpl : (backTo pos (starEach es X.env)).any (·.1) = false := by rfl) : SE X (.Call (.Name x p) (e :: es) [] pos) (mA f m) :=
  PE.imp (pe_callB hc hg hm hv ha hn hdb he hpl) fun _ _ _ h => rd_args hf h
theorem se_ty (hc : CallR X (.type T) r) (hf : OkA X.K r f) (ha : SA X (e :: es) m) (hm : X.mg x = none) (hv : bootBuiltins x = some (.type T)) (hg : Gl X x := by rfl) (hn : x ≠ "__name__" := by decide) (hdb : (x == ("__debug__" : Str)) = false := by decide)
    (he : starEach (e :: es) X.env = (false, eval e X.env) :: starEach es X.env := by rfl) (hpl : (backTo pos (starEach es X.env)).any (·.1) = false := by rfl) : SE X (.Call (.Name x p) (e :: es) [] pos) (mA f m) :=
  PE.imp (pe_callTy hc hg hm hv ha hn hdb he hpl) fun _ _ _ h => rd_args hf h
theorem se_bf (hc : CallR X (.builtin id) r) (hf : OkA X.K r f) (ha : SA X (e :: es) m) (hm : X.mg x = some (.builtin id)) (hg : Gl X x := by rfl) (hdb : (x == ("__debug__" : Str)) = false := by decide)
    (he : starEach (e :: es) X.env = (false, eval e X.env) :: starEach es X.env := by rfl) (hpl : (backTo pos (starEach es X.env)).any (·.1) = false := by rfl) : SE X (.Call (.Name x p) (e :: es) [] pos) (mA f m) :=
  PE.imp (pe_callBfun hc hg hm ha hdb he hpl) fun _ _ _ h => rd_args hf h
end
def fLen : List R → Option R
  | [x] => (rdQ x).map fun xs => .d (.int xs.length)
  | _ => none
def fTupOf : List R → Option R
  | [.d (.tuple xs)] => some (.d (.tuple xs))
  | [x] => (rdL x).map fun xs => .d (.tuple xs)
  | _ => none
def fLstOf : List R → Option R
  | [x] => (rdQ x).map fun xs => .f xs
  | _ => none
def boolsOf : List PyData → Option (List Bool)
  | [] => some []
  | .bool b :: r => (boolsOf r).map (b :: ·)
  | _ => none
def intsOf : List PyData → Option (List Int)
  | [] => some []
  | .int b :: r => (intsOf r).map (b :: ·)
  | _ => none
def fAll : List R → Option R
  | [x] => match rdL x with | some xs => (boolsOf xs).map fun bs => .d (.bool (bs.all id)) | none => none
  | _ => none
def fAny : List R → Option R
  | [x] => match rdL x with | some xs => (boolsOf xs).map fun bs => .d (.bool (bs.any id)) | none => none
  | _ => none
def fSum : List R → Option R
  | [x] => match rdL x with | some xs => (intsOf xs).map fun ns => .d (.int ns.sum) | none => none
  | _ => none
def fAbs : List R → Option R
  | [.d (.int i)] => some (.d (.int (if i < 0 then -i else i)))
  | _ => none
def fInt : List R → Option R
  | [.d (.int i)] => some (.d (.int i))
  | [.d (.bool k)] => some (.d (.int (if k then 1 else 0)))
  | _ => none
def fGcd : List R → Option R
  | [.d (.int i), .d (.int j)] => some (.d (.int ((Nat.gcd i.natAbs j.natAbs : Nat) : Int)))
  | _ => none
def fDivmod : List R → Option R
  | [.d (.int i), .d (.int j)] => if 0 < j ∧ Builtin.divisionGoesByPylong i j = false then some (.d (.tuple [.int (i / j), .int (i % j)])) else none
  | _ => none
def fStr : List R → Option R
  | [.d (.int i)] => if i.natAbs.log2 < 1920 then some (.d (.str (toString i))) else none
  | _ => none
def fMax2 : List R → Option R
  | [.d (.int m), .d (.int n)] => some (.d (.int (if n > m then n else m)))
  | _ => none
def fMin2 : List R → Option R
  | [.d (.int m), .d (.int n)] => some (.d (.int (if n < m then n else m)))
  | _ => none
section
variable {K : PySem.W.Frag} {fz : Fz} {H : Hp}
theorem boolsOf_im : ∀ {vs : List V} {xs : List PyData} {bs : List Bool}, ImA K fz H vs xs → boolsOf xs = some bs → vs = bs.map V.bl
  | _, _, _, .nil, e => by cases e; rfl
  | _, d :: ds, _, .cons h t, e => by
    cases d with
    | bool b =>
      simp only [boolsOf] at e
      cases q2 : boolsOf ds with
      | none => rw [q2] at e; cases e
      | some bs => rw [q2] at e; cases e; cases h; rw [boolsOf_im t q2]; rfl
    | _ => simp [boolsOf] at e
theorem intsOf_im : ∀ {vs : List V} {xs : List PyData} {bs : List Int}, ImA K fz H vs xs → intsOf xs = some bs → vs = bs.map V.int
  | _, _, _, .nil, e => by cases e; rfl
  | _, d :: ds, _, .cons h t, e => by
    cases d with
    | int b =>
      simp only [intsOf] at e
      cases q2 : intsOf ds with
      | none => rw [q2] at e; cases e
      | some bs => rw [q2] at e; cases e; cases h; rw [intsOf_im t q2]; rfl
    | _ => simp [intsOf] at e
end
section
variable {X : Cx} {x : Str} {p pos : Pos} {e : Expr} {es : List Expr} {m : Ma}
theorem ok_len : OkA X.K (fun xs H Q => ∃ p ys, xs = [.ref p] ∧ (SqL X.K H p ys ∨ SqT X.K H p ys) ∧ Q (.int ys.length) H) fLen := by
  intro sp fz fzS H H0 sto vs xs z Q s B i e k
  unfold fLen at e
  split at e
  · rename_i r
    cases q : rdQ r with
    | none => rw [q] at e; cases e
    | some ds =>
      rw [q] at e; cases e
      cases i with
      | cons i t =>
        cases t
        obtain ⟨a, ws, rfl, h, im⟩ := i.seq q
        refine ⟨a, ws, rfl, h, k _ fz H s B.spl ?_⟩
        rw [im.length]
        exact .int _
  · cases e
theorem ok_tupOf : OkA X.K (fun xs H Q => ∃ p ys, xs = [.ref p] ∧ ((SqL X.K H p ys ∧ ∀ l, H l = none → Q (.ref l) (upd H l (.tup ys))) ∨ (SqT X.K H p ys ∧ Q (.ref p) H))) fTupOf := by
  intro sp fz fzS H H0 sto vs xs z Q s B i e k
  unfold fTupOf at e
  split at e
  · cases e
    cases i with
    | cons i t =>
      cases t
      cases i with
      | tup h im => exact ⟨_, _, rfl, .inr ⟨h, k _ fz H s B.spl (show Im _ _ _ _ _ from .tup h im)⟩⟩
  · rename_i r _
    cases q : rdL r with
    | none => rw [q] at e; cases e
    | some ds =>
      rw [q] at e; cases e
      cases i with
      | cons i t =>
        cases t
        obtain ⟨a, ws, rfl, h, im⟩ := i.list q
        refine ⟨a, ws, rfl, .inl ⟨h, fun l hl => ?_⟩⟩
        obtain ⟨s3, l3, i3⟩ := new_tup B im hl
        exact k _ fz _ (s.trans s3) l3 i3
  · cases e
theorem ok_lstOf : OkA X.K (fun xs H Q => ∃ p ys, xs = [.ref p] ∧ (SqL X.K H p ys ∨ SqT X.K H p ys) ∧ ∀ l, H l = none → Q (.ref l) (upd H l (.lst ys))) fLstOf := by
  intro sp fz fzS H H0 sto vs xs z Q s B i e k
  unfold fLstOf at e
  split at e
  · rename_i r
    cases q : rdQ r with
    | none => rw [q] at e; cases e
    | some ds =>
      rw [q] at e; cases e
      cases i with
      | cons i t =>
        cases t
        obtain ⟨a, ws, rfl, h, im⟩ := i.seq q
        refine ⟨a, ws, rfl, h, fun l hl => ?_⟩
        obtain ⟨s3, l3, i3⟩ := new_lst B im hl
        exact k _ fz _ (s.trans s3) l3 (i3.early s)
  · cases e
theorem ok_all : OkA X.K (rAll X.K) fAll := by
  intro sp fz fzS H H0 sto vs xs z Q s B i e k
  unfold fAll at e
  split at e
  · rename_i r
    split at e
    · rename_i ds q
      cases q2 : boolsOf ds with
      | none => rw [q2] at e; cases e
      | some bs =>
        rw [q2] at e; cases e
        cases i with
        | cons i t =>
          cases t
          obtain ⟨a, ws, rfl, h, im⟩ := i.list q
          rw [boolsOf_im im q2] at h
          exact ⟨a, bs, rfl, h, k _ fz H s B.spl (.bl _)⟩
    · cases e
  · cases e
theorem ok_any : OkA X.K (rAny X.K) fAny := by
  intro sp fz fzS H H0 sto vs xs z Q s B i e k
  unfold fAny at e
  split at e
  · rename_i r
    split at e
    · rename_i ds q
      cases q2 : boolsOf ds with
      | none => rw [q2] at e; cases e
      | some bs =>
        rw [q2] at e; cases e
        cases i with
        | cons i t =>
          cases t
          obtain ⟨a, ws, rfl, h, im⟩ := i.list q
          rw [boolsOf_im im q2] at h
          exact ⟨a, bs, rfl, h, k _ fz H s B.spl (.bl _)⟩
    · cases e
  · cases e
theorem ok_sum : OkA X.K (rSum X.K) fSum := by
  intro sp fz fzS H H0 sto vs xs z Q s B i e k
  unfold fSum at e
  split at e
  · rename_i r
    split at e
    · rename_i ds q
      cases q2 : intsOf ds with
      | none => rw [q2] at e; cases e
      | some bs =>
        rw [q2] at e; cases e
        cases i with
        | cons i t =>
          cases t
          obtain ⟨a, ws, rfl, h, im⟩ := i.list q
          rw [intsOf_im im q2] at h
          exact ⟨a, bs, rfl, h, k _ fz H s B.spl (.int _)⟩
    · cases e
  · cases e
theorem ok_abs : OkA X.K (fun xs H Q => ∃ i, xs = [.int i] ∧ Q (.int (if i < 0 then -i else i)) H) fAbs := by
  intro sp fz fzS H H0 sto vs xs z Q s B i e k
  unfold fAbs at e
  split at e
  · cases e
    cases i with
    | cons i t => cases t; cases i; exact ⟨_, rfl, k _ fz H s B.spl (.int _)⟩
  · cases e
theorem ok_int : OkA X.K (fun xs H Q => (∃ i, xs = [.int i] ∧ Q (.int i) H) ∨ ∃ k, xs = [.bl k] ∧ Q (.int (if k then 1 else 0)) H) fInt := by
  intro sp fz fzS H H0 sto vs xs z Q s B i e k
  unfold fInt at e
  split at e
  · cases e
    cases i with
    | cons i t => cases t; cases i; exact .inl ⟨_, rfl, k _ fz H s B.spl (.int _)⟩
  · cases e
    cases i with
    | cons i t => cases t; cases i; exact .inr ⟨_, rfl, k _ fz H s B.spl (.int _)⟩
  · cases e
theorem ok_gcd : OkA X.K rGcd fGcd := by
  intro sp fz fzS H H0 sto vs xs z Q s B i e k
  unfold fGcd at e
  split at e
  · cases e
    cases i with
    | cons i t =>
      cases t with
      | cons j t => cases t; cases i; cases j; exact ⟨_, _, rfl, k _ fz H s B.spl (.int _)⟩
  · cases e
theorem ok_max2 : OkA X.K (fun xs H Q => ∃ i j, xs = [.int i, .int j] ∧ Q (.int (if j > i then j else i)) H) fMax2 := by
  intro sp fz fzS H H0 sto vs xs z Q s B i e k
  unfold fMax2 at e
  split at e
  · cases e
    cases i with
    | cons i t =>
      cases t with
      | cons j t => cases t; cases i; cases j; exact ⟨_, _, rfl, k _ fz H s B.spl (.int _)⟩
  · cases e
theorem ok_min2 : OkA X.K (fun xs H Q => ∃ i j, xs = [.int i, .int j] ∧ Q (.int (if j < i then j else i)) H) fMin2 := by
  intro sp fz fzS H H0 sto vs xs z Q s B i e k
  unfold fMin2 at e
  split at e
  · cases e
    cases i with
    | cons i t =>
      cases t with
      | cons j t => cases t; cases i; cases j; exact ⟨_, _, rfl, k _ fz H s B.spl (.int _)⟩
  · cases e
theorem ok_divmod : OkA X.K (fun xs H Q => ∃ i j, xs = [.int i, .int j] ∧ CDivP i j ∧ ∀ p, H p = none → Q (.ref p) (upd H p (.tup [.int (i / j), .int (i % j)]))) fDivmod := by
  intro sp fz fzS H H0 sto vs xs z Q s B i e k
  unfold fDivmod at e
  split at e
  · split at e
    · rename_i hz
      cases e
      cases i with
      | cons i t =>
        cases t with
        | cons j t =>
          cases t; cases i; cases j
          refine ⟨_, _, rfl, hz, fun q hq => ?_⟩
          obtain ⟨s3, l3, i3⟩ := new_tup (K := X.K) B (.cons (.int _) (.cons (.int _) .nil)) hq
          exact k _ fz _ (s.trans s3) l3 i3
    · cases e
  · cases e
theorem ok_str : OkA X.K (fun xs H Q => ∃ i, xs = [.int i] ∧ i.natAbs.log2 < 1920 ∧ Q (.str (toString i)) H) fStr := by
  intro sp fz fzS H H0 sto vs xs z Q s B i e k
  unfold fStr at e
  split at e
  · split at e
    · rename_i hz
      cases e
      cases i with
      | cons i t => cases t; cases i; exact ⟨_, rfl, hz, k _ fz H s B.spl (.str _)⟩
    · cases e
  · cases e

theorem se_len (ha : SA X (e :: es) m) (hm : X.mg "len" = none) (hg : Gl X "len" := by rfl) (he : starEach (e :: es) X.env = (false, eval e X.env) :: starEach es X.env := by rfl) (hpl : (backTo pos (starEach es X.env)).any (·.1) = false := by rfl) : SE X (.Call (.Name "len" p) (e :: es) [] pos) (mA fLen m) :=
  se_bi call_len_seq ok_len ha hm PySem.boot_len hg (by decide) (by decide) he hpl
theorem se_all (hc : X.calm = true) (ha : SA X (e :: es) m) (hm : X.mg "all" = none) (hg : Gl X "all" := by rfl) (he : starEach (e :: es) X.env = (false, eval e X.env) :: starEach es X.env := by rfl) (hpl : (backTo pos (starEach es X.env)).any (·.1) = false := by rfl) : SE X (.Call (.Name "all" p) (e :: es) [] pos) (mA fAll m) :=
  se_bi (cr_all hc) ok_all ha hm (by decide +kernel) hg (by decide) (by decide) he hpl
theorem se_any (hc : X.calm = true) (ha : SA X (e :: es) m) (hm : X.mg "any" = none) (hg : Gl X "any" := by rfl) (he : starEach (e :: es) X.env = (false, eval e X.env) :: starEach es X.env := by rfl) (hpl : (backTo pos (starEach es X.env)).any (·.1) = false := by rfl) : SE X (.Call (.Name "any" p) (e :: es) [] pos) (mA fAny m) :=
  se_bi (cr_any hc) ok_any ha hm (by decide +kernel) hg (by decide) (by decide) he hpl
theorem se_sum (hc : X.calm = true) (ha : SA X (e :: es) m) (hm : X.mg "sum" = none) (hg : Gl X "sum" := by rfl) (he : starEach (e :: es) X.env = (false, eval e X.env) :: starEach es X.env := by rfl) (hpl : (backTo pos (starEach es X.env)).any (·.1) = false := by rfl) : SE X (.Call (.Name "sum" p) (e :: es) [] pos) (mA fSum m) :=
  se_bi (cr_sum hc) ok_sum ha hm (by decide +kernel) hg (by decide) (by decide) he hpl
theorem se_abs (ha : SA X (e :: es) m) (hm : X.mg "abs" = none) (hg : Gl X "abs" := by rfl) (he : starEach (e :: es) X.env = (false, eval e X.env) :: starEach es X.env := by rfl) (hpl : (backTo pos (starEach es X.env)).any (·.1) = false := by rfl) : SE X (.Call (.Name "abs" p) (e :: es) [] pos) (mA fAbs m) :=
  se_bi call_abs ok_abs ha hm (by decide +kernel) hg (by decide) (by decide) he hpl
theorem se_divmod (ha : SA X (e :: es) m) (hm : X.mg "divmod" = none) (hg : Gl X "divmod" := by rfl) (he : starEach (e :: es) X.env = (false, eval e X.env) :: starEach es X.env := by rfl) (hpl : (backTo pos (starEach es X.env)).any (·.1) = false := by rfl) : SE X (.Call (.Name "divmod" p) (e :: es) [] pos) (mA fDivmod m) :=
  se_bi call_divmodW ok_divmod ha hm (by decide +kernel) hg (by decide) (by decide) he hpl
theorem se_max2 (hc : X.calm = true) (ha : SA X (e :: es) m) (hm : X.mg "max" = none) (hg : Gl X "max" := by rfl) (he : starEach (e :: es) X.env = (false, eval e X.env) :: starEach es X.env := by rfl) (hpl : (backTo pos (starEach es X.env)).any (·.1) = false := by rfl) : SE X (.Call (.Name "max" p) (e :: es) [] pos) (mA fMax2 m) :=
  se_bi (call_max2 hc) ok_max2 ha hm (by decide +kernel) hg (by decide) (by decide) he hpl
theorem se_min2 (hc : X.calm = true) (ha : SA X (e :: es) m) (hm : X.mg "min" = none) (hg : Gl X "min" := by rfl) (he : starEach (e :: es) X.env = (false, eval e X.env) :: starEach es X.env := by rfl) (hpl : (backTo pos (starEach es X.env)).any (·.1) = false := by rfl) : SE X (.Call (.Name "min" p) (e :: es) [] pos) (mA fMin2 m) :=
  se_bi (call_min2 hc) ok_min2 ha hm (by decide +kernel) hg (by decide) (by decide) he hpl
theorem se_tuple (ha : SA X (e :: es) m) (hm : X.mg "tuple" = none) (hg : Gl X "tuple" := by rfl) (he : starEach (e :: es) X.env = (false, eval e X.env) :: starEach es X.env := by rfl) (hpl : (backTo pos (starEach es X.env)).any (·.1) = false := by rfl) : SE X (.Call (.Name "tuple" p) (e :: es) [] pos) (mA fTupOf m) :=
  se_ty call_tuple_of ok_tupOf ha hm (by decide +kernel) hg (by decide) (by decide) he hpl
theorem se_list (ha : SA X (e :: es) m) (hm : X.mg "list" = none) (hg : Gl X "list" := by rfl) (he : starEach (e :: es) X.env = (false, eval e X.env) :: starEach es X.env := by rfl) (hpl : (backTo pos (starEach es X.env)).any (·.1) = false := by rfl) : SE X (.Call (.Name "list" p) (e :: es) [] pos) (mA fLstOf m) :=
  se_ty call_list_of ok_lstOf ha hm (by decide +kernel) hg (by decide) (by decide) he hpl
theorem se_toint (ha : SA X (e :: es) m) (hm : X.mg "int" = none) (hg : Gl X "int" := by rfl) (he : starEach (e :: es) X.env = (false, eval e X.env) :: starEach es X.env := by rfl) (hpl : (backTo pos (starEach es X.env)).any (·.1) = false := by rfl) : SE X (.Call (.Name "int" p) (e :: es) [] pos) (mA fInt m) :=
  se_ty call_int1 ok_int ha hm (by decide +kernel) hg (by decide) (by decide) he hpl
theorem se_tostr (ha : SA X (e :: es) m) (hm : X.mg "str" = none) (hg : Gl X "str" := by rfl) (he : starEach (e :: es) X.env = (false, eval e X.env) :: starEach es X.env := by rfl) (hpl : (backTo pos (starEach es X.env)).any (·.1) = false := by rfl) : SE X (.Call (.Name "str" p) (e :: es) [] pos) (mA fStr m) :=
  se_ty call_str_int ok_str ha hm (by decide +kernel) hg (by decide) (by decide) he hpl
theorem se_gcd (ha : SA X (e :: es) m) (hm : X.mg "gcd" = some (.builtin "math.gcd")) (hg : Gl X "gcd" := by rfl) (he : starEach (e :: es) X.env = (false, eval e X.env) :: starEach es X.env := by rfl) (hpl : (backTo pos (starEach es X.env)).any (·.1) = false := by rfl) : SE X (.Call (.Name "gcd" p) (e :: es) [] pos) (mA fGcd m) :=
  se_bf cr_gcd ok_gcd ha hm hg (by decide) he hpl
end

/-! ### repr -/
mutual
theorem noDict_has : ∀ d : PyData, noDict d = true → d.hasDict = false
  | .none, _ => rfl
  | .bool _, _ => rfl
  | .int _, _ => rfl
  | .str _, _ => rfl
  | .list xs, h => by simp only [PyData.hasDict]; exact noDicts_has xs (by simpa [noDict] using h)
  | .tuple xs, h => by simp only [PyData.hasDict]; exact noDicts_has xs (by simpa [noDict] using h)
  | .dict _, h => by simp [noDict] at h
theorem noDicts_has : ∀ d : List PyData, noDicts d = true → PyData.hasDictAll d = false
  | [], _ => by simp [PyData.hasDictAll]
  | x :: xs, h => by
    simp only [noDicts, Bool.and_eq_true] at h
    simp only [PyData.hasDictAll, noDict_has x h.1, noDicts_has xs h.2, Bool.or_self]
end
def isSeq : PyData → Bool
  | .list _ => true
  | .tuple _ => true
  | _ => false
def reprOk (d : PyData) : Bool := isSeq d && noDict d && d.showable && decide (d.depth ≤ 60) && decide (d.shown.length ≤ sizeLine)
def fRepr : List R → Option R
  | [x] => match rdD x with
    | some d => if reprOk d = true then some (.d (.str d.shown)) else none
    | none => none
  | _ => none
section
variable {X : Cx} {p pos : Pos} {e : Expr} {es : List Expr} {m : Ma} {k : Nat}
def rRepr (K : PySem.W.Frag) : List V → Hp → VK → Prop := fun xs H Q => ∃ a d, xs = [.ref a] ∧ Dp K H (.ref a) d ∧ reprOk d = true ∧ Q (.str d.shown) H
theorem call_reprD (hr : Room k X.A) (hg : X.A.guards = some []) : CallR X (.builtin "repr") (rRepr X.K) := by
  intro pins s σ H vs us Q I r h
  obtain ⟨a, d, rfl, hd, ok, q⟩ := h
  simp only [reprOk, Bool.and_eq_true, decide_eq_true_eq] at ok
  obtain ⟨⟨⟨⟨_, nd⟩, sh⟩, dp⟩, sz⟩ := ok
  cases r with
  | cons r t =>
    cases t
    cases r
    obtain ⟨as, rd⟩ := Dp.reads I d _ _ hd rfl
    have hu := hr.units
    exact repr_of_reads' rd sh (PyData.noDict_hsm (noDict_has d nd)) hg (by omega) (fun b o e => e) (fun h' u tk kk => ⟨.str d.shown, H, I.kept (t' := tk) kk, ⟨_, rfl⟩, q⟩) sz
theorem ok_repr : OkA X.K (rRepr X.K) fRepr := by
  intro sp fz fzS H H0 sto vs xs z Q s B i e k
  unfold fRepr at e
  split at e
  · rename_i r
    split at e
    · rename_i d q
      split at e
      · rename_i ok
        cases e
        cases i with
        | cons i t =>
          cases t
          have ok2 := ok
          simp only [reprOk, Bool.and_eq_true, decide_eq_true_eq] at ok2
          obtain ⟨⟨⟨⟨sq, nd⟩, _⟩, _⟩, _⟩ := ok2
          have dp := i.dp q nd
          have : ∃ a, ‹V› = .ref a := by
            cases dp <;> first | exact ⟨_, rfl⟩ | (simp [isSeq] at sq)
          obtain ⟨a, rfl⟩ := this
          exact ⟨a, d, rfl, dp, ok, k _ fz H s B.spl (.str _)⟩
      · cases e
    · cases e
  · cases e
theorem se_repr (hr : Room k X.A) (hgd : X.A.guards = some []) (ha : SA X (e :: es) m) (hm : X.mg "repr" = none) (hg : Gl X "repr" := by rfl) (he : starEach (e :: es) X.env = (false, eval e X.env) :: starEach es X.env := by rfl) (hpl : (backTo pos (starEach es X.env)).any (·.1) = false := by rfl) : SE X (.Call (.Name "repr" p) (e :: es) [] pos) (mA fRepr m) :=
  se_bi (call_reprD hr hgd) ok_repr ha hm (by decide +kernel) hg (by decide) (by decide) he hpl
end

/-! ### isinstance -/
def tyName : PyData → String
  | .none => "NoneType"
  | .bool _ => "bool"
  | .int _ => "int"
  | .str _ => "str"
  | .list _ => "list"
  | .tuple _ => "tuple"
  | .dict _ => "dict"
def isN (T S : String) : Bool := S == T || (T == "int" && S == "bool")
def isA (T : String) (d : PyData) : Bool := isN T (tyName d)
def fIsi (T : String) (x : R) : Option R := (rdD x).map fun d => .d (.bool (isA T d))
section
variable {K : PySem.W.Frag} {sp : Option Addr} {fz : Fz} {H H0 : Hp} {v : V} {x : R} {d : PyData}
theorem ImR.ty (i : ImR K sp H0 fz H v x) (e : rdD x = some d) : TyX K H v (.type (tyName d)) := by
  cases x with
  | d y =>
    cases e
    cases i with
    | non => exact .base .non
    | bl b => exact .base (.bl b)
    | int b => exact .base (.int b)
    | str b => exact .base (.str b)
    | lst h _ =>
      rcases h with ⟨h, _⟩ | ⟨o, h⟩ | ⟨o, its, n, h, c, _⟩
      · exact .base (.lst h)
      · exact .base (.frz h)
      · exact .kList h c
    | tup h _ =>
      rcases h with (h | ⟨o, h⟩) | ⟨o, its, n, h, c, _⟩
      · exact .base (.tup h)
      · exact .fTuple h
      · exact .kTuple h c
    | dct h _ _ _ => exact .base (.dK h)
  | f xs => cases e; obtain ⟨a, vs, rfl, h, _⟩ := i; exact .base (.lst h)
  | b xs => cases e; obtain ⟨a, vs, rfl, h, _⟩ := i; exact .base (.lst h)
  | s => cases e
end
/-- the built-in classes that are asked for -/
def known (T : String) : Bool := ["int", "bool", "tuple", "str", "list", "dict"].contains T
theorem kit_names : ∀ S ∈ ["NoneType", "bool", "int", "str", "list", "tuple", "dict"], ∀ T ∈ ["int", "bool", "tuple", "str", "list", "dict"], kitB S T = some (isN T S) := by decide +kernel
theorem tyName_mem (d : PyData) : tyName d ∈ ["NoneType", "bool", "int", "str", "list", "tuple", "dict"] := by cases d <;> simp [tyName]
theorem kit_known {K : PySem.W.Frag} {T : String} (h : known T = true) (d : PyData) : PySem.W.kitOne K (.type (tyName d)) (.type T) = some (isA T d) :=
  kit_ty (kit_names _ (tyName_mem d) T (by simpa [known] using h))
section
variable {X : Cx} {p p2 pos : Pos} {e : Expr} {T : String} {x : Str} {me : Mx}
theorem se_isi (hT : known T = true) (he : SE X e me) (hm : X.mg "isinstance" = none) (hm2 : X.mg x = none) (hv : bootBuiltins x = some (.type T)) (hg : Gl X "isinstance" := by rfl) (hg2 : Gl X x := by rfl) (hn2 : x ≠ "__name__" := by decide) (hd2 : (x == ("__debug__" : Str)) = false := by decide)
    (h1 : starEach [e, .Name x p2] X.env = (false, eval e X.env) :: starEach [.Name x p2] X.env := by rfl) (hpl : (backTo pos (starEach [.Name x p2] X.env)).any (·.1) = false := by rfl) : SE X (.Call (.Name "isinstance" p) [e, .Name x p2] [] pos) (m1 (fIsi T) me) :=
  PE.imp (pe_callB call_isi hg hm (by decide +kernel) (pa_cons he (pa_cons (pe_bltn (v := .ty T) hg2 hm2 hv rfl hn2 hd2) pa_nil) h1) (by decide) (by decide) h1 hpl) fun σ H Q h => by
    refine rd_one (r := fun v H Q => rIsi X.K [v, .ty T] H Q) ?_ h
    intro sp fz H H0 sto v x z Q B ix e k
    unfold fIsi at e
    cases q : rdD x with
    | none => rw [q] at e; cases e
    | some d =>
      rw [q] at e; cases e
      exact ⟨v, .ty T, _, _, _, rfl, .ty T, ix.ty q, kit_known hT d, k _ fz H .refl B.spl (.inl (.bl _))⟩
end

/-! ### slices -/
abbrev Mo := Ev → Sto → Option (Option Int × Sto)
def rdO (K : PySem.W.Frag) (m : Mo) : TO := fun σ H Q => ∃ (C : Cn) (fz : Fz) (ρ : Ev) (sto : Sto) (r : Option Int) (sto' : Sto), Fm K C fz ρ sto σ H ∧ m ρ sto = some (r, sto') ∧ ∀ fz' H', Stp C.sp fz H fz' H' → SpL C.sp H' sto' → Q r H'
def SO (X : Cx) (e : Option Expr) (m : Mo) : Prop := PO X e (rdO X.K m)
def moNone : Mo := fun _ s => some (none, s)
def moSome (a : Mx) : Mo := bnd a fun x _ => ret (match x with | .d (.int i) => some (some i) | _ => none)
theorem PO.imp {X : Cx} {e : Option Expr} {t t' : TO} (h : PO X e t) (q : ∀ σ H Q, t' σ H Q → t σ H Q) : PO X e t' := ⟨fun pins s σ H Q I w => h.run pins s σ H Q I (q _ _ _ w)⟩
def cutD (xs : List PyData) (lo hi : Option Int) : List PyData := (xs.drop (HT.sIx xs.length 0 lo)).take (HT.sIx xs.length xs.length hi - HT.sIx xs.length 0 lo)
theorem ImA.cut {K : PySem.W.Frag} {fz : Fz} {H : Hp} {vs : List V} {xs : List PyData} (h : ImA K fz H vs xs) (lo hi : Option Int) : ImA K fz H (cutV vs lo hi) (cutD xs lo hi) := by
  unfold cutV cutD
  rw [h.length]
  exact (h.drop _).take _
def fSl (x : R) (lo hi : Option Int) : Option R := match x with
  | .d (.tuple xs) => some (.d (.tuple (cutD xs lo hi)))
  | x => (rdL x).map fun xs => .f (cutD xs lo hi)
def mSl (a : Mx) (l h : Mo) : Mx := bnd a fun x => bnd l fun lo => bnd h fun hi _ => ret (fSl x lo hi)
section
variable {X : Cx} {e : Expr} {a b : Option Expr} {me : Mx} {ma mb : Mo} {p2 pos : Pos}
theorem so_none : SO X none moNone := PO.imp po_none fun σ H Q h => by
  obtain ⟨C, fz, ρ, sto, r, sto', F, e, k⟩ := h
  cases e
  exact k fz H .refl F.bs.spl
theorem so_some (he : SE X e me) : SO X (some e) (moSome me) := PO.imp (po_some he) fun σ H Q h => by
  obtain ⟨C, fz, ρ, sto, r, sto', F, e, k⟩ := h
  obtain ⟨x, s1, ea, e1⟩ := bnd_some e
  obtain ⟨ef, rfl⟩ := ret_some e1
  clear e e1
  refine ⟨C, fz, ρ, sto, x, _, F, ea, fun v fz1 H1 st1 l1 i1 => ?_⟩
  split at ef
  · cases ef; cases i1
    exact ⟨_, rfl, k fz1 H1 st1 l1⟩
  · cases ef
theorem cut_whole {xs : List PyData} {lo hi : Option Int} (h : HT.sIx xs.length 0 lo = 0 ∧ HT.sIx xs.length xs.length hi = xs.length) : cutD xs lo hi = xs := by
  unfold cutD
  rw [h.1, h.2, List.drop_zero, Nat.sub_zero, List.take_length]
theorem se_sl (he : SE X e me) (ha : SO X a ma) (hb : SO X b mb) : SE X (.Subscript e (.Slice a b none p2) pos) (mSl me ma mb) := PE.imp (pe_slice (sl_list.or sl_tupA) he ha hb) fun σ H Q h => by
  obtain ⟨C, fz, ρ, sto, z, sto', F, e, k⟩ := h
  obtain ⟨x, s1, ea, e1⟩ := bnd_some e
  obtain ⟨lo, s2, eb, e2⟩ := bnd_some e1
  obtain ⟨hi, s3, ec, e3⟩ := bnd_some e2
  obtain ⟨ef, rfl⟩ := ret_some e3
  clear e e1 e2 e3
  refine ⟨C, fz, ρ, sto, x, s1, F, ea, fun v fz1 H1 st1 l1 i1 => ?_⟩
  have F1 := F.step st1 l1
  refine ⟨C, fz1, ρ, s1, lo, s2, F1, eb, fun fz2 H2 st2 l2 => ?_⟩
  have F2 := F1.step st2 l2
  refine ⟨C, fz2, ρ, s2, hi, _, F2, ec, fun fz3 H3 st3 l3 => ?_⟩
  have F3 := F2.step st3 l3
  have st := (st1.trans st2).trans st3
  have i3 := (i1.stp st2 F1.bs).stp st3 F2.bs
  unfold fSl at ef
  split at ef
  · cases ef
    obtain ⟨q, vs, rfl, h1, h2⟩ := i3.tup
    refine .inr ⟨q, vs, rfl, h1, fun hw => ?_, fun _ p hp => ?_⟩
    · rw [h2.length] at hw
      refine k _ fz3 H3 st l3 ?_
      rw [cut_whole hw]
      exact i3
    · obtain ⟨s4, l4, i4⟩ := new_tup F3.bs (h2.cut lo hi) hp
      exact k _ fz3 _ (st.trans s4) l4 i4
  · rename_i x' _
    cases q : rdL x with
    | none => rw [q] at ef; cases ef
    | some xs =>
      rw [q] at ef; cases ef
      obtain ⟨q, vs, rfl, h1, h2⟩ := i3.list q
      refine .inl ⟨q, vs, rfl, h1, fun p hp => ?_⟩
      obtain ⟨s4, l4, i4⟩ := new_lst F3.bs (h2.cut lo hi) hp
      exact k _ fz3 _ (st.trans s4) l4 (i4.early st)
end
end Dh

/-! Dh10: keyword calls, the spring's pair, enumerate -/
namespace Dh
open PySem PySem.Spec L2 PySem.W

/-! ### f(k = v, ..) -/
/-- the values of the parameters, by the places of the keywords -/
def perm {α : Type} (d : α) (π : List Nat) (xs : List α) : List α := π.map fun i => xs.getD i d
def KB0 (K : PySem.W.Frag) (fd : FuncData) (ps ks : List Str) (π : List Nat) : Prop := ∀ (s : Shared) (ws : List Value), K.In s.heap → ws.length = ks.length → BindsTo s fd ⟨[], ks.zip ws⟩ (ps.zip (perm Value.none π ws))
def mCallK (g : Fx) (π : List Nat) (n : Nat) (a : Ma) : Mx := bnd a fun rs _ s => match toArgs rs with
  | some cs => if cs.length = n then g (perm (.d .none) π cs) s else none
  | none => none
theorem perm_vals {π : List Nat} {vs : List V} {us : List Value} (r : Vals vs us) : Vals (perm V.non π vs) (perm Value.none π us) := by
  induction π with
  | nil => exact .nil
  | cons i π ih =>
    refine .cons ?_ ih
    show RelV (vs.getD i V.non) (us.getD i Value.none)
    rw [List.getD_eq_getElem?_getD, List.getD_eq_getElem?_getD]
    cases q : vs[i]? with
    | none =>
      have h1 := Vals.none_of r q
      rw [h1]
      rfl
    | some v =>
      obtain ⟨u, hu, ru⟩ := r.get q
      rw [hu]
      exact ru
theorem perm_args {K : PySem.W.Frag} {fz : Fz} {sp : Option Addr} {H : Hp} {π : List Nat} {vs : List V} {cs : List Cl} (r : Paired (ArgOk K fz sp H) vs cs) : Paired (ArgOk K fz sp H) (perm V.non π vs) (perm (.d .none) π cs) := by
  induction π with
  | nil => exact .nil
  | cons i π ih =>
    refine .cons ?_ ih
    show ArgOk K fz sp H (vs.getD i V.non) (cs.getD i (.d .none))
    rw [List.getD_eq_getElem?_getD, List.getD_eq_getElem?_getD]
    cases q : cs[i]? with
    | none =>
      have : vs[i]? = none := List.getElem?_eq_none_iff.mpr (by rw [pLen r]; exact List.getElem?_eq_none_iff.mp q)
      rw [this]
      exact .non
    | some c =>
      obtain ⟨v, hv, rv⟩ := pAt r i c q
      rw [hv]
      exact rv
def SK (X : Cx) (kws : List Keyword) (m : Ma) : Prop := PK X kws (rdA X.K m)
theorem PK.imp {X : Cx} {e : List Keyword} {t t' : TA} (h : PK X e t) (q : ∀ σ H Q, t' σ H Q → t σ H Q) : PK X e t' := ⟨fun p pins s σ H Q I w => h.run p pins s σ H Q I (q _ _ _ w)⟩
section
variable {X : Cx} {k : Nat} {f : Addr} {fd : FuncData} {ps ks : List Str} {π : List Nat} {x : Str} {p pos kpos : Pos} {e : Expr} {kws : List Keyword} {m mr : Ma} {me : Mx} {g : Fx} {nm : Option Str}
theorem sk_nil : SK X [] maNil := PK.imp pk_nil fun σ H Q h => by
  obtain ⟨C, fz, ρ, sto, r, sto', F, e, k⟩ := h
  cases e
  exact k [] fz H .refl F.bs.spl .nil
theorem sk_cons (he : SE X e me) (hr : SK X kws mr) : SK X (⟨nm, e, kpos⟩ :: kws) (maCons me mr) := PK.imp (pk_cons he hr) fun σ H Q h => by
  obtain ⟨C, fz, ρ, sto, r, sto', F, e, k⟩ := h
  obtain ⟨x, s1, ea, e1⟩ := bnd_some e
  obtain ⟨xs, s2, eb, e2⟩ := bnd_some e1
  clear e e1
  cases e2
  refine ⟨C, fz, ρ, sto, x, s1, F, ea, fun v fz1 H1 st1 l1 i1 => ?_⟩
  refine ⟨C, fz1, ρ, s1, xs, sto', F.step st1 l1, eb, fun vs fz2 H2 st2 l2 i2 => ?_⟩
  exact k (v :: vs) fz2 H2 (st1.trans st2) l2 (.cons (i1.stp st2 (F.bs.step st1 l1)) (i2.early st1))
def tCallK0 (sp : Sp) (π : List Nat) (n : Nat) (t : TA) : TE := fun σ H Q => t σ H fun vs H1 => vs.length = n ∧ sp (perm V.non π vs) H1 Q E0
theorem pe_callK0 {sp : Sp} {t : TA} (F : FnG X.prog X.w X.K X.mg X.base k f fd ps sp) (hr : Room k X.A) (hgd : X.A.guards = some []) (hm : X.mg x = some (.ref f)) (hk : PySem.W.keepIn X.K (.ref f) = true) (hb : KB0 X.K fd ps ks π) (ha : PK X kws t) (hg : Gl X x)
    (hall : (backToKw pos (keywordEach kws X.env)).all (·.1.isSome) = true := by rfl) (hks : (backToKw pos (keywordEach kws X.env)).filterMap (·.1) = ks := by rfl)
    (hdb : (x == ("__debug__" : Str)) = false := by decide) (hpl : ((backTo pos (starEach [] X.env)).any (·.1) || (backToKw pos (keywordEach kws X.env)).any (·.1.isNone)) = false := by rfl) :
    PE X (.Call (.Name x p) [] kws pos) (tCallK0 sp π ks.length t) := ⟨fun pins s σ H Q I h => by
  refine wpAny_Call_Name_kw (ld_glob I hg hm (PySem.W.callWith_KW0 (h₀ := X.base) I.ok.mod.kin hk hall (thn (ha.run pos pins s σ H _ I h) ?_) hpl) hdb)
  rintro us s1 ⟨vs, H1, I1, r, hl, q⟩
  rw [hks]
  have b := hb s1 us I1.kIn (by rw [← r.length]; exact hl)
  refine ⟨I1.kIn, wpAny_call (codeAny_mono (run_fnG F hr hgd I1 b (perm_vals r) q) fun res s' hq => ?_)⟩
  match res, hq with
  | .error e, hq => exact hq
  | .ok (.ret u), hq => exact hq
  | .ok .next, hq => exact False.elim hq
  | .ok .brk, hq => exact False.elim hq
  | .ok .cont, hq => exact False.elim hq⟩
theorem se_callK {n l : Nat} {mb : Ms} (F : FnG X.prog X.w X.K X.mg X.base k f fd ps (spOf X.K n (run' n l mb))) (hr : Room k X.A) (hgd : X.A.guards = some []) (hm : X.mg x = some (.ref f)) (hk : PySem.W.keepIn X.K (.ref f) = true) (hb : KB0 X.K fd ps ks π) (ha : SK X kws m) (hg : Gl X x := by rfl)
    (hall : (backToKw pos (keywordEach kws X.env)).all (·.1.isSome) = true := by rfl) (hks : (backToKw pos (keywordEach kws X.env)).filterMap (·.1) = ks := by rfl)
    (hdb : (x == ("__debug__" : Str)) = false := by decide) (hpl : ((backTo pos (starEach [] X.env)).any (·.1) || (backToKw pos (keywordEach kws X.env)).any (·.1.isNone)) = false := by rfl) :
    SE X (.Call (.Name x p) [] kws pos) (mCallK (run' n l mb) π ks.length m) := PE.imp (pe_callK0 F hr hgd hm hk hb ha hg hall hks hdb hpl) fun σ H Q h => by
  obtain ⟨C, fz, ρ, sto, z, sto', F, e, k⟩ := h
  obtain ⟨rs, s1, ea, e1⟩ := bnd_some e
  clear e
  split at e1
  · rename_i cs ec
    split at e1
    · rename_i hn
      refine ⟨C, fz, ρ, sto, rs, s1, F, ea, fun vs fz1 H1 st1 l1 i1 => ?_⟩
      obtain ⟨fz2, st2, B2, _, a⟩ := ImRs.args i1 ec fz1 st1 (F.bs.step st1 l1) fun _ h => h
      exact ⟨(pLen a).trans hn, C.sp, fz2, _, s1, z, sto', run'_len _ s1 _ e1, perm_args a, B2, e1, fun v fz3 H3 st3 l3 i3 => k v fz3 H3 (st2.trans st3) l3 (i3.early st2)⟩
    · cases e1
  · cases e1
end

/-! ### spring[k], y = a pair -/
def mPair (i : Nat) (ix : Mx) (j : Nat) (a : Mx) : Ms := fun ρ s => match a ρ s with
  | some (.d (.tuple [.int q, y]), s1) => match ix ρ s1, ρ[i]? with
    | some (.d (.int k), s2), some (some .s) => match ixN s2.length k with
      | some n => some (.nx, ρ.set j (some (.d y)), s2.set n q)
      | none => none
    | _, _ => none
  | _ => none
section
variable {X : Cx} {i j : Nat} {y : Str} {e : Expr} {tgs : Expr} {me mi : Mx} {py pos tpos : Pos} {kk : Nat}
/-- hg is pg_sub (pv i) hix set_list -/
theorem ss_pair (hc : X.calm = true) (hN : X.N.Nodup) (he : SE X e me) (hg : PG X tgs (gSub (tVar i) (rdE X.K mi) rSetL)) (hj : X.N[j]? = some y := by rfl) (hy : Loc X.env.scope y := by first | exact Or.inl rfl | exact Or.inr rfl)
    (hf : X.fn y = true ∨ X.env.scope.names.lookup y = some .local := by first | exact .inl rfl | exact .inr rfl)
    (h1 : (assignEach (tgs :: [.Name y py]) X.env).map (·.2) = assign tgs X.env :: (assignEach [.Name y py] X.env).map (·.2) := by rfl) (h2 : (assignEach (.Name y py :: []) X.env).map (·.2) = assign (.Name y py) X.env :: (assignEach [] X.env).map (·.2) := by rfl)
    (hn : (assignEach [tgs, .Name y py] X.env).length = 2 := by rfl) (hst : (assignEach [tgs, .Name y py] X.env).findIdx? (·.1) = none := by rfl)
    (hs : swapsWithSole [.Tuple [tgs, .Name y py] kk tpos] e pos.line X.env = pure false := by rfl) (hw : swappedStores [.Tuple [tgs, .Name y py] kk tpos] e X.env = pure none := by rfl)
    (h3 : (assignEach [.Tuple [tgs, .Name y py] kk tpos] X.env).map (·.2) = [assign (.Tuple [tgs, .Name y py] kk tpos) X.env] := by rfl) :
    SS X (.Assign [.Tuple [tgs, .Name y py] kk tpos] e pos) (mPair i mi j me) :=
  PS.impI (ps_asg he (pg_tup hc (pgs_cons hg (pgs_cons (pg_name hN hj hy hf) pgs_nil h2) h1) hn hst) hs hw h3) fun D σ H hl h => by
    obtain ⟨C, fz, ρ, sto, out, ρ', sto', F, e, k⟩ := h
    unfold mPair at e
    split at e
    · rename_i q yy s1 e1
      split at e
      · rename_i kk' s2 e2 ei
        split at e
        · rename_i n en
          cases e
          refine ⟨C, fz, ρ, sto, _, s1, F, e1, fun v fz1 H1 st1 l1 i1 => ?_⟩
          cases i1 with
          | tup ht ha =>
            rename_i a xs
            cases ha with
            | cons hq ha =>
              cases ha with
              | cons hyv ha =>
                cases ha
                cases hq
                have F1 := F.step st1 l1
                refine ⟨a, _, rfl, ht, rfl, _, _, rfl, ?_⟩
                obtain ⟨p, hp, hs⟩ := F1.vars _ _ ei
                refine ⟨_, hs, C, fz1, ρ, s1, _, _, F1, e2, fun w fz2 H2 st2 l2 i2 => ?_⟩
                cases i2
                refine ⟨p, _, kk', n, rfl, rfl, l2 p hp, by rw [List.length_map]; exact en, ?_⟩
                have F2 := F1.step st2 l2
                obtain ⟨F4, S4⟩ := F2.spring (s2.set n q) hp
                refine ⟨_, _, rfl, rfl, ?_⟩
                rw [← List.map_set]
                exact k fz2 _ _ (F4.name ((hyv.stp st2 F1.bs).sts S4 F2.bs) (lt_of_slot hj hl)) ((st1.trans st2).sts.trans S4)
        · cases e
      · cases e
    · cases e
end
end Dh

/-! Dh11: enumerate over a list or a tuple -/
namespace Dh
open PySem PySem.Spec L2

/-- the tuple at a, each item with its place in a new pair -/
def IteT (K : PySem.W.Frag) (a : Addr) : It where
  go := fun i H => ∃ (xs : List V) (x : V), SqT K H a xs ∧ xs[i]? = some x
  yld := fun i H v H' => ∃ T x, v = .ref T ∧ H T = none ∧ H' = upd H T (.tup [.int (i : Nat), x]) ∧ ∀ xs, SqT K H a xs → xs[i]? = some x
  stop := fun i H => ∃ xs : List V, SqT K H a xs ∧ xs.length = i
theorem turn_enumT {P : Program} {w : World} {K : PySem.W.Frag} {elts : List Expr} {kk : Nat} {tpos : Pos} (a e it : Addr) (hai : a ≠ it) :
    Turn P w K (.Tuple elts kk tpos) (IteT K a) [e, it] e (fun i h => (∃ old, IsEnum h e it ((i : Nat) : Int) old) ∧ h.IsTupleIter it a i ∧ e ≠ it ∧ a ≠ e) where
  mem := List.mem_cons_self
  obj := by
    rintro i h ⟨⟨old, he⟩, ⟨o, ho, hc, hd⟩, _⟩ b hb
    simp only [List.mem_cons, List.not_mem_nil, or_false] at hb
    rcases hb with rfl | rfl
    · exact ⟨_, he, fun v q => nomatch q⟩
    · exact ⟨o, ho, fun v q => by rw [hd] at q; cases q⟩
  keep := by
    rintro i h h' ⟨⟨old, he⟩, hi, hne⟩ k
    exact ⟨⟨old, k e (by simp) _ he⟩, hi.at fun o q => k it (by simp) o q, hne⟩
  item := by
    rintro X rfl rfl rfl hc i pins s σ H E I hf ⟨⟨old, he⟩, hit, hne, hae⟩ ⟨xs, x, hq, hx⟩
    obtain ⟨its, rv, p, hz⟩ := I.tuple hq
    obtain ⟨u, hu, ru⟩ := rv.get hx
    have hlt : i < its.toArray.size := by simpa using (List.getElem?_eq_some_iff.mp hu).1
    have hel : e < s.heap.objs.size := Heap.lt_size he
    have hil : it < s.heap.objs.size := by obtain ⟨_, q, _⟩ := hit; exact Heap.lt_size q
    have D := Draws.tuple (prog := X.prog) (w := X.w) (A := X.A.in1) (I.ok.hd hc) it a hai its.toArray
    refine wpAny_pyNext_enum_itemC D he ⟨hit, p⟩ hlt hne (by simp [hne, Ne.symm hae]) fun x' h' tk hP ho hs' hT hsz hk => ?_
    have ex : x' = u := by
      have q : its.toArray[i]? = some u := by simpa using hu
      rw [show its.toArray[i]? = some x' from hP] at q
      exact Option.some.inj q
    subst ex
    refine ⟨_, rfl, wpAny_letOwnedTupleGo_enum (s := { s with heap := h', toks := tk + 1 }) ho fun h2 he' sb => ?_⟩
    have hT2 : h2.get? s.heap.objs.size = some { cls := .type "tuple", data := .seq #[.int i tk, x'] } := (sb.2 _ (Nat.ne_of_gt hel)).trans hT
    have I1 : Inv X pins σ (upd H s.heap.objs.size (.tup [.int (i : Nat), x])) { s with heap := h2, toks := tk + 1 } := by
      refine I.turnedNew (ch := [e, it]) (fun b ob hb q => ?_) hf (Nat.le_refl _) ⟨(by show 2 ≤ sizeLine; decide), [.int i tk, x'], .cons ⟨_, rfl⟩ (.cons ru .nil), ⟨_, hT2, rfl, _, rfl⟩⟩
      simp only [List.mem_cons, List.not_mem_nil, or_false, not_or] at hb
      exact (sb.2 b hb.1).trans (hk b ob hb.1 hb.2 q)
    refine ⟨.ref s.heap.objs.size, _, I1, rfl, ⟨_, x, rfl, I.hok.fresh (Nat.le_refl _), rfl, fun ys hy => ?_⟩, ⟨⟨x', ?_⟩, hs'.1.at fun o q => (sb.2 it (Ne.symm hne)).trans q, hne, hae⟩, fun b hb => ?_⟩
    · rw [I.tuple_inj hy hq]; exact hx
    · rw [show ((i + 1 : Nat) : Int) = (i : Int) + 1 from by omega]; exact he'
    · have hb' : b < s.heap.objs.size := by
        simp only [List.mem_cons, List.not_mem_nil, or_false] at hb
        rcases hb with rfl | rfl
        · exact hel
        · exact hil
      rw [upd_ne (Nat.ne_of_lt hb')]
      exact (hf b hb).1
  done := by
    rintro X rfl rfl rfl hc i pins s σ H E I hf ⟨⟨old, he⟩, hit, hne, hae⟩ ⟨xs, hq, hx⟩
    obtain ⟨its, rv, p, hz⟩ := I.tuple hq
    obtain ⟨f0, f1, f2, f3, f4, f5⟩ := hf it (by simp)
    have hl := rv.length
    have hz : i = its.toArray.size := by simp; omega
    subst hz
    exact wpAny_pyNext_enum_endD (Draws.tuple (prog := X.prog) (w := X.w) (A := X.A.in1) (I.ok.hd hc) it a hai its.toArray) he ⟨hit, p⟩ fun h' eb => ⟨rfl, I.turned (t' := s.toks) (fun b o hb q => eb b o hb q) f0 f1 f3 f4 f5⟩
  self := by
    rintro A i s Q E ⟨⟨old, he⟩, _⟩ h
    exact wpAny_pyIter_enum he h

set_option maxHeartbeats 4000000 in
theorem meets_enum1 {v : Value} {o : Obj} {H : Heap → Prop} (B : Begins v o H) : Meets (Builtin.«enumerate.__new__» ⟨[.type "enumerate", v], []⟩) (fun _ R s => H s.heap ∧
    R (.ok (.ret (.ref (s.heap.push o).objs.size))) { s with heap := (s.heap.push o).push { cls := .type "enumerate", data := .fields #[.none, .bool false, .ref s.heap.objs.size, rawInt 0, .none, .none] } }) := .of_wp fun prog w A R s h => by
  obtain ⟨hp, g, d, tk, os⟩ := s
  obtain ⟨h1, h⟩ := h
  have hsub := sub_enumerate
  have q1 : ∀ {A' : Around} {E : Value → Shared → Prop} {Q : Value → Shared → Prop}, Q (.ref hp.objs.size) ⟨hp.push o, g, d, tk, os⟩ → wpAny (model prog w) A' (pyIter v) Q E ⟨hp, g, d, tk, os⟩ := fun q => B.iter prog w _ _ ⟨hp, g, d, tk, os⟩ _ h1 q
  wp_walk using q1
  refine wpAny_stack_any fun st => wpAny_pure ?_
  split
  · rename_i c _ _ _ _ _
    cases (c == Value.type "enumerate") <;> (wp_walk using q1; exact ⟨_, rfl, h⟩)
  · wp_walk using q1
    exact ⟨_, rfl, h⟩
theorem call_enum1 {prog : Program} {w : World} {A : Around} {E : Value → Shared → Prop} {s : Shared} {v : Value} {o : Obj} {H : Heap → Prop} {Q : Value → Shared → Prop} (B : Begins v o H) (h1 : H s.heap)
    (h : ∀ h', IsEnum h' (s.heap.objs.size + 1) s.heap.objs.size 0 .none → h'.get? s.heap.objs.size = some o → (∀ b o, s.heap.get? b = some o → h'.get? b = some o) → Q (.ref (s.heap.objs.size + 1)) { s with heap := h' }) : wpAny (model prog w) A (call (.type "enumerate") [v]) Q E s := by
  refine callType_new F.called_enumerate (by decide) (F.typeCall_enumerate_1 _) (F.newCall_enumerate_1 _) (fun obj => F.args_object_init_2 obj _) F.entry_enumerate_new (meets_enum1 B) ⟨h1, ?_⟩
  have hz : (s.heap.push o).objs.size = s.heap.objs.size + 1 := Heap.size_push ..
  show _ ∧ _
  rw [hz]
  have he : IsEnum ((s.heap.push o).push { cls := .type "enumerate", data := .fields #[.none, .bool false, .ref s.heap.objs.size, rawInt 0, .none, .none] }) (s.heap.objs.size + 1) s.heap.objs.size 0 .none := by
    have q := Heap.get?_push_size (s.heap.push o) (o := { cls := .type "enumerate", data := .fields #[.none, .bool false, .ref s.heap.objs.size, rawInt 0, .none, .none] }) rfl
    rw [hz] at q
    exact q
  exact ⟨⟨_, he, rfl⟩, h _ he (Heap.get?_push_of_some _ (Heap.get?_push_size _ B.free)) fun b o q => Heap.get?_push_of_some _ (Heap.get?_push_of_some _ q)⟩
def iEnumA (K : PySem.W.Frag) (ta : TA) : TI := fun σ H R => ta σ H fun vs H1 => ∃ a xs, vs = [.ref a] ∧ ((SqL K H1 a xs ∧ R (Ite K a) H1) ∨ (SqT K H1 a xs ∧ R (IteT K a) H1))
theorem pi_enumA {X : Cx} {e : Expr} {ta : TA} {p pos tpos : Pos} {elts : List Expr} {kk : Nat} (hg : Gl X "enumerate") (hm : X.mg "enumerate" = none) (ha : PA X [e] ta) (hs : starEach [e] X.env = [(false, eval e X.env)] := by rfl) :
    PI X (.Tuple elts kk tpos) (.Call (.Name "enumerate" p) [e] [] pos) (iEnumA X.K ta) := ⟨fun pins s σ H R I h => by
  refine PyProof.Rows.Call_ (ld_blt I hg hm PyProof.Rows.boot_enumerate (PyProof.Rows.callWith_type1 (thn (ha.run pos pins s σ H _ I h) ?_) hs rfl))
  rintro us s1 ⟨vs, H1, I1, r1, a, xs, rfl, q⟩
  cases r1 with
  | cons r t =>
    cases t
    cases r
    have fr : ∀ b ∈ [s1.heap.objs.size + 1, s1.heap.objs.size], FpOk X pins H1 b := fun b hb => by
      have hle : s1.heap.objs.size ≤ b := by
        simp only [List.mem_cons, List.not_mem_nil, or_false] at hb
        rcases hb with rfl | rfl
        · exact Nat.le_add_right _ _
        · exact Nat.le_refl _
      exact I1.fpOk hle (I1.hok.fresh hle)
    rcases q with ⟨hq, q⟩ | ⟨hq, q⟩
    · obtain ⟨its, rv, p', _⟩ := I1.list hq
      refine call_enumerate_list p'.isList fun h' he hit hsz hk => wpAny_pyIter_enum he ?_
      exact ⟨_, _, _, _, H1, rfl, I1.kept (t' := s1.toks) hk, turn_enum a (s1.heap.objs.size + 1) s1.heap.objs.size, ⟨⟨.none, he⟩, hit, Nat.succ_ne_self _⟩, fr, q⟩
    · obtain ⟨its, rv, p', _⟩ := I1.tuple hq
      have hlt : a < s1.heap.objs.size := by obtain ⟨o, ho, _⟩ := id p'; exact Heap.lt_size ho
      refine call_enum1 (begins_tuple a its.toArray) (show s1.heap.IsTuple a its.toArray from p') fun h' he hit hk => wpAny_pyIter_enum he ?_
      exact ⟨_, _, _, _, H1, rfl, I1.kept (t' := s1.toks) hk, turn_enumT a (s1.heap.objs.size + 1) s1.heap.objs.size (Nat.ne_of_lt hlt), ⟨⟨.none, he⟩, ⟨_, hit, rfl, rfl⟩, Nat.succ_ne_self _, Nat.ne_of_lt (Nat.lt_succ_of_lt hlt)⟩, fr, q⟩⟩
section
variable {K : PySem.W.Frag} {sp : Option Addr} {fz fz1 : Fz} {H H1 : Hp} {sto : Sto}
def numbered (xs : List PyData) : List PyData := xs.zipIdx.map fun p => PyData.tuple [.int (p.2 : Nat), p.1]
theorem numbered_at {xs : List PyData} {i : Nat} {z : PyData} (h : (numbered xs)[i]? = some z) : ∃ x, xs[i]? = some x ∧ z = .tuple [.int (i : Nat), x] := by
  unfold numbered at h
  rw [List.getElem?_map, List.getElem?_zipIdx] at h
  cases q : xs[i]? with
  | none => rw [q] at h; cases h
  | some x => rw [q] at h; simp at h; exact ⟨x, rfl, h.symm⟩
theorem numbered_length (xs : List PyData) : (numbered xs).length = xs.length := by unfold numbered; simp
theorem goes_enumL {a : Addr} {vs : List V} {xs : List PyData} (h : FzL K fz H a vs) (im : ImA K fz H vs xs) (B0 : Bs sp fz H sto) : Goes K sp fz H (Ite K a) (numbered xs) :=
  .of (walk_enum (xs := vs)) (by rw [numbered_length, im.length]) (fun fz1 H1 sto s B => (h.sts s B0).sq) fun i x fz1 H1 sto v H2 hx s B y => by
    obtain ⟨T, v1, v2, rfl, hT, e, g1, g2⟩ := y
    obtain ⟨x', hx', rfl⟩ := numbered_at hx
    obtain ⟨w, hw, iw⟩ := im.at i x' hx'
    have g2' : vs[i]? = some v2 := g2
    rw [g2'] at hw; cases hw
    cases (show some (V.int (i : Nat)) = some v1 from g1)
    exact pair_new B (.int _) (iw.sts s B0) hT e
theorem goes_enumT {a : Addr} {vs : List V} {xs : List PyData} (h : SqT K H a vs) (im : ImA K fz H vs xs) (B0 : Bs sp fz H sto) : Goes K sp fz H (IteT K a) (numbered xs) := by
  refine ⟨fun i fz1 H1 sto hi s B => ?_, fun fz1 H1 sto s B => ?_, fun i x fz1 H1 sto v H2 hx s B y => ?_⟩
  · rw [numbered_length, ← im.length] at hi
    exact ⟨vs, vs[i], SqT.sts s B0 h, List.getElem?_eq_getElem hi⟩
  · exact ⟨vs, SqT.sts s B0 h, by rw [numbered_length, im.length]⟩
  · obtain ⟨T, v2, rfl, hT, e, g2⟩ := y
    obtain ⟨x', hx', rfl⟩ := numbered_at hx
    obtain ⟨w, hw, iw⟩ := im.at i x' hx'
    rw [g2 vs (SqT.sts s B0 h)] at hw; cases hw
    exact pair_new B (.int _) (iw.sts s B0) hT e
end
def enum1 : List R → Option (List PyData)
  | [x] => (itemsOf x).map numbered
  | _ => none
section
variable {X : Cx} {e : Expr} {m : Ma} {p pos tpos : Pos} {elts : List Expr} {kk : Nat}
theorem si_enum (ha : SA X [e] m) (hm : X.mg "enumerate" = none) (hg : Gl X "enumerate" := by rfl) (hs : starEach [e] X.env = [(false, eval e X.env)] := by rfl) : SI X (.Tuple elts kk tpos) (.Call (.Name "enumerate" p) [e] [] pos) (mArgI enum1 m) := PI.imp (pi_enumA hg hm ha hs) fun σ H R h => by
  obtain ⟨C, fz, ρ, sto, xs, sto', F, e, k⟩ := h
  obtain ⟨x, s1, ea, e1⟩ := bnd_some e
  obtain ⟨ef, rfl⟩ := ret_some e1
  clear e e1
  refine ⟨C, fz, ρ, sto, x, _, F, ea, fun vs fz1 H1 st1 l1 i1 => ?_⟩
  have B1 := F.bs.step st1 l1
  unfold enum1 at ef
  split at ef
  · rename_i r
    cases q : itemsOf r with
    | none => rw [q] at ef; cases ef
    | some ys =>
      rw [q] at ef
      cases ef
      cases i1 with
      | cons i1 t =>
        cases t
        unfold itemsOf at q
        split at q
        · cases q
          cases i1 with
          | lst h im => exact ⟨_, _, rfl, .inl ⟨h.sq, k _ fz1 H1 st1 l1 (goes_enumL h im B1)⟩⟩
        · cases q
          cases i1 with
          | tup h im => exact ⟨_, _, rfl, .inr ⟨h, k _ fz1 H1 st1 l1 (goes_enumT h im B1)⟩⟩
        · cases q
          obtain ⟨a, ws, rfl, h1, h2, h3, h4, h5⟩ := i1
          have st2 := st1.freeze h5 h4 h1
          exact ⟨a, ws, rfl, .inl ⟨.inl (.inl h1), k _ _ H1 st2 l1 (goes_enumL (.inl ⟨h1, .inr rfl⟩) (h2.fzm fun b q => .inl q) (F.bs.step st2 l1))⟩⟩
        · cases q
  · cases ef
end
end Dh

/-! Dh12: x[::-1], three names at once, dropped values, calls of one's own -/
namespace Dh
open PySem PySem.Spec PyProof.Rows L2 PySem.W

/-! ### t[::-1] of a tuple -/
section
variable {prog : Program} {w : World} {A : Around} {E : Value → Shared → Prop} {s : Shared}
theorem sliceApplied_back {sl : Addr} {n : Nat} {t : Tok} {Q : Int × Int × Nat → Shared → Prop} (hs : s.heap.IsSliceOf sl .none .none (.int (-1) t)) (h : Q ((n : Int) - 1, -1, n) s) : wpAny (model prog w) A (Builtin.Slice.sliceApplied (.ref sl) (pure (n : Int))) Q E s := by
  obtain ⟨os, hos, hcs, hds⟩ := id hs
  unfold Builtin.Slice.sliceApplied Builtin.Slice.sliceFields
  refine wpAny_bind (wpAny_bind (wpAny_field hos hds (x := .none) rfl (wpAny_bind (wpAny_field hos hds (x := .none) rfl (wpAny_bind (wpAny_field hos hds (x := .int (-1) t) rfl (wpAny_pure ?_)))))))
  refine wpAny_bind (HT.slicePart_ (.int (-1) t) ?_)
  refine wpAny_bind (HT.slicePart_ .none (wpAny_bind (HT.slicePart_ .none (wpAny_bind (wpAny_pure ?_)))))
  have e1 : Builtin.Slice.sliceAdjust none none (-1) (n : Int) = ((n : Int) - 1, -1) := rfl
  have e2 : Builtin.Slice.slicePlaces ((n : Int) - 1) (-1) (-1) = n := by
    unfold Builtin.Slice.slicePlaces
    simp
    omega
  refine wpAny_pure ?_
  show Q ((Builtin.Slice.sliceAdjust none none (-1) (n : Int)).1, -1, Builtin.Slice.slicePlaces (Builtin.Slice.sliceAdjust none none (-1) (n : Int)).1 (Builtin.Slice.sliceAdjust none none (-1) (n : Int)).2 (-1)) s
  rw [e1, e2]
  exact h
theorem pick_back (xs : Array Value) : ((List.range xs.size).filterMap fun (m : Nat) => xs[((xs.size : Int) - 1 + (m : Int) * (-1)).toNat]?) = xs.toList.reverse := by
  have key : ∀ (l : List Value), ((List.range l.length).filterMap fun (m : Nat) => l[((l.length : Int) - 1 + (m : Int) * (-1)).toNat]?) = l.reverse := by
    intro l
    have : ∀ k, k ≤ l.length → ((List.range k).filterMap fun (m : Nat) => l[((l.length : Int) - 1 + (m : Int) * (-1)).toNat]?) = l.reverse.take k := by
      intro k
      induction k with
      | zero => intro _; simp
      | succ k ih =>
        intro hk
        rw [List.range_succ, List.filterMap_append, ih (by omega), List.take_add_one]
        congr 1
        have e : ((l.length : Int) - 1 + (k : Int) * (-1)).toNat = l.length - 1 - k := by omega
        have q : l.reverse[k]? = l[l.length - 1 - k]? := List.getElem?_reverse (by omega)
        simp only [List.filterMap_cons, List.filterMap_nil, e, q]
        cases l[l.length - 1 - k]? <;> rfl
    rw [this l.length (Nat.le_refl _), ← List.length_reverse, List.take_length]
  have := key xs.toList
  simpa using this
theorem getItem_tuple_back {t sl : Addr} {items : Array Value} {tk : Tok} {Q : Value → Shared → Prop} (ht : IsTup s.heap t items) (hs : s.heap.IsSliceOf sl .none .none (.int (-1) tk))
    (h : Q (.ref s.heap.objs.size) { s with heap := s.heap.push { cls := .type "tuple", data := .seq items.toList.reverse.toArray } }) (hsz : items.size ≤ sizeLine) : wpAny (model prog w) A (getItem (.ref t) (.ref sl)) Q E s := by
  have hok : sizeOk (.seq items.toList.reverse.toArray) := by
    show items.toList.reverse.toArray.size ≤ sizeLine
    rw [List.size_toArray, List.length_reverse, Array.length_toList]
    exact hsz
  obtain ⟨os, hos, hcs, hds⟩ := id hs
  have hTs : s.TypeIs (.ref sl) "slice" := ⟨os, hos, hcs⟩
  unfold getItem
  try with_reducible refine wpAny_holding ?_
  first | refine wpAny_bind (wpAny_pure ?_) | skip
  refine wpAny_bind (wpAny_sequenceKey ht.typeIs (by decide) ?_)
  refine wpAny_bind (wpAny_callSpecial?_slot (name := Str.ofString "__getitem__") ht.typeIs slot_tuple_getitem (wpAny_call_entry slot_tuple_getitem ht.typeIs entry_tuple_getitem ?_ (args_tuple_getitem _ _)))
  show wpAny _ _ (Builtin.Tuple.tupleItemsOf (.ref t) >>= _) _ _ s
  refine wpAny_bind (tupleItemsOf_ ht (wpAny_bind (wpAny_typeOf hTs ?_)))
  rw [if_pos (by decide)]
  refine wpAny_bind (sliceApplied_back hs ?_)
  have hno : ¬ ((((items.size : Int) - 1) == 0 && (-1 : Int) == 1 && items.size == items.size) = true) := by
    intro q
    rw [Bool.and_eq_true, Bool.and_eq_true] at q
    exact absurd q.1.2 (by decide)
  show wpAny _ _ (if (((items.size : Int) - 1) == 0 && (-1 : Int) == 1 && items.size == items.size) = true then _ else _) _ _ s
  rw [if_neg hno, pick_back]
  first
    | exact wpAny_bind (m := Builtin.Tuple.tupleExact _) (wpAny_newObj_type (wpAny_pure ⟨_, rfl, wpAny_pure h⟩) hok)
    | exact wpAny_bind (m := Builtin.Tuple.tupleExact _) (wpAny_newObj_type (wpAny_bind (wpAny_pure (wpAny_pure ⟨_, rfl, wpAny_pure h⟩))) hok)
end
def rRevT (K : PySem.W.Frag) : V → Hp → VK → Prop := fun x H1 Q => ∃ a xs, x = .ref a ∧ SqT K H1 a xs ∧ ∀ p, H1 p = none → Q (.ref p) (upd H1 p (.tup xs.reverse))
theorem pe_revT {X : Cx} {e : Expr} {te : TE} {k : Nat} {p1 p2 p3 pos : Pos} (he : PE X e te) : PE X (.Subscript e (.Slice none none (some (.UnaryOp .USub (.Constant (.int 1) k p1) p2)) p3) pos) (tUn (rRevT X.K) te) := ⟨fun pins s σ H Q I h => by
  refine Subscript_ (thn (he.run pins s σ H _ I h) ?_)
  rintro v s1 ⟨x, H1, I1, r1, a, xs, rfl, hx, q⟩
  cases r1
  have hst : PO X (some (.UnaryOp .USub (.Constant (.int 1) k p1) p2)) (tPart (tUn (rU fun i => .int (-i)) (tC (.int 1)))) := po_some (pe_un un_neg pe_int)
  refine wpAny_Slice (thn (po_none.run pins s1 σ H1 (fun o H2 => o = none ∧ H2 = H1) I1 ⟨rfl, rfl⟩) ?_)
  rintro vl s2 ⟨l, H2, I2, pl, rfl, rfl⟩
  refine thn (po_none.run pins s2 σ H2 (fun o H3 => o = none ∧ H3 = H2) I2 ⟨rfl, rfl⟩) ?_
  rintro vu s3 ⟨u, H3, I3, pu, rfl, rfl⟩
  refine thn (hst.run pins s3 σ H3 (fun o H4 => o = some (-1) ∧ H4 = H3) I3 ⟨1, rfl, -1, rfl, rfl, rfl⟩) ?_
  rintro vs s4 ⟨o, H4, I4, ps, rfl, rfl⟩
  cases pl
  cases pu
  cases ps
  rename_i tk
  have I5 : Inv X pins σ H4 { s4 with heap := s4.heap.push { cls := .type "slice", data := .fields #[.none, .none, .int (-1) tk] } } := I4.kept (t' := s4.toks) fun b ob q => Heap.get?_push_of_some _ q
  obtain ⟨its, r, ht, hz⟩ := I5.tuple hx
  have hlen := r.length
  show wpAny (model X.prog X.w) X.A (subscriptTail e (.Slice none none (some (.UnaryOp .USub (.Constant (.int 1) k p1) p2)) p3) (.ref a) (.ref s4.heap.objs.size)) (EP X pins σ Q) X.xe _
  refine tail_any (ops := [.ref a, .ref s4.heap.objs.size]) ht.typeIs slot_tuple_getitem.lookup ?_ (by with_unfolding_all rfl)
  refine getItem_tuple_back ht (Heap.IsSliceOf.new _ .none .none (.int (-1) tk)) ?_ (by rw [List.size_toArray]; omega)
  refine ⟨.ref _, _, I5.laid (t' := s4.toks) (o := .tup xs.reverse) (fun b ob q => Heap.get?_push_of_some _ q) (Nat.le_refl _) ?_, rfl, q _ (I5.hok.fresh (Nat.le_refl _))⟩
  exact ⟨by rw [List.length_reverse]; exact hz, _, r.reverse, _, Heap.get?_push_size _ rfl, rfl, 0, by simp⟩⟩

def fRev : R → Option R
  | .d (.tuple xs) => some (.d (.tuple xs.reverse))
  | _ => none
theorem ImA.rev {K : PySem.W.Frag} {fz : Fz} {H : Hp} : ∀ {vs : List V} {xs : List PyData}, ImA K fz H vs xs → ImA K fz H vs.reverse xs.reverse
  | _, _, .nil => .nil
  | _, _, .cons h t => by
    rw [List.reverse_cons, List.reverse_cons]
    exact t.rev.append (.cons h .nil)
def mBrk : Ms := fun ρ s => some (.bk, ρ, s)
def mCnt : Ms := fun ρ s => some (.ct, ρ, s)
def mRetN : Ms := fun ρ s => some (.rt (.d .none), ρ, s)
/-- an expression for what it does alone -/
def mDrop (a : Mx) : Ms := fun ρ s => match a ρ s with
  | some (_, s1) => some (.nx, ρ, s1)
  | none => none
section
variable {X : Cx} {e : Expr} {me : Mx} {pos : Pos}
theorem se_rev {k : Nat} {p1 p2 p3 : Pos} (he : SE X e me) : SE X (.Subscript e (.Slice none none (some (.UnaryOp .USub (.Constant (.int 1) k p1) p2)) p3) pos) (m1 fRev me) := PE.imp (pe_revT he) fun _ _ _ h => rd_one (by
  intro sp fz H H0 sto v x z Q B ix e k
  unfold fRev at e
  split at e
  · cases e
    obtain ⟨a, vs, rfl, h1, h2⟩ := ix.tup
    refine ⟨a, vs, rfl, h1, fun p hp => ?_⟩
    obtain ⟨s3, l3, i3⟩ := new_tup B h2.rev hp
    exact k _ fz _ s3 l3 (.inl i3)
  · cases e) h
theorem ss_drop (he : SE X e me) (hs : swapsWith e none pos.line X.env = pure false := by rfl) : SS X (.Expr e pos) (mDrop me) := PS.imp (ps_expr he hs) fun D σ H h => by
  obtain ⟨C, fz, ρ, sto, out, ρ', sto', F, e, k⟩ := h
  unfold mDrop at e
  split at e
  · rename_i r s1 e1
    cases e
    exact ⟨C, fz, ρ, sto, r, _, F, e1, fun v fz1 H1 st1 l1 i1 => k fz1 σ H1 (F.step st1 l1) st1.sts⟩
  · cases e
theorem se_dict0 : SE X (.Dict [] [] pos) (mKon (.dict [])) := PE.imp pe_dnewK fun σ H Q h => by
  obtain ⟨C, fz, ρ, sto, r, sto', F, e, k⟩ := h
  cases e
  intro p hp
  have n : some p ≠ C.sp := F.bs.spl.ne hp (by intro z; cases z)
  exact k _ _ _ (Stp.frz hp n) (F.bs.spl.upd n) (.dct upd_same (.inr rfl) .nil .nil)
theorem se_dict1 {a : Str} {i : Int} {p1 p2 : Pos} {j1 j2 : Nat} : SE X (.Dict [some (.Constant (.str a) j1 p1)] [.Constant (.int i) j2 p2] pos) (mKon (.dict [(.str a, .int i)])) := PE.imp (pe_disp (pps_cons pe_str pe_int pps_nil) rfl rfl (by simp) (by show 1 ≤ 15; decide)) fun σ H Q h => by
  obtain ⟨C, fz, ρ, sto, r, sto', F, e, k⟩ := h
  cases e
  intro p hp
  have n : some p ≠ C.sp := F.bs.spl.ne hp (by intro z; cases z)
  refine ⟨upd_same, [(Sum.inr a, .int i)], rfl, by show 1 ≤ 15; decide, ?_⟩
  have e1 : upd (upd H p (.dK [])) p (.dK (mergeK [] [(Sum.inr a, V.int i)])) = upd H p (.dK [(Sum.inr a, V.int i)]) := by rw [upd_upd]; rfl
  rw [e1]
  exact k _ _ _ (Stp.frz hp n) (F.bs.spl.upd n) (.dct upd_same (.inr rfl) (.cons (.str a) .nil) (.cons (.int i) .nil))
/-- x, y, z = a, b, c -/
def mPar3 (i j l : Nat) (a : Ma) : Ms := fun ρ s => match a ρ s with
  | some ([r, q, u], s1) => match toCl r, toCl q, toCl u with
    | some (.d c), some (.d d), some f => some (.nx, ((ρ.set i (some (.d c))).set j (some (.d d))).set l (some f), s1)
    | some (.d c), some (.o d), some (.d f) => some (.nx, ((ρ.set i (some (.d c))).set j (some (.o d))).set l (some (.d f)), s1)
    | _, _, _ => none
  | _ => none
end
section
variable {K : PySem.W.Frag} {C : Cn} {fz fz1 : Fz} {ρ : Ev} {sto sto' : Sto} {σ : L2.St} {H H1 : Hp}
theorem toCl_d {r : R} {c : PyData} (h : toCl r = some (.d c)) : r = .d c := by
  cases r with
  | d x => cases h; rfl
  | f x => cases h
  | b x => cases h
  | s => cases h
/-- a value given beside others: what was given first is a datum -/
theorem Fm.give2 (F : Fm K C fz ρ sto σ H) (s : Stp C.sp fz H fz1 H1) (l : SpL C.sp H1 sto') {v w : V} {x : PyData} {r : R} {c : Cl} (iv : Im K fz1 H1 v x) (iw : ImR K C.sp H fz1 H1 w r) (e : toCl r = some c) {i j : Nat} (hi : i < σ.length) (hj : j < σ.length) :
    Fm K C fz1 ((ρ.set i (some (.d x))).set j (some c)) sto' ((σ.set i (some v)).set j (some w)) H1 := by
  have F1 := (F.step s l).name iv hi
  refine F1.put j (by rw [List.length_set]; exact hj) ?_ ?_
  · have g : ((σ.set i (some v)).set j (some w))[j]? = some (some w) := List.getElem?_set_self (by rw [List.length_set]; exact hj)
    cases r with
    | d x => cases e; exact ⟨w, g, iw⟩
    | f xs =>
      cases e
      obtain ⟨a, vs, rfl, h1, h2, h3, h4, h5⟩ := iw
      exact ⟨a, vs, g, h1, h2, h3, h4, F.st.back h4 h5⟩
    | b xs => cases e
    | s => cases e; obtain ⟨a, ea, rfl⟩ := (show IsS C.sp w from iw); exact ⟨a, ea, g⟩
  · intro xs a ec ew n ys hn h1 h2
    subst ec
    cases r with
    | d x => cases e
    | b x => cases e
    | s => cases e
    | f zs =>
      cases e
      obtain ⟨b, vs, eb, h3, h4, h5, h6, h7⟩ := iw
      rw [ew] at eb; cases eb
      by_cases en : n = i
      · subst en
        rw [List.getElem?_set_self (by rw [F.len]; exact hi)] at h1
        cases h1
      · rw [List.getElem?_set_ne (Ne.symm en)] at h1 h2
        obtain ⟨b, ws, q1, q2, _⟩ := F.owned h1
        rw [h2] at q1; cases q1
        rw [h7] at q2; cases q2
end
section
variable {X : Cx} {i j l : Nat} {x y z : Str} {a b c : Expr} {m : Ma} {px py pz pt pos : Pos} {kt k2 pt2}
theorem ss_par3 (hc : X.calm = true) (hN : X.N.Nodup) (ha : SA X [a, b, c] m) (hi : X.N[i]? = some x := by rfl) (hj : X.N[j]? = some y := by rfl) (hl : X.N[l]? = some z := by rfl) (hij : i ≠ j := by decide) (hil : i ≠ l := by decide) (hjl : j ≠ l := by decide)
    (hx : X.env.scope.names.lookup x = some .local := by rfl) (hy : X.env.scope.names.lookup y = some .local := by rfl) (hz : X.env.scope.names.lookup z = some .local := by rfl)
    (hw : swappedStores [.Tuple [.Name x px, .Name y py, .Name z pz] kt pt] (.Tuple [a, b, c] k2 pt2) X.env = pure (some [x, y, z]) := by rfl)
    (hs : swapsWithSole [.Tuple [.Name x px, .Name y py, .Name z pz] kt pt] (.Tuple [a, b, c] k2 pt2) pos.line X.env = pure false := by rfl) :
    SS X (.Assign [.Tuple [.Name x px, .Name y py, .Name z pz] kt pt] (.Tuple [a, b, c] k2 pt2) pos) (mPar3 i j l m) := PS.impI (ps_par3 hc hN hi hj hl hij hil hjl hx hy hz ha hw hs) fun D σ H hlen h => by
  obtain ⟨C, fz, ρ, sto, out, ρ', sto', F, e, k⟩ := h
  have hi' := lt_of_slot hi hlen
  have hj' := lt_of_slot hj hlen
  have hl' := lt_of_slot hl hlen
  unfold mPar3 at e
  split at e
  · rename_i r q u s1 e1
    split at e
    · rename_i c1 d1 f1 ec ed ef
      cases e
      refine ⟨C, fz, ρ, sto, _, _, F, e1, fun vs fz1 H1 st1 l1 i1 => ?_⟩
      cases i1 with
      | cons iv t =>
        cases t with
        | cons iw t =>
          cases t with
          | cons iu t =>
            cases t
            rw [toCl_d ec] at iv
            rw [toCl_d ed] at iw
            rename_i v w uu
            refine ⟨v, w, uu, rfl, ?_⟩
            -- the first is a datum: put it ahead, then the other two
            have F1 := F.give2 st1 l1 iw iu ef hj' hl'
            have F2 := F1.name iv (i := i) (by simp only [List.length_set]; exact hi')
            have r1 : (((σ.set j (some w)).set l (some uu)).set i (some v)) = (((σ.set i (some v)).set j (some w)).set l (some uu)) := by
              rw [List.set_comm _ _ (Ne.symm hil), List.set_comm _ _ (Ne.symm hij)]
            have r2 : (((ρ.set j (some (Cl.d d1))).set l (some f1)).set i (some (Cl.d c1))) = (((ρ.set i (some (Cl.d c1))).set j (some (Cl.d d1))).set l (some f1)) := by
              rw [List.set_comm _ _ (Ne.symm hil), List.set_comm _ _ (Ne.symm hij)]
            rw [r1, r2] at F2
            exact k fz1 _ H1 F2 st1.sts
    · rename_i c1 d1 f1 ec ed ef
      cases e
      refine ⟨C, fz, ρ, sto, _, _, F, e1, fun vs fz1 H1 st1 l1 i1 => ?_⟩
      cases i1 with
      | cons iv t =>
        cases t with
        | cons iw t =>
          cases t with
          | cons iu t =>
            cases t
            rw [toCl_d ec] at iv
            rw [toCl_d ef] at iu
            rename_i v w uu
            refine ⟨v, w, uu, rfl, ?_⟩
            have F1 := F.give2 st1 l1 iv iw ed hi' hj'
            have F2 := F1.name iu (i := l) (by simp only [List.length_set]; exact hl')
            exact k fz1 _ H1 F2 st1.sts
    · cases e
  · cases e
end
/-- a call of what is promised, whatever function it is -/
theorem se_callR {X : Cx} {k k2 : Nat} {f : Addr} {fd : FuncData} {ps : List Str} {x : Str} {p pos : Pos} {e : Expr} {es : List Expr} {m : Ma} {n : Nat} {g : Fx} (F : FnG X.prog X.w X.K X.mg X.base k f fd ps (spOf X.K n g)) (hr : Room k2 X.A) (hgd : X.A.guards = some []) (hm : X.mg x = some (.ref f)) (hk : PySem.W.keepIn X.K (.ref f) = true) (hb : Binds X.K fd ps []) (ha : SA X (e :: es) m)
    (hkk : k ≤ k2 := by omega) (hn : ∀ cs s r, g cs s = some r → cs.length = n := by assumption) (hg : Gl X x := by rfl)
    (hdb : (x == ("__debug__" : Str)) = false := by decide) (he : starEach (e :: es) X.env = (false, eval e X.env) :: starEach es X.env := by rfl) (hpl : (backTo pos (starEach es X.env)).any (·.1) = false := by rfl) :
    SE X (.Call (.Name x p) (e :: es) [] pos) (mCall g m) := PE.imp (pe_callG F (hr.mono hkk) hgd hm hk hb ha hg hdb he hpl) fun _ _ _ h => rd_call hn h
end Dh

/-! Dh13: a call that gets its own spring; the law's end -/
namespace Dh
open PySem PySem.Spec L2 PySem.W PyProof.Rows

def stoOf : List PyData → Option Sto
  | [] => some []
  | .int i :: r => (stoOf r).map (i :: ·)
  | _ :: _ => none
def onlyD : List R → Option (List Cl)
  | [] => some []
  | .d x :: r => (onlyD r).map (.d x :: ·)
  | _ :: _ => none
/-- g(new list, data..): the list is g's spring -/
def mCallN (g : Fx) (a : Ma) : Mx := bnd a fun rs _ s => match rs with
  | .f xs :: r => match stoOf xs, onlyD r with
    | some s0, some cs => match g (.s :: cs) s0 with
      | some (.d x, _) => some (.d x, s)
      | some (.f x, _) => some (.f x, s)
      | _ => none
    | _, _ => none
  | _ => none
section
variable {K : PySem.W.Frag} {sp : Option Addr} {fz fz1 : Fz} {H H1 : Hp} {sto : Sto}
theorem ints_vals : ∀ {vs : List V} {xs : List PyData} {s0 : Sto}, ImA K fz H vs xs → stoOf xs = some s0 → vs = s0.map V.int
  | _, _, _, .nil, e => by cases e; rfl
  | _, _, _, .cons (d := d) h t, e => by
    cases d with
    | int i =>
      cases h
      unfold stoOf at e
      obtain ⟨s1, e1, rfl⟩ := Option.map_eq_some_iff.mp e
      rw [List.map_cons, ints_vals t e1]
    | none => cases e
    | bool _ => cases e
    | str _ => cases e
    | list _ => cases e
    | tuple _ => cases e
    | dict _ => cases e
theorem onlyD_args {q : Option Addr} : ∀ {vs : List V} {rs : List R} {cs : List Cl}, ImRs K sp H fz1 H1 vs rs → onlyD rs = some cs → Paired (ArgOk K fz1 q H1) vs cs
  | _, _, _, .nil, e => by cases e; exact .nil
  | _, _, _, .cons (b := r) h t, e => by
    cases r with
    | d x =>
      unfold onlyD at e
      obtain ⟨c1, e1, rfl⟩ := Option.map_eq_some_iff.mp e
      exact .cons h (onlyD_args t e1)
    | f _ => cases e
    | b _ => cases e
    | s => cases e
end
theorem rd_callN {K : PySem.W.Frag} {n : Nat} {g : Fx} {m : Ma} {σ : L2.St} {H : Hp} {Q : VK} (hn : ∀ cs s r, g cs s = some r → cs.length = n) (h : rdE K (mCallN g m) σ H Q) : tCallG (spOf K n g) (rdA K m) σ H Q := by
  obtain ⟨C, fz, ρ, sto, z, sto', F, e, k⟩ := h
  obtain ⟨rs, s1, ea, e1⟩ := bnd_some e
  clear e
  refine ⟨C, fz, ρ, sto, rs, s1, F, ea, fun vs fz1 H1 st1 l1 i1 => ?_⟩
  have B1 : Bs C.sp fz1 H1 s1 := F.bs.step st1 l1
  cases i1 with
  | nil => cases e1
  | @cons v r0 ws rs h t =>
    cases r0 with
    | f xs =>
      dsimp only at e1
      split at e1
      · rename_i s0 cs e2 e3
        obtain ⟨p, us, rfl, h1, h2, h3, h4, h5⟩ := h
        have eus := ints_vals h2 e2
        subst eus
        have args : Paired (ArgOk K fz1 (some p) H1) (V.ref p :: ws) (Cl.s :: cs) := .cons ⟨p, rfl, rfl⟩ (onlyD_args t e3)
        have B2 : Bs (some p) fz1 H1 s0 := ⟨fun a ea => by cases ea; exact h1, fun a ea => by cases ea; exact h3, B1.trk⟩
        have back : ∀ {fz2 : Fz} {H2 : Hp}, Stp (some p) fz1 H1 fz2 H2 → Stp C.sp fz1 H1 fz2 H2 → True := fun _ _ => trivial
        have st2 : ∀ {fz2 : Fz} {H2 : Hp}, Stp (some p) fz1 H1 fz2 H2 → Stp C.sp fz H fz2 H2 ∧ SpL C.sp H2 s1 := fun {fz2 H2} t2 => by
          have np : ∀ a, a ≠ p → some a ≠ some p := fun a n z => n (Option.some.inj z)
          refine ⟨⟨fun a q => t2.mono a (st1.mono a q), fun a o q n => ?_, fun a q => ?_, fun t a q => t2.trk (st1.trk t) a q⟩, fun a ea => ?_⟩
          · exact t2.ext a o (st1.ext a o q n) (np a (ne_of_none q h5))
          · rcases t2.new a q with q | ⟨_, q⟩
            · exact st1.new a q
            · have n : some a ≠ C.sp := l1.ne q (by intro z; cases z)
              exact .inr ⟨n, st1.back n q⟩
          · refine t2.ext a _ (l1 a ea) (np a fun z => h4 ?_)
            rw [← z, ea]
        split at e1
        · rename_i x s2 eg
          cases e1
          exact ⟨some p, fz1, _, s0, .d x, s2, hn _ _ _ eg, args, B2, eg, fun v fz3 H3 st3 l3 i3 => k v fz3 H3 (st2 st3).1 (st2 st3).2 i3⟩
        · rename_i x s2 eg
          cases e1
          refine ⟨some p, fz1, _, s0, .f x, s2, hn _ _ _ eg, args, B2, eg, fun v fz3 H3 st3 l3 i3 => k v fz3 H3 (st2 st3).1 (st2 st3).2 ?_⟩
          obtain ⟨a, us, rfl, g1, g2, g3, g4, g5⟩ := i3
          have n : some a ≠ C.sp := l1.ne g5 (by intro z; cases z)
          exact ⟨a, us, rfl, g1, g2, g3, n, st1.back n g5⟩
        · cases e1
      · cases e1
    | d _ => cases e1
    | b _ => cases e1
    | s => cases e1
section
variable {X : Cx} {k k2 : Nat} {f : Addr} {fd : FuncData} {ps : List Str} {x : Str} {p pos : Pos} {e : Expr} {es : List Expr} {m : Ma} {n : Nat} {g : Fx}
theorem se_callN (F : FnG X.prog X.w X.K X.mg X.base k f fd ps (spOf X.K n g)) (hr : Room k2 X.A) (hgd : X.A.guards = some []) (hm : X.mg x = some (.ref f)) (hk : PySem.W.keepIn X.K (.ref f) = true) (hb : Binds X.K fd ps []) (ha : SA X (e :: es) m)
    (hkk : k ≤ k2 := by omega) (hn : ∀ cs s r, g cs s = some r → cs.length = n := by first | exact run'_len | assumption) (hg : Gl X x := by rfl)
    (hdb : (x == ("__debug__" : Str)) = false := by decide) (he : starEach (e :: es) X.env = (false, eval e X.env) :: starEach es X.env := by rfl) (hpl : (backTo pos (starEach es X.env)).any (·.1) = false := by rfl) :
    SE X (.Call (.Name x p) (e :: es) [] pos) (mCallN g m) := PE.imp (pe_callG F (hr.mono hkk) hgd hm hk hb ha hg hdb he hpl) fun _ _ _ h => rd_callN hn h
end

/-! ### the law's end -/
/-- one entry of the heap -/
def oneH (a : Addr) (u : HO) : Hp := fun c => if c = a then some u else none
theorem oneH_self {a : Addr} {u : HO} : oneH a u a = some u := by unfold oneH; rw [if_pos rfl]
theorem oneH_some {a c : Addr} {u x : HO} (h : oneH a u c = some x) : c = a ∧ x = u := by
  unfold oneH at h
  split at h
  · cases h; exact ⟨by assumption, rfl⟩
  · cases h
section
variable {P : Program} {w : World} {K : PySem.W.Frag} {mg mb : Str → Option Value} {k : Nat} {fa a : Addr} {fd : FuncData} {x : Str} {g : Fx} {s₁ : Shared} {vs : List Value} {ns : List Int}
/-- what stands behind a tracked heap of frozen things alone -/
structure Und (K : PySem.W.Frag) (mg : Str → Option Value) (h : Heap) (H : Hp) : Prop where
  kin : K.In (hidT h H)
  main : (hidT h H).Ns mainGlobals mg
  mod : Mod K mg (hidT h H)
theorem und_of (KX : K.In s₁.heap) (hns : s₁.heap.Ns mainGlobals mg) (hb : s₁.heap.Ns builtinsNs mb) (hbb : ∀ x : Str, x ≠ "__name__" → mb x = bootBuiltins x) (hlim : s₁.heap.NoLimit) {H : Hp}
    (off : ∀ c o, s₁.heap.get? c = some o → H c ≠ none → K.lookup c = none ∧ ∀ es ep, o.data ≠ .dict es ep) : Und K mg s₁.heap H := by
  have dict : ∀ {c : Addr} {o : Obj} {es : Array DictEntry} {ep : Nat}, s₁.heap.get? c = some o → o.data = .dict es ep → (hidT s₁.heap H).get? c = some o := fun {c o es ep} e d =>
    hidT_get e (Classical.byContradiction fun z => (off c o e z).2 es ep d)
  have names : ∀ {c : Addr} {m : Str → Option Value}, s₁.heap.Ns c m → (hidT s₁.heap H).Ns c m := by
    rintro c m ⟨o, es, ep, e, d, r⟩
    exact ⟨o, es, ep, dict e d, d, r⟩
  have kin : K.In (hidT s₁.heap H) := fun c o e => hidT_get (KX c o e) (Classical.byContradiction fun z => by
    have q := (off c o (KX c o e) z).1
    rw [e] at q
    cases q)
  obtain ⟨mc, n1, n2⟩ := hlim
  exact ⟨kin, names hns, kin, names hns, ⟨mb, names hb, hbb⟩, ⟨mc, names n1, n2⟩⟩
/-- the law from its def's promise, from a tracked heap of frozen things alone -/
theorem law_at (U : Und K mg s₁.heap H) (hg : s₁.gens = #[]) (hr : Room k callerA)
    (F : ∀ base : Heap, K.In base → base.Ns mainGlobals mg → FnG P w K mg base k fa fd [x] (spOf K 1 g)) (hbind : ∀ (s : Shared) (u : Value), BindsTo s fd ⟨[u], []⟩ [(x, u)])
    (hok : HOk P w H s₁.heap) (hO : ∀ c u, H c = some u → ∃ o xs, u = .frz o (.lst xs)) (hS : FzL K (fun _ => False) H a (ns.map V.int)) (hl : ∃ s', g [.d (.list (ns.map .int))] [] = some (.d (.bool true), s')) :
    codeAny (model P w) callerA (.call (.ref fa) ⟨[.ref a], []⟩) (fun r s' => r = .ok (.ret (.bool true)) ∧ OldK s₁.heap s'.heap ∧ s'.os = s₁.os ∧ AllBare s'.gens) s₁ := by
  obtain ⟨sto', hgv⟩ := hl
  have env : Env0 P w K mg (hidT s₁.heap H) callerA [] s₁ H :=
    { frames := rfl, mod := U.mod, bs := fun _ _ e => of_hidT e, bsz := Nat.le_of_eq (hidT_size _ _), funs := trivial, frf := fun c hc => absurd (show c ∈ ([] : List Addr) from hc) List.not_mem_nil, hok := hok, bare := .of_eq hg }
  have call := (F _ U.kin U.main).run callerA [] s₁ H ⟨[.ref a], []⟩ [.ref a] [.ref a] (fun v _ => v = .bl true) hr rfl env (hbind s₁ (.ref a)) (.cons rfl .nil)
    ⟨none, fun _ => False, [.d (.list (ns.map .int))], [], .d (.bool true), sto', rfl, .cons (.lst hS (ImA.ints ns)) .nil, ⟨fun _ e => (nomatch e), fun _ e => (nomatch e), fun _ z => False.elim z⟩, hgv, fun v _ _ _ _ i => by cases i; rfl⟩
  refine codeAny_mono call fun r s' h => ?_
  match r, h with
  | .ok (.ret u), ⟨v, H', os, bare, un, hok', rv, q⟩ =>
    subst q
    refine ⟨by cases rv; rfl, .of_keep fun c o e => ?_, os, bare⟩
    cases hc : H c with
    | none => exact un.keep c o e hc (fun z => absurd (show c ∈ ([] : List Addr) from z) List.not_mem_nil) (by simp)
    | some u =>
      obtain ⟨ob, ys, rfl⟩ := hO c u hc
      have e1 := (hok c _ hc).1
      have e2 := (hok' c _ (un.frzs c ob _ hc)).1
      rw [e] at e1
      cases e1
      exact e2
end
end Dh

/-! Dh14: the goal that k_head leaves, from the promise of the law's def -/
namespace Dh
open PySem PySem.Spec L2 PySem.W PyProof.Rows
theorem law_end {l : PySem.W.OpenLaw} {n k : Nat} {q : Program} {loose : List Str} {XP : (Str → Option Value) → Heap → Prop} {YP : World → Heap → Prop} {d : DefRec} {K : Params → PySem.W.Frag} {x : Str} {g : Fx}
    (hn : l.most = some n) (small : n ≤ sizeLine) (nodef : d.params.defaults = []) (room : Room k callerA) (hY : ∀ (w : World) (h : Heap), YP w h → (K w.params).In h)
    (plain : ∀ ns : List Int, ns.length ≤ n → (∀ z ∈ ns, Builtin.Int.intBits z ≤ 1048576) → ∃ s', g [.d (.list (ns.map .int))] [] = some (.d (.bool true), s'))
    (F : ∀ (w : World) (mg : Str → Option Value) (fa : Addr) (h : Heap), (K w.params).In h → h.Ns mainGlobals mg → mg d.name = some (.ref fa) →
      ∃ fd : FuncData, (∀ (s : Shared) (u : Value), BindsTo s fd ⟨[u], []⟩ [(x, u)]) ∧ ∀ base : Heap, (K w.params).In base → base.Ns mainGlobals mg → FnG l.prog w (K w.params) mg base k fa fd [x] (spOf (K w.params) 1 g)) :
    PySem.W.WalkO q loose XP YP l.row.toRowW d [] (fun f vs => PySem.call f vs) := by
  refine Att.attach_callB hn nodef ?_
  intro w s₀ s mg mb fa o pm cd doc a vs ns G Y ho hd hcd hmg hobj hints hlen hbits hg
  have KX := hY w s.heap Y
  obtain ⟨fd, hb, hF⟩ := F w mg fa s.heap KX G.T.g hmg
  have vals := vals_ints hints
  have hl := plain ns hlen hbits
  cases hk : (K w.params).lookup a with
  | some ob =>
    have eo := KX a ob hk
    rw [hobj] at eo
    cases eo
    have U : Und (K w.params) mg s.heap (fun _ => none) := und_of KX G.T.g G.T.b G.T.builtins G.T.nolimit fun c o _ z => absurd rfl z
    refine law_at U hg room hF hb (fun c u z => ?_) (fun c u z => ?_) (.inr (.inr ⟨_, vs.toArray, _, hk, rfl, rfl, rfl, ?_, ?_⟩)) hl
    · cases (show (none : Option HO) = some u from z)
    · cases (show (none : Option HO) = some u from z)
    · rw [List.size_toArray, hints.length]
      exact Nat.le_trans hlen small
    · simpa using vals
  | none =>
    have U : Und (K w.params) mg s.heap (oneH a (.frz { cls := .type "list", data := .seq vs.toArray } (.lst (ns.map V.int)))) := by
      refine und_of KX G.T.g G.T.b G.T.builtins G.T.nolimit fun c o e z => ?_
      cases hc : oneH a (.frz { cls := .type "list", data := .seq vs.toArray } (.lst (ns.map V.int))) c with
      | none => exact absurd hc z
      | some u =>
        obtain ⟨rfl, _⟩ := oneH_some hc
        rw [hobj] at e
        cases e
        exact ⟨hk, fun es ep z => nomatch z⟩
    refine law_at U hg room hF hb (fun c u z => ?_) (fun c u z => ?_) (.inr (.inl ⟨_, oneH_self⟩)) hl
    · obtain ⟨rfl, rfl⟩ := oneH_some z
      exact ⟨hobj, by rw [List.length_map]; exact Nat.le_trans hlen small, vs, _, vals, hobj⟩
    · obtain ⟨_, rfl⟩ := oneH_some z
      exact ⟨_, _, rfl⟩
end Dh

/-! Dhe: the functions, computed -/
namespace Dh
open PySem PySem.Spec L2 PySem.W
section
variable {α β : Type} {ρ : Ev} {s : Sto} {i j k : Nat} {a b : Mx} {ta tb : Mt} {as : Ma} {x y : R} {d e : PyData} {ma mb : Ms}
@[simp] theorem ev_bnd {a : Ev → Sto → Option (α × Sto)} {f : α → Ev → Sto → Option (β × Sto)} : bnd a f ρ s = (match a ρ s with | some (x, s1) => f x ρ s1 | none => none) := rfl
@[simp] theorem ev_ret {x : Option α} : ret x s = (match x with | some y => some (y, s) | none => none) := rfl
@[simp] theorem ev_m1 {f : R → Option R} : m1 f a ρ s = (match a ρ s with | some (x, s1) => ret (f x) s1 | none => none) := by
  unfold m1 bnd
  rcases a ρ s with _ | ⟨_, _⟩ <;> rfl
@[simp] theorem ev_m2 {f : R → R → Option R} : m2 f a b ρ s = (match a ρ s with | some (x, s1) => (match b ρ s1 with | some (y, s2) => ret (f x y) s2 | none => none) | none => none) := by
  unfold m2 bnd
  rcases a ρ s with _ | ⟨_, s1⟩
  · rfl
  · dsimp only
    rcases b ρ s1 with _ | ⟨_, _⟩ <;> rfl
@[simp] theorem ev_mA {f : List R → Option R} : mA f as ρ s = (match as ρ s with | some (x, s1) => ret (f x) s1 | none => none) := by
  unfold mA bnd
  rcases as ρ s with _ | ⟨_, _⟩ <;> rfl
@[simp] theorem ev_maNil : maNil ρ s = some ([], s) := rfl
@[simp] theorem ev_maCons : maCons a as ρ s = (match a ρ s with | some (x, s1) => (match as ρ s1 with | some (xs, s2) => some (x :: xs, s2) | none => none) | none => none) := by
  unfold maCons bnd
  rcases a ρ s with _ | ⟨_, s1⟩
  · rfl
  · dsimp only
    rcases as ρ s1 with _ | ⟨_, _⟩ <;> rfl
@[simp] theorem ev_mVar : mVar i ρ s = (match ρ[i]? with | some (some c) => some (rdCl c, s) | _ => none) := rfl
@[simp] theorem ev_mKon : mKon d ρ s = some (.d d, s) := rfl
@[simp] theorem ev_rdCl_d : rdCl (.d d) = .d d := rfl
@[simp] theorem ev_rdCl_s : rdCl .s = .s := rfl
@[simp] theorem ev_rdCl_o {xs : List PyData} : rdCl (.o xs) = .b xs := rfl
@[simp] theorem ev_bT : bT a ρ s = (match a ρ s with | some (.d (.bool k), s1) => some (k, s1) | _ => none) := by
  unfold bT bnd
  cases a ρ s with
  | none => rfl
  | some p =>
    obtain ⟨x, s1⟩ := p
    cases x with
    | d z => cases z <;> rfl
    | f _ => rfl
    | b _ => rfl
    | s => rfl
@[simp] theorem ev_fI {g : Int → Int → Option PyData} {i j : Int} : fI g (.d (.int i)) (.d (.int j)) = (g i j).map .d := rfl
@[simp] theorem ev_gMns {i j : Int} : gMns i j = some (.int (i - j)) := rfl
@[simp] theorem ev_gLt {i j : Int} : gLt i j = some (.bool (decide (i < j))) := rfl
@[simp] theorem ev_gLe {i j : Int} : gLe i j = some (.bool (decide (i ≤ j))) := rfl
@[simp] theorem ev_gGt {i j : Int} : gGt i j = some (.bool (decide (j < i))) := rfl
@[simp] theorem ev_gGe {i j : Int} : gGe i j = some (.bool (decide (j ≤ i))) := rfl
@[simp] theorem ev_fNeg {i : Int} : fNeg (.d (.int i)) = some (.d (.int (-i))) := rfl
@[simp] theorem ev_fNot {k : Bool} : fNot (.d (.bool k)) = some (.d (.bool (!k))) := rfl
@[simp] theorem ev_rdL1 {xs : List PyData} : rdL (.d (.list xs)) = some xs := rfl
@[simp] theorem ev_rdL2 {xs : List PyData} : rdL (.f xs) = some xs := rfl
@[simp] theorem ev_rdL3 {xs : List PyData} : rdL (.b xs) = some xs := rfl
@[simp] theorem ev_rdQ1 {xs : List PyData} : rdQ (.d (.list xs)) = some xs := rfl
@[simp] theorem ev_rdQ2 {xs : List PyData} : rdQ (.f xs) = some xs := rfl
@[simp] theorem ev_rdQ3 {xs : List PyData} : rdQ (.b xs) = some xs := rfl
@[simp] theorem ev_rdQ4 {xs : List PyData} : rdQ (.d (.tuple xs)) = some xs := rfl
@[simp] theorem ev_rdD1 : rdD (.d d) = some d := rfl
@[simp] theorem ev_rdD2 {xs : List PyData} : rdD (.f xs) = some (.list xs) := rfl
@[simp] theorem ev_rdD3 {xs : List PyData} : rdD (.b xs) = some (.list xs) := rfl
@[simp] theorem ev_toD1 : toD (.d d) = some d := rfl
@[simp] theorem ev_toD2 {xs : List PyData} : toD (.f xs) = some (.list xs) := rfl
@[simp] theorem ev_toDs0 : toDs [] = some [] := rfl
@[simp] theorem ev_toDs1 {rs : List R} : toDs (x :: rs) = (match toD x, toDs rs with | some x, some xs => some (x :: xs) | _, _ => none) := rfl
@[simp] theorem ev_toCl1 : toCl (.d d) = some (.d d) := rfl
@[simp] theorem ev_toCl2 {xs : List PyData} : toCl (.f xs) = some (.o xs) := rfl
@[simp] theorem ev_toCl3 : toCl .s = some .s := rfl
@[simp] theorem ev_toArg1 : toArg (.d d) = some (.d d) := rfl
@[simp] theorem ev_toArg2 {xs : List PyData} : toArg (.f xs) = some (.d (.list xs)) := rfl
@[simp] theorem ev_toArg3 : toArg .s = some .s := rfl
@[simp] theorem ev_toArgs0 : toArgs [] = some [] := rfl
@[simp] theorem ev_toArgs1 {rs : List R} : toArgs (x :: rs) = (match toArg x, toArgs rs with | some x, some xs => some (x :: xs) | _, _ => none) := rfl
@[simp] theorem ev_mCall {g : Fx} : mCall g as ρ s = (match as ρ s with | some (rs, s1) => (match toArgs rs with | some cs => g cs s1 | none => none) | none => none) := by
  unfold mCall bnd
  rcases as ρ s with _ | ⟨_, _⟩ <;> rfl
@[simp] theorem ev_tAnd2 : tAnd2 ta tb ρ s = (match ta ρ s with | some (true, s1) => tb ρ s1 | some (false, s1) => some (false, s1) | none => none) := by
  unfold tAnd2 bnd
  rcases ta ρ s with _ | ⟨_ | _, _⟩ <;> rfl
@[simp] theorem ev_tOr2 : tOr2 ta tb ρ s = (match ta ρ s with | some (false, s1) => tb ρ s1 | some (true, s1) => some (true, s1) | none => none) := by
  unfold tOr2 bnd
  rcases ta ρ s with _ | ⟨_ | _, _⟩ <;> rfl
@[simp] theorem ev_tNot2 : tNot2 ta ρ s = (match ta ρ s with | some (k, s1) => some (!k, s1) | none => none) := by
  unfold tNot2 bnd
  rcases ta ρ s with _ | ⟨_, _⟩ <;> rfl
@[simp] theorem ev_mIf : mIf ta a b ρ s = (match ta ρ s with | some (true, s1) => a ρ s1 | some (false, s1) => b ρ s1 | none => none) := by
  unfold mIf bnd
  rcases ta ρ s with _ | ⟨_ | _, _⟩ <;> rfl
@[simp] theorem ev_mAnd : mAnd a b ρ s = (match a ρ s with | some (.d (.bool true), s1) => b ρ s1 | some (.d (.bool false), s1) => some (.d (.bool false), s1) | _ => none) := by
  unfold mAnd bnd
  cases a ρ s with
  | none => rfl
  | some p =>
    obtain ⟨x, s1⟩ := p
    cases x with
    | d z =>
      cases z with
      | bool k => cases k <;> rfl
      | _ => rfl
    | f _ => rfl
    | b _ => rfl
    | s => rfl
@[simp] theorem ev_mOr : mOr a b ρ s = (match a ρ s with | some (.d (.bool false), s1) => b ρ s1 | some (.d (.bool true), s1) => some (.d (.bool true), s1) | _ => none) := by
  unfold mOr bnd
  cases a ρ s with
  | none => rfl
  | some p =>
    obtain ⟨x, s1⟩ := p
    cases x with
    | d z =>
      cases z with
      | bool k => cases k <;> rfl
      | _ => rfl
    | f _ => rfl
    | b _ => rfl
    | s => rfl
@[simp] theorem ev_mSeq : mSeq ma mb ρ s = (match ma ρ s with | some (.nx, ρ1, s1) => mb ρ1 s1 | some r => some r | none => none) := rfl
@[simp] theorem ev_mNil : mNil ρ s = some (.nx, ρ, s) := rfl
@[simp] theorem ev_mIfS : mIfS ta ma mb ρ s = (match ta ρ s with | some (true, s1) => ma ρ s1 | some (false, s1) => mb ρ s1 | none => none) := rfl
@[simp] theorem ev_mRet : mRet a ρ s = (match a ρ s with | some (.d x, s1) => some (.rt (.d x), ρ, s1) | some (.f xs, s1) => some (.rt (.f xs), ρ, s1) | _ => none) := rfl
@[simp] theorem ev_mRetV : mRetV i ρ s = (match ρ[i]? with | some (some (.d x)) => some (.rt (.d x), ρ, s) | some (some (.o xs)) => some (.rt (.f xs), ρ, s) | _ => none) := rfl
@[simp] theorem ev_mSet : mSet i a ρ s = (match a ρ s with | some (r, s1) => (match toCl r with | some c => some (.nx, ρ.set i (some c), s1) | none => none) | none => none) := rfl
@[simp] theorem ev_mYes : mYes ρ s = some (true, s) := rfl
@[simp] theorem ev_mFor {it : Mi} {g : Gx} : mFor it g ma ρ s = (match it ρ s with | some (xs, s1) => forRun g ma xs ρ s1 | none => none) := rfl
@[simp] theorem ev_mSeqI : mSeqI a ρ s = (match a ρ s with | some (x, s1) => ret (itemsOf x) s1 | none => none) := by
  unfold mSeqI bnd
  rcases a ρ s with _ | ⟨_, _⟩ <;> rfl
@[simp] theorem ev_mArgI {f : List R → Option (List PyData)} : mArgI f as ρ s = (match as ρ s with | some (x, s1) => ret (f x) s1 | none => none) := by
  unfold mArgI bnd
  rcases as ρ s with _ | ⟨_, _⟩ <;> rfl
@[simp] theorem ev_items1 {xs : List PyData} : itemsOf (.d (.list xs)) = some xs := rfl
@[simp] theorem ev_items2 {xs : List PyData} : itemsOf (.d (.tuple xs)) = some xs := rfl
@[simp] theorem ev_items3 {xs : List PyData} : itemsOf (.f xs) = some xs := rfl
@[simp] theorem ev_gN : gN i d ρ = some (ρ.set i (some (.d d))) := rfl
@[simp] theorem ev_gT {n : Nat} {g : Gxs} {xs : List PyData} : gT n g (.tuple xs) ρ = if xs.length = n then g xs ρ else none := rfl
@[simp] theorem ev_gsNil : gsNil [] ρ = some ρ := rfl
@[simp] theorem ev_gsCons {g : Gx} {r : Gxs} {xs : List PyData} : gsCons g r (d :: xs) ρ = (match g d ρ with | some ρ1 => r xs ρ1 | none => none) := rfl
@[simp] theorem ev_mIx : mIx a b ρ s = (match a ρ s with | some (x, s1) => (match b ρ s1 with | some (y, s2) => (match fIx s2 x y with | some z => some (z, s2) | none => none) | none => none) | none => none) := by
  unfold mIx bnd
  rcases a ρ s with _ | ⟨_, s1⟩
  · rfl
  · dsimp only
    rcases b ρ s1 with _ | ⟨_, _⟩ <;> rfl
@[simp] theorem ev_fIxT {xs : List PyData} {i : Int} : fIx s (.d (.tuple xs)) (.d (.int i)) = (atI xs i).map R.d := by
  show (match rdQ (.d (.tuple xs)) with | some xs => (atI xs i).map R.d | none => none) = _
  rfl
@[simp] theorem ev_fIxL {xs : List PyData} {i : Int} : fIx s (.d (.list xs)) (.d (.int i)) = (atI xs i).map R.d := rfl
@[simp] theorem ev_fIxB {xs : List PyData} {i : Int} : fIx s (.b xs) (.d (.int i)) = (atI xs i).map R.d := rfl
@[simp] theorem ev_fIxF {xs : List PyData} {i : Int} : fIx s (.f xs) (.d (.int i)) = (atI xs i).map R.d := rfl
@[simp] theorem ev_fIxS {i : Int} : fIx s .s (.d (.int i)) = (atI s i).map fun j => .d (.int j) := rfl
@[simp] theorem ev_atI0 {x : α} {xs : List α} : atI (x :: xs) 0 = some x := by
  unfold atI ixN
  simp
@[simp] theorem ev_atI1 {x y : α} {xs : List α} : atI (x :: y :: xs) 1 = some y := by
  have h : (1 : Int) < (xs.length : Int) + 1 + 1 := by omega
  unfold atI ixN
  simp [h]
@[simp] theorem ev_atI2 {x y z : α} {xs : List α} : atI (x :: y :: z :: xs) 2 = some z := by
  have h : (2 : Int) < (xs.length : Int) + 1 + 1 + 1 := by omega
  unfold atI ixN
  simp [h]
@[simp] theorem ev_fLen : fLen [x] = (rdQ x).map fun xs => .d (.int xs.length) := rfl
@[simp] theorem ev_fIsi {T : String} : fIsi T x = (rdD x).map fun d => .d (.bool (isA T d)) := rfl
@[simp] theorem ev_fTup {rs : List R} : fTup rs = (match toDs rs with | some xs => if xs.length ≤ sizeLine then some (.d (.tuple xs)) else none | none => none) := rfl
@[simp] theorem ev_fLst {rs : List R} : fLst rs = (match toDs rs with | some xs => if xs.length ≤ sizeLine then some (.f xs) else none | none => none) := rfl
@[simp] theorem ev_fGcd {i j : Int} : fGcd [.d (.int i), .d (.int j)] = some (.d (.int ((Nat.gcd i.natAbs j.natAbs : Nat) : Int))) := rfl
@[simp] theorem ev_fAbs {i : Int} : fAbs [.d (.int i)] = some (.d (.int (if i < 0 then -i else i))) := rfl
@[simp] theorem ev_fInt {i : Int} : fInt [.d (.int i)] = some (.d (.int i)) := rfl
@[simp] theorem ev_fTupOf1 {xs : List PyData} : fTupOf [.f xs] = some (.d (.tuple xs)) := rfl
@[simp] theorem ev_fTupOf2 {xs : List PyData} : fTupOf [.b xs] = some (.d (.tuple xs)) := rfl
@[simp] theorem ev_fTupOf3 {xs : List PyData} : fTupOf [.d (.list xs)] = some (.d (.tuple xs)) := rfl
@[simp] theorem ev_fTupOf4 {xs : List PyData} : fTupOf [.d (.tuple xs)] = some (.d (.tuple xs)) := rfl
@[simp] theorem ev_fAddI {i j : Int} : fAdd (.d (.int i)) (.d (.int j)) = some (.d (.int (i + j))) := rfl
@[simp] theorem ev_fAddT {xs ys : List PyData} : fAdd (.d (.tuple xs)) (.d (.tuple ys)) = if xs.length + ys.length ≤ sizeLine then some (.d (.tuple (xs ++ ys))) else none := rfl
@[simp] theorem ev_fMulI {i j : Int} : fMul (.d (.int i)) (.d (.int j)) = if mulOk i j = true then some (.d (.int (i * j))) else none := rfl
@[simp] theorem ev_mCnt : mCnt ρ s = some (.ct, ρ, s) := rfl
@[simp] theorem ev_mRetN : mRetN ρ s = some (.rt (.d .none), ρ, s) := rfl
@[simp] theorem ev_forNil {g : Gx} : forRun g ma [] ρ s = some (.nx, ρ, s) := rfl
@[simp] theorem ev_lcNil {vs : List Nat} {g : Gx} : lcRun vs g ta a [] ρ s = some ([], s) := rfl
@[simp] theorem ev_mFrz {is : List Nat} : mFrz is ma ρ s = ma (frzs ρ is) s := rfl
@[simp] theorem ev_wipe0 : wipeE ρ [] = ρ := rfl
@[simp] theorem ev_wipe1 {v : Nat} {vs : List Nat} : wipeE ρ (v :: vs) = (wipeE ρ vs).set v none := rfl
@[simp] theorem ev_isA_int_int {i : Int} : isA "int" (.int i) = true := rfl
@[simp] theorem ev_isA_int_bool {k : Bool} : isA "int" (.bool k) = true := rfl
@[simp] theorem ev_isA_int_none : isA "int" .none = false := rfl
@[simp] theorem ev_isA_int_str {x : Str} : isA "int" (.str x) = false := rfl
@[simp] theorem ev_isA_int_list {xs : List PyData} : isA "int" (.list xs) = false := rfl
@[simp] theorem ev_isA_int_tuple {xs : List PyData} : isA "int" (.tuple xs) = false := rfl
@[simp] theorem ev_isA_int_dict {xs : List (PyData × PyData)} : isA "int" (.dict xs) = false := rfl
@[simp] theorem ev_isA_bool_int {i : Int} : isA "bool" (.int i) = false := rfl
@[simp] theorem ev_isA_bool_bool {k : Bool} : isA "bool" (.bool k) = true := rfl
@[simp] theorem ev_isA_bool_none : isA "bool" .none = false := rfl
@[simp] theorem ev_isA_bool_str {x : Str} : isA "bool" (.str x) = false := rfl
@[simp] theorem ev_isA_bool_list {xs : List PyData} : isA "bool" (.list xs) = false := rfl
@[simp] theorem ev_isA_bool_tuple {xs : List PyData} : isA "bool" (.tuple xs) = false := rfl
@[simp] theorem ev_isA_bool_dict {xs : List (PyData × PyData)} : isA "bool" (.dict xs) = false := rfl
@[simp] theorem ev_isA_tuple_int {i : Int} : isA "tuple" (.int i) = false := rfl
@[simp] theorem ev_isA_tuple_bool {k : Bool} : isA "tuple" (.bool k) = false := rfl
@[simp] theorem ev_isA_tuple_none : isA "tuple" .none = false := rfl
@[simp] theorem ev_isA_tuple_str {x : Str} : isA "tuple" (.str x) = false := rfl
@[simp] theorem ev_isA_tuple_list {xs : List PyData} : isA "tuple" (.list xs) = false := rfl
@[simp] theorem ev_isA_tuple_tuple {xs : List PyData} : isA "tuple" (.tuple xs) = true := rfl
@[simp] theorem ev_isA_tuple_dict {xs : List (PyData × PyData)} : isA "tuple" (.dict xs) = false := rfl
end
end Dh

/-! Pl1: fractions -/
namespace Dh
open PySem PySem.Spec L2
abbrev Fr := Int × Int
def gg (a b : Int) : Int := ((Nat.gcd a.natAbs b.natAbs : Nat) : Int)
def nrm (a b : Int) : Fr := (a / gg a b, b / gg a b)
def pF (p : Fr) : PyData := .tuple [.int p.1, .int p.2]
def FrOk (p : Fr) : Prop := 0 < p.2 ∧ gg p.1 p.2 = 1
def FrLt (k : Nat) (p : Fr) : Prop := p.1.natAbs < 2 ^ k ∧ p.2.natAbs < 2 ^ k
def fpl (p q : Fr) : Fr := nrm (p.1 * q.2 + q.1 * p.2) (p.2 * q.2)
def ftm (p q : Fr) : Fr := nrm (p.1 * q.1) (p.2 * q.2)
def ftot (l : List Fr) : Fr := l.foldl fpl (0, 1)
def fdot (l m : List Fr) : Fr := ftot ((l.zip m).map fun p => ftm p.1 p.2)
theorem intBits_le {i : Int} {k : Nat} (h : i.natAbs < 2 ^ k) : Builtin.Int.intBits i ≤ k := by
  unfold Builtin.Int.intBits
  split
  · exact Nat.zero_le _
  · rename_i q
    have hz : i.natAbs ≠ 0 := by
      intro z
      exact q (by simpa using z)
    have := (Nat.log2_lt hz).mpr h
    omega
theorem mulOk_of {i j : Int} {a b : Nat} (h1 : i.natAbs < 2 ^ a) (h2 : j.natAbs < 2 ^ b) (h : a + b ≤ 134217728) : mulOk i j = true := by
  have x := intBits_le h1
  have y := intBits_le h2
  exact Nat.ble_eq_true_of_le (by omega)
theorem pylong_of {i j : Int} (h : j.natAbs < 2 ^ 9000) : Builtin.divisionGoesByPylong i j = false := by
  unfold Builtin.divisionGoesByPylong
  by_cases hz : j = 0
  · subst hz; simp
  · have hn : j.natAbs ≠ 0 := by omega
    have := (Nat.log2_lt hn).mpr h
    have q : ¬ (j.natAbs.log2 / 30 + 1 > 300) := by omega
    simp [hz, q]
theorem gg_pos {a b : Int} (h : b ≠ 0) : 0 < gg a b := by
  unfold gg
  have := Nat.gcd_pos_of_pos_right a.natAbs (n := b.natAbs) (by omega)
  omega
theorem gg_le {a b : Int} (h : b ≠ 0) : (gg a b).natAbs ≤ b.natAbs := by
  unfold gg
  rw [Int.natAbs_natCast]
  exact Nat.gcd_le_right _ (by omega)
theorem gg_dvd1 (a b : Int) : gg a b ∣ a := by
  unfold gg
  exact Int.ofNat_dvd_left.mpr (Nat.gcd_dvd_left _ _)
theorem gg_dvd2 (a b : Int) : gg a b ∣ b := by
  unfold gg
  exact Int.ofNat_dvd_left.mpr (Nat.gcd_dvd_right _ _)
theorem nrm_pos {a b : Int} (h : 0 < b) : 0 < (nrm a b).2 := Int.ediv_pos_of_pos_of_dvd h (Int.le_of_lt (gg_pos (by omega))) (gg_dvd2 a b)
theorem nrm_ok {a b : Int} (h : 0 < b) : FrOk (nrm a b) := by
  refine ⟨nrm_pos h, ?_⟩
  have g : 0 < gg a b := gg_pos (by omega)
  unfold nrm
  show gg (a / gg a b) (b / gg a b) = 1
  have e1 := Int.natAbs_ediv_of_dvd (gg_dvd1 a b)
  have e2 := Int.natAbs_ediv_of_dvd (gg_dvd2 a b)
  unfold gg at *
  rw [e1, e2, Int.natAbs_natCast]
  have : Nat.gcd a.natAbs b.natAbs ≠ 0 := by omega
  rw [Nat.gcd_div (Nat.gcd_dvd_left _ _) (Nat.gcd_dvd_right _ _), Nat.div_self (by omega)]
  rfl
theorem nrm_lt {a b : Int} {k : Nat} (h : 0 < b) (h1 : a.natAbs < 2 ^ k) (h2 : b.natAbs < 2 ^ k) : FrLt k (nrm a b) := by
  unfold nrm FrLt
  dsimp only
  rw [Int.natAbs_ediv_of_dvd (gg_dvd1 a b), Int.natAbs_ediv_of_dvd (gg_dvd2 a b)]
  exact ⟨Nat.lt_of_le_of_lt (Nat.div_le_self _ _) h1, Nat.lt_of_le_of_lt (Nat.div_le_self _ _) h2⟩
theorem lt_add {i j : Int} {a b : Nat} (h1 : i.natAbs < 2 ^ a) (h2 : j.natAbs < 2 ^ b) : (i * j).natAbs < 2 ^ (a + b) := by
  rw [Int.natAbs_mul, Nat.pow_add]
  exact Nat.mul_lt_mul'' h1 h2
theorem lt_mono {i : Int} {a b : Nat} (h1 : i.natAbs < 2 ^ a) (h : a ≤ b) : i.natAbs < 2 ^ b := Nat.lt_of_lt_of_le h1 (Nat.pow_le_pow_right (by decide) h)
theorem lt_sum {i j : Int} {a : Nat} (h1 : i.natAbs < 2 ^ a) (h2 : j.natAbs < 2 ^ a) : (i + j).natAbs < 2 ^ (a + 1) := by
  have := Int.natAbs_add_le i j
  rw [Nat.pow_succ]
  omega
theorem FrLt.mono {a b : Nat} {p : Fr} (h1 : FrLt a p) (h : a ≤ b) : FrLt b p := ⟨lt_mono h1.1 h, lt_mono h1.2 h⟩
theorem fpl_lt {a b : Nat} {p q : Fr} (hp : FrLt a p) (hq : FrLt b q) (h1 : 0 < p.2) (h2 : 0 < q.2) : FrLt (a + b + 1) (fpl p q) := by
  have x := lt_add hp.1 hq.2
  have y := lt_add hq.1 hp.2
  rw [Nat.add_comm b a] at y
  exact nrm_lt (Int.mul_pos h1 h2) (lt_sum x y) (lt_mono (lt_add hp.2 hq.2) (by omega))
theorem fpl_ok {p q : Fr} (h1 : 0 < p.2) (h2 : 0 < q.2) : FrOk (fpl p q) := nrm_ok (Int.mul_pos h1 h2)
theorem ftm_lt {a b : Nat} {p q : Fr} (hp : FrLt a p) (hq : FrLt b q) (h1 : 0 < p.2) (h2 : 0 < q.2) : FrLt (a + b) (ftm p q) :=
  nrm_lt (Int.mul_pos h1 h2) (lt_add hp.1 hq.1) (lt_add hp.2 hq.2)
theorem ftm_ok {p q : Fr} (h1 : 0 < p.2) (h2 : 0 < q.2) : FrOk (ftm p q) := nrm_ok (Int.mul_pos h1 h2)
/-- the sum so far -/
theorem fold_lt {k : Nat} : ∀ (l : List Fr) (p : Fr) (n : Nat), (∀ q ∈ l, 0 < q.2 ∧ FrLt k q) → 0 < p.2 → FrLt n p → 0 < (l.foldl fpl p).2 ∧ FrLt (n + (k + 1) * l.length) (l.foldl fpl p)
  | [], p, n, _, h, h2 => ⟨h, by simpa using h2⟩
  | q :: l, p, n, hl, h, h2 => by
    have hq := hl q List.mem_cons_self
    have r := fold_lt l (fpl p q) (n + k + 1) (fun z hz => hl z (List.mem_cons_of_mem _ hz)) (fpl_ok h hq.1).1 (fpl_lt h2 hq.2 h hq.1)
    rw [List.foldl_cons]
    refine ⟨r.1, r.2.mono ?_⟩
    rw [List.length_cons, Nat.mul_add]
    omega
theorem gg_scale {a b c : Int} (h : 0 < c) : gg (c * a) (c * b) = c * gg a b := by
  unfold gg
  rw [Int.natAbs_mul, Int.natAbs_mul, Nat.gcd_mul_left, Int.natCast_mul, Int.natAbs_of_nonneg (Int.le_of_lt h)]
theorem nrm_scale {a b c : Int} (h : 0 < c) : nrm (c * a) (c * b) = nrm a b := by
  unfold nrm
  rw [gg_scale h, Int.mul_ediv_mul_of_pos _ _ h, Int.mul_ediv_mul_of_pos _ _ h]
theorem nrm_eq {a b c d : Int} (hb : 0 < b) (hd : 0 < d) (h : a * d = c * b) : nrm a b = nrm c d := by
  rw [← nrm_scale (a := a) (b := b) hd, ← nrm_scale (a := c) (b := d) hb]
  rw [Int.mul_comm d a, h, Int.mul_comm c b, Int.mul_comm d b]
theorem nrm_id {p : Fr} (h : FrOk p) : nrm p.1 p.2 = p := by
  unfold nrm
  rw [h.2, Int.ediv_one, Int.ediv_one]
theorem nrm_cross {a b : Int} (h : 0 < b) : (nrm a b).1 * b = a * (nrm a b).2 := by
  unfold nrm
  obtain ⟨x, hx⟩ := gg_dvd1 a b
  obtain ⟨y, hy⟩ := gg_dvd2 a b
  have g : gg a b ≠ 0 := by have := gg_pos (a := a) (b := b) (by omega); omega
  have e1 : a / gg a b = x := Int.ediv_eq_of_eq_mul_right g hx
  have e2 : b / gg a b = y := Int.ediv_eq_of_eq_mul_right g hy
  dsimp only
  rw [e1, e2]
  conv => lhs; rw [hy]
  conv => rhs; rw [hx]
  rw [Int.mul_comm x, Int.mul_right_comm]
/-- the sum of two fractions with the same number below -/
theorem fpl_nrm {a b d : Int} (h : 0 < d) : fpl (nrm a d) (nrm b d) = nrm (a + b) d := by
  unfold fpl
  have h1 := nrm_cross (a := a) h
  have h2 := nrm_cross (a := b) h
  have p1 := nrm_pos (a := a) h
  have p2 := nrm_pos (a := b) h
  refine nrm_eq (Int.mul_pos p1 p2) h ?_
  generalize (nrm a d).1 = x at *
  generalize (nrm a d).2 = y at *
  generalize (nrm b d).1 = z at *
  generalize (nrm b d).2 = t at *
  have e : (x * t + z * y) * d = x * d * t + z * d * y := by
    rw [Int.add_mul, Int.mul_right_comm, Int.mul_right_comm z]
  rw [e, h1, h2, Int.add_mul]
  congr 1
  · rw [Int.mul_assoc]
  · rw [Int.mul_assoc, Int.mul_comm t y]
end Dh

namespace W2
open PySem PySem.Spec L2 Dh
def top (i : Nat) : Stmt := PySem.Challenge.pw_deedhouses_k02_houses_starts_and_weighte.main.body.getD i (.Pass ⟨0, 0, 0, 0⟩)
abbrev s_is_whole : Stmt := top 2
abbrev n_is_whole : List Str := ["value"]
abbrev p_is_whole : List Str := ["value"]
abbrev s_is_between : Stmt := top 3
abbrev n_is_between : List Str := ["value", "low", "high"]
abbrev p_is_between : List Str := ["value", "low", "high"]
abbrev s_is_tuple_of : Stmt := top 4
abbrev n_is_tuple_of : List Str := ["value", "many"]
abbrev p_is_tuple_of : List Str := ["value", "many"]
abbrev s_is_ratio : Stmt := top 8
abbrev n_is_ratio : List Str := ["value"]
abbrev p_is_ratio : List Str := ["value"]
abbrev s_is_row : Stmt := top 9
abbrev n_is_row : List Str := ["value", "many", "each"]
abbrev p_is_row : List Str := ["value", "many"]
abbrev s_ratio : Stmt := top 10
abbrev n_ratio : List Str := ["top", "low", "part"]
abbrev p_ratio : List Str := ["top", "low"]
abbrev s_plus : Stmt := top 11
abbrev n_plus : List Str := ["one", "two"]
abbrev p_plus : List Str := ["one", "two"]
abbrev s_times : Stmt := top 12
abbrev n_times : List Str := ["one", "two"]
abbrev p_times : List Str := ["one", "two"]
abbrev s_total : Stmt := top 13
abbrev n_total : List Str := ["fractions", "found", "each"]
abbrev p_total : List Str := ["fractions"]
abbrev s_dot : Stmt := top 14
abbrev n_dot : List Str := ["one", "two", "here", "there"]
abbrev p_dot : List Str := ["one", "two"]
abbrev s_is_chance_row : Stmt := top 15
abbrev n_is_chance_row : List Str := ["value", "many", "each"]
abbrev p_is_chance_row : List Str := ["value", "many"]
abbrev s_are_chances : Stmt := top 20
abbrev n_are_chances : List Str := ["value", "stands", "goals", "each", "stand", "chance", "_", "one", "two"]
abbrev p_are_chances : List Str := ["value", "stands"]
abbrev s_is_deed : Stmt := top 21
abbrev n_is_deed : List Str := ["value", "pays", "stands"]
abbrev p_is_deed : List Str := ["value", "pays", "stands"]
abbrev s_is_stand : Stmt := top 22
abbrev n_is_stand : List Str := ["value", "pays", "stands", "each"]
abbrev p_is_stand : List Str := ["value", "pays", "stands"]
abbrev s_is_share : Stmt := top 23
abbrev n_is_share : List Str := ["value"]
abbrev p_is_share : List Str := ["value"]
abbrev s_is_house_by : Stmt := top 24
abbrev n_is_house_by : List Str := ["value", "stands", "each"]
abbrev p_is_house_by : List Str := ["value"]
abbrev s_is_start_by : Stmt := top 25
abbrev n_is_start_by : List Str := ["house", "value"]
abbrev p_is_start_by : List Str := ["house", "value"]
abbrev s_weighted_by : Stmt := top 26
abbrev n_weighted_by : List Str := ["house", "weights", "stands", "stand", "chances", "gains"]
abbrev p_weighted_by : List Str := ["house", "weights"]
abbrev s_check_house : Stmt := top 32
abbrev n_check_house : List Str := ["value"]
abbrev p_check_house : List Str := ["value"]
abbrev s_check_weights : Stmt := top 33
abbrev n_check_weights : List Str := ["house", "value", "index", "each"]
abbrev p_check_weights : List Str := ["house", "value"]
abbrev s_is_house : Stmt := top 35
abbrev n_is_house : List Str := ["value"]
abbrev p_is_house : List Str := ["value"]
abbrev s_is_start : Stmt := top 36
abbrev n_is_start : List Str := ["house", "value"]
abbrev p_is_start : List Str := ["house", "value"]
abbrev s_weighted : Stmt := top 37
abbrev n_weighted : List Str := ["house", "weights"]
abbrev p_weighted : List Str := ["house", "weights"]
abbrev s_law_spring : Stmt := top 39
abbrev n_law_spring : List Str := ["_law_script", "_law_lap", "_law_mixed", "_law_cell", "_law_own"]
abbrev p_law_spring : List Str := ["_law_script", "_law_lap"]
abbrev s_law_pick : Stmt := top 40
abbrev n_law_pick : List Str := ["_law_spring_here", "_law_limit", "_law_digit", "_law_mixed"]
abbrev p_law_pick : List Str := ["_law_spring_here", "_law_limit"]
abbrev s_law_any_of : Stmt := top 41
abbrev n_law_any_of : List Str := ["_law_spring_here", "_law_some"]
abbrev p_law_any_of : List Str := ["_law_spring_here", "_law_some"]
abbrev s_law_frac : Stmt := top 42
abbrev n_law_frac : List Str := ["_law_up", "_law_down", "_law_one", "_law_two"]
abbrev p_law_frac : List Str := ["_law_up", "_law_down"]
abbrev s_law_plus : Stmt := top 43
abbrev n_law_plus : List Str := ["_law_x", "_law_y"]
abbrev p_law_plus : List Str := ["_law_x", "_law_y"]
abbrev s_law_times : Stmt := top 44
abbrev n_law_times : List Str := ["_law_x", "_law_y"]
abbrev p_law_times : List Str := ["_law_x", "_law_y"]
abbrev s_law_total : Stmt := top 45
abbrev n_law_total : List Str := ["_law_row", "_law_found", "_law_x"]
abbrev p_law_total : List Str := ["_law_row"]
abbrev s_law_dot : Stmt := top 46
abbrev n_law_dot : List Str := ["_law_one", "_law_two", "_law_found", "_law_x", "_law_y"]
abbrev p_law_dot : List Str := ["_law_one", "_law_two"]
abbrev s_law_part : Stmt := top 47
abbrev n_law_part : List Str := ["_law_spring_here", "_law_way", "_law_under"]
abbrev p_law_part : List Str := ["_law_spring_here"]
abbrev s_law_gains : Stmt := top 48
abbrev n_law_gains : List Str := ["_law_spring_here", "_law_pays", "_law_found", "_law_go"]
abbrev p_law_gains : List Str := ["_law_spring_here", "_law_pays"]
abbrev s_law_parts : Stmt := top 49
abbrev n_law_parts : List Str := ["_law_spring_here", "_law_wide", "_law_found", "_law_at", "_law_way"]
abbrev p_law_parts : List Str := ["_law_spring_here", "_law_wide"]
abbrev s_law_chances : Stmt := top 50
abbrev n_law_chances : List Str := ["_law_spring_here", "_law_wide", "_law_parts_here", "_law_at"]
abbrev p_law_chances : List Str := ["_law_spring_here", "_law_wide"]
abbrev s_law_odds : Stmt := top 51
abbrev n_law_odds : List Str := ["_law_spring_here", "_law_wide", "_law_parts_here", "_law_part_here"]
abbrev p_law_odds : List Str := ["_law_spring_here", "_law_wide"]
abbrev s_law_sized : Stmt := top 52
abbrev n_law_sized : List Str := ["_law_spring_here", "_law_counts", "_law_pays", "_law_share", "_law_stands", "_law_many_here", "_law_stand", "_law_go", "_law_chances_here"]
abbrev p_law_sized : List Str := ["_law_spring_here", "_law_counts", "_law_pays"]
abbrev s_law_world : Stmt := top 53
abbrev n_law_world : List Str := ["_law_spring_here", "_law_most_here", "_law_deeds", "_law_pays", "_law_counts", "_law_go"]
abbrev p_law_world : List Str := ["_law_spring_here", "_law_most_here", "_law_deeds", "_law_pays"]
abbrev s_law_dressed : Stmt := top 54
abbrev n_law_dressed : List Str := ["_law_world_here", "_law_by", "_law_stands", "_law_stand", "_law_deed"]
abbrev p_law_dressed : List Str := ["_law_world_here", "_law_by"]
abbrev s_law_is_whole : Stmt := top 55
abbrev n_law_is_whole : List Str := ["_law_thing"]
abbrev p_law_is_whole : List Str := ["_law_thing"]
abbrev s_law_is_tuple : Stmt := top 56
abbrev n_law_is_tuple : List Str := ["_law_thing", "_law_wide"]
abbrev p_law_is_tuple : List Str := ["_law_thing", "_law_wide"]
abbrev s_law_is_frac : Stmt := top 57
abbrev n_law_is_frac : List Str := ["_law_thing"]
abbrev p_law_is_frac : List Str := ["_law_thing"]
abbrev s_law_is_row : Stmt := top 58
abbrev n_law_is_row : List Str := ["_law_thing", "_law_wide", "_law_x"]
abbrev p_law_is_row : List Str := ["_law_thing", "_law_wide"]
abbrev s_law_is_odds : Stmt := top 59
abbrev n_law_is_odds : List Str := ["_law_thing", "_law_wide", "_law_x"]
abbrev p_law_is_odds : List Str := ["_law_thing", "_law_wide"]
abbrev s_law_is_deed : Stmt := top 60
abbrev n_law_is_deed : List Str := ["_law_thing", "_law_pays", "_law_wide", "_law_last", "_law_whole", "_law_part_here"]
abbrev p_law_is_deed : List Str := ["_law_thing", "_law_pays", "_law_wide"]
abbrev s_law_is_world : Stmt := top 61
abbrev n_law_is_world : List Str := ["_law_thing", "_law_stand", "_law_deed"]
abbrev p_law_is_world : List Str := ["_law_thing"]
abbrev s_law_odd : Stmt := top 62
abbrev n_law_odd : List Str := ["_law_spring_here"]
abbrev p_law_odd : List Str := ["_law_spring_here"]
abbrev s_law_twice : Stmt := top 63
abbrev n_law_twice : List Str := ["_law_thing"]
abbrev p_law_twice : List Str := ["_law_thing"]
abbrev s_law_bent : Stmt := top 64
abbrev n_law_bent : List Str := ["_law_spring_here", "_law_thing", "_law_at", "_law_way", "_law_more"]
abbrev p_law_bent : List Str := ["_law_spring_here", "_law_thing"]
abbrev s_law_maybe : Stmt := top 65
abbrev n_law_maybe : List Str := ["_law_spring_here", "_law_thing", "_law_way"]
abbrev p_law_maybe : List Str := ["_law_spring_here", "_law_thing"]
abbrev s_law_edge : Stmt := top 66
abbrev n_law_edge : List Str := ["_law_spring_here", "_law_way", "_law_counts", "_law_pays", "_law_go"]
abbrev p_law_edge : List Str := ["_law_spring_here"]
abbrev s_law_right : Stmt := top 67
abbrev n_law_right : List Str := ["_law_spring_here", "_law_world_here", "_law_thing", "_law_begin", "_law_by", "_law_heard", "_law_due_begin", "_law_told"]
abbrev p_law_right : List Str := ["_law_spring_here"]
abbrev s_law : Stmt := top 68
abbrev n_law : List Str := ["_law_script", "_law_lap"]
abbrev p_law : List Str := ["_law_script"]
def k_MOST_DEEDS : PyData := (.int 4)
def k_MOST_PAYS : PyData := (.int 4)
def k_MOST_STANDS : PyData := (.int 8)
def k_ONE : PyData := (.tuple [(.int 1), (.int 1)])
def k_ZERO : PyData := (.tuple [(.int 0), (.int 1)])
/-- what the top has made of the text -/
structure Txt (K : PySem.W.Frag) (mg : Str → Option Value) (ad : Nat → Addr) (fd : Nat → FuncData) : Prop where
  d_is_whole : Fun K "is_whole" "is_whole" s_is_whole (ad 0) (fd 0)
  m_is_whole : mg "is_whole" = some (.ref (ad 0))
  d_is_between : Fun K "is_between" "is_between" s_is_between (ad 1) (fd 1)
  m_is_between : mg "is_between" = some (.ref (ad 1))
  d_is_tuple_of : Fun K "is_tuple_of" "is_tuple_of" s_is_tuple_of (ad 2) (fd 2)
  m_is_tuple_of : mg "is_tuple_of" = some (.ref (ad 2))
  d_is_ratio : Fun K "is_ratio" "is_ratio" s_is_ratio (ad 3) (fd 3)
  m_is_ratio : mg "is_ratio" = some (.ref (ad 3))
  d_is_row : Fun K "is_row" "is_row" s_is_row (ad 4) (fd 4)
  m_is_row : mg "is_row" = some (.ref (ad 4))
  d_ratio : Fun K "ratio" "ratio" s_ratio (ad 5) (fd 5)
  m_ratio : mg "ratio" = some (.ref (ad 5))
  d_plus : Fun K "plus" "plus" s_plus (ad 6) (fd 6)
  m_plus : mg "plus" = some (.ref (ad 6))
  d_times : Fun K "times" "times" s_times (ad 7) (fd 7)
  m_times : mg "times" = some (.ref (ad 7))
  d_total : Fun K "total" "total" s_total (ad 8) (fd 8)
  m_total : mg "total" = some (.ref (ad 8))
  d_dot : Fun K "dot" "dot" s_dot (ad 9) (fd 9)
  m_dot : mg "dot" = some (.ref (ad 9))
  d_is_chance_row : Fun K "is_chance_row" "is_chance_row" s_is_chance_row (ad 10) (fd 10)
  m_is_chance_row : mg "is_chance_row" = some (.ref (ad 10))
  d_are_chances : Fun K "are_chances" "are_chances" s_are_chances (ad 11) (fd 11)
  m_are_chances : mg "are_chances" = some (.ref (ad 11))
  d_is_deed : Fun K "is_deed" "is_deed" s_is_deed (ad 12) (fd 12)
  m_is_deed : mg "is_deed" = some (.ref (ad 12))
  d_is_stand : Fun K "is_stand" "is_stand" s_is_stand (ad 13) (fd 13)
  m_is_stand : mg "is_stand" = some (.ref (ad 13))
  d_is_share : Fun K "is_share" "is_share" s_is_share (ad 14) (fd 14)
  m_is_share : mg "is_share" = some (.ref (ad 14))
  d_is_house_by : Fun K "is_house_by" "is_house_by" s_is_house_by (ad 15) (fd 15)
  m_is_house_by : mg "is_house_by" = some (.ref (ad 15))
  d_is_start_by : Fun K "is_start_by" "is_start_by" s_is_start_by (ad 16) (fd 16)
  m_is_start_by : mg "is_start_by" = some (.ref (ad 16))
  d_weighted_by : Fun K "weighted_by" "weighted_by" s_weighted_by (ad 17) (fd 17)
  m_weighted_by : mg "weighted_by" = some (.ref (ad 17))
  d_check_house : Fun K "check_house" "check_house" s_check_house (ad 18) (fd 18)
  m_check_house : mg "check_house" = some (.ref (ad 18))
  d_check_weights : Fun K "check_weights" "check_weights" s_check_weights (ad 19) (fd 19)
  m_check_weights : mg "check_weights" = some (.ref (ad 19))
  d_is_house : Fun K "is_house" "is_house" s_is_house (ad 20) (fd 20)
  m_is_house : mg "is_house" = some (.ref (ad 20))
  d_is_start : Fun K "is_start" "is_start" s_is_start (ad 21) (fd 21)
  m_is_start : mg "is_start" = some (.ref (ad 21))
  d_weighted : Fun K "weighted" "weighted" s_weighted (ad 22) (fd 22)
  m_weighted : mg "weighted" = some (.ref (ad 22))
  d_law_spring : Fun K "_law_spring" "_law_spring" s_law_spring (ad 23) (fd 23)
  m_law_spring : mg "_law_spring" = some (.ref (ad 23))
  d_law_pick : Fun K "_law_pick" "_law_pick" s_law_pick (ad 24) (fd 24)
  m_law_pick : mg "_law_pick" = some (.ref (ad 24))
  d_law_any_of : Fun K "_law_any_of" "_law_any_of" s_law_any_of (ad 25) (fd 25)
  m_law_any_of : mg "_law_any_of" = some (.ref (ad 25))
  d_law_frac : Fun K "_law_frac" "_law_frac" s_law_frac (ad 26) (fd 26)
  m_law_frac : mg "_law_frac" = some (.ref (ad 26))
  d_law_plus : Fun K "_law_plus" "_law_plus" s_law_plus (ad 27) (fd 27)
  m_law_plus : mg "_law_plus" = some (.ref (ad 27))
  d_law_times : Fun K "_law_times" "_law_times" s_law_times (ad 28) (fd 28)
  m_law_times : mg "_law_times" = some (.ref (ad 28))
  d_law_total : Fun K "_law_total" "_law_total" s_law_total (ad 29) (fd 29)
  m_law_total : mg "_law_total" = some (.ref (ad 29))
  d_law_dot : Fun K "_law_dot" "_law_dot" s_law_dot (ad 30) (fd 30)
  m_law_dot : mg "_law_dot" = some (.ref (ad 30))
  d_law_part : Fun K "_law_part" "_law_part" s_law_part (ad 31) (fd 31)
  m_law_part : mg "_law_part" = some (.ref (ad 31))
  d_law_gains : Fun K "_law_gains" "_law_gains" s_law_gains (ad 32) (fd 32)
  m_law_gains : mg "_law_gains" = some (.ref (ad 32))
  d_law_parts : Fun K "_law_parts" "_law_parts" s_law_parts (ad 33) (fd 33)
  m_law_parts : mg "_law_parts" = some (.ref (ad 33))
  d_law_chances : Fun K "_law_chances" "_law_chances" s_law_chances (ad 34) (fd 34)
  m_law_chances : mg "_law_chances" = some (.ref (ad 34))
  d_law_odds : Fun K "_law_odds" "_law_odds" s_law_odds (ad 35) (fd 35)
  m_law_odds : mg "_law_odds" = some (.ref (ad 35))
  d_law_sized : Fun K "_law_sized" "_law_sized" s_law_sized (ad 36) (fd 36)
  m_law_sized : mg "_law_sized" = some (.ref (ad 36))
  d_law_world : Fun K "_law_world" "_law_world" s_law_world (ad 37) (fd 37)
  m_law_world : mg "_law_world" = some (.ref (ad 37))
  d_law_dressed : Fun K "_law_dressed" "_law_dressed" s_law_dressed (ad 38) (fd 38)
  m_law_dressed : mg "_law_dressed" = some (.ref (ad 38))
  d_law_is_whole : Fun K "_law_is_whole" "_law_is_whole" s_law_is_whole (ad 39) (fd 39)
  m_law_is_whole : mg "_law_is_whole" = some (.ref (ad 39))
  d_law_is_tuple : Fun K "_law_is_tuple" "_law_is_tuple" s_law_is_tuple (ad 40) (fd 40)
  m_law_is_tuple : mg "_law_is_tuple" = some (.ref (ad 40))
  d_law_is_frac : Fun K "_law_is_frac" "_law_is_frac" s_law_is_frac (ad 41) (fd 41)
  m_law_is_frac : mg "_law_is_frac" = some (.ref (ad 41))
  d_law_is_row : Fun K "_law_is_row" "_law_is_row" s_law_is_row (ad 42) (fd 42)
  m_law_is_row : mg "_law_is_row" = some (.ref (ad 42))
  d_law_is_odds : Fun K "_law_is_odds" "_law_is_odds" s_law_is_odds (ad 43) (fd 43)
  m_law_is_odds : mg "_law_is_odds" = some (.ref (ad 43))
  d_law_is_deed : Fun K "_law_is_deed" "_law_is_deed" s_law_is_deed (ad 44) (fd 44)
  m_law_is_deed : mg "_law_is_deed" = some (.ref (ad 44))
  d_law_is_world : Fun K "_law_is_world" "_law_is_world" s_law_is_world (ad 45) (fd 45)
  m_law_is_world : mg "_law_is_world" = some (.ref (ad 45))
  d_law_odd : Fun K "_law_odd" "_law_odd" s_law_odd (ad 46) (fd 46)
  m_law_odd : mg "_law_odd" = some (.ref (ad 46))
  d_law_twice : Fun K "_law_twice" "_law_twice" s_law_twice (ad 47) (fd 47)
  m_law_twice : mg "_law_twice" = some (.ref (ad 47))
  d_law_bent : Fun K "_law_bent" "_law_bent" s_law_bent (ad 48) (fd 48)
  m_law_bent : mg "_law_bent" = some (.ref (ad 48))
  d_law_maybe : Fun K "_law_maybe" "_law_maybe" s_law_maybe (ad 49) (fd 49)
  m_law_maybe : mg "_law_maybe" = some (.ref (ad 49))
  d_law_edge : Fun K "_law_edge" "_law_edge" s_law_edge (ad 50) (fd 50)
  m_law_edge : mg "_law_edge" = some (.ref (ad 50))
  d_law_right : Fun K "_law_right" "_law_right" s_law_right (ad 51) (fd 51)
  m_law_right : mg "_law_right" = some (.ref (ad 51))
  d_law : Fun K "law" "law" s_law (ad 52) (fd 52)
  m_law : mg "law" = some (.ref (ad 52))
  b_abs : mg "abs" = none
  b_all : mg "all" = none
  b_bool : mg "bool" = none
  b_divmod : mg "divmod" = none
  b_enumerate : mg "enumerate" = none
  b_gcd : mg "gcd" = some (.builtin "math.gcd")
  b_int : mg "int" = none
  b_isinstance : mg "isinstance" = none
  b_len : mg "len" = none
  b_list : mg "list" = none
  b_max : mg "max" = none
  b_min : mg "min" = none
  b_range : mg "range" = none
  b_repr : mg "repr" = none
  b_str : mg "str" = none
  b_sum : mg "sum" = none
  b_tuple : mg "tuple" = none
  b_zip : mg "zip" = none
  g_MOST_DEEDS : GlK K mg "MOST_DEEDS" k_MOST_DEEDS
  g_MOST_PAYS : GlK K mg "MOST_PAYS" k_MOST_PAYS
  g_MOST_STANDS : GlK K mg "MOST_STANDS" k_MOST_STANDS
  g_ONE : GlK K mg "ONE" k_ONE
  g_ZERO : GlK K mg "ZERO" k_ZERO
noncomputable def m_is_whole : Ms :=
  (mRet (mAnd (m1 (fIsi "int") (mVar 0)) (m1 fNot (m1 (fIsi "bool") (mVar 0)))))
noncomputable def f_is_whole : Fx := run' 1 1 m_is_whole
noncomputable def m_is_between : Ms :=
  (mRet (mAnd (mCall f_is_whole (maCons (mVar 0) maNil)) (mChain gLe gLe (mVar 1) (mVar 0) (mVar 2))))
noncomputable def f_is_between : Fx := run' 3 3 m_is_between
noncomputable def m_is_tuple_of : Ms :=
  (mRet (mAnd (m1 (fIsi "tuple") (mVar 0)) (m2 (fEq false) (mA fLen (maCons (mVar 0) maNil)) (mVar 1))))
noncomputable def f_is_tuple_of : Fx := run' 2 2 m_is_tuple_of
noncomputable def m_is_ratio : Ms :=
  (mSeq (mIfS (tOr2 (tNot2 (bT (mCall f_is_tuple_of (maCons (mVar 0) (maCons (mKon (.int 2)) maNil))))) (tOr2 (tNot2 (bT (mCall f_is_whole (maCons (mIx (mVar 0) (mKon (.int 0))) maNil)))) (tNot2 (bT (mCall f_is_whole (maCons (mIx (mVar 0) (mKon (.int 1))) maNil))))))
    (mRet (mKon (.bool false)))
    mNil)
    (mRet (mAnd (m2 (fI gGt) (mIx (mVar 0) (mKon (.int 1))) (mKon (.int 0))) (m2 (fEq false) (mA fGcd (maCons (mIx (mVar 0) (mKon (.int 0))) (maCons (mIx (mVar 0) (mKon (.int 1))) maNil))) (mKon (.int 1))))))
noncomputable def f_is_ratio : Fx := run' 1 1 m_is_ratio
noncomputable def m_is_row : Ms :=
  (mRet (mAnd (mCall f_is_tuple_of (maCons (mVar 0) (maCons (mVar 1) maNil))) (mA fAll (maCons (mLc (mSeqI (mVar 0)) [2] (gN 2) mYes (mCall f_is_ratio (maCons (mVar 2) maNil))) maNil))))
noncomputable def f_is_row : Fx := run' 2 3 m_is_row
noncomputable def m_ratio : Ms :=
  (mSeq (mSet 2 (mIf (bT (m2 (fI gGt) (mVar 1) (mKon (.int 0)))) (mA fGcd (maCons (mVar 0) (maCons (mVar 1) maNil))) (m1 fNeg (mA fGcd (maCons (mVar 0) (maCons (mVar 1) maNil))))))
    (mRet (mA fTup (maCons (m2 (fI gFdiv) (mVar 0) (mVar 2)) (maCons (m2 (fI gFdiv) (mVar 1) (mVar 2)) maNil)))))
noncomputable def f_ratio : Fx := run' 2 3 m_ratio
noncomputable def m_plus : Ms :=
  (mRet (mCall f_ratio (maCons (m2 fAdd (m2 fMul (mIx (mVar 0) (mKon (.int 0))) (mIx (mVar 1) (mKon (.int 1)))) (m2 fMul (mIx (mVar 1) (mKon (.int 0))) (mIx (mVar 0) (mKon (.int 1))))) (maCons (m2 fMul (mIx (mVar 0) (mKon (.int 1))) (mIx (mVar 1) (mKon (.int 1)))) maNil))))
noncomputable def f_plus : Fx := run' 2 2 m_plus
noncomputable def m_times : Ms :=
  (mRet (mCall f_ratio (maCons (m2 fMul (mIx (mVar 0) (mKon (.int 0))) (mIx (mVar 1) (mKon (.int 0)))) (maCons (m2 fMul (mIx (mVar 0) (mKon (.int 1))) (mIx (mVar 1) (mKon (.int 1)))) maNil))))
noncomputable def f_times : Fx := run' 2 2 m_times
noncomputable def m_total : Ms :=
  (mSeq (mSet 1 (mKon k_ZERO))
    (mSeq (mFor (mSeqI (mVar 0)) (gN 2)
    (mSet 1 (mCall f_plus (maCons (mVar 1) (maCons (mVar 2) maNil)))))
    (mRetV 1)))
noncomputable def f_total : Fx := run' 1 3 m_total
noncomputable def m_dot : Ms :=
  (mRet (mCall f_total (maCons (mLc (mArgI zip2 (maCons (mVar 0) (maCons (mVar 1) maNil))) [2, 3] (gT 2 (gsCons (gN 2) (gsCons (gN 3) gsNil))) mYes (mCall f_times (maCons (mVar 2) (maCons (mVar 3) maNil)))) maNil)))
noncomputable def f_dot : Fx := run' 2 4 m_dot
noncomputable def m_is_chance_row : Ms :=
  (mRet (mAnd (mCall f_is_row (maCons (mVar 0) (maCons (mVar 1) maNil))) (mAnd (mA fAll (maCons (mLc (mSeqI (mVar 0)) [2] (gN 2) mYes (m2 (fI gGe) (mIx (mVar 2) (mKon (.int 0))) (mKon (.int 0)))) maNil)) (m2 (fEq false) (mCall f_total (maCons (mVar 0) maNil)) (mKon k_ONE)))))
noncomputable def f_is_chance_row : Fx := run' 2 3 m_is_chance_row
noncomputable def m_are_chances : Ms :=
  (mSeq (mIfS (tOr2 (tNot2 (bT (m1 (fIsi "tuple") (mVar 0)))) (tNot2 (bT (mA fAll (maCons (mLc (mSeqI (mVar 0)) [3] (gN 3) mYes (mCall f_is_tuple_of (maCons (mVar 3) (maCons (mKon (.int 2)) maNil)))) maNil)))))
    (mRet (mKon (.bool false)))
    mNil)
    (mSeq (mIfS (tNot2 (bT (mA fAll (maCons (mLc (mSeqI (mVar 0)) [4, 5] (gT 2 (gsCons (gN 4) (gsCons (gN 5) gsNil))) mYes (mAnd (mCall f_is_between (maCons (mVar 4) (maCons (mKon (.int 0)) (maCons (m2 (fI gMns) (mVar 1) (mKon (.int 1))) maNil)))) (mAnd (mCall f_is_ratio (maCons (mVar 5) maNil)) (m2 (fI gGt) (mIx (mVar 5) (mKon (.int 0))) (mKon (.int 0)))))) maNil))))
    (mRet (mKon (.bool false)))
    mNil)
    (mSeq (mSet 2 (mLc (mSeqI (mVar 0)) [4, 6] (gT 2 (gsCons (gN 4) (gsCons (gN 6) gsNil))) mYes (mVar 4)))
    (mFrz [2] (mRet (mAnd (mA fAll (maCons (mLc (mArgI zip2 (maCons (mVar 2) (maCons (mSl (mVar 2) (moSome (mKon (.int 1))) moNone) maNil))) [7, 8] (gT 2 (gsCons (gN 7) (gsCons (gN 8) gsNil))) mYes (m2 (fI gLt) (mVar 7) (mVar 8))) maNil)) (m2 (fEq false) (mCall f_total (maCons (mLc (mSeqI (mVar 0)) [6, 5] (gT 2 (gsCons (gN 6) (gsCons (gN 5) gsNil))) mYes (mVar 5)) maNil)) (mKon k_ONE))))))))
noncomputable def f_are_chances : Fx := run' 2 9 m_are_chances
noncomputable def m_is_deed : Ms :=
  (mRet (mAnd (mCall f_is_tuple_of (maCons (mVar 0) (maCons (mKon (.int 2)) maNil))) (mAnd (mCall f_are_chances (maCons (mIx (mVar 0) (mKon (.int 0))) (maCons (mVar 2) maNil))) (mCall f_is_row (maCons (mIx (mVar 0) (mKon (.int 1))) (maCons (mVar 1) maNil))))))
noncomputable def f_is_deed : Fx := run' 3 3 m_is_deed
noncomputable def m_is_stand : Ms :=
  (mSeq (mIfS (tOr2 (tNot2 (bT (m1 (fIsi "tuple") (mVar 0)))) (tNot2 (bT (mCall f_is_between (maCons (mA fLen (maCons (mVar 0) maNil)) (maCons (mKon (.int 1)) (maCons (mKon k_MOST_DEEDS) maNil)))))))
    (mRet (mKon (.bool false)))
    mNil)
    (mRet (mA fAll (maCons (mLc (mSeqI (mVar 0)) [3] (gN 3) mYes (mCall f_is_deed (maCons (mVar 3) (maCons (mVar 1) (maCons (mVar 2) maNil))))) maNil))))
noncomputable def f_is_stand : Fx := run' 3 4 m_is_stand
noncomputable def m_is_share : Ms :=
  (mRet (mAnd (mCall f_is_ratio (maCons (mVar 0) maNil)) (mChain gLe gLt (mKon (.int 0)) (mIx (mVar 0) (mKon (.int 0))) (mIx (mVar 0) (mKon (.int 1))))))
noncomputable def f_is_share : Fx := run' 1 1 m_is_share
noncomputable def m_is_house_by : Ms :=
  (mSeq (mIfS (tOr2 (tNot2 (bT (mCall f_is_tuple_of (maCons (mVar 0) (maCons (mKon (.int 3)) maNil))))) (tOr2 (tNot2 (bT (mCall f_is_share (maCons (mIx (mVar 0) (mKon (.int 0))) maNil)))) (tNot2 (bT (mCall f_is_between (maCons (mIx (mVar 0) (mKon (.int 1))) (maCons (mKon (.int 1)) (maCons (mKon k_MOST_PAYS) maNil))))))))
    (mRet (mKon (.bool false)))
    mNil)
    (mSeq (mSet 1 (mIx (mVar 0) (mKon (.int 2))))
    (mSeq (mIfS (tOr2 (tNot2 (bT (m1 (fIsi "tuple") (mVar 1)))) (tNot2 (bT (mCall f_is_between (maCons (mA fLen (maCons (mVar 1) maNil)) (maCons (mKon (.int 1)) (maCons (mKon k_MOST_STANDS) maNil)))))))
    (mRet (mKon (.bool false)))
    mNil)
    (mRet (mA fAll (maCons (mLc (mSeqI (mVar 1)) [2] (gN 2) mYes (mCall f_is_stand (maCons (mVar 2) (maCons (mIx (mVar 0) (mKon (.int 1))) (maCons (mA fLen (maCons (mVar 1) maNil)) maNil))))) maNil))))))
noncomputable def f_is_house_by : Fx := run' 1 3 m_is_house_by
noncomputable def m_is_start_by : Ms :=
  (mRet (mCall f_is_chance_row (maCons (mVar 1) (maCons (mA fLen (maCons (mIx (mVar 0) (mKon (.int 2))) maNil)) maNil))))
noncomputable def f_is_start_by : Fx := run' 2 2 m_is_start_by
noncomputable def m_weighted_by : Ms :=
  (mSeq (mSet 2 (mA fTupOf (maCons (mLc (mSeqI (mIx (mVar 0) (mKon (.int 2)))) [3] (gN 3) mYes (mA fTupOf (maCons (mLc (mSeqI (mVar 3)) [4, 5] (gT 2 (gsCons (gN 4) (gsCons (gN 5) gsNil))) mYes (mA fTup (maCons (mVar 4) (maCons (mA fTup (maCons (mCall f_dot (maCons (mVar 1) (maCons (mVar 5) maNil))) maNil)) maNil)))) maNil))) maNil)))
    (mRet (mA fTup (maCons (mIx (mVar 0) (mKon (.int 0))) (maCons (mKon (.int 1)) (maCons (mVar 2) maNil))))))
noncomputable def f_weighted_by : Fx := run' 2 6 m_weighted_by
noncomputable def m_check_house : Ms :=
  (mIfS (tNot2 (bT (mCall f_is_house_by (maCons (mVar 0) maNil))))
    mNever
    mNil)
noncomputable def f_check_house : Fx := run' 1 1 m_check_house
noncomputable def m_check_weights : Ms :=
  (mSeq (mIfS (tNot2 (bT (mCall f_is_tuple_of (maCons (mVar 1) (maCons (mIx (mVar 0) (mKon (.int 1))) maNil)))))
    mNever
    mNil)
    (mFor (mArgI enum1 (maCons (mVar 1) maNil)) (gT 2 (gsCons (gN 2) (gsCons (gN 3) gsNil)))
    (mIfS (tNot2 (bT (mCall f_is_ratio (maCons (mVar 3) maNil))))
    mNever
    mNil)))
noncomputable def f_check_weights : Fx := run' 2 4 m_check_weights
noncomputable def m_is_house : Ms :=
  (mRet (mCall f_is_house_by (maCons (mVar 0) maNil)))
noncomputable def f_is_house : Fx := run' 1 1 m_is_house
noncomputable def m_is_start : Ms :=
  (mSeq (mDrop (mCall f_check_house (maCons (mVar 0) maNil)))
    (mRet (mCall f_is_start_by (maCons (mVar 0) (maCons (mVar 1) maNil)))))
noncomputable def f_is_start : Fx := run' 2 2 m_is_start
noncomputable def m_weighted : Ms :=
  (mSeq (mDrop (mCall f_check_house (maCons (mVar 0) maNil)))
    (mSeq (mDrop (mCall f_check_weights (maCons (mVar 0) (maCons (mVar 1) maNil))))
    (mRet (mCall f_weighted_by (maCons (mVar 0) (maCons (mVar 1) maNil))))))
noncomputable def f_weighted : Fx := run' 2 2 m_weighted
noncomputable def m_law_spring : Ms :=
  (mSeq (mSet 2 (m2 fAdd (mKon (.int 61990)) (m2 fMul (mKon (.int 9973)) (mVar 1))))
    (mSeq (mFor (mSeqI (mSl (mVar 0) moNone (moSome (mKon (.int 9))))) (gN 3)
    (mSet 2 (m2 (fI gMod) (mA fInt (maCons (m2 fAdd (m2 fAdd (m2 fMul (mVar 2) (mKon (.int 52711))) (m2 fMul (m2 (fI gMod) (mA fInt (maCons (mVar 3) maNil)) (mKon (.int 2147483579))) (mKon (.int 5)))) (mKon (.int 23))) maNil)) (mKon (.int 2147483579)))))
    (mSeq (mSet 4 (mIf (bT (m2 (fI gLt) (mVar 1) (mA fLen (maCons (mVar 0) maNil)))) (mA fInt (maCons (mIx (mVar 0) (mVar 1)) maNil)) (mKon (.int 0))))
    (mSeq (mSet 2 (m2 (fI gMod) (mA fInt (maCons (m2 fAdd (m2 fAdd (m2 fMul (mVar 2) (mKon (.int 41))) (m2 fMul (m2 (fI gMod) (mA fInt (maCons (mVar 4) maNil)) (mKon (.int 2147483579))) (mKon (.int 30103)))) (mKon (.int 7))) maNil)) (mKon (.int 2147483579))))
    (mRet (mA fLst (maCons (mIf (tOr2 (bT (m2 (fI gLt) (mVar 4) (mKon (.int 0)))) (bT (m2 (fI gGe) (mVar 4) (m2 (fI gPow) (mKon (.int 10)) (mKon (.int 15)))))) (mA fAbs (maCons (mVar 4) maNil)) (mKon (.int 0))) (maCons (mVar 2) (maCons (mKon (.int 0)) maNil)))))))))
noncomputable def f_law_spring : Fx := run' 2 5 m_law_spring
noncomputable def m_law_pick : Ms :=
  (mSeq (mIfS (bT (m2 (fI gGt) (mIx (mVar 0) (mKon (.int 0))) (mKon (.int 0))))
    (mSeq (mPair 0 (mKon (.int 0)) 2 (mA fDivmod (maCons (mIx (mVar 0) (mKon (.int 0))) (maCons (mVar 1) maNil))))
    (mRetV 2))
    mNil)
    (mSeq (mPut 0 (mKon (.int 2)) (m2 fAdd (mIx (mVar 0) (mKon (.int 2))) (mKon (.int 1))))
    (mSeq (mSet 3 (m2 (fI gMod) (mA fInt (maCons (m2 fAdd (m2 fMul (mIx (mVar 0) (mKon (.int 1))) (mKon (.int 40692))) (m2 fMul (mKon (.int 15013)) (mIx (mVar 0) (mKon (.int 2))))) maNil)) (mKon (.int 2147483579))))
    (mSeq (mPut 0 (mKon (.int 1)) (m2 (fI gMod) (mA fInt (maCons (m2 fAdd (m2 fMul (mVar 3) (m2 fAdd (m2 (fI gMod) (mA fInt (maCons (mVar 3) maNil)) (mKon (.int 6007))) (mKon (.int 20011)))) (mIx (mVar 0) (mKon (.int 2)))) maNil)) (mKon (.int 2147483579))))
    (mRet (m2 (fI gMod) (mA fInt (maCons (m2 (fI gFdiv) (mIx (mVar 0) (mKon (.int 1))) (mKon (.int 1013))) maNil)) (mVar 1)))))))
noncomputable def f_law_pick : Fx := run' 2 4 m_law_pick
noncomputable def m_law_any_of : Ms :=
  (mRet (mIx (mVar 1) (mCall f_law_pick (maCons (mVar 0) (maCons (mA fLen (maCons (mVar 1) maNil)) maNil)))))
noncomputable def f_law_any_of : Fx := run' 2 2 m_law_any_of
noncomputable def m_law_frac : Ms :=
  (mSeq (mPar 2 3 (maCons (mA fAbs (maCons (mVar 0) maNil)) (maCons (mA fAbs (maCons (mVar 1) maNil)) maNil)))
    (mSeq (mWhile (bT (m2 (fI gGt) (mVar 3) (mKon (.int 0))))
    (mPar 2 3 (maCons (mVar 3) (maCons (m2 (fI gMod) (mA fInt (maCons (mVar 2) maNil)) (mVar 3)) maNil))))
    (mRet (mIf (bT (m2 (fI gGt) (mVar 1) (mKon (.int 0)))) (mA fTup (maCons (m2 (fI gFdiv) (mVar 0) (mVar 2)) (maCons (m2 (fI gFdiv) (mVar 1) (mVar 2)) maNil))) (mA fTup (maCons (m2 (fI gMns) (mKon (.int 0)) (m2 (fI gFdiv) (mVar 0) (mVar 2))) (maCons (m2 (fI gMns) (mKon (.int 0)) (m2 (fI gFdiv) (mVar 1) (mVar 2))) maNil)))))))
noncomputable def f_law_frac : Fx := run' 2 4 m_law_frac
noncomputable def m_law_plus : Ms :=
  (mRet (mCall f_law_frac (maCons (m2 fAdd (m2 fMul (mIx (mVar 0) (mKon (.int 0))) (mIx (mVar 1) (mKon (.int 1)))) (m2 fMul (mIx (mVar 1) (mKon (.int 0))) (mIx (mVar 0) (mKon (.int 1))))) (maCons (m2 fMul (mIx (mVar 0) (mKon (.int 1))) (mIx (mVar 1) (mKon (.int 1)))) maNil))))
noncomputable def f_law_plus : Fx := run' 2 2 m_law_plus
noncomputable def m_law_times : Ms :=
  (mRet (mCall f_law_frac (maCons (m2 fMul (mIx (mVar 0) (mKon (.int 0))) (mIx (mVar 1) (mKon (.int 0)))) (maCons (m2 fMul (mIx (mVar 0) (mKon (.int 1))) (mIx (mVar 1) (mKon (.int 1)))) maNil))))
noncomputable def f_law_times : Fx := run' 2 2 m_law_times
noncomputable def m_law_total : Ms :=
  (mSeq (mSet 1 (mA fTup (maCons (mKon (.int 0)) (maCons (mKon (.int 1)) maNil))))
    (mSeq (mFor (mSeqI (mVar 0)) (gN 2)
    (mSet 1 (mCall f_law_plus (maCons (mVar 1) (maCons (mVar 2) maNil)))))
    (mRetV 1)))
noncomputable def f_law_total : Fx := run' 1 3 m_law_total
noncomputable def m_law_dot : Ms :=
  (mSeq (mSet 2 (mA fTup (maCons (mKon (.int 0)) (maCons (mKon (.int 1)) maNil))))
    (mSeq (mFor (mArgI zip2 (maCons (mVar 0) (maCons (mVar 1) maNil))) (gT 2 (gsCons (gN 3) (gsCons (gN 4) gsNil)))
    (mSet 2 (mCall f_law_plus (maCons (mVar 2) (maCons (mCall f_law_times (maCons (mVar 3) (maCons (mVar 4) maNil))) maNil)))))
    (mRetV 2)))
noncomputable def f_law_dot : Fx := run' 2 5 m_law_dot
noncomputable def m_law_part : Ms :=
  (mSeq (mSet 1 (mCall f_law_pick (maCons (mVar 0) (maCons (mKon (.int 9)) maNil))))
    (mSeq (mIfS (bT (m2 (fI gLt) (mVar 1) (mKon (.int 7))))
    (mRet (mIx (mA fTup (maCons (mA fTup (maCons (mKon (.int 1)) (maCons (mKon (.int 2)) maNil))) (maCons (mA fTup (maCons (mKon (.int 1)) (maCons (mKon (.int 2)) maNil))) (maCons (mA fTup (maCons (mKon (.int 1)) (maCons (mKon (.int 3)) maNil))) (maCons (mA fTup (maCons (mKon (.int 2)) (maCons (mKon (.int 3)) maNil))) (maCons (mA fTup (maCons (mKon (.int 3)) (maCons (mKon (.int 4)) maNil))) (maCons (mA fTup (maCons (mKon (.int 1)) (maCons (mKon (.int 4)) maNil))) (maCons (mA fTup (maCons (mKon (.int 0)) (maCons (mKon (.int 1)) maNil))) maNil)))))))) (mVar 1)))
    mNil)
    (mSeq (mSet 2 (m2 fAdd (mKon (.int 2)) (mCall f_law_pick (maCons (mVar 0) (maCons (mKon (.int 60)) maNil)))))
    (mRet (mCall f_law_frac (maCons (mCall f_law_pick (maCons (mVar 0) (maCons (mVar 2) maNil))) (maCons (mVar 2) maNil)))))))
noncomputable def f_law_part : Fx := run' 1 3 m_law_part
noncomputable def m_law_gains : Ms :=
  (mSeq (mSet 2 (mA fLst maNil))
    (mSeq (mFor (mArgI range1 (maCons (mVar 1) maNil)) (gN 3)
    (mIfS (bT (m2 (fEq false) (mCall f_law_pick (maCons (mVar 0) (maCons (mKon (.int 14)) maNil))) (mKon (.int 13))))
    (mApp 2 (mCall f_law_frac (maCons (m2 (fI gMns) (mCall f_law_pick (maCons (mVar 0) (maCons (mKon (.int 20000001)) maNil))) (mKon (.int 10000000))) (maCons (m2 fAdd (mKon (.int 1)) (mCall f_law_pick (maCons (mVar 0) (maCons (mKon (.int 60)) maNil)))) maNil))))
    (mApp 2 (mCall f_law_frac (maCons (m2 (fI gMns) (mCall f_law_pick (maCons (mVar 0) (maCons (mKon (.int 8)) maNil))) (mKon (.int 3))) (maCons (mCall f_law_any_of (maCons (mVar 0) (maCons (mA fTup (maCons (mKon (.int 1)) (maCons (mKon (.int 1)) (maCons (mKon (.int 1)) (maCons (mKon (.int 2)) (maCons (mKon (.int 3)) maNil)))))) maNil))) maNil))))))
    (mRet (mA fTupOf (maCons (mVar 2) maNil)))))
noncomputable def f_law_gains : Fx := run' 2 4 m_law_gains
noncomputable def m_law_parts : Ms :=
  (mSeq (mSet 2 (mA fLst maNil))
    (mSeq (mFor (mArgI range1 (maCons (mVar 1) maNil)) (gN 3)
    (mSeq (mSet 4 (mCall f_law_pick (maCons (mVar 0) (maCons (mKon (.int 13)) maNil))))
    (mApp 2 (mIf (bT (m2 (fI gLt) (mVar 4) (mKon (.int 12)))) (mIx (mA fTup (maCons (mKon (.int 0)) (maCons (mKon (.int 1)) (maCons (mKon (.int 0)) (maCons (mKon (.int 1)) (maCons (mKon (.int 2)) (maCons (mKon (.int 0)) (maCons (mKon (.int 1)) (maCons (mKon (.int 3)) (maCons (mKon (.int 0)) (maCons (mKon (.int 1)) (maCons (mKon (.int 2)) (maCons (mKon (.int 0)) maNil))))))))))))) (mVar 4)) (m2 fAdd (mKon (.int 4)) (mCall f_law_pick (maCons (mVar 0) (maCons (mKon (.int 40)) maNil))))))))
    (mSeq (mIfS (bT (m2 (fEq false) (mA fSum (maCons (mVar 2) maNil)) (mKon (.int 0))))
    (mPut 2 (mCall f_law_pick (maCons (mVar 0) (maCons (mVar 1) maNil))) (mKon (.int 1)))
    mNil)
    (mRetV 2))))
noncomputable def f_law_parts : Fx := run' 2 5 m_law_parts
noncomputable def m_law_chances : Ms :=
  (mSeq (mSet 2 (mCall f_law_parts (maCons (mVar 0) (maCons (mVar 1) maNil))))
    (mRet (mA fTupOf (maCons (mLc (mArgI range1 (maCons (mVar 1) maNil)) [3] (gN 3) (bT (m2 (fI gGt) (mIx (mVar 2) (mVar 3)) (mKon (.int 0)))) (mA fTup (maCons (mVar 3) (maCons (mCall f_law_frac (maCons (mIx (mVar 2) (mVar 3)) (maCons (mA fSum (maCons (mVar 2) maNil)) maNil))) maNil)))) maNil))))
noncomputable def f_law_chances : Fx := run' 2 4 m_law_chances
noncomputable def m_law_odds : Ms :=
  (mSeq (mSet 2 (mCall f_law_parts (maCons (mVar 0) (maCons (mVar 1) maNil))))
    (mFrz [2] (mRet (mA fTupOf (maCons (mLc (mSeqI (mVar 2)) [3] (gN 3) mYes (mCall f_law_frac (maCons (mVar 3) (maCons (mA fSum (maCons (mVar 2) maNil)) maNil)))) maNil)))))
noncomputable def f_law_odds : Fx := run' 2 4 m_law_odds
noncomputable def m_law_sized : Ms :=
  (mSeq (mPar 3 4 (maCons (mCall f_law_part (maCons (mVar 0) maNil)) (maCons (mA fLst maNil) maNil)))
    (mSeq (mFor (mSeqI (mVar 1)) (gN 5)
    (mSeq (mSet 6 (mA fLst maNil))
    (mSeq (mFor (mArgI range1 (maCons (mVar 5) maNil)) (gN 7)
    (mIfS (tAnd2 (bT (m2 (fEq true) (mVar 6) (mA fLst maNil))) (bT (m2 (fEq false) (mCall f_law_pick (maCons (mVar 0) (maCons (mKon (.int 9)) maNil))) (mKon (.int 8)))))
    (mApp 6 (mIx (mVar 6) (mKon (.int 0))))
    (mSeq (mSet 8 (mCall f_law_chances (maCons (mVar 0) (maCons (mA fLen (maCons (mVar 1) maNil)) maNil))))
    (mApp 6 (mA fTup (maCons (mVar 8) (maCons (mCall f_law_gains (maCons (mVar 0) (maCons (mVar 2) maNil))) maNil)))))))
    (mApp 4 (mA fTupOf (maCons (mVar 6) maNil))))))
    (mRet (mA fTup (maCons (mVar 3) (maCons (mVar 2) (maCons (mA fTupOf (maCons (mVar 4) maNil)) maNil)))))))
noncomputable def f_law_sized : Fx := run' 3 9 m_law_sized
noncomputable def m_law_world : Ms :=
  (mSeq (mSet 4 (mA fLst maNil))
    (mSeq (mFor (mArgI range1 (maCons (m2 fAdd (mKon (.int 1)) (mCall f_law_pick (maCons (mVar 0) (maCons (mVar 1) maNil)))) maNil)) (gN 5)
    (mApp 4 (m2 fAdd (mKon (.int 1)) (mCall f_law_pick (maCons (mVar 0) (maCons (mVar 2) maNil))))))
    (mFrz [4] (mRet (mCall f_law_sized (maCons (mVar 0) (maCons (mVar 4) (maCons (mVar 3) maNil))))))))
noncomputable def f_law_world : Fx := run' 4 6 m_law_world
noncomputable def m_law_dressed : Ms :=
  (mSeq (mSet 2 (mA fLst maNil))
    (mSeq (mFor (mSeqI (mIx (mVar 0) (mKon (.int 2)))) (gN 3)
    (mApp 2 (mA fTupOf (maCons (mLc (mSeqI (mVar 3)) [4] (gN 4) mYes (mA fTup (maCons (mIx (mVar 4) (mKon (.int 0))) (maCons (mA fTup (maCons (mCall f_law_dot (maCons (mVar 1) (maCons (mIx (mVar 4) (mKon (.int 1))) maNil))) maNil)) maNil)))) maNil))))
    (mRet (mA fTup (maCons (mIx (mVar 0) (mKon (.int 0))) (maCons (mKon (.int 1)) (maCons (mA fTupOf (maCons (mVar 2) maNil)) maNil)))))))
noncomputable def f_law_dressed : Fx := run' 2 5 m_law_dressed
noncomputable def m_law_is_whole : Ms :=
  (mRet (mAnd (m1 (fIsi "int") (mVar 0)) (m1 fNot (m1 (fIsi "bool") (mVar 0)))))
noncomputable def f_law_is_whole : Fx := run' 1 1 m_law_is_whole
noncomputable def m_law_is_tuple : Ms :=
  (mRet (mAnd (m1 (fIsi "tuple") (mVar 0)) (m2 (fEq false) (mA fLen (maCons (mVar 0) maNil)) (mVar 1))))
noncomputable def f_law_is_tuple : Fx := run' 2 2 m_law_is_tuple
noncomputable def m_law_is_frac : Ms :=
  (mSeq (mIfS (tOr2 (tNot2 (bT (mCall f_law_is_tuple (maCons (mVar 0) (maCons (mKon (.int 2)) maNil))))) (tOr2 (tNot2 (bT (mCall f_law_is_whole (maCons (mIx (mVar 0) (mKon (.int 0))) maNil)))) (tNot2 (bT (mCall f_law_is_whole (maCons (mIx (mVar 0) (mKon (.int 1))) maNil))))))
    (mRet (mKon (.bool false)))
    mNil)
    (mRet (mAnd (m2 (fI gGt) (mIx (mVar 0) (mKon (.int 1))) (mKon (.int 0))) (m2 (fEq false) (mCall f_law_frac (maCons (mIx (mVar 0) (mKon (.int 0))) (maCons (mIx (mVar 0) (mKon (.int 1))) maNil))) (mVar 0)))))
noncomputable def f_law_is_frac : Fx := run' 1 1 m_law_is_frac
noncomputable def m_law_is_row : Ms :=
  (mRet (mAnd (mCall f_law_is_tuple (maCons (mVar 0) (maCons (mVar 1) maNil))) (mA fAll (maCons (mLc (mSeqI (mVar 0)) [2] (gN 2) mYes (mCall f_law_is_frac (maCons (mVar 2) maNil))) maNil))))
noncomputable def f_law_is_row : Fx := run' 2 3 m_law_is_row
noncomputable def m_law_is_odds : Ms :=
  (mSeq (mIfS (tNot2 (bT (mCall f_law_is_row (maCons (mVar 0) (maCons (mVar 1) maNil)))))
    (mRet (mKon (.bool false)))
    mNil)
    (mRet (mAnd (mA fAll (maCons (mLc (mSeqI (mVar 0)) [2] (gN 2) mYes (m2 (fI gGe) (mIx (mVar 2) (mKon (.int 0))) (mKon (.int 0)))) maNil)) (m2 (fEq false) (mCall f_law_total (maCons (mVar 0) maNil)) (mA fTup (maCons (mKon (.int 1)) (maCons (mKon (.int 1)) maNil)))))))
noncomputable def f_law_is_odds : Fx := run' 2 3 m_law_is_odds
noncomputable def m_law_is_deed : Ms :=
  (mSeq (mIfS (tOr2 (tNot2 (bT (mCall f_law_is_tuple (maCons (mVar 0) (maCons (mKon (.int 2)) maNil))))) (tOr2 (tNot2 (bT (m1 (fIsi "tuple") (mIx (mVar 0) (mKon (.int 0)))))) (tNot2 (bT (mCall f_law_is_row (maCons (mIx (mVar 0) (mKon (.int 1))) (maCons (mVar 1) maNil)))))))
    (mRet (mKon (.bool false)))
    mNil)
    (mSeq (mAsg (gT 2 (gsCons (gN 3) (gsCons (gN 4) gsNil))) (mA fTup (maCons (m1 fNeg (mKon (.int 1))) (maCons (mA fTup (maCons (mKon (.int 0)) (maCons (mKon (.int 1)) maNil))) maNil))))
    (mSeq (mFor (mSeqI (mIx (mVar 0) (mKon (.int 0)))) (gN 5)
    (mSeq (mIfS (tOr2 (tNot2 (bT (mCall f_law_is_tuple (maCons (mVar 5) (maCons (mKon (.int 2)) maNil))))) (tOr2 (tNot2 (bT (mCall f_law_is_whole (maCons (mIx (mVar 5) (mKon (.int 0))) maNil)))) (tNot2 (bT (mCall f_law_is_frac (maCons (mIx (mVar 5) (mKon (.int 1))) maNil))))))
    (mRet (mKon (.bool false)))
    mNil)
    (mSeq (mIfS (tOr2 (tNot2 (bT (mChain gLt gLt (mVar 3) (mIx (mVar 5) (mKon (.int 0))) (mVar 2)))) (bT (m2 (fI gLe) (mIx (mIx (mVar 5) (mKon (.int 1))) (mKon (.int 0))) (mKon (.int 0)))))
    (mRet (mKon (.bool false)))
    mNil)
    (mPar 3 4 (maCons (mIx (mVar 5) (mKon (.int 0))) (maCons (mCall f_law_plus (maCons (mVar 4) (maCons (mIx (mVar 5) (mKon (.int 1))) maNil))) maNil))))))
    (mRet (m2 (fEq false) (mVar 4) (mA fTup (maCons (mKon (.int 1)) (maCons (mKon (.int 1)) maNil))))))))
noncomputable def f_law_is_deed : Fx := run' 3 6 m_law_is_deed
noncomputable def m_law_is_world : Ms :=
  (mSeq (mIfS (tOr2 (tNot2 (bT (mCall f_law_is_tuple (maCons (mVar 0) (maCons (mKon (.int 3)) maNil))))) (tOr2 (tNot2 (bT (mCall f_law_is_frac (maCons (mIx (mVar 0) (mKon (.int 0))) maNil)))) (tNot2 (bT (mCall f_law_is_whole (maCons (mIx (mVar 0) (mKon (.int 1))) maNil))))))
    (mRet (mKon (.bool false)))
    mNil)
    (mSeq (mIfS (tOr2 (tNot2 (bT (mChain gLe gLt (mKon (.int 0)) (mIx (mIx (mVar 0) (mKon (.int 0))) (mKon (.int 0))) (mIx (mIx (mVar 0) (mKon (.int 0))) (mKon (.int 1)))))) (tNot2 (bT (mChain gLe gLe (mKon (.int 1)) (mIx (mVar 0) (mKon (.int 1))) (mKon (.int 4))))))
    (mRet (mKon (.bool false)))
    mNil)
    (mSeq (mIfS (tOr2 (tNot2 (bT (m1 (fIsi "tuple") (mIx (mVar 0) (mKon (.int 2)))))) (tNot2 (bT (mChain gLe gLe (mKon (.int 1)) (mA fLen (maCons (mIx (mVar 0) (mKon (.int 2))) maNil)) (mKon (.int 8))))))
    (mRet (mKon (.bool false)))
    mNil)
    (mSeq (mFor (mSeqI (mIx (mVar 0) (mKon (.int 2)))) (gN 1)
    (mSeq (mIfS (tOr2 (tNot2 (bT (m1 (fIsi "tuple") (mVar 1)))) (tNot2 (bT (mChain gLe gLe (mKon (.int 1)) (mA fLen (maCons (mVar 1) maNil)) (mKon (.int 4))))))
    (mRet (mKon (.bool false)))
    mNil)
    (mIfS (tNot2 (bT (mA fAll (maCons (mLc (mSeqI (mVar 1)) [2] (gN 2) mYes (mCall f_law_is_deed (maCons (mVar 2) (maCons (mIx (mVar 0) (mKon (.int 1))) (maCons (mA fLen (maCons (mIx (mVar 0) (mKon (.int 2))) maNil)) maNil))))) maNil))))
    (mRet (mKon (.bool false)))
    mNil)))
    (mRet (mKon (.bool true)))))))
noncomputable def f_law_is_world : Fx := run' 1 3 m_law_is_world
noncomputable def m_law_odd : Ms :=
  (mRet (mCall f_law_any_of (maCons (mVar 0) (maCons (mA fTup (maCons (mKon .none) (maCons (mKon (.bool true)) (maCons (mKon (.bool false)) (maCons (mKon (.int 0)) (maCons (mKon (.int 1)) (maCons (mKon (.int 2)) (maCons (mKon (.int 3)) (maCons (mKon (.int 7)) (maCons (m1 fNeg (mKon (.int 1))) (maCons (mKon (.int 61)) (maCons (mKon (.str (Str.ofString ""))) (maCons (mKon (.str (Str.ofString "a"))) (maCons (mKon (.str (Str.ofString "1/2"))) (maCons (mA fTup maNil) (maCons (mA fTup (maCons (mKon (.int 0)) maNil)) (maCons (mA fTup (maCons (mKon (.int 1)) maNil)) (maCons (mA fTup (maCons (mKon (.int 0)) (maCons (mKon (.int 1)) maNil))) (maCons (mA fTup (maCons (mKon (.int 1)) (maCons (mKon (.int 1)) maNil))) (maCons (mA fTup (maCons (mKon (.int 1)) (maCons (mKon (.int 2)) maNil))) (maCons (mA fTup (maCons (mKon (.int 2)) (maCons (mKon (.int 4)) maNil))) (maCons (mA fTup (maCons (mKon (.int 0)) (maCons (mKon (.int 2)) maNil))) (maCons (mA fTup (maCons (mKon (.int 1)) (maCons (mKon (.int 0)) maNil))) (maCons (mA fTup (maCons (m1 fNeg (mKon (.int 1))) (maCons (mKon (.int 2)) maNil))) (maCons (mA fTup (maCons (mKon (.int 1)) (maCons (m1 fNeg (mKon (.int 2))) maNil))) (maCons (mA fTup (maCons (mKon (.bool true)) (maCons (mKon (.int 2)) maNil))) (maCons (mA fTup (maCons (mKon (.int 1)) (maCons (mKon (.bool true)) maNil))) (maCons (mA fTup (maCons (mA fTup (maCons (mKon (.int 0)) (maCons (mKon (.int 1)) maNil))) maNil)) (maCons (mA fTup (maCons (mA fTup (maCons (mKon (.int 1)) (maCons (mKon (.int 1)) maNil))) maNil)) (maCons (mA fTup (maCons (mKon (.int 0)) (maCons (mKon (.int 1)) (maCons (mKon (.int 0)) maNil)))) (maCons (mA fTup (maCons (mA fTup (maCons (mKon (.int 1)) (maCons (mKon (.int 2)) maNil))) (maCons (mA fTup (maCons (mKon (.int 1)) (maCons (mKon (.int 2)) maNil))) maNil))) (maCons (mA fTup (maCons (mA fTup (maCons (mKon (.int 1)) (maCons (mKon (.int 1)) maNil))) (maCons (mA fTup (maCons (mKon (.int 0)) (maCons (mKon (.int 1)) maNil))) maNil))) (maCons (mA fTup (maCons (mA fTup (maCons (mA fTup (maCons (mKon (.int 1)) (maCons (mKon (.int 1)) maNil))) maNil)) maNil)) (maCons (mA fTup (maCons (mKon (.int 0)) (maCons (mKon (.int 0)) (maCons (mKon (.int 0)) maNil)))) (maCons (mA fTup (maCons (mA fTup (maCons (mKon (.int 1)) (maCons (mKon (.int 1)) maNil))) (maCons (mA fTup (maCons (mKon (.int 1)) (maCons (mKon (.int 1)) maNil))) (maCons (mA fTup (maCons (mKon (.int 1)) (maCons (mKon (.int 1)) maNil))) maNil)))) (maCons (mA fTup (maCons (mKon .none) maNil)) (maCons (mA fTup (maCons (mA fTup maNil) maNil)) (maCons (mA fLst maNil) (maCons (mA fLst (maCons (mKon (.int 1)) maNil)) (maCons (mA fLst (maCons (mA fTup (maCons (mKon (.int 1)) (maCons (mKon (.int 1)) maNil))) maNil)) (maCons (mA fLst (maCons (mA fLst (maCons (mA fTup (maCons (mKon (.int 1)) (maCons (mKon (.int 1)) maNil))) maNil)) maNil)) (maCons (mKon (.dict [])) (maCons (mKon (.dict [(.str (Str.ofString "a"), .int 1)])) (maCons (mA fTup (maCons (mKon (.str (Str.ofString "a"))) (maCons (mKon .none) maNil))) maNil)))))))))))))))))))))))))))))))))))))))))))) maNil))))
noncomputable def f_law_odd : Fx := run' 1 1 m_law_odd
noncomputable def m_law_twice : Ms :=
  (mSeq (mIfS (tAnd2 (bT (m2 (fEq false) (mA fLen (maCons (mVar 0) maNil)) (mKon (.int 2)))) (tAnd2 (bT (m1 (fIsi "int") (mIx (mVar 0) (mKon (.int 0))))) (bT (m1 (fIsi "int") (mIx (mVar 0) (mKon (.int 1)))))))
    (mRet (mA fTup (maCons (m2 fMul (mIx (mVar 0) (mKon (.int 0))) (mKon (.int 2))) (maCons (m2 fMul (mIx (mVar 0) (mKon (.int 1))) (mKon (.int 2))) maNil))))
    mNil)
    (mRet (m2 fAdd (mVar 0) (mVar 0))))
noncomputable def f_law_twice : Fx := run' 1 1 m_law_twice
noncomputable def m_law_bent (self_ : Fx) : Ms :=
  (mSeq (mIfS (tAnd2 (bT (m1 (fIsi "tuple") (mVar 1))) (tAnd2 (bT (m2 (fI gGt) (mA fLen (maCons (mVar 1) maNil)) (mKon (.int 0)))) (bT (m2 (fI gGt) (mCall f_law_pick (maCons (mVar 0) (maCons (mKon (.int 7)) maNil))) (mKon (.int 0))))))
    (mSeq (mSet 2 (mCall f_law_pick (maCons (mVar 0) (maCons (mA fLen (maCons (mVar 1) maNil)) maNil))))
    (mRet (m2 fAdd (m2 fAdd (mSl (mVar 1) moNone (moSome (mVar 2))) (mA fTup (maCons (mCall self_ (maCons (mVar 0) (maCons (mIx (mVar 1) (mVar 2)) maNil))) maNil))) (mSl (mVar 1) (moSome (m2 fAdd (mVar 2) (mKon (.int 1)))) moNone))))
    mNil)
    (mSeq (mSet 3 (mCall f_law_pick (maCons (mVar 0) (maCons (mKon (.int 9)) maNil))))
    (mSeq (mIfS (tAnd2 (bT (m1 (fIsi "tuple") (mVar 1))) (bT (m2 (fI gLt) (mVar 3) (mKon (.int 7)))))
    (mSeq (mSet 4 (mCall f_law_twice (maCons (mVar 1) maNil)))
    (mRet (mIx (mA fTup (maCons (m2 fAdd (mVar 1) (mSl (mVar 1) (moSome (m1 fNeg (mKon (.int 1)))) moNone)) (maCons (mSl (mVar 1) (moSome (mKon (.int 1))) moNone) (maCons (mSl (mVar 1) moNone (moSome (m1 fNeg (mKon (.int 1))))) (maCons (m1 fRev (mVar 1)) (maCons (mA fLstOf (maCons (mVar 1) maNil)) (maCons (mA fTup (maCons (mVar 1) maNil)) (maCons (mVar 4) maNil)))))))) (mVar 3))))
    mNil)
    (mSeq (mIfS (tAnd2 (bT (m1 (fIsi "int") (mVar 1))) (bT (m2 (fI gLt) (mVar 3) (mKon (.int 7)))))
    (mRet (mIx (mA fTup (maCons (m2 (fI gMns) (mVar 1) (mKon (.int 1))) (maCons (m2 fAdd (mVar 1) (mKon (.int 1))) (maCons (m2 (fI gMns) (mKon (.int 0)) (mVar 1)) (maCons (m2 fMul (mVar 1) (mKon (.int 2))) (maCons (m2 (fI gGt) (mVar 1) (mKon (.int 0))) (maCons (m2 fAdd (mVar 1) (mKon (.int 7))) (maCons (mA fStr (maCons (mVar 1) maNil)) maNil)))))))) (mVar 3)))
    mNil)
    (mRet (mCall f_law_odd (maCons (mVar 0) maNil)))))))
noncomputable def f_law_bent : Nat → Fx
  | 0 => fun _ _ => none
  | n + 1 => run' 2 5 (m_law_bent (f_law_bent n))
noncomputable def m_law_maybe : Ms :=
  (mSeq (mSet 2 (mCall f_law_pick (maCons (mVar 0) (maCons (mKon (.int 10)) maNil))))
    (mSeq (mIfS (bT (m2 (fI gLt) (mVar 2) (mKon (.int 6))))
    (mRetV 1)
    mNil)
    (mRet (mIf (bT (m2 (fI gLt) (mVar 2) (mKon (.int 9)))) (mCall (f_law_bent 12) (maCons (mVar 0) (maCons (mVar 1) maNil))) (mCall f_law_odd (maCons (mVar 0) maNil))))))
noncomputable def f_law_maybe : Fx := run' 2 3 m_law_maybe
noncomputable def m_law_edge : Ms :=
  (mSeq (mPar3 1 2 3 (maCons (mCall f_law_pick (maCons (mVar 0) (maCons (mKon (.int 4)) maNil))) (maCons (mA fLst maNil) (maCons (mKon (.int 1)) maNil))))
    (mSeq (mIfS (bT (m2 (fEq false) (mVar 1) (mKon (.int 0))))
    (mFor (mArgI range1 (maCons (m2 fAdd (mKon (.int 8)) (mCall f_law_pick (maCons (mVar 0) (maCons (mKon (.int 2)) maNil)))) maNil)) (gN 4)
    (mApp 2 (m2 fAdd (mKon (.int 1)) (mCall f_law_pick (maCons (mVar 0) (maCons (mKon (.int 2)) maNil))))))
    mNil)
    (mSeq (mIfS (bT (m2 (fEq false) (mVar 1) (mKon (.int 1))))
    (mSet 2 (mA fLst (maCons (m2 fAdd (mKon (.int 1)) (mCall f_law_pick (maCons (mVar 0) (maCons (mKon (.int 2)) maNil)))) (maCons (m2 fAdd (mKon (.int 4)) (mCall f_law_pick (maCons (mVar 0) (maCons (mKon (.int 2)) maNil)))) maNil))))
    mNil)
    (mSeq (mIfS (bT (m2 (fI gGt) (mVar 1) (mKon (.int 1))))
    (mPar 2 3 (maCons (mA fLst (maCons (mKon (.int 1)) (maCons (m2 fAdd (mKon (.int 1)) (mCall f_law_pick (maCons (mVar 0) (maCons (mKon (.int 3)) maNil)))) maNil))) (maCons (mIx (mA fTup (maCons (mKon (.int 0)) (maCons (mKon (.int 4)) (maCons (mKon (.int 5)) maNil)))) (mCall f_law_pick (maCons (mVar 0) (maCons (mKon (.int 3)) maNil)))) maNil)))
    mNil)
    (mFrz [2] (mRet (mCall f_law_sized (maCons (mVar 0) (maCons (mVar 2) (maCons (mVar 3) maNil))))))))))
noncomputable def f_law_edge : Fx := run' 1 5 m_law_edge
noncomputable def m_law_right : Ms :=
  (mSeq (mSet 1 (mCall f_law_world (maCons (mVar 0) (maCons (mKon (.int 3)) (maCons (mKon (.int 3)) (maCons (m2 fAdd (mKon (.int 1)) (mCall f_law_pick (maCons (mVar 0) (maCons (mKon (.int 4)) maNil)))) maNil))))))
    (mSeq (mSet 2 (mCall f_law_maybe (maCons (mVar 0) (maCons (mIf (bT (m2 (fEq false) (mCall f_law_pick (maCons (mVar 0) (maCons (mKon (.int 3)) maNil))) (mKon (.int 2)))) (mCall f_law_edge (maCons (mVar 0) maNil)) (mVar 1)) maNil))))
    (mSeq (mSet 3 (mCall f_law_maybe (maCons (mVar 0) (maCons (mCall f_law_odds (maCons (mVar 0) (maCons (mA fLen (maCons (mIx (mVar 1) (mKon (.int 2))) maNil)) maNil))) maNil))))
    (mSeq (mSet 4 (mCall f_law_gains (maCons (mVar 0) (maCons (mIx (mVar 1) (mKon (.int 1))) maNil))))
    (mSeq (mSet 5 (mA fLst (maCons (mCall f_is_house (maCons (mVar 1) maNil)) (maCons (mCall f_is_house (maCons (mVar 2) maNil)) (maCons (mCallK f_is_house [0] 1 (maCons (mVar 2) maNil)) (maCons (mCall f_is_start (maCons (mVar 1) (maCons (mVar 3) maNil))) maNil))))))
    (mSeq (mSet 5 (m2 fAdd (mVar 5) (mA fLst (maCons (mCallK f_is_start [1, 0] 2 (maCons (mVar 3) (maCons (mVar 1) maNil))) maNil))))
    (mSeq (mSet 6 (mCall f_law_is_odds (maCons (mVar 3) (maCons (mA fLen (maCons (mIx (mVar 1) (mKon (.int 2))) maNil)) maNil))))
    (mSeq (mIfS (bT (m2 (fEq true) (mA fRepr (maCons (mVar 5) maNil)) (mA fRepr (maCons (mA fLst (maCons (mKon (.bool true)) (maCons (mCall f_law_is_world (maCons (mVar 2) maNil)) (maCons (mCall f_law_is_world (maCons (mVar 2) maNil)) (maCons (mVar 6) (maCons (mVar 6) maNil)))))) maNil))))
    (mRet (mKon (.bool false)))
    mNil)
    (mSeq (mSet 7 (mA fLst (maCons (mCall f_weighted (maCons (mVar 1) (maCons (mVar 4) maNil))) (maCons (mCallK f_weighted [1, 0] 2 (maCons (mVar 4) (maCons (mVar 1) maNil))) maNil))))
    (mRet (m2 (fEq false) (mA fRepr (maCons (mVar 7) maNil)) (mA fRepr (maCons (m2 fMul (mA fLst (maCons (mCall f_law_dressed (maCons (mVar 1) (maCons (mVar 4) maNil))) maNil)) (mKon (.int 2))) maNil)))))))))))))
noncomputable def f_law_right : Fx := run' 1 8 m_law_right
noncomputable def m_law : Ms :=
  (mRet (mA fAll (maCons (mLc (mArgI range1 (maCons (mA fMax2 (maCons (mKon (.int 2)) (maCons (mA fMin2 (maCons (mA fLen (maCons (mVar 0) maNil)) (maCons (mKon (.int 5)) maNil))) maNil))) maNil)) [1] (gN 1) mYes (mCallN f_law_right (maCons (mCall f_law_spring (maCons (mVar 0) (maCons (mVar 1) maNil))) maNil))) maNil)))
noncomputable def f_law : Fx := run' 1 2 m_law
end W2

namespace W2
open PySem PySem.Spec L2 Dh
section
variable {P : Program} {w : World} {K : PySem.W.Frag} {mg : Str → Option Value} {base : Heap} {ad : Nat → Addr} {fd : Nat → FuncData}
theorem sc_is_whole : FnScope n_is_whole p_is_whole (defScope s_is_whole) := ⟨rfl, rfl, rfl, by decide +kernel, rfl, by decide +kernel, by decide +kernel⟩
theorem bd_is_whole (T : Txt K mg ad fd) : Binds K (fd 0) p_is_whole [] := T.d_is_whole.binds (ps := p_is_whole) fun _ _ _ _ _ _ us hl => match us, hl with | [_], _ => rfl
theorem ok_is_whole (T : Txt K mg ad fd) : FnG P w K mg base 1 (ad 0) (fd 0) p_is_whole (spOf K 1 f_is_whole) := (fnG_of (m := m_is_whole) T.d_is_whole sc_is_whole fun cdv A outer s H E hr hg =>
    (sl_one (ss_ret (se_and (se_isi (T := "int") (by decide) (se_var (i := 0)) T.b_isinstance T.b_int (by decide +kernel)) (se_one (se_not (se_isi (T := "bool") (by decide) (se_var (i := 0)) T.b_isinstance T.b_bool (by decide +kernel)))))))).imp fun _ _ _ _ => spOf_run'
theorem sc_is_between : FnScope n_is_between p_is_between (defScope s_is_between) := ⟨rfl, rfl, rfl, by decide +kernel, rfl, by decide +kernel, by decide +kernel⟩
theorem bd_is_between (T : Txt K mg ad fd) : Binds K (fd 1) p_is_between [] := T.d_is_between.binds (ps := p_is_between) fun _ _ _ _ _ _ us hl => match us, hl with | [_, _, _], _ => rfl
theorem ok_is_between (T : Txt K mg ad fd) : FnG P w K mg base 2 (ad 1) (fd 1) p_is_between (spOf K 3 f_is_between) := (fnG_of (m := m_is_between) T.d_is_between sc_is_between fun cdv A outer s H E hr hg =>
    (sl_one (ss_ret (se_and (se_call (ok_is_whole T) (hr.mono (by omega)) hg T.m_is_whole T.d_is_whole.kp (bd_is_whole T) (sa_cons (se_var (i := 0)) sa_nil)) (se_one (se_lele (se_var (i := 1)) (se_var (i := 0)) (se_var (i := 2)))))))).imp fun _ _ _ _ => spOf_run'
theorem sc_is_tuple_of : FnScope n_is_tuple_of p_is_tuple_of (defScope s_is_tuple_of) := ⟨rfl, rfl, rfl, by decide +kernel, rfl, by decide +kernel, by decide +kernel⟩
theorem bd_is_tuple_of (T : Txt K mg ad fd) : Binds K (fd 2) p_is_tuple_of [] := T.d_is_tuple_of.binds (ps := p_is_tuple_of) fun _ _ _ _ _ _ us hl => match us, hl with | [_, _], _ => rfl
theorem ok_is_tuple_of (T : Txt K mg ad fd) : FnG P w K mg base 1 (ad 2) (fd 2) p_is_tuple_of (spOf K 2 f_is_tuple_of) := (fnG_of (m := m_is_tuple_of) T.d_is_tuple_of sc_is_tuple_of fun cdv A outer s H E hr hg =>
    (sl_one (ss_ret (se_and (se_isi (T := "tuple") (by decide) (se_var (i := 0)) T.b_isinstance T.b_tuple (by decide +kernel)) (se_one (se_eq hr (se_len (sa_cons (se_var (i := 0)) sa_nil) T.b_len) (se_var (i := 1)))))))).imp fun _ _ _ _ => spOf_run'
theorem sc_is_ratio : FnScope n_is_ratio p_is_ratio (defScope s_is_ratio) := ⟨rfl, rfl, rfl, by decide +kernel, rfl, by decide +kernel, by decide +kernel⟩
theorem bd_is_ratio (T : Txt K mg ad fd) : Binds K (fd 3) p_is_ratio [] := T.d_is_ratio.binds (ps := p_is_ratio) fun _ _ _ _ _ _ us hl => match us, hl with | [_], _ => rfl
theorem ok_is_ratio (T : Txt K mg ad fd) : FnG P w K mg base 2 (ad 3) (fd 3) p_is_ratio (spOf K 1 f_is_ratio) := (fnG_of (m := m_is_ratio) T.d_is_ratio sc_is_ratio fun cdv A outer s H E hr hg =>
    (sl_cons (ss_if (sb_w (sw_or (sb_not (sb_val (se_call (ok_is_tuple_of T) (hr.mono (by omega)) hg T.m_is_tuple_of T.d_is_tuple_of.kp (bd_is_tuple_of T) (sa_cons (se_var (i := 0)) (sa_cons se_int sa_nil))))) (sw_or (sb_not (sb_val (se_call (ok_is_whole T) (hr.mono (by omega)) hg T.m_is_whole T.d_is_whole.kp (bd_is_whole T) (sa_cons (se_ix (se_var (i := 0)) se_int) sa_nil)))) (sw_or1 (sb_not (sb_val (se_call (ok_is_whole T) (hr.mono (by omega)) hg T.m_is_whole T.d_is_whole.kp (bd_is_whole T) (sa_cons (se_ix (se_var (i := 0)) se_int) sa_nil))))))))
    (sl_one (ss_ret se_bl))
    sl_nil)
    (sl_one (ss_ret (se_and (se_gt (se_ix (se_var (i := 0)) se_int) se_int) (se_one (se_eq hr (se_gcd (sa_cons (se_ix (se_var (i := 0)) se_int) (sa_cons (se_ix (se_var (i := 0)) se_int) sa_nil)) T.b_gcd) se_int))))))).imp fun _ _ _ _ => spOf_run'
theorem sc_is_row : FnScope n_is_row p_is_row (defScope s_is_row) := ⟨rfl, rfl, rfl, by decide +kernel, rfl, by decide +kernel, by decide +kernel⟩
theorem bd_is_row (T : Txt K mg ad fd) : Binds K (fd 4) p_is_row [] := T.d_is_row.binds (ps := p_is_row) fun _ _ _ _ _ _ us hl => match us, hl with | [_, _], _ => rfl
theorem ok_is_row (T : Txt K mg ad fd) : FnG P w K mg base 3 (ad 4) (fd 4) p_is_row (spOf K 2 f_is_row) := (fnG_of (m := m_is_row) T.d_is_row sc_is_row fun cdv A outer s H E hr hg =>
    (sl_one (ss_ret (se_and (se_call (ok_is_tuple_of T) (hr.mono (by omega)) hg T.m_is_tuple_of T.d_is_tuple_of.kp (bd_is_tuple_of T) (sa_cons (se_var (i := 0)) (sa_cons (se_var (i := 1)) sa_nil))) (se_one (se_all rfl (sa_cons (se_lc (own := [("each", 2)]) (is := [2]) rfl sc_is_row.nd (si_seq (se_var (i := 0))) (blkOk_by (own := [("each", 2)]) (N := n_is_row) (sc := defScope s_is_row) (by decide +kernel)) (by decide) (fun _ _ _ _ _ => (sg_name (i := 2) sc_is_row.nd)) (fun _ _ _ _ _ => sts_nil) (fun _ _ _ _ _ => (se_call (ok_is_ratio T) (hr.mono (by omega)) hg T.m_is_ratio T.d_is_ratio.kp (bd_is_ratio T) (sa_cons (se_var (i := 2)) sa_nil)))) sa_nil) T.b_all)))))).imp fun _ _ _ _ => spOf_run'
theorem sc_ratio : FnScope n_ratio p_ratio (defScope s_ratio) := ⟨rfl, rfl, rfl, by decide +kernel, rfl, by decide +kernel, by decide +kernel⟩
theorem bd_ratio (T : Txt K mg ad fd) : Binds K (fd 5) p_ratio [] := T.d_ratio.binds (ps := p_ratio) fun _ _ _ _ _ _ us hl => match us, hl with | [_, _], _ => rfl
theorem ok_ratio (T : Txt K mg ad fd) : FnG P w K mg base 1 (ad 5) (fd 5) p_ratio (spOf K 2 f_ratio) := (fnG_of (m := m_ratio) T.d_ratio sc_ratio fun cdv A outer s H E hr hg =>
    (sl_cons (ss_set (i := 2) sc_ratio.nd rfl (.inl rfl) (se_if (sb_gt (se_var (i := 1)) se_int) (se_gcd (sa_cons (se_var (i := 0)) (sa_cons (se_var (i := 1)) sa_nil)) T.b_gcd) (se_neg (se_gcd (sa_cons (se_var (i := 0)) (sa_cons (se_var (i := 1)) sa_nil)) T.b_gcd))))
    (sl_one (ss_ret (se_tup (sa_cons (se_fdiv (se_var (i := 0)) (se_var (i := 2))) (sa_cons (se_fdiv (se_var (i := 1)) (se_var (i := 2))) sa_nil))))))).imp fun _ _ _ _ => spOf_run'
theorem sc_plus : FnScope n_plus p_plus (defScope s_plus) := ⟨rfl, rfl, rfl, by decide +kernel, rfl, by decide +kernel, by decide +kernel⟩
theorem bd_plus (T : Txt K mg ad fd) : Binds K (fd 6) p_plus [] := T.d_plus.binds (ps := p_plus) fun _ _ _ _ _ _ us hl => match us, hl with | [_, _], _ => rfl
theorem ok_plus (T : Txt K mg ad fd) : FnG P w K mg base 2 (ad 6) (fd 6) p_plus (spOf K 2 f_plus) := (fnG_of (m := m_plus) T.d_plus sc_plus fun cdv A outer s H E hr hg =>
    (sl_one (ss_ret (se_call (ok_ratio T) (hr.mono (by omega)) hg T.m_ratio T.d_ratio.kp (bd_ratio T) (sa_cons (se_add (se_mul (se_ix (se_var (i := 0)) se_int) (se_ix (se_var (i := 1)) se_int)) (se_mul (se_ix (se_var (i := 1)) se_int) (se_ix (se_var (i := 0)) se_int))) (sa_cons (se_mul (se_ix (se_var (i := 0)) se_int) (se_ix (se_var (i := 1)) se_int)) sa_nil)))))).imp fun _ _ _ _ => spOf_run'
theorem sc_times : FnScope n_times p_times (defScope s_times) := ⟨rfl, rfl, rfl, by decide +kernel, rfl, by decide +kernel, by decide +kernel⟩
theorem bd_times (T : Txt K mg ad fd) : Binds K (fd 7) p_times [] := T.d_times.binds (ps := p_times) fun _ _ _ _ _ _ us hl => match us, hl with | [_, _], _ => rfl
theorem ok_times (T : Txt K mg ad fd) : FnG P w K mg base 2 (ad 7) (fd 7) p_times (spOf K 2 f_times) := (fnG_of (m := m_times) T.d_times sc_times fun cdv A outer s H E hr hg =>
    (sl_one (ss_ret (se_call (ok_ratio T) (hr.mono (by omega)) hg T.m_ratio T.d_ratio.kp (bd_ratio T) (sa_cons (se_mul (se_ix (se_var (i := 0)) se_int) (se_ix (se_var (i := 1)) se_int)) (sa_cons (se_mul (se_ix (se_var (i := 0)) se_int) (se_ix (se_var (i := 1)) se_int)) sa_nil)))))).imp fun _ _ _ _ => spOf_run'
theorem sc_total : FnScope n_total p_total (defScope s_total) := ⟨rfl, rfl, rfl, by decide +kernel, rfl, by decide +kernel, by decide +kernel⟩
theorem bd_total (T : Txt K mg ad fd) : Binds K (fd 8) p_total [] := T.d_total.binds (ps := p_total) fun _ _ _ _ _ _ us hl => match us, hl with | [_], _ => rfl
theorem ok_total (T : Txt K mg ad fd) : FnG P w K mg base 3 (ad 8) (fd 8) p_total (spOf K 1 f_total) := (fnG_of (m := m_total) T.d_total sc_total fun cdv A outer s H E hr hg =>
    (sl_cons (ss_set (i := 1) sc_total.nd rfl (.inl rfl) (se_glob T.g_ZERO (by rfl)))
    (sl_cons (ss_for PassesOwn.never rfl (si_seq (se_var (i := 0))) (sg_name (i := 2) sc_total.nd)
    (sl_one (ss_set (i := 1) sc_total.nd rfl (.inl rfl) (se_call (ok_plus T) (hr.mono (by omega)) hg T.m_plus T.d_plus.kp (bd_plus T) (sa_cons (se_var (i := 1)) (sa_cons (se_var (i := 2)) sa_nil))))))
    (sl_one (ss_retV (i := 1)))))).imp fun _ _ _ _ => spOf_run'
theorem sc_dot : FnScope n_dot p_dot (defScope s_dot) := ⟨rfl, rfl, rfl, by decide +kernel, rfl, by decide +kernel, by decide +kernel⟩
theorem bd_dot (T : Txt K mg ad fd) : Binds K (fd 9) p_dot [] := T.d_dot.binds (ps := p_dot) fun _ _ _ _ _ _ us hl => match us, hl with | [_, _], _ => rfl
theorem ok_dot (T : Txt K mg ad fd) : FnG P w K mg base 4 (ad 9) (fd 9) p_dot (spOf K 2 f_dot) := (fnG_of (m := m_dot) T.d_dot sc_dot fun cdv A outer s H E hr hg =>
    (sl_one (ss_ret (se_call (ok_total T) (hr.mono (by omega)) hg T.m_total T.d_total.kp (bd_total T) (sa_cons (se_lc (own := [("here", 2), ("there", 3)]) (is := [2, 3]) rfl sc_dot.nd (si_zip (sa_cons (se_var (i := 0)) (sa_cons (se_var (i := 1)) sa_nil)) T.b_zip) (blkOk_by (own := [("here", 2), ("there", 3)]) (N := n_dot) (sc := defScope s_dot) (by decide +kernel)) (by decide) (fun _ _ _ _ _ => (sg_tup rfl (sgs_cons (sg_name (i := 2) sc_dot.nd) (sgs_cons (sg_name (i := 3) sc_dot.nd) sgs_nil)))) (fun _ _ _ _ _ => sts_nil) (fun _ _ _ _ _ => (se_call (ok_times T) (hr.mono (by omega)) hg T.m_times T.d_times.kp (bd_times T) (sa_cons (se_var (i := 2)) (sa_cons (se_var (i := 3)) sa_nil))))) sa_nil))))).imp fun _ _ _ _ => spOf_run'
theorem sc_is_chance_row : FnScope n_is_chance_row p_is_chance_row (defScope s_is_chance_row) := ⟨rfl, rfl, rfl, by decide +kernel, rfl, by decide +kernel, by decide +kernel⟩
theorem bd_is_chance_row (T : Txt K mg ad fd) : Binds K (fd 10) p_is_chance_row [] := T.d_is_chance_row.binds (ps := p_is_chance_row) fun _ _ _ _ _ _ us hl => match us, hl with | [_, _], _ => rfl
theorem ok_is_chance_row (T : Txt K mg ad fd) : FnG P w K mg base 4 (ad 10) (fd 10) p_is_chance_row (spOf K 2 f_is_chance_row) := (fnG_of (m := m_is_chance_row) T.d_is_chance_row sc_is_chance_row fun cdv A outer s H E hr hg =>
    (sl_one (ss_ret (se_and (se_call (ok_is_row T) (hr.mono (by omega)) hg T.m_is_row T.d_is_row.kp (bd_is_row T) (sa_cons (se_var (i := 0)) (sa_cons (se_var (i := 1)) sa_nil))) (se_and (se_all rfl (sa_cons (se_lc (own := [("each", 2)]) (is := [2]) rfl sc_is_chance_row.nd (si_seq (se_var (i := 0))) (blkOk_by (own := [("each", 2)]) (N := n_is_chance_row) (sc := defScope s_is_chance_row) (by decide +kernel)) (by decide) (fun _ _ _ _ _ => (sg_name (i := 2) sc_is_chance_row.nd)) (fun _ _ _ _ _ => sts_nil) (fun _ _ _ _ _ => (se_ge (se_ix (se_var (i := 2)) se_int) se_int))) sa_nil) T.b_all) (se_one (se_eq hr (se_call (ok_total T) (hr.mono (by omega)) hg T.m_total T.d_total.kp (bd_total T) (sa_cons (se_var (i := 0)) sa_nil)) (se_glob T.g_ONE (by rfl))))))))).imp fun _ _ _ _ => spOf_run'
theorem sc_are_chances : FnScope n_are_chances p_are_chances (defScope s_are_chances) := ⟨rfl, rfl, rfl, by decide +kernel, rfl, by decide +kernel, by decide +kernel⟩
theorem bd_are_chances (T : Txt K mg ad fd) : Binds K (fd 11) p_are_chances [] := T.d_are_chances.binds (ps := p_are_chances) fun _ _ _ _ _ _ us hl => match us, hl with | [_, _], _ => rfl
theorem ok_are_chances (T : Txt K mg ad fd) : FnG P w K mg base 4 (ad 11) (fd 11) p_are_chances (spOf K 2 f_are_chances) := (fnG_of (m := m_are_chances) T.d_are_chances sc_are_chances fun cdv A outer s H E hr hg =>
    (sl_cons (ss_if (sb_w (sw_or (sb_not (sb_val (se_isi (T := "tuple") (by decide) (se_var (i := 0)) T.b_isinstance T.b_tuple (by decide +kernel)))) (sw_or1 (sb_not (sb_val (se_all rfl (sa_cons (se_lc (own := [("each", 3)]) (is := [3]) rfl sc_are_chances.nd (si_seq (se_var (i := 0))) (blkOk_by (own := [("each", 3)]) (N := n_are_chances) (sc := defScope s_are_chances) (by decide +kernel)) (by decide) (fun _ _ _ _ _ => (sg_name (i := 3) sc_are_chances.nd)) (fun _ _ _ _ _ => sts_nil) (fun _ _ _ _ _ => (se_call (ok_is_tuple_of T) (hr.mono (by omega)) hg T.m_is_tuple_of T.d_is_tuple_of.kp (bd_is_tuple_of T) (sa_cons (se_var (i := 3)) (sa_cons se_int sa_nil))))) sa_nil) T.b_all))))))
    (sl_one (ss_ret se_bl))
    sl_nil)
    (sl_cons (ss_if (sb_not (sb_val (se_all rfl (sa_cons (se_lc (own := [("stand", 4), ("chance", 5)]) (is := [4, 5]) rfl sc_are_chances.nd (si_seq (se_var (i := 0))) (blkOk_by (own := [("stand", 4), ("chance", 5)]) (N := n_are_chances) (sc := defScope s_are_chances) (by decide +kernel)) (by decide) (fun _ _ _ _ _ => (sg_tup rfl (sgs_cons (sg_name (i := 4) sc_are_chances.nd) (sgs_cons (sg_name (i := 5) sc_are_chances.nd) sgs_nil)))) (fun _ _ _ _ _ => sts_nil) (fun _ _ _ _ _ => (se_and (se_call (ok_is_between T) (hr.mono (by omega)) hg T.m_is_between T.d_is_between.kp (bd_is_between T) (sa_cons (se_var (i := 4)) (sa_cons se_int (sa_cons (se_sub (se_var (i := 1)) se_int) sa_nil)))) (se_and (se_call (ok_is_ratio T) (hr.mono (by omega)) hg T.m_is_ratio T.d_is_ratio.kp (bd_is_ratio T) (sa_cons (se_var (i := 5)) sa_nil)) (se_one (se_gt (se_ix (se_var (i := 5)) se_int) se_int)))))) sa_nil) T.b_all)))
    (sl_one (ss_ret se_bl))
    sl_nil)
    (sl_cons (ss_setLc (i := 2) (own := [("stand", 4), ("_", 6)]) (is := [4, 6]) rfl sc_are_chances.nd rfl rfl (sw_true rfl rfl rfl (by decide +kernel)) (si_seq (se_var (i := 0))) (blkOk_by (own := [("stand", 4), ("_", 6)]) (N := n_are_chances) (sc := defScope s_are_chances) (by decide +kernel)) (by decide) (fun _ _ _ _ _ => (sg_tup rfl (sgs_cons (sg_name (i := 4) sc_are_chances.nd) (sgs_cons (sg_name (i := 6) sc_are_chances.nd) sgs_nil)))) (fun _ _ _ _ _ => sts_nil) (fun _ _ _ _ _ => (se_var (i := 4))))
    (sl_one (ss_frz [2] (ss_ret (se_and (se_all rfl (sa_cons (se_lc (own := [("one", 7), ("two", 8)]) (is := [7, 8]) rfl sc_are_chances.nd (si_zip (sa_cons (se_var (i := 2)) (sa_cons (se_sl (se_var (i := 2)) (so_some se_int) so_none) sa_nil)) T.b_zip) (blkOk_by (own := [("one", 7), ("two", 8)]) (N := n_are_chances) (sc := defScope s_are_chances) (by decide +kernel)) (by decide) (fun _ _ _ _ _ => (sg_tup rfl (sgs_cons (sg_name (i := 7) sc_are_chances.nd) (sgs_cons (sg_name (i := 8) sc_are_chances.nd) sgs_nil)))) (fun _ _ _ _ _ => sts_nil) (fun _ _ _ _ _ => (se_lt (se_var (i := 7)) (se_var (i := 8))))) sa_nil) T.b_all) (se_one (se_eq hr (se_call (ok_total T) (hr.mono (by omega)) hg T.m_total T.d_total.kp (bd_total T) (sa_cons (se_lc (own := [("_", 6), ("chance", 5)]) (is := [6, 5]) rfl sc_are_chances.nd (si_seq (se_var (i := 0))) (blkOk_by (own := [("_", 6), ("chance", 5)]) (N := n_are_chances) (sc := defScope s_are_chances) (by decide +kernel)) (by decide) (fun _ _ _ _ _ => (sg_tup rfl (sgs_cons (sg_name (i := 6) sc_are_chances.nd) (sgs_cons (sg_name (i := 5) sc_are_chances.nd) sgs_nil)))) (fun _ _ _ _ _ => sts_nil) (fun _ _ _ _ _ => (se_var (i := 5)))) sa_nil)) (se_glob T.g_ONE (by rfl)))))))))))).imp fun _ _ _ _ => spOf_run'
theorem sc_is_deed : FnScope n_is_deed p_is_deed (defScope s_is_deed) := ⟨rfl, rfl, rfl, by decide +kernel, rfl, by decide +kernel, by decide +kernel⟩
theorem bd_is_deed (T : Txt K mg ad fd) : Binds K (fd 12) p_is_deed [] := T.d_is_deed.binds (ps := p_is_deed) fun _ _ _ _ _ _ us hl => match us, hl with | [_, _, _], _ => rfl
theorem ok_is_deed (T : Txt K mg ad fd) : FnG P w K mg base 5 (ad 12) (fd 12) p_is_deed (spOf K 3 f_is_deed) := (fnG_of (m := m_is_deed) T.d_is_deed sc_is_deed fun cdv A outer s H E hr hg =>
    (sl_one (ss_ret (se_and (se_call (ok_is_tuple_of T) (hr.mono (by omega)) hg T.m_is_tuple_of T.d_is_tuple_of.kp (bd_is_tuple_of T) (sa_cons (se_var (i := 0)) (sa_cons se_int sa_nil))) (se_and (se_call (ok_are_chances T) (hr.mono (by omega)) hg T.m_are_chances T.d_are_chances.kp (bd_are_chances T) (sa_cons (se_ix (se_var (i := 0)) se_int) (sa_cons (se_var (i := 2)) sa_nil))) (se_one (se_call (ok_is_row T) (hr.mono (by omega)) hg T.m_is_row T.d_is_row.kp (bd_is_row T) (sa_cons (se_ix (se_var (i := 0)) se_int) (sa_cons (se_var (i := 1)) sa_nil))))))))).imp fun _ _ _ _ => spOf_run'
theorem sc_is_stand : FnScope n_is_stand p_is_stand (defScope s_is_stand) := ⟨rfl, rfl, rfl, by decide +kernel, rfl, by decide +kernel, by decide +kernel⟩
theorem bd_is_stand (T : Txt K mg ad fd) : Binds K (fd 13) p_is_stand [] := T.d_is_stand.binds (ps := p_is_stand) fun _ _ _ _ _ _ us hl => match us, hl with | [_, _, _], _ => rfl
theorem ok_is_stand (T : Txt K mg ad fd) : FnG P w K mg base 6 (ad 13) (fd 13) p_is_stand (spOf K 3 f_is_stand) := (fnG_of (m := m_is_stand) T.d_is_stand sc_is_stand fun cdv A outer s H E hr hg =>
    (sl_cons (ss_if (sb_w (sw_or (sb_not (sb_val (se_isi (T := "tuple") (by decide) (se_var (i := 0)) T.b_isinstance T.b_tuple (by decide +kernel)))) (sw_or1 (sb_not (sb_val (se_call (ok_is_between T) (hr.mono (by omega)) hg T.m_is_between T.d_is_between.kp (bd_is_between T) (sa_cons (se_len (sa_cons (se_var (i := 0)) sa_nil) T.b_len) (sa_cons se_int (sa_cons (se_glob T.g_MOST_DEEDS (by rfl)) sa_nil)))))))))
    (sl_one (ss_ret se_bl))
    sl_nil)
    (sl_one (ss_ret (se_all rfl (sa_cons (se_lc (own := [("each", 3)]) (is := [3]) rfl sc_is_stand.nd (si_seq (se_var (i := 0))) (blkOk_by (own := [("each", 3)]) (N := n_is_stand) (sc := defScope s_is_stand) (by decide +kernel)) (by decide) (fun _ _ _ _ _ => (sg_name (i := 3) sc_is_stand.nd)) (fun _ _ _ _ _ => sts_nil) (fun _ _ _ _ _ => (se_call (ok_is_deed T) (hr.mono (by omega)) hg T.m_is_deed T.d_is_deed.kp (bd_is_deed T) (sa_cons (se_var (i := 3)) (sa_cons (se_var (i := 1)) (sa_cons (se_var (i := 2)) sa_nil)))))) sa_nil) T.b_all))))).imp fun _ _ _ _ => spOf_run'
theorem sc_is_share : FnScope n_is_share p_is_share (defScope s_is_share) := ⟨rfl, rfl, rfl, by decide +kernel, rfl, by decide +kernel, by decide +kernel⟩
theorem bd_is_share (T : Txt K mg ad fd) : Binds K (fd 14) p_is_share [] := T.d_is_share.binds (ps := p_is_share) fun _ _ _ _ _ _ us hl => match us, hl with | [_], _ => rfl
theorem ok_is_share (T : Txt K mg ad fd) : FnG P w K mg base 3 (ad 14) (fd 14) p_is_share (spOf K 1 f_is_share) := (fnG_of (m := m_is_share) T.d_is_share sc_is_share fun cdv A outer s H E hr hg =>
    (sl_one (ss_ret (se_and (se_call (ok_is_ratio T) (hr.mono (by omega)) hg T.m_is_ratio T.d_is_ratio.kp (bd_is_ratio T) (sa_cons (se_var (i := 0)) sa_nil)) (se_one (se_lelt se_int (se_ix (se_var (i := 0)) se_int) (se_ix (se_var (i := 0)) se_int))))))).imp fun _ _ _ _ => spOf_run'
theorem sc_is_house_by : FnScope n_is_house_by p_is_house_by (defScope s_is_house_by) := ⟨rfl, rfl, rfl, by decide +kernel, rfl, by decide +kernel, by decide +kernel⟩
theorem bd_is_house_by (T : Txt K mg ad fd) : Binds K (fd 15) p_is_house_by [] := T.d_is_house_by.binds (ps := p_is_house_by) fun _ _ _ _ _ _ us hl => match us, hl with | [_], _ => rfl
theorem ok_is_house_by (T : Txt K mg ad fd) : FnG P w K mg base 7 (ad 15) (fd 15) p_is_house_by (spOf K 1 f_is_house_by) := (fnG_of (m := m_is_house_by) T.d_is_house_by sc_is_house_by fun cdv A outer s H E hr hg =>
    (sl_cons (ss_if (sb_w (sw_or (sb_not (sb_val (se_call (ok_is_tuple_of T) (hr.mono (by omega)) hg T.m_is_tuple_of T.d_is_tuple_of.kp (bd_is_tuple_of T) (sa_cons (se_var (i := 0)) (sa_cons se_int sa_nil))))) (sw_or (sb_not (sb_val (se_call (ok_is_share T) (hr.mono (by omega)) hg T.m_is_share T.d_is_share.kp (bd_is_share T) (sa_cons (se_ix (se_var (i := 0)) se_int) sa_nil)))) (sw_or1 (sb_not (sb_val (se_call (ok_is_between T) (hr.mono (by omega)) hg T.m_is_between T.d_is_between.kp (bd_is_between T) (sa_cons (se_ix (se_var (i := 0)) se_int) (sa_cons se_int (sa_cons (se_glob T.g_MOST_PAYS (by rfl)) sa_nil))))))))))
    (sl_one (ss_ret se_bl))
    sl_nil)
    (sl_cons (ss_set (i := 1) sc_is_house_by.nd rfl (.inr rfl) (se_ix (se_var (i := 0)) se_int))
    (sl_cons (ss_if (sb_w (sw_or (sb_not (sb_val (se_isi (T := "tuple") (by decide) (se_var (i := 1)) T.b_isinstance T.b_tuple (by decide +kernel)))) (sw_or1 (sb_not (sb_val (se_call (ok_is_between T) (hr.mono (by omega)) hg T.m_is_between T.d_is_between.kp (bd_is_between T) (sa_cons (se_len (sa_cons (se_var (i := 1)) sa_nil) T.b_len) (sa_cons se_int (sa_cons (se_glob T.g_MOST_STANDS (by rfl)) sa_nil)))))))))
    (sl_one (ss_ret se_bl))
    sl_nil)
    (sl_one (ss_ret (se_all rfl (sa_cons (se_lc (own := [("each", 2)]) (is := [2]) rfl sc_is_house_by.nd (si_seq (se_var (i := 1))) (blkOk_by (own := [("each", 2)]) (N := n_is_house_by) (sc := defScope s_is_house_by) (by decide +kernel)) (by decide) (fun _ _ _ _ _ => (sg_name (i := 2) sc_is_house_by.nd)) (fun _ _ _ _ _ => sts_nil) (fun _ _ _ _ _ => (se_call (ok_is_stand T) (hr.mono (by omega)) hg T.m_is_stand T.d_is_stand.kp (bd_is_stand T) (sa_cons (se_var (i := 2)) (sa_cons (se_ix (se_var (i := 0)) se_int) (sa_cons (se_len (sa_cons (se_var (i := 1)) sa_nil) T.b_len) sa_nil)))))) sa_nil) T.b_all))))))).imp fun _ _ _ _ => spOf_run'
end
end W2

namespace W2
open PySem PySem.Spec L2 Dh
section
variable {P : Program} {w : World} {K : PySem.W.Frag} {mg : Str → Option Value} {base : Heap} {ad : Nat → Addr} {fd : Nat → FuncData}
theorem sc_is_start_by : FnScope n_is_start_by p_is_start_by (defScope s_is_start_by) := ⟨rfl, rfl, rfl, by decide +kernel, rfl, by decide +kernel, by decide +kernel⟩
theorem bd_is_start_by (T : Txt K mg ad fd) : Binds K (fd 16) p_is_start_by [] := T.d_is_start_by.binds (ps := p_is_start_by) fun _ _ _ _ _ _ us hl => match us, hl with | [_, _], _ => rfl
theorem ok_is_start_by (T : Txt K mg ad fd) : FnG P w K mg base 5 (ad 16) (fd 16) p_is_start_by (spOf K 2 f_is_start_by) := (fnG_of (m := m_is_start_by) T.d_is_start_by sc_is_start_by fun cdv A outer s H E hr hg =>
    (sl_one (ss_ret (se_call (ok_is_chance_row T) (hr.mono (by omega)) hg T.m_is_chance_row T.d_is_chance_row.kp (bd_is_chance_row T) (sa_cons (se_var (i := 1)) (sa_cons (se_len (sa_cons (se_ix (se_var (i := 0)) se_int) sa_nil) T.b_len) sa_nil)))))).imp fun _ _ _ _ => spOf_run'
theorem sc_weighted_by : FnScope n_weighted_by p_weighted_by (defScope s_weighted_by) := ⟨rfl, rfl, rfl, by decide +kernel, rfl, by decide +kernel, by decide +kernel⟩
theorem bd_weighted_by (T : Txt K mg ad fd) : Binds K (fd 17) p_weighted_by [] := T.d_weighted_by.binds (ps := p_weighted_by) fun _ _ _ _ _ _ us hl => match us, hl with | [_, _], _ => rfl
theorem ok_weighted_by (T : Txt K mg ad fd) : FnG P w K mg base 5 (ad 17) (fd 17) p_weighted_by (spOf K 2 f_weighted_by) := (fnG_of (m := m_weighted_by) T.d_weighted_by sc_weighted_by fun cdv A outer s H E hr hg =>
    (sl_cons (ss_set (i := 2) sc_weighted_by.nd rfl (.inl rfl) (se_tuple (sa_cons (se_lc (own := [("stand", 3)]) (is := [3]) rfl sc_weighted_by.nd (si_seq (se_ix (se_var (i := 0)) se_int)) (blkOk_by (own := [("stand", 3)]) (N := n_weighted_by) (sc := defScope s_weighted_by) (by decide +kernel)) (by decide) (fun _ _ _ _ _ => (sg_name (i := 3) sc_weighted_by.nd)) (fun _ _ _ _ _ => sts_nil) (fun _ _ _ _ _ => (se_tuple (sa_cons (se_lc (own := [("chances", 4), ("gains", 5)]) (is := [4, 5]) rfl sc_weighted_by.nd (si_seq (se_var (i := 3))) (blkOk_by (own := [("chances", 4), ("gains", 5)]) (N := n_weighted_by) (sc := relS _ (defScope s_weighted_by)) (by decide +kernel)) (by decide) (fun _ _ _ _ _ => (sg_tup rfl (sgs_cons (sg_name (i := 4) sc_weighted_by.nd) (sgs_cons (sg_name (i := 5) sc_weighted_by.nd) sgs_nil)))) (fun _ _ _ _ _ => sts_nil) (fun _ _ _ _ _ => (se_tup (sa_cons (se_var (i := 4)) (sa_cons (se_tup (sa_cons (se_call (ok_dot T) (hr.mono (by omega)) hg T.m_dot T.d_dot.kp (bd_dot T) (sa_cons (se_var (i := 1)) (sa_cons (se_var (i := 5)) sa_nil))) sa_nil)) sa_nil))))) sa_nil) T.b_tuple))) sa_nil) T.b_tuple))
    (sl_one (ss_ret (se_tup (sa_cons (se_ix (se_var (i := 0)) se_int) (sa_cons se_int (sa_cons (se_var (i := 2)) sa_nil)))))))).imp fun _ _ _ _ => spOf_run'
theorem sc_check_house : FnScope n_check_house p_check_house (defScope s_check_house) := ⟨rfl, rfl, rfl, by decide +kernel, rfl, by decide +kernel, by decide +kernel⟩
theorem bd_check_house (T : Txt K mg ad fd) : Binds K (fd 18) p_check_house [] := T.d_check_house.binds (ps := p_check_house) fun _ _ _ _ _ _ us hl => match us, hl with | [_], _ => rfl
theorem ok_check_house (T : Txt K mg ad fd) : FnG P w K mg base 8 (ad 18) (fd 18) p_check_house (spOf K 1 f_check_house) := (fnG_of (m := m_check_house) T.d_check_house sc_check_house fun cdv A outer s H E hr hg =>
    (sl_one (ss_if (sb_not (sb_val (se_call (ok_is_house_by T) (hr.mono (by omega)) hg T.m_is_house_by T.d_is_house_by.kp (bd_is_house_by T) (sa_cons (se_var (i := 0)) sa_nil))))
    (sl_one ss_never)
    sl_nil))).imp fun _ _ _ _ => spOf_run'
theorem sc_check_weights : FnScope n_check_weights p_check_weights (defScope s_check_weights) := ⟨rfl, rfl, rfl, by decide +kernel, rfl, by decide +kernel, by decide +kernel⟩
theorem bd_check_weights (T : Txt K mg ad fd) : Binds K (fd 19) p_check_weights [] := T.d_check_weights.binds (ps := p_check_weights) fun _ _ _ _ _ _ us hl => match us, hl with | [_, _], _ => rfl
theorem ok_check_weights (T : Txt K mg ad fd) : FnG P w K mg base 3 (ad 19) (fd 19) p_check_weights (spOf K 2 f_check_weights) := (fnG_of (m := m_check_weights) T.d_check_weights sc_check_weights fun cdv A outer s H E hr hg =>
    (sl_cons (ss_if (sb_not (sb_val (se_call (ok_is_tuple_of T) (hr.mono (by omega)) hg T.m_is_tuple_of T.d_is_tuple_of.kp (bd_is_tuple_of T) (sa_cons (se_var (i := 1)) (sa_cons (se_ix (se_var (i := 0)) se_int) sa_nil)))))
    (sl_one ss_never)
    sl_nil)
    (sl_one (ss_for PassesOwn.never rfl (si_enum (sa_cons (se_var (i := 1)) sa_nil) T.b_enumerate) (sg_tup rfl (sgs_cons (sg_name (i := 2) sc_check_weights.nd) (sgs_cons (sg_name (i := 3) sc_check_weights.nd) sgs_nil)))
    (sl_one (ss_if (sb_not (sb_val (se_call (ok_is_ratio T) (hr.mono (by omega)) hg T.m_is_ratio T.d_is_ratio.kp (bd_is_ratio T) (sa_cons (se_var (i := 3)) sa_nil))))
    (sl_one ss_never)
    sl_nil)))))).imp fun _ _ _ _ => spOf_run'
theorem sc_is_house : FnScope n_is_house p_is_house (defScope s_is_house) := ⟨rfl, rfl, rfl, by decide +kernel, rfl, by decide +kernel, by decide +kernel⟩
theorem bd_is_house (T : Txt K mg ad fd) : Binds K (fd 20) p_is_house [] := T.d_is_house.binds (ps := p_is_house) fun _ _ _ _ _ _ us hl => match us, hl with | [_], _ => rfl
theorem kb_is_house_0 (T : Txt K mg ad fd) : KB0 K (fd 20) p_is_house ["value"] [0] := by
  obtain ⟨oc, od, kV, doc, pm, an, cdv, ct, osl, e, _, _⟩ := T.d_is_house.ex
  rw [e]
  intro s ws hK hl
  match ws, hl with
  | [_], _ => exact BindsTo.of_eq rfl
theorem ok_is_house (T : Txt K mg ad fd) : FnG P w K mg base 8 (ad 20) (fd 20) p_is_house (spOf K 1 f_is_house) := (fnG_of (m := m_is_house) T.d_is_house sc_is_house fun cdv A outer s H E hr hg =>
    (sl_one (ss_ret (se_call (ok_is_house_by T) (hr.mono (by omega)) hg T.m_is_house_by T.d_is_house_by.kp (bd_is_house_by T) (sa_cons (se_var (i := 0)) sa_nil))))).imp fun _ _ _ _ => spOf_run'
theorem sc_is_start : FnScope n_is_start p_is_start (defScope s_is_start) := ⟨rfl, rfl, rfl, by decide +kernel, rfl, by decide +kernel, by decide +kernel⟩
theorem bd_is_start (T : Txt K mg ad fd) : Binds K (fd 21) p_is_start [] := T.d_is_start.binds (ps := p_is_start) fun _ _ _ _ _ _ us hl => match us, hl with | [_, _], _ => rfl
theorem kb_is_start_10 (T : Txt K mg ad fd) : KB0 K (fd 21) p_is_start ["value", "house"] [1, 0] := by
  obtain ⟨oc, od, kV, doc, pm, an, cdv, ct, osl, e, _, _⟩ := T.d_is_start.ex
  rw [e]
  intro s ws hK hl
  match ws, hl with
  | [_, _], _ => exact BindsTo.of_eq rfl
theorem ok_is_start (T : Txt K mg ad fd) : FnG P w K mg base 9 (ad 21) (fd 21) p_is_start (spOf K 2 f_is_start) := (fnG_of (m := m_is_start) T.d_is_start sc_is_start fun cdv A outer s H E hr hg =>
    (sl_cons (ss_drop (se_call (ok_check_house T) (hr.mono (by omega)) hg T.m_check_house T.d_check_house.kp (bd_check_house T) (sa_cons (se_var (i := 0)) sa_nil)))
    (sl_one (ss_ret (se_call (ok_is_start_by T) (hr.mono (by omega)) hg T.m_is_start_by T.d_is_start_by.kp (bd_is_start_by T) (sa_cons (se_var (i := 0)) (sa_cons (se_var (i := 1)) sa_nil))))))).imp fun _ _ _ _ => spOf_run'
theorem sc_weighted : FnScope n_weighted p_weighted (defScope s_weighted) := ⟨rfl, rfl, rfl, by decide +kernel, rfl, by decide +kernel, by decide +kernel⟩
theorem bd_weighted (T : Txt K mg ad fd) : Binds K (fd 22) p_weighted [] := T.d_weighted.binds (ps := p_weighted) fun _ _ _ _ _ _ us hl => match us, hl with | [_, _], _ => rfl
theorem kb_weighted_10 (T : Txt K mg ad fd) : KB0 K (fd 22) p_weighted ["weights", "house"] [1, 0] := by
  obtain ⟨oc, od, kV, doc, pm, an, cdv, ct, osl, e, _, _⟩ := T.d_weighted.ex
  rw [e]
  intro s ws hK hl
  match ws, hl with
  | [_, _], _ => exact BindsTo.of_eq rfl
theorem ok_weighted (T : Txt K mg ad fd) : FnG P w K mg base 9 (ad 22) (fd 22) p_weighted (spOf K 2 f_weighted) := (fnG_of (m := m_weighted) T.d_weighted sc_weighted fun cdv A outer s H E hr hg =>
    (sl_cons (ss_drop (se_call (ok_check_house T) (hr.mono (by omega)) hg T.m_check_house T.d_check_house.kp (bd_check_house T) (sa_cons (se_var (i := 0)) sa_nil)))
    (sl_cons (ss_drop (se_call (ok_check_weights T) (hr.mono (by omega)) hg T.m_check_weights T.d_check_weights.kp (bd_check_weights T) (sa_cons (se_var (i := 0)) (sa_cons (se_var (i := 1)) sa_nil))))
    (sl_one (ss_ret (se_call (ok_weighted_by T) (hr.mono (by omega)) hg T.m_weighted_by T.d_weighted_by.kp (bd_weighted_by T) (sa_cons (se_var (i := 0)) (sa_cons (se_var (i := 1)) sa_nil)))))))).imp fun _ _ _ _ => spOf_run'
theorem sc_law_spring : FnScope n_law_spring p_law_spring (defScope s_law_spring) := ⟨rfl, rfl, rfl, by decide +kernel, rfl, by decide +kernel, by decide +kernel⟩
theorem bd_law_spring (T : Txt K mg ad fd) : Binds K (fd 23) p_law_spring [] := T.d_law_spring.binds (ps := p_law_spring) fun _ _ _ _ _ _ us hl => match us, hl with | [_, _], _ => rfl
theorem ok_law_spring (T : Txt K mg ad fd) : FnG P w K mg base 1 (ad 23) (fd 23) p_law_spring (spOf K 2 f_law_spring) := (fnG_of (m := m_law_spring) T.d_law_spring sc_law_spring fun cdv A outer s H E hr hg =>
    (sl_cons (ss_set (i := 2) sc_law_spring.nd rfl (.inl rfl) (se_add se_int (se_mul se_int (se_var (i := 1)))))
    (sl_cons (ss_for PassesOwn.never rfl (si_seq (se_sl (se_var (i := 0)) so_none (so_some se_int))) (sg_name (i := 3) sc_law_spring.nd)
    (sl_one (ss_set (i := 2) sc_law_spring.nd rfl (.inl rfl) (se_mod (se_toint (sa_cons (se_add (se_add (se_mul (se_var (i := 2)) se_int) (se_mul (se_mod (se_toint (sa_cons (se_var (i := 3)) sa_nil) T.b_int) se_int) se_int)) se_int) sa_nil) T.b_int) se_int))))
    (sl_cons (ss_set (i := 4) sc_law_spring.nd rfl (.inl rfl) (se_if (sb_lt (se_var (i := 1)) (se_len (sa_cons (se_var (i := 0)) sa_nil) T.b_len)) (se_toint (sa_cons (se_ix (se_var (i := 0)) (se_var (i := 1))) sa_nil) T.b_int) se_int))
    (sl_cons (ss_set (i := 2) sc_law_spring.nd rfl (.inl rfl) (se_mod (se_toint (sa_cons (se_add (se_add (se_mul (se_var (i := 2)) se_int) (se_mul (se_mod (se_toint (sa_cons (se_var (i := 4)) sa_nil) T.b_int) se_int) se_int)) se_int) sa_nil) T.b_int) se_int))
    (sl_one (ss_ret (se_lst (sa_cons (se_if (sb_w (sw_or (sb_lt (se_var (i := 4)) se_int) (sw_or1 (sb_ge (se_var (i := 4)) (se_pow se_int se_int))))) (se_abs (sa_cons (se_var (i := 4)) sa_nil) T.b_abs) se_int) (sa_cons (se_var (i := 2)) (sa_cons se_int sa_nil))))))))))).imp fun _ _ _ _ => spOf_run'
theorem sc_law_pick : FnScope n_law_pick p_law_pick (defScope s_law_pick) := ⟨rfl, rfl, rfl, by decide +kernel, rfl, by decide +kernel, by decide +kernel⟩
theorem bd_law_pick (T : Txt K mg ad fd) : Binds K (fd 24) p_law_pick [] := T.d_law_pick.binds (ps := p_law_pick) fun _ _ _ _ _ _ us hl => match us, hl with | [_, _], _ => rfl
theorem ok_law_pick (T : Txt K mg ad fd) : FnG P w K mg base 1 (ad 24) (fd 24) p_law_pick (spOf K 2 f_law_pick) := (fnG_of (m := m_law_pick) T.d_law_pick sc_law_pick fun cdv A outer s H E hr hg =>
    (sl_cons (ss_if (sb_gt (se_ix (se_var (i := 0)) se_int) se_int)
    (sl_cons (ss_pair (i := 0) (j := 2) rfl sc_law_pick.nd (se_divmod (sa_cons (se_ix (se_var (i := 0)) se_int) (sa_cons (se_var (i := 1)) sa_nil)) T.b_divmod) (pg_sub (pv 0) se_int set_list))
    (sl_one (ss_retV (i := 2))))
    sl_nil)
    (sl_cons (ss_put (i := 0) (se_add (se_ix (se_var (i := 0)) se_int) se_int) (pg_sub (pv 0) se_int set_list))
    (sl_cons (ss_set (i := 3) sc_law_pick.nd rfl (.inl rfl) (se_mod (se_toint (sa_cons (se_add (se_mul (se_ix (se_var (i := 0)) se_int) se_int) (se_mul se_int (se_ix (se_var (i := 0)) se_int))) sa_nil) T.b_int) se_int))
    (sl_cons (ss_put (i := 0) (se_mod (se_toint (sa_cons (se_add (se_mul (se_var (i := 3)) (se_add (se_mod (se_toint (sa_cons (se_var (i := 3)) sa_nil) T.b_int) se_int) se_int)) (se_ix (se_var (i := 0)) se_int)) sa_nil) T.b_int) se_int) (pg_sub (pv 0) se_int set_list))
    (sl_one (ss_ret (se_mod (se_toint (sa_cons (se_fdiv (se_ix (se_var (i := 0)) se_int) se_int) sa_nil) T.b_int) (se_var (i := 1)))))))))).imp fun _ _ _ _ => spOf_run'
theorem sc_law_any_of : FnScope n_law_any_of p_law_any_of (defScope s_law_any_of) := ⟨rfl, rfl, rfl, by decide +kernel, rfl, by decide +kernel, by decide +kernel⟩
theorem bd_law_any_of (T : Txt K mg ad fd) : Binds K (fd 25) p_law_any_of [] := T.d_law_any_of.binds (ps := p_law_any_of) fun _ _ _ _ _ _ us hl => match us, hl with | [_, _], _ => rfl
theorem ok_law_any_of (T : Txt K mg ad fd) : FnG P w K mg base 2 (ad 25) (fd 25) p_law_any_of (spOf K 2 f_law_any_of) := (fnG_of (m := m_law_any_of) T.d_law_any_of sc_law_any_of fun cdv A outer s H E hr hg =>
    (sl_one (ss_ret (se_ix (se_var (i := 1)) (se_call (ok_law_pick T) (hr.mono (by omega)) hg T.m_law_pick T.d_law_pick.kp (bd_law_pick T) (sa_cons (se_var (i := 0)) (sa_cons (se_len (sa_cons (se_var (i := 1)) sa_nil) T.b_len) sa_nil))))))).imp fun _ _ _ _ => spOf_run'
theorem sc_law_frac : FnScope n_law_frac p_law_frac (defScope s_law_frac) := ⟨rfl, rfl, rfl, by decide +kernel, rfl, by decide +kernel, by decide +kernel⟩
theorem bd_law_frac (T : Txt K mg ad fd) : Binds K (fd 26) p_law_frac [] := T.d_law_frac.binds (ps := p_law_frac) fun _ _ _ _ _ _ us hl => match us, hl with | [_, _], _ => rfl
theorem ok_law_frac (T : Txt K mg ad fd) : FnG P w K mg base 1 (ad 26) (fd 26) p_law_frac (spOf K 2 f_law_frac) := (fnG_of (m := m_law_frac) T.d_law_frac sc_law_frac fun cdv A outer s H E hr hg =>
    (sl_cons (ss_par (i := 2) (j := 3) rfl sc_law_frac.nd (sa_cons (se_abs (sa_cons (se_var (i := 0)) sa_nil) T.b_abs) (sa_cons (se_abs (sa_cons (se_var (i := 1)) sa_nil) T.b_abs) sa_nil)))
    (sl_cons (ss_while PassesOwn.never (sb_gt (se_var (i := 3)) se_int)
    (sl_one (ss_par (i := 2) (j := 3) rfl sc_law_frac.nd (sa_cons (se_var (i := 3)) (sa_cons (se_mod (se_toint (sa_cons (se_var (i := 2)) sa_nil) T.b_int) (se_var (i := 3))) sa_nil)))))
    (sl_one (ss_ret (se_if (sb_gt (se_var (i := 1)) se_int) (se_tup (sa_cons (se_fdiv (se_var (i := 0)) (se_var (i := 2))) (sa_cons (se_fdiv (se_var (i := 1)) (se_var (i := 2))) sa_nil))) (se_tup (sa_cons (se_sub se_int (se_fdiv (se_var (i := 0)) (se_var (i := 2)))) (sa_cons (se_sub se_int (se_fdiv (se_var (i := 1)) (se_var (i := 2)))) sa_nil))))))))).imp fun _ _ _ _ => spOf_run'
theorem sc_law_plus : FnScope n_law_plus p_law_plus (defScope s_law_plus) := ⟨rfl, rfl, rfl, by decide +kernel, rfl, by decide +kernel, by decide +kernel⟩
theorem bd_law_plus (T : Txt K mg ad fd) : Binds K (fd 27) p_law_plus [] := T.d_law_plus.binds (ps := p_law_plus) fun _ _ _ _ _ _ us hl => match us, hl with | [_, _], _ => rfl
theorem ok_law_plus (T : Txt K mg ad fd) : FnG P w K mg base 2 (ad 27) (fd 27) p_law_plus (spOf K 2 f_law_plus) := (fnG_of (m := m_law_plus) T.d_law_plus sc_law_plus fun cdv A outer s H E hr hg =>
    (sl_one (ss_ret (se_call (ok_law_frac T) (hr.mono (by omega)) hg T.m_law_frac T.d_law_frac.kp (bd_law_frac T) (sa_cons (se_add (se_mul (se_ix (se_var (i := 0)) se_int) (se_ix (se_var (i := 1)) se_int)) (se_mul (se_ix (se_var (i := 1)) se_int) (se_ix (se_var (i := 0)) se_int))) (sa_cons (se_mul (se_ix (se_var (i := 0)) se_int) (se_ix (se_var (i := 1)) se_int)) sa_nil)))))).imp fun _ _ _ _ => spOf_run'
theorem sc_law_times : FnScope n_law_times p_law_times (defScope s_law_times) := ⟨rfl, rfl, rfl, by decide +kernel, rfl, by decide +kernel, by decide +kernel⟩
theorem bd_law_times (T : Txt K mg ad fd) : Binds K (fd 28) p_law_times [] := T.d_law_times.binds (ps := p_law_times) fun _ _ _ _ _ _ us hl => match us, hl with | [_, _], _ => rfl
theorem ok_law_times (T : Txt K mg ad fd) : FnG P w K mg base 2 (ad 28) (fd 28) p_law_times (spOf K 2 f_law_times) := (fnG_of (m := m_law_times) T.d_law_times sc_law_times fun cdv A outer s H E hr hg =>
    (sl_one (ss_ret (se_call (ok_law_frac T) (hr.mono (by omega)) hg T.m_law_frac T.d_law_frac.kp (bd_law_frac T) (sa_cons (se_mul (se_ix (se_var (i := 0)) se_int) (se_ix (se_var (i := 1)) se_int)) (sa_cons (se_mul (se_ix (se_var (i := 0)) se_int) (se_ix (se_var (i := 1)) se_int)) sa_nil)))))).imp fun _ _ _ _ => spOf_run'
theorem sc_law_total : FnScope n_law_total p_law_total (defScope s_law_total) := ⟨rfl, rfl, rfl, by decide +kernel, rfl, by decide +kernel, by decide +kernel⟩
theorem bd_law_total (T : Txt K mg ad fd) : Binds K (fd 29) p_law_total [] := T.d_law_total.binds (ps := p_law_total) fun _ _ _ _ _ _ us hl => match us, hl with | [_], _ => rfl
theorem ok_law_total (T : Txt K mg ad fd) : FnG P w K mg base 3 (ad 29) (fd 29) p_law_total (spOf K 1 f_law_total) := (fnG_of (m := m_law_total) T.d_law_total sc_law_total fun cdv A outer s H E hr hg =>
    (sl_cons (ss_set (i := 1) sc_law_total.nd rfl (.inl rfl) (se_tup (sa_cons se_int (sa_cons se_int sa_nil))))
    (sl_cons (ss_for PassesOwn.never rfl (si_seq (se_var (i := 0))) (sg_name (i := 2) sc_law_total.nd)
    (sl_one (ss_set (i := 1) sc_law_total.nd rfl (.inl rfl) (se_call (ok_law_plus T) (hr.mono (by omega)) hg T.m_law_plus T.d_law_plus.kp (bd_law_plus T) (sa_cons (se_var (i := 1)) (sa_cons (se_var (i := 2)) sa_nil))))))
    (sl_one (ss_retV (i := 1)))))).imp fun _ _ _ _ => spOf_run'
theorem sc_law_dot : FnScope n_law_dot p_law_dot (defScope s_law_dot) := ⟨rfl, rfl, rfl, by decide +kernel, rfl, by decide +kernel, by decide +kernel⟩
theorem bd_law_dot (T : Txt K mg ad fd) : Binds K (fd 30) p_law_dot [] := T.d_law_dot.binds (ps := p_law_dot) fun _ _ _ _ _ _ us hl => match us, hl with | [_, _], _ => rfl
theorem ok_law_dot (T : Txt K mg ad fd) : FnG P w K mg base 3 (ad 30) (fd 30) p_law_dot (spOf K 2 f_law_dot) := (fnG_of (m := m_law_dot) T.d_law_dot sc_law_dot fun cdv A outer s H E hr hg =>
    (sl_cons (ss_set (i := 2) sc_law_dot.nd rfl (.inl rfl) (se_tup (sa_cons se_int (sa_cons se_int sa_nil))))
    (sl_cons (ss_for PassesOwn.never rfl (si_zip (sa_cons (se_var (i := 0)) (sa_cons (se_var (i := 1)) sa_nil)) T.b_zip) (sg_tup rfl (sgs_cons (sg_name (i := 3) sc_law_dot.nd) (sgs_cons (sg_name (i := 4) sc_law_dot.nd) sgs_nil)))
    (sl_one (ss_set (i := 2) sc_law_dot.nd rfl (.inl rfl) (se_call (ok_law_plus T) (hr.mono (by omega)) hg T.m_law_plus T.d_law_plus.kp (bd_law_plus T) (sa_cons (se_var (i := 2)) (sa_cons (se_call (ok_law_times T) (hr.mono (by omega)) hg T.m_law_times T.d_law_times.kp (bd_law_times T) (sa_cons (se_var (i := 3)) (sa_cons (se_var (i := 4)) sa_nil))) sa_nil))))))
    (sl_one (ss_retV (i := 2)))))).imp fun _ _ _ _ => spOf_run'
theorem sc_law_part : FnScope n_law_part p_law_part (defScope s_law_part) := ⟨rfl, rfl, rfl, by decide +kernel, rfl, by decide +kernel, by decide +kernel⟩
theorem bd_law_part (T : Txt K mg ad fd) : Binds K (fd 31) p_law_part [] := T.d_law_part.binds (ps := p_law_part) fun _ _ _ _ _ _ us hl => match us, hl with | [_], _ => rfl
theorem ok_law_part (T : Txt K mg ad fd) : FnG P w K mg base 2 (ad 31) (fd 31) p_law_part (spOf K 1 f_law_part) := (fnG_of (m := m_law_part) T.d_law_part sc_law_part fun cdv A outer s H E hr hg =>
    (sl_cons (ss_set (i := 1) sc_law_part.nd rfl (.inl rfl) (se_call (ok_law_pick T) (hr.mono (by omega)) hg T.m_law_pick T.d_law_pick.kp (bd_law_pick T) (sa_cons (se_var (i := 0)) (sa_cons se_int sa_nil))))
    (sl_cons (ss_if (sb_lt (se_var (i := 1)) se_int)
    (sl_one (ss_ret (se_ix (se_tup (sa_cons (se_tup (sa_cons se_int (sa_cons se_int sa_nil))) (sa_cons (se_tup (sa_cons se_int (sa_cons se_int sa_nil))) (sa_cons (se_tup (sa_cons se_int (sa_cons se_int sa_nil))) (sa_cons (se_tup (sa_cons se_int (sa_cons se_int sa_nil))) (sa_cons (se_tup (sa_cons se_int (sa_cons se_int sa_nil))) (sa_cons (se_tup (sa_cons se_int (sa_cons se_int sa_nil))) (sa_cons (se_tup (sa_cons se_int (sa_cons se_int sa_nil))) sa_nil)))))))) (se_var (i := 1)))))
    sl_nil)
    (sl_cons (ss_set (i := 2) sc_law_part.nd rfl (.inl rfl) (se_add se_int (se_call (ok_law_pick T) (hr.mono (by omega)) hg T.m_law_pick T.d_law_pick.kp (bd_law_pick T) (sa_cons (se_var (i := 0)) (sa_cons se_int sa_nil)))))
    (sl_one (ss_ret (se_call (ok_law_frac T) (hr.mono (by omega)) hg T.m_law_frac T.d_law_frac.kp (bd_law_frac T) (sa_cons (se_call (ok_law_pick T) (hr.mono (by omega)) hg T.m_law_pick T.d_law_pick.kp (bd_law_pick T) (sa_cons (se_var (i := 0)) (sa_cons (se_var (i := 2)) sa_nil))) (sa_cons (se_var (i := 2)) sa_nil))))))))).imp fun _ _ _ _ => spOf_run'
end
end W2

namespace W2
open PySem PySem.Spec L2 Dh
section
variable {P : Program} {w : World} {K : PySem.W.Frag} {mg : Str → Option Value} {base : Heap} {ad : Nat → Addr} {fd : Nat → FuncData}
theorem sc_law_gains : FnScope n_law_gains p_law_gains (defScope s_law_gains) := ⟨rfl, rfl, rfl, by decide +kernel, rfl, by decide +kernel, by decide +kernel⟩
theorem bd_law_gains (T : Txt K mg ad fd) : Binds K (fd 32) p_law_gains [] := T.d_law_gains.binds (ps := p_law_gains) fun _ _ _ _ _ _ us hl => match us, hl with | [_, _], _ => rfl
theorem ok_law_gains (T : Txt K mg ad fd) : FnG P w K mg base 3 (ad 32) (fd 32) p_law_gains (spOf K 2 f_law_gains) := (fnG_of (m := m_law_gains) T.d_law_gains sc_law_gains fun cdv A outer s H E hr hg =>
    (sl_cons (ss_set (i := 2) sc_law_gains.nd rfl (.inl rfl) (se_lst sa_nil))
    (sl_cons (ss_for PassesOwn.never rfl (si_range1 (sa_cons (se_var (i := 1)) sa_nil) T.b_range) (sg_name (i := 3) sc_law_gains.nd)
    (sl_one (ss_if (sb_eq hr (se_call (ok_law_pick T) (hr.mono (by omega)) hg T.m_law_pick T.d_law_pick.kp (bd_law_pick T) (sa_cons (se_var (i := 0)) (sa_cons se_int sa_nil))) se_int)
    (sl_one (ss_append (i := 2) (se_call (ok_law_frac T) (hr.mono (by omega)) hg T.m_law_frac T.d_law_frac.kp (bd_law_frac T) (sa_cons (se_sub (se_call (ok_law_pick T) (hr.mono (by omega)) hg T.m_law_pick T.d_law_pick.kp (bd_law_pick T) (sa_cons (se_var (i := 0)) (sa_cons se_int sa_nil))) se_int) (sa_cons (se_add se_int (se_call (ok_law_pick T) (hr.mono (by omega)) hg T.m_law_pick T.d_law_pick.kp (bd_law_pick T) (sa_cons (se_var (i := 0)) (sa_cons se_int sa_nil)))) sa_nil)))))
    (sl_one (ss_append (i := 2) (se_call (ok_law_frac T) (hr.mono (by omega)) hg T.m_law_frac T.d_law_frac.kp (bd_law_frac T) (sa_cons (se_sub (se_call (ok_law_pick T) (hr.mono (by omega)) hg T.m_law_pick T.d_law_pick.kp (bd_law_pick T) (sa_cons (se_var (i := 0)) (sa_cons se_int sa_nil))) se_int) (sa_cons (se_call (ok_law_any_of T) (hr.mono (by omega)) hg T.m_law_any_of T.d_law_any_of.kp (bd_law_any_of T) (sa_cons (se_var (i := 0)) (sa_cons (se_tup (sa_cons se_int (sa_cons se_int (sa_cons se_int (sa_cons se_int (sa_cons se_int sa_nil)))))) sa_nil))) sa_nil))))))))
    (sl_one (ss_ret (se_tuple (sa_cons (se_var (i := 2)) sa_nil) T.b_tuple)))))).imp fun _ _ _ _ => spOf_run'
theorem sc_law_parts : FnScope n_law_parts p_law_parts (defScope s_law_parts) := ⟨rfl, rfl, rfl, by decide +kernel, rfl, by decide +kernel, by decide +kernel⟩
theorem bd_law_parts (T : Txt K mg ad fd) : Binds K (fd 33) p_law_parts [] := T.d_law_parts.binds (ps := p_law_parts) fun _ _ _ _ _ _ us hl => match us, hl with | [_, _], _ => rfl
theorem ok_law_parts (T : Txt K mg ad fd) : FnG P w K mg base 2 (ad 33) (fd 33) p_law_parts (spOf K 2 f_law_parts) := (fnG_of (m := m_law_parts) T.d_law_parts sc_law_parts fun cdv A outer s H E hr hg =>
    (sl_cons (ss_set (i := 2) sc_law_parts.nd rfl (.inl rfl) (se_lst sa_nil))
    (sl_cons (ss_for PassesOwn.never rfl (si_range1 (sa_cons (se_var (i := 1)) sa_nil) T.b_range) (sg_name (i := 3) sc_law_parts.nd)
    (sl_cons (ss_set (i := 4) sc_law_parts.nd rfl (.inl rfl) (se_call (ok_law_pick T) (hr.mono (by omega)) hg T.m_law_pick T.d_law_pick.kp (bd_law_pick T) (sa_cons (se_var (i := 0)) (sa_cons se_int sa_nil))))
    (sl_one (ss_append (i := 2) (se_if (sb_lt (se_var (i := 4)) se_int) (se_ix (se_tup (sa_cons se_int (sa_cons se_int (sa_cons se_int (sa_cons se_int (sa_cons se_int (sa_cons se_int (sa_cons se_int (sa_cons se_int (sa_cons se_int (sa_cons se_int (sa_cons se_int (sa_cons se_int sa_nil))))))))))))) (se_var (i := 4))) (se_add se_int (se_call (ok_law_pick T) (hr.mono (by omega)) hg T.m_law_pick T.d_law_pick.kp (bd_law_pick T) (sa_cons (se_var (i := 0)) (sa_cons se_int sa_nil)))))))))
    (sl_cons (ss_if (sb_eq hr (se_sum rfl (sa_cons (se_var (i := 2)) sa_nil) T.b_sum) se_int)
    (sl_one (ss_put (i := 2) se_int (pg_sub (pv 2) (se_call (ok_law_pick T) (hr.mono (by omega)) hg T.m_law_pick T.d_law_pick.kp (bd_law_pick T) (sa_cons (se_var (i := 0)) (sa_cons (se_var (i := 1)) sa_nil))) set_list)))
    sl_nil)
    (sl_one (ss_retV (i := 2))))))).imp fun _ _ _ _ => spOf_run'
theorem sc_law_chances : FnScope n_law_chances p_law_chances (defScope s_law_chances) := ⟨rfl, rfl, rfl, by decide +kernel, rfl, by decide +kernel, by decide +kernel⟩
theorem bd_law_chances (T : Txt K mg ad fd) : Binds K (fd 34) p_law_chances [] := T.d_law_chances.binds (ps := p_law_chances) fun _ _ _ _ _ _ us hl => match us, hl with | [_, _], _ => rfl
theorem ok_law_chances (T : Txt K mg ad fd) : FnG P w K mg base 3 (ad 34) (fd 34) p_law_chances (spOf K 2 f_law_chances) := (fnG_of (m := m_law_chances) T.d_law_chances sc_law_chances fun cdv A outer s H E hr hg =>
    (sl_cons (ss_set (i := 2) sc_law_chances.nd rfl (.inr rfl) (se_call (ok_law_parts T) (hr.mono (by omega)) hg T.m_law_parts T.d_law_parts.kp (bd_law_parts T) (sa_cons (se_var (i := 0)) (sa_cons (se_var (i := 1)) sa_nil))))
    (sl_one (ss_ret (se_tuple (sa_cons (se_lc (own := [("_law_at", 3)]) (is := [3]) rfl sc_law_chances.nd (si_range1 (sa_cons (se_var (i := 1)) sa_nil) T.b_range) (blkOk_by (own := [("_law_at", 3)]) (N := n_law_chances) (sc := defScope s_law_chances) (by decide +kernel)) (by decide) (fun _ _ _ _ _ => (sg_name (i := 3) sc_law_chances.nd)) (fun _ _ _ _ _ => sts_one (sb_gt (se_ix (se_var (i := 2)) (se_var (i := 3))) se_int)) (fun _ _ _ _ _ => (se_tup (sa_cons (se_var (i := 3)) (sa_cons (se_call (ok_law_frac T) (hr.mono (by omega)) hg T.m_law_frac T.d_law_frac.kp (bd_law_frac T) (sa_cons (se_ix (se_var (i := 2)) (se_var (i := 3))) (sa_cons (se_sum rfl (sa_cons (se_var (i := 2)) sa_nil) T.b_sum) sa_nil))) sa_nil))))) sa_nil) T.b_tuple))))).imp fun _ _ _ _ => spOf_run'
theorem sc_law_odds : FnScope n_law_odds p_law_odds (defScope s_law_odds) := ⟨rfl, rfl, rfl, by decide +kernel, rfl, by decide +kernel, by decide +kernel⟩
theorem bd_law_odds (T : Txt K mg ad fd) : Binds K (fd 35) p_law_odds [] := T.d_law_odds.binds (ps := p_law_odds) fun _ _ _ _ _ _ us hl => match us, hl with | [_, _], _ => rfl
theorem ok_law_odds (T : Txt K mg ad fd) : FnG P w K mg base 3 (ad 35) (fd 35) p_law_odds (spOf K 2 f_law_odds) := (fnG_of (m := m_law_odds) T.d_law_odds sc_law_odds fun cdv A outer s H E hr hg =>
    (sl_cons (ss_set (i := 2) sc_law_odds.nd rfl (.inr rfl) (se_call (ok_law_parts T) (hr.mono (by omega)) hg T.m_law_parts T.d_law_parts.kp (bd_law_parts T) (sa_cons (se_var (i := 0)) (sa_cons (se_var (i := 1)) sa_nil))))
    (sl_one (ss_frz [2] (ss_ret (se_tuple (sa_cons (se_lc (own := [("_law_part_here", 3)]) (is := [3]) rfl sc_law_odds.nd (si_seq (se_var (i := 2))) (blkOk_by (own := [("_law_part_here", 3)]) (N := n_law_odds) (sc := defScope s_law_odds) (by decide +kernel)) (by decide) (fun _ _ _ _ _ => (sg_name (i := 3) sc_law_odds.nd)) (fun _ _ _ _ _ => sts_nil) (fun _ _ _ _ _ => (se_call (ok_law_frac T) (hr.mono (by omega)) hg T.m_law_frac T.d_law_frac.kp (bd_law_frac T) (sa_cons (se_var (i := 3)) (sa_cons (se_sum rfl (sa_cons (se_var (i := 2)) sa_nil) T.b_sum) sa_nil))))) sa_nil) T.b_tuple)))))).imp fun _ _ _ _ => spOf_run'
theorem sc_law_sized : FnScope n_law_sized p_law_sized (defScope s_law_sized) := ⟨rfl, rfl, rfl, by decide +kernel, rfl, by decide +kernel, by decide +kernel⟩
theorem bd_law_sized (T : Txt K mg ad fd) : Binds K (fd 36) p_law_sized [] := T.d_law_sized.binds (ps := p_law_sized) fun _ _ _ _ _ _ us hl => match us, hl with | [_, _, _], _ => rfl
theorem ok_law_sized (T : Txt K mg ad fd) : FnG P w K mg base 4 (ad 36) (fd 36) p_law_sized (spOf K 3 f_law_sized) := (fnG_of (m := m_law_sized) T.d_law_sized sc_law_sized fun cdv A outer s H E hr hg =>
    (sl_cons (ss_par (i := 3) (j := 4) rfl sc_law_sized.nd (sa_cons (se_call (ok_law_part T) (hr.mono (by omega)) hg T.m_law_part T.d_law_part.kp (bd_law_part T) (sa_cons (se_var (i := 0)) sa_nil)) (sa_cons (se_lst sa_nil) sa_nil)))
    (sl_cons (ss_for PassesOwn.never rfl (si_seq (se_var (i := 1))) (sg_name (i := 5) sc_law_sized.nd)
    (sl_cons (ss_set (i := 6) sc_law_sized.nd rfl (.inl rfl) (se_lst sa_nil))
    (sl_cons (ss_for PassesOwn.never rfl (si_range1 (sa_cons (se_var (i := 5)) sa_nil) T.b_range) (sg_name (i := 7) sc_law_sized.nd)
    (sl_one (ss_if (sb_w (sw_and (sb_ne hr (se_var (i := 6)) (se_lst sa_nil)) (sw_and1 (sb_eq hr (se_call (ok_law_pick T) (hr.mono (by omega)) hg T.m_law_pick T.d_law_pick.kp (bd_law_pick T) (sa_cons (se_var (i := 0)) (sa_cons se_int sa_nil))) se_int))))
    (sl_one (ss_append (i := 6) (se_ix (se_var (i := 6)) se_int)))
    (sl_cons (ss_set (i := 8) sc_law_sized.nd rfl (.inl rfl) (se_call (ok_law_chances T) (hr.mono (by omega)) hg T.m_law_chances T.d_law_chances.kp (bd_law_chances T) (sa_cons (se_var (i := 0)) (sa_cons (se_len (sa_cons (se_var (i := 1)) sa_nil) T.b_len) sa_nil))))
    (sl_one (ss_append (i := 6) (se_tup (sa_cons (se_var (i := 8)) (sa_cons (se_call (ok_law_gains T) (hr.mono (by omega)) hg T.m_law_gains T.d_law_gains.kp (bd_law_gains T) (sa_cons (se_var (i := 0)) (sa_cons (se_var (i := 2)) sa_nil))) sa_nil)))))))))
    (sl_one (ss_append (i := 4) (se_tuple (sa_cons (se_var (i := 6)) sa_nil) T.b_tuple))))))
    (sl_one (ss_ret (se_tup (sa_cons (se_var (i := 3)) (sa_cons (se_var (i := 2)) (sa_cons (se_tuple (sa_cons (se_var (i := 4)) sa_nil) T.b_tuple) sa_nil))))))))).imp fun _ _ _ _ => spOf_run'
theorem sc_law_world : FnScope n_law_world p_law_world (defScope s_law_world) := ⟨rfl, rfl, rfl, by decide +kernel, rfl, by decide +kernel, by decide +kernel⟩
theorem bd_law_world (T : Txt K mg ad fd) : Binds K (fd 37) p_law_world [] := T.d_law_world.binds (ps := p_law_world) fun _ _ _ _ _ _ us hl => match us, hl with | [_, _, _, _], _ => rfl
theorem ok_law_world (T : Txt K mg ad fd) : FnG P w K mg base 5 (ad 37) (fd 37) p_law_world (spOf K 4 f_law_world) := (fnG_of (m := m_law_world) T.d_law_world sc_law_world fun cdv A outer s H E hr hg =>
    (sl_cons (ss_set (i := 4) sc_law_world.nd rfl (.inl rfl) (se_lst sa_nil))
    (sl_cons (ss_for PassesOwn.never rfl (si_range1 (sa_cons (se_add se_int (se_call (ok_law_pick T) (hr.mono (by omega)) hg T.m_law_pick T.d_law_pick.kp (bd_law_pick T) (sa_cons (se_var (i := 0)) (sa_cons (se_var (i := 1)) sa_nil)))) sa_nil) T.b_range) (sg_name (i := 5) sc_law_world.nd)
    (sl_one (ss_append (i := 4) (se_add se_int (se_call (ok_law_pick T) (hr.mono (by omega)) hg T.m_law_pick T.d_law_pick.kp (bd_law_pick T) (sa_cons (se_var (i := 0)) (sa_cons (se_var (i := 2)) sa_nil)))))))
    (sl_one (ss_frz [4] (ss_ret (se_call (ok_law_sized T) (hr.mono (by omega)) hg T.m_law_sized T.d_law_sized.kp (bd_law_sized T) (sa_cons (se_var (i := 0)) (sa_cons (se_var (i := 4)) (sa_cons (se_var (i := 3)) sa_nil)))))))))).imp fun _ _ _ _ => spOf_run'
theorem sc_law_dressed : FnScope n_law_dressed p_law_dressed (defScope s_law_dressed) := ⟨rfl, rfl, rfl, by decide +kernel, rfl, by decide +kernel, by decide +kernel⟩
theorem bd_law_dressed (T : Txt K mg ad fd) : Binds K (fd 38) p_law_dressed [] := T.d_law_dressed.binds (ps := p_law_dressed) fun _ _ _ _ _ _ us hl => match us, hl with | [_, _], _ => rfl
theorem ok_law_dressed (T : Txt K mg ad fd) : FnG P w K mg base 4 (ad 38) (fd 38) p_law_dressed (spOf K 2 f_law_dressed) := (fnG_of (m := m_law_dressed) T.d_law_dressed sc_law_dressed fun cdv A outer s H E hr hg =>
    (sl_cons (ss_set (i := 2) sc_law_dressed.nd rfl (.inl rfl) (se_lst sa_nil))
    (sl_cons (ss_for PassesOwn.never rfl (si_seq (se_ix (se_var (i := 0)) se_int)) (sg_name (i := 3) sc_law_dressed.nd)
    (sl_one (ss_append (i := 2) (se_tuple (sa_cons (se_lc (own := [("_law_deed", 4)]) (is := [4]) rfl sc_law_dressed.nd (si_seq (se_var (i := 3))) (blkOk_by (own := [("_law_deed", 4)]) (N := n_law_dressed) (sc := defScope s_law_dressed) (by decide +kernel)) (by decide) (fun _ _ _ _ _ => (sg_name (i := 4) sc_law_dressed.nd)) (fun _ _ _ _ _ => sts_nil) (fun _ _ _ _ _ => (se_tup (sa_cons (se_ix (se_var (i := 4)) se_int) (sa_cons (se_tup (sa_cons (se_call (ok_law_dot T) (hr.mono (by omega)) hg T.m_law_dot T.d_law_dot.kp (bd_law_dot T) (sa_cons (se_var (i := 1)) (sa_cons (se_ix (se_var (i := 4)) se_int) sa_nil))) sa_nil)) sa_nil))))) sa_nil) T.b_tuple))))
    (sl_one (ss_ret (se_tup (sa_cons (se_ix (se_var (i := 0)) se_int) (sa_cons se_int (sa_cons (se_tuple (sa_cons (se_var (i := 2)) sa_nil) T.b_tuple) sa_nil))))))))).imp fun _ _ _ _ => spOf_run'
theorem sc_law_is_whole : FnScope n_law_is_whole p_law_is_whole (defScope s_law_is_whole) := ⟨rfl, rfl, rfl, by decide +kernel, rfl, by decide +kernel, by decide +kernel⟩
theorem bd_law_is_whole (T : Txt K mg ad fd) : Binds K (fd 39) p_law_is_whole [] := T.d_law_is_whole.binds (ps := p_law_is_whole) fun _ _ _ _ _ _ us hl => match us, hl with | [_], _ => rfl
theorem ok_law_is_whole (T : Txt K mg ad fd) : FnG P w K mg base 1 (ad 39) (fd 39) p_law_is_whole (spOf K 1 f_law_is_whole) := (fnG_of (m := m_law_is_whole) T.d_law_is_whole sc_law_is_whole fun cdv A outer s H E hr hg =>
    (sl_one (ss_ret (se_and (se_isi (T := "int") (by decide) (se_var (i := 0)) T.b_isinstance T.b_int (by decide +kernel)) (se_one (se_not (se_isi (T := "bool") (by decide) (se_var (i := 0)) T.b_isinstance T.b_bool (by decide +kernel)))))))).imp fun _ _ _ _ => spOf_run'
theorem sc_law_is_tuple : FnScope n_law_is_tuple p_law_is_tuple (defScope s_law_is_tuple) := ⟨rfl, rfl, rfl, by decide +kernel, rfl, by decide +kernel, by decide +kernel⟩
theorem bd_law_is_tuple (T : Txt K mg ad fd) : Binds K (fd 40) p_law_is_tuple [] := T.d_law_is_tuple.binds (ps := p_law_is_tuple) fun _ _ _ _ _ _ us hl => match us, hl with | [_, _], _ => rfl
theorem ok_law_is_tuple (T : Txt K mg ad fd) : FnG P w K mg base 1 (ad 40) (fd 40) p_law_is_tuple (spOf K 2 f_law_is_tuple) := (fnG_of (m := m_law_is_tuple) T.d_law_is_tuple sc_law_is_tuple fun cdv A outer s H E hr hg =>
    (sl_one (ss_ret (se_and (se_isi (T := "tuple") (by decide) (se_var (i := 0)) T.b_isinstance T.b_tuple (by decide +kernel)) (se_one (se_eq hr (se_len (sa_cons (se_var (i := 0)) sa_nil) T.b_len) (se_var (i := 1)))))))).imp fun _ _ _ _ => spOf_run'
theorem sc_law_is_frac : FnScope n_law_is_frac p_law_is_frac (defScope s_law_is_frac) := ⟨rfl, rfl, rfl, by decide +kernel, rfl, by decide +kernel, by decide +kernel⟩
theorem bd_law_is_frac (T : Txt K mg ad fd) : Binds K (fd 41) p_law_is_frac [] := T.d_law_is_frac.binds (ps := p_law_is_frac) fun _ _ _ _ _ _ us hl => match us, hl with | [_], _ => rfl
theorem ok_law_is_frac (T : Txt K mg ad fd) : FnG P w K mg base 2 (ad 41) (fd 41) p_law_is_frac (spOf K 1 f_law_is_frac) := (fnG_of (m := m_law_is_frac) T.d_law_is_frac sc_law_is_frac fun cdv A outer s H E hr hg =>
    (sl_cons (ss_if (sb_w (sw_or (sb_not (sb_val (se_call (ok_law_is_tuple T) (hr.mono (by omega)) hg T.m_law_is_tuple T.d_law_is_tuple.kp (bd_law_is_tuple T) (sa_cons (se_var (i := 0)) (sa_cons se_int sa_nil))))) (sw_or (sb_not (sb_val (se_call (ok_law_is_whole T) (hr.mono (by omega)) hg T.m_law_is_whole T.d_law_is_whole.kp (bd_law_is_whole T) (sa_cons (se_ix (se_var (i := 0)) se_int) sa_nil)))) (sw_or1 (sb_not (sb_val (se_call (ok_law_is_whole T) (hr.mono (by omega)) hg T.m_law_is_whole T.d_law_is_whole.kp (bd_law_is_whole T) (sa_cons (se_ix (se_var (i := 0)) se_int) sa_nil))))))))
    (sl_one (ss_ret se_bl))
    sl_nil)
    (sl_one (ss_ret (se_and (se_gt (se_ix (se_var (i := 0)) se_int) se_int) (se_one (se_eq hr (se_call (ok_law_frac T) (hr.mono (by omega)) hg T.m_law_frac T.d_law_frac.kp (bd_law_frac T) (sa_cons (se_ix (se_var (i := 0)) se_int) (sa_cons (se_ix (se_var (i := 0)) se_int) sa_nil))) (se_var (i := 0))))))))).imp fun _ _ _ _ => spOf_run'
theorem sc_law_is_row : FnScope n_law_is_row p_law_is_row (defScope s_law_is_row) := ⟨rfl, rfl, rfl, by decide +kernel, rfl, by decide +kernel, by decide +kernel⟩
theorem bd_law_is_row (T : Txt K mg ad fd) : Binds K (fd 42) p_law_is_row [] := T.d_law_is_row.binds (ps := p_law_is_row) fun _ _ _ _ _ _ us hl => match us, hl with | [_, _], _ => rfl
theorem ok_law_is_row (T : Txt K mg ad fd) : FnG P w K mg base 3 (ad 42) (fd 42) p_law_is_row (spOf K 2 f_law_is_row) := (fnG_of (m := m_law_is_row) T.d_law_is_row sc_law_is_row fun cdv A outer s H E hr hg =>
    (sl_one (ss_ret (se_and (se_call (ok_law_is_tuple T) (hr.mono (by omega)) hg T.m_law_is_tuple T.d_law_is_tuple.kp (bd_law_is_tuple T) (sa_cons (se_var (i := 0)) (sa_cons (se_var (i := 1)) sa_nil))) (se_one (se_all rfl (sa_cons (se_lc (own := [("_law_x", 2)]) (is := [2]) rfl sc_law_is_row.nd (si_seq (se_var (i := 0))) (blkOk_by (own := [("_law_x", 2)]) (N := n_law_is_row) (sc := defScope s_law_is_row) (by decide +kernel)) (by decide) (fun _ _ _ _ _ => (sg_name (i := 2) sc_law_is_row.nd)) (fun _ _ _ _ _ => sts_nil) (fun _ _ _ _ _ => (se_call (ok_law_is_frac T) (hr.mono (by omega)) hg T.m_law_is_frac T.d_law_is_frac.kp (bd_law_is_frac T) (sa_cons (se_var (i := 2)) sa_nil)))) sa_nil) T.b_all)))))).imp fun _ _ _ _ => spOf_run'
theorem sc_law_is_odds : FnScope n_law_is_odds p_law_is_odds (defScope s_law_is_odds) := ⟨rfl, rfl, rfl, by decide +kernel, rfl, by decide +kernel, by decide +kernel⟩
theorem bd_law_is_odds (T : Txt K mg ad fd) : Binds K (fd 43) p_law_is_odds [] := T.d_law_is_odds.binds (ps := p_law_is_odds) fun _ _ _ _ _ _ us hl => match us, hl with | [_, _], _ => rfl
theorem ok_law_is_odds (T : Txt K mg ad fd) : FnG P w K mg base 4 (ad 43) (fd 43) p_law_is_odds (spOf K 2 f_law_is_odds) := (fnG_of (m := m_law_is_odds) T.d_law_is_odds sc_law_is_odds fun cdv A outer s H E hr hg =>
    (sl_cons (ss_if (sb_not (sb_val (se_call (ok_law_is_row T) (hr.mono (by omega)) hg T.m_law_is_row T.d_law_is_row.kp (bd_law_is_row T) (sa_cons (se_var (i := 0)) (sa_cons (se_var (i := 1)) sa_nil)))))
    (sl_one (ss_ret se_bl))
    sl_nil)
    (sl_one (ss_ret (se_and (se_all rfl (sa_cons (se_lc (own := [("_law_x", 2)]) (is := [2]) rfl sc_law_is_odds.nd (si_seq (se_var (i := 0))) (blkOk_by (own := [("_law_x", 2)]) (N := n_law_is_odds) (sc := defScope s_law_is_odds) (by decide +kernel)) (by decide) (fun _ _ _ _ _ => (sg_name (i := 2) sc_law_is_odds.nd)) (fun _ _ _ _ _ => sts_nil) (fun _ _ _ _ _ => (se_ge (se_ix (se_var (i := 2)) se_int) se_int))) sa_nil) T.b_all) (se_one (se_eq hr (se_call (ok_law_total T) (hr.mono (by omega)) hg T.m_law_total T.d_law_total.kp (bd_law_total T) (sa_cons (se_var (i := 0)) sa_nil)) (se_tup (sa_cons se_int (sa_cons se_int sa_nil)))))))))).imp fun _ _ _ _ => spOf_run'
theorem sc_law_is_deed : FnScope n_law_is_deed p_law_is_deed (defScope s_law_is_deed) := ⟨rfl, rfl, rfl, by decide +kernel, rfl, by decide +kernel, by decide +kernel⟩
theorem bd_law_is_deed (T : Txt K mg ad fd) : Binds K (fd 44) p_law_is_deed [] := T.d_law_is_deed.binds (ps := p_law_is_deed) fun _ _ _ _ _ _ us hl => match us, hl with | [_, _, _], _ => rfl
theorem ok_law_is_deed (T : Txt K mg ad fd) : FnG P w K mg base 4 (ad 44) (fd 44) p_law_is_deed (spOf K 3 f_law_is_deed) := (fnG_of (m := m_law_is_deed) T.d_law_is_deed sc_law_is_deed fun cdv A outer s H E hr hg =>
    (sl_cons (ss_if (sb_w (sw_or (sb_not (sb_val (se_call (ok_law_is_tuple T) (hr.mono (by omega)) hg T.m_law_is_tuple T.d_law_is_tuple.kp (bd_law_is_tuple T) (sa_cons (se_var (i := 0)) (sa_cons se_int sa_nil))))) (sw_or (sb_not (sb_val (se_isi (T := "tuple") (by decide) (se_ix (se_var (i := 0)) se_int) T.b_isinstance T.b_tuple (by decide +kernel)))) (sw_or1 (sb_not (sb_val (se_call (ok_law_is_row T) (hr.mono (by omega)) hg T.m_law_is_row T.d_law_is_row.kp (bd_law_is_row T) (sa_cons (se_ix (se_var (i := 0)) se_int) (sa_cons (se_var (i := 1)) sa_nil)))))))))
    (sl_one (ss_ret se_bl))
    sl_nil)
    (sl_cons (ss_asg (se_tup (sa_cons (se_neg se_int) (sa_cons (se_tup (sa_cons se_int (sa_cons se_int sa_nil))) sa_nil))) (sg_tup rfl (sgs_cons (sg_name (i := 3) sc_law_is_deed.nd) (sgs_cons (sg_name (i := 4) sc_law_is_deed.nd) sgs_nil))))
    (sl_cons (ss_for PassesOwn.never rfl (si_seq (se_ix (se_var (i := 0)) se_int)) (sg_name (i := 5) sc_law_is_deed.nd)
    (sl_cons (ss_if (sb_w (sw_or (sb_not (sb_val (se_call (ok_law_is_tuple T) (hr.mono (by omega)) hg T.m_law_is_tuple T.d_law_is_tuple.kp (bd_law_is_tuple T) (sa_cons (se_var (i := 5)) (sa_cons se_int sa_nil))))) (sw_or (sb_not (sb_val (se_call (ok_law_is_whole T) (hr.mono (by omega)) hg T.m_law_is_whole T.d_law_is_whole.kp (bd_law_is_whole T) (sa_cons (se_ix (se_var (i := 5)) se_int) sa_nil)))) (sw_or1 (sb_not (sb_val (se_call (ok_law_is_frac T) (hr.mono (by omega)) hg T.m_law_is_frac T.d_law_is_frac.kp (bd_law_is_frac T) (sa_cons (se_ix (se_var (i := 5)) se_int) sa_nil))))))))
    (sl_one (ss_ret se_bl))
    sl_nil)
    (sl_cons (ss_if (sb_w (sw_or (sb_not (sb_ltlt (se_var (i := 3)) (se_ix (se_var (i := 5)) se_int) (se_var (i := 2)))) (sw_or1 (sb_le (se_ix (se_ix (se_var (i := 5)) se_int) se_int) se_int))))
    (sl_one (ss_ret se_bl))
    sl_nil)
    (sl_one (ss_par (i := 3) (j := 4) rfl sc_law_is_deed.nd (sa_cons (se_ix (se_var (i := 5)) se_int) (sa_cons (se_call (ok_law_plus T) (hr.mono (by omega)) hg T.m_law_plus T.d_law_plus.kp (bd_law_plus T) (sa_cons (se_var (i := 4)) (sa_cons (se_ix (se_var (i := 5)) se_int) sa_nil))) sa_nil)))))))
    (sl_one (ss_ret (se_eq hr (se_var (i := 4)) (se_tup (sa_cons se_int (sa_cons se_int sa_nil)))))))))).imp fun _ _ _ _ => spOf_run'
theorem sc_law_is_world : FnScope n_law_is_world p_law_is_world (defScope s_law_is_world) := ⟨rfl, rfl, rfl, by decide +kernel, rfl, by decide +kernel, by decide +kernel⟩
theorem bd_law_is_world (T : Txt K mg ad fd) : Binds K (fd 45) p_law_is_world [] := T.d_law_is_world.binds (ps := p_law_is_world) fun _ _ _ _ _ _ us hl => match us, hl with | [_], _ => rfl
theorem ok_law_is_world (T : Txt K mg ad fd) : FnG P w K mg base 5 (ad 45) (fd 45) p_law_is_world (spOf K 1 f_law_is_world) := (fnG_of (m := m_law_is_world) T.d_law_is_world sc_law_is_world fun cdv A outer s H E hr hg =>
    (sl_cons (ss_if (sb_w (sw_or (sb_not (sb_val (se_call (ok_law_is_tuple T) (hr.mono (by omega)) hg T.m_law_is_tuple T.d_law_is_tuple.kp (bd_law_is_tuple T) (sa_cons (se_var (i := 0)) (sa_cons se_int sa_nil))))) (sw_or (sb_not (sb_val (se_call (ok_law_is_frac T) (hr.mono (by omega)) hg T.m_law_is_frac T.d_law_is_frac.kp (bd_law_is_frac T) (sa_cons (se_ix (se_var (i := 0)) se_int) sa_nil)))) (sw_or1 (sb_not (sb_val (se_call (ok_law_is_whole T) (hr.mono (by omega)) hg T.m_law_is_whole T.d_law_is_whole.kp (bd_law_is_whole T) (sa_cons (se_ix (se_var (i := 0)) se_int) sa_nil))))))))
    (sl_one (ss_ret se_bl))
    sl_nil)
    (sl_cons (ss_if (sb_w (sw_or (sb_not (sb_lelt se_int (se_ix (se_ix (se_var (i := 0)) se_int) se_int) (se_ix (se_ix (se_var (i := 0)) se_int) se_int))) (sw_or1 (sb_not (sb_lele se_int (se_ix (se_var (i := 0)) se_int) se_int)))))
    (sl_one (ss_ret se_bl))
    sl_nil)
    (sl_cons (ss_if (sb_w (sw_or (sb_not (sb_val (se_isi (T := "tuple") (by decide) (se_ix (se_var (i := 0)) se_int) T.b_isinstance T.b_tuple (by decide +kernel)))) (sw_or1 (sb_not (sb_lele se_int (se_len (sa_cons (se_ix (se_var (i := 0)) se_int) sa_nil) T.b_len) se_int)))))
    (sl_one (ss_ret se_bl))
    sl_nil)
    (sl_cons (ss_for PassesOwn.never rfl (si_seq (se_ix (se_var (i := 0)) se_int)) (sg_name (i := 1) sc_law_is_world.nd)
    (sl_cons (ss_if (sb_w (sw_or (sb_not (sb_val (se_isi (T := "tuple") (by decide) (se_var (i := 1)) T.b_isinstance T.b_tuple (by decide +kernel)))) (sw_or1 (sb_not (sb_lele se_int (se_len (sa_cons (se_var (i := 1)) sa_nil) T.b_len) se_int)))))
    (sl_one (ss_ret se_bl))
    sl_nil)
    (sl_one (ss_if (sb_not (sb_val (se_all rfl (sa_cons (se_lc (own := [("_law_deed", 2)]) (is := [2]) rfl sc_law_is_world.nd (si_seq (se_var (i := 1))) (blkOk_by (own := [("_law_deed", 2)]) (N := n_law_is_world) (sc := defScope s_law_is_world) (by decide +kernel)) (by decide) (fun _ _ _ _ _ => (sg_name (i := 2) sc_law_is_world.nd)) (fun _ _ _ _ _ => sts_nil) (fun _ _ _ _ _ => (se_call (ok_law_is_deed T) (hr.mono (by omega)) hg T.m_law_is_deed T.d_law_is_deed.kp (bd_law_is_deed T) (sa_cons (se_var (i := 2)) (sa_cons (se_ix (se_var (i := 0)) se_int) (sa_cons (se_len (sa_cons (se_ix (se_var (i := 0)) se_int) sa_nil) T.b_len) sa_nil)))))) sa_nil) T.b_all)))
    (sl_one (ss_ret se_bl))
    sl_nil))))
    (sl_one (ss_ret se_bl))))))).imp fun _ _ _ _ => spOf_run'
theorem sc_law_odd : FnScope n_law_odd p_law_odd (defScope s_law_odd) := ⟨rfl, rfl, rfl, by decide +kernel, rfl, by decide +kernel, by decide +kernel⟩
theorem bd_law_odd (T : Txt K mg ad fd) : Binds K (fd 46) p_law_odd [] := T.d_law_odd.binds (ps := p_law_odd) fun _ _ _ _ _ _ us hl => match us, hl with | [_], _ => rfl
theorem ok_law_odd (T : Txt K mg ad fd) : FnG P w K mg base 3 (ad 46) (fd 46) p_law_odd (spOf K 1 f_law_odd) := (fnG_of (m := m_law_odd) T.d_law_odd sc_law_odd fun cdv A outer s H E hr hg =>
    (sl_one (ss_ret (se_call (ok_law_any_of T) (hr.mono (by omega)) hg T.m_law_any_of T.d_law_any_of.kp (bd_law_any_of T) (sa_cons (se_var (i := 0)) (sa_cons (se_tup (sa_cons se_non (sa_cons se_bl (sa_cons se_bl (sa_cons se_int (sa_cons se_int (sa_cons se_int (sa_cons se_int (sa_cons se_int (sa_cons (se_neg se_int) (sa_cons se_int (sa_cons se_str (sa_cons se_str (sa_cons se_str (sa_cons (se_tup sa_nil) (sa_cons (se_tup (sa_cons se_int sa_nil)) (sa_cons (se_tup (sa_cons se_int sa_nil)) (sa_cons (se_tup (sa_cons se_int (sa_cons se_int sa_nil))) (sa_cons (se_tup (sa_cons se_int (sa_cons se_int sa_nil))) (sa_cons (se_tup (sa_cons se_int (sa_cons se_int sa_nil))) (sa_cons (se_tup (sa_cons se_int (sa_cons se_int sa_nil))) (sa_cons (se_tup (sa_cons se_int (sa_cons se_int sa_nil))) (sa_cons (se_tup (sa_cons se_int (sa_cons se_int sa_nil))) (sa_cons (se_tup (sa_cons (se_neg se_int) (sa_cons se_int sa_nil))) (sa_cons (se_tup (sa_cons se_int (sa_cons (se_neg se_int) sa_nil))) (sa_cons (se_tup (sa_cons se_bl (sa_cons se_int sa_nil))) (sa_cons (se_tup (sa_cons se_int (sa_cons se_bl sa_nil))) (sa_cons (se_tup (sa_cons (se_tup (sa_cons se_int (sa_cons se_int sa_nil))) sa_nil)) (sa_cons (se_tup (sa_cons (se_tup (sa_cons se_int (sa_cons se_int sa_nil))) sa_nil)) (sa_cons (se_tup (sa_cons se_int (sa_cons se_int (sa_cons se_int sa_nil)))) (sa_cons (se_tup (sa_cons (se_tup (sa_cons se_int (sa_cons se_int sa_nil))) (sa_cons (se_tup (sa_cons se_int (sa_cons se_int sa_nil))) sa_nil))) (sa_cons (se_tup (sa_cons (se_tup (sa_cons se_int (sa_cons se_int sa_nil))) (sa_cons (se_tup (sa_cons se_int (sa_cons se_int sa_nil))) sa_nil))) (sa_cons (se_tup (sa_cons (se_tup (sa_cons (se_tup (sa_cons se_int (sa_cons se_int sa_nil))) sa_nil)) sa_nil)) (sa_cons (se_tup (sa_cons se_int (sa_cons se_int (sa_cons se_int sa_nil)))) (sa_cons (se_tup (sa_cons (se_tup (sa_cons se_int (sa_cons se_int sa_nil))) (sa_cons (se_tup (sa_cons se_int (sa_cons se_int sa_nil))) (sa_cons (se_tup (sa_cons se_int (sa_cons se_int sa_nil))) sa_nil)))) (sa_cons (se_tup (sa_cons se_non sa_nil)) (sa_cons (se_tup (sa_cons (se_tup sa_nil) sa_nil)) (sa_cons (se_lst sa_nil) (sa_cons (se_lst (sa_cons se_int sa_nil)) (sa_cons (se_lst (sa_cons (se_tup (sa_cons se_int (sa_cons se_int sa_nil))) sa_nil)) (sa_cons (se_lst (sa_cons (se_lst (sa_cons (se_tup (sa_cons se_int (sa_cons se_int sa_nil))) sa_nil)) sa_nil)) (sa_cons se_dict0 (sa_cons se_dict1 (sa_cons (se_tup (sa_cons se_str (sa_cons se_non sa_nil))) sa_nil)))))))))))))))))))))))))))))))))))))))))))) sa_nil)))))).imp fun _ _ _ _ => spOf_run'
theorem sc_law_twice : FnScope n_law_twice p_law_twice (defScope s_law_twice) := ⟨rfl, rfl, rfl, by decide +kernel, rfl, by decide +kernel, by decide +kernel⟩
theorem bd_law_twice (T : Txt K mg ad fd) : Binds K (fd 47) p_law_twice [] := T.d_law_twice.binds (ps := p_law_twice) fun _ _ _ _ _ _ us hl => match us, hl with | [_], _ => rfl
theorem ok_law_twice (T : Txt K mg ad fd) : FnG P w K mg base 1 (ad 47) (fd 47) p_law_twice (spOf K 1 f_law_twice) := (fnG_of (m := m_law_twice) T.d_law_twice sc_law_twice fun cdv A outer s H E hr hg =>
    (sl_cons (ss_if (sb_w (sw_and (sb_eq hr (se_len (sa_cons (se_var (i := 0)) sa_nil) T.b_len) se_int) (sw_and (sb_val (se_isi (T := "int") (by decide) (se_ix (se_var (i := 0)) se_int) T.b_isinstance T.b_int (by decide +kernel))) (sw_and1 (sb_val (se_isi (T := "int") (by decide) (se_ix (se_var (i := 0)) se_int) T.b_isinstance T.b_int (by decide +kernel)))))))
    (sl_one (ss_ret (se_tup (sa_cons (se_mul (se_ix (se_var (i := 0)) se_int) se_int) (sa_cons (se_mul (se_ix (se_var (i := 0)) se_int) se_int) sa_nil)))))
    sl_nil)
    (sl_one (ss_ret (se_add (se_var (i := 0)) (se_var (i := 0))))))).imp fun _ _ _ _ => spOf_run'
end
end W2

namespace W2
open PySem PySem.Spec L2 Dh
section
variable {P : Program} {w : World} {K : PySem.W.Frag} {mg : Str → Option Value} {base : Heap} {ad : Nat → Addr} {fd : Nat → FuncData}
theorem sc_law_bent : FnScope n_law_bent p_law_bent (defScope s_law_bent) := ⟨rfl, rfl, rfl, by decide +kernel, rfl, by decide +kernel, by decide +kernel⟩
theorem bd_law_bent (T : Txt K mg ad fd) : Binds K (fd 48) p_law_bent [] := T.d_law_bent.binds (ps := p_law_bent) fun _ _ _ _ _ _ us hl => match us, hl with | [_, _], _ => rfl
theorem len_law_bent : ∀ (n : Nat) cs s r, f_law_bent n cs s = some r → cs.length = 2
  | 0, _, _, _, h => by cases h
  | n + 1, cs, s, r, h => run'_len cs s r h
theorem ok_law_bent : ∀ (n : Nat) (T : Txt K mg ad fd), FnG P w K mg base (3 + n) (ad 48) (fd 48) p_law_bent (spOf K 2 (f_law_bent n))
  | 0, T => ⟨(by rintro vs H Q E ⟨sp, fz, cs, sto, r, sto', hl, a, B, e, q⟩; cases e), (by rintro A outer s H args us vs Q _ _ _ _ _ ⟨sp, fz, cs, sto, r, sto', hl, a, B, e, q⟩; cases e)⟩
  | n + 1, T => by
    have ih := ok_law_bent n T
    have hlen := len_law_bent n
    exact (fnG_of (k := 3 + n) (m := m_law_bent (f_law_bent n)) T.d_law_bent sc_law_bent fun cdv A outer s H E hr hg =>
      (sl_cons (ss_if (sb_w (sw_and (sb_val (se_isi (T := "tuple") (by decide) (se_var (i := 1)) T.b_isinstance T.b_tuple (by decide +kernel))) (sw_and (sb_gt (se_len (sa_cons (se_var (i := 1)) sa_nil) T.b_len) se_int) (sw_and1 (sb_gt (se_call (ok_law_pick T) (hr.mono (by omega)) hg T.m_law_pick T.d_law_pick.kp (bd_law_pick T) (sa_cons (se_var (i := 0)) (sa_cons se_int sa_nil))) se_int)))))
    (sl_cons (ss_set (i := 2) sc_law_bent.nd rfl (.inl rfl) (se_call (ok_law_pick T) (hr.mono (by omega)) hg T.m_law_pick T.d_law_pick.kp (bd_law_pick T) (sa_cons (se_var (i := 0)) (sa_cons (se_len (sa_cons (se_var (i := 1)) sa_nil) T.b_len) sa_nil))))
    (sl_one (ss_ret (se_add (se_add (se_sl (se_var (i := 1)) so_none (so_some (se_var (i := 2)))) (se_tup (sa_cons (se_callR ih hr hg T.m_law_bent T.d_law_bent.kp (bd_law_bent T) (sa_cons (se_var (i := 0)) (sa_cons (se_ix (se_var (i := 1)) (se_var (i := 2))) sa_nil)) (by omega) hlen) sa_nil))) (se_sl (se_var (i := 1)) (so_some (se_add (se_var (i := 2)) se_int)) so_none)))))
    sl_nil)
    (sl_cons (ss_set (i := 3) sc_law_bent.nd rfl (.inl rfl) (se_call (ok_law_pick T) (hr.mono (by omega)) hg T.m_law_pick T.d_law_pick.kp (bd_law_pick T) (sa_cons (se_var (i := 0)) (sa_cons se_int sa_nil))))
    (sl_cons (ss_if (sb_w (sw_and (sb_val (se_isi (T := "tuple") (by decide) (se_var (i := 1)) T.b_isinstance T.b_tuple (by decide +kernel))) (sw_and1 (sb_lt (se_var (i := 3)) se_int))))
    (sl_cons (ss_set (i := 4) sc_law_bent.nd rfl (.inl rfl) (se_call (ok_law_twice T) (hr.mono (by omega)) hg T.m_law_twice T.d_law_twice.kp (bd_law_twice T) (sa_cons (se_var (i := 1)) sa_nil)))
    (sl_one (ss_ret (se_ix (se_tup (sa_cons (se_add (se_var (i := 1)) (se_sl (se_var (i := 1)) (so_some (se_neg se_int)) so_none)) (sa_cons (se_sl (se_var (i := 1)) (so_some se_int) so_none) (sa_cons (se_sl (se_var (i := 1)) so_none (so_some (se_neg se_int))) (sa_cons (se_rev (se_var (i := 1))) (sa_cons (se_list (sa_cons (se_var (i := 1)) sa_nil) T.b_list) (sa_cons (se_tup (sa_cons (se_var (i := 1)) sa_nil)) (sa_cons (se_var (i := 4)) sa_nil)))))))) (se_var (i := 3))))))
    sl_nil)
    (sl_cons (ss_if (sb_w (sw_and (sb_val (se_isi (T := "int") (by decide) (se_var (i := 1)) T.b_isinstance T.b_int (by decide +kernel))) (sw_and1 (sb_lt (se_var (i := 3)) se_int))))
    (sl_one (ss_ret (se_ix (se_tup (sa_cons (se_sub (se_var (i := 1)) se_int) (sa_cons (se_add (se_var (i := 1)) se_int) (sa_cons (se_sub se_int (se_var (i := 1))) (sa_cons (se_mul (se_var (i := 1)) se_int) (sa_cons (se_gt (se_var (i := 1)) se_int) (sa_cons (se_add (se_var (i := 1)) se_int) (sa_cons (se_tostr (sa_cons (se_var (i := 1)) sa_nil) T.b_str) sa_nil)))))))) (se_var (i := 3)))))
    sl_nil)
    (sl_one (ss_ret (se_call (ok_law_odd T) (hr.mono (by omega)) hg T.m_law_odd T.d_law_odd.kp (bd_law_odd T) (sa_cons (se_var (i := 0)) sa_nil))))))))).imp fun _ _ _ _ => spOf_run'
theorem sc_law_maybe : FnScope n_law_maybe p_law_maybe (defScope s_law_maybe) := ⟨rfl, rfl, rfl, by decide +kernel, rfl, by decide +kernel, by decide +kernel⟩
theorem bd_law_maybe (T : Txt K mg ad fd) : Binds K (fd 49) p_law_maybe [] := T.d_law_maybe.binds (ps := p_law_maybe) fun _ _ _ _ _ _ us hl => match us, hl with | [_, _], _ => rfl
theorem ok_law_maybe (T : Txt K mg ad fd) : FnG P w K mg base 16 (ad 49) (fd 49) p_law_maybe (spOf K 2 f_law_maybe) := (fnG_of (m := m_law_maybe) T.d_law_maybe sc_law_maybe fun cdv A outer s H E hr hg =>
    (sl_cons (ss_set (i := 2) sc_law_maybe.nd rfl (.inl rfl) (se_call (ok_law_pick T) (hr.mono (by omega)) hg T.m_law_pick T.d_law_pick.kp (bd_law_pick T) (sa_cons (se_var (i := 0)) (sa_cons se_int sa_nil))))
    (sl_cons (ss_if (sb_lt (se_var (i := 2)) se_int)
    (sl_one (ss_retV (i := 1)))
    sl_nil)
    (sl_one (ss_ret (se_if (sb_lt (se_var (i := 2)) se_int) (se_callR (ok_law_bent 12 T) hr hg T.m_law_bent T.d_law_bent.kp (bd_law_bent T) (sa_cons (se_var (i := 0)) (sa_cons (se_var (i := 1)) sa_nil)) (by omega) (len_law_bent 12)) (se_call (ok_law_odd T) (hr.mono (by omega)) hg T.m_law_odd T.d_law_odd.kp (bd_law_odd T) (sa_cons (se_var (i := 0)) sa_nil)))))))).imp fun _ _ _ _ => spOf_run'
theorem sc_law_edge : FnScope n_law_edge p_law_edge (defScope s_law_edge) := ⟨rfl, rfl, rfl, by decide +kernel, rfl, by decide +kernel, by decide +kernel⟩
theorem bd_law_edge (T : Txt K mg ad fd) : Binds K (fd 50) p_law_edge [] := T.d_law_edge.binds (ps := p_law_edge) fun _ _ _ _ _ _ us hl => match us, hl with | [_], _ => rfl
theorem ok_law_edge (T : Txt K mg ad fd) : FnG P w K mg base 5 (ad 50) (fd 50) p_law_edge (spOf K 1 f_law_edge) := (fnG_of (m := m_law_edge) T.d_law_edge sc_law_edge fun cdv A outer s H E hr hg =>
    (sl_cons (ss_par3 (i := 1) (j := 2) (l := 3) rfl sc_law_edge.nd (sa_cons (se_call (ok_law_pick T) (hr.mono (by omega)) hg T.m_law_pick T.d_law_pick.kp (bd_law_pick T) (sa_cons (se_var (i := 0)) (sa_cons se_int sa_nil))) (sa_cons (se_lst sa_nil) (sa_cons se_int sa_nil))))
    (sl_cons (ss_if (sb_eq hr (se_var (i := 1)) se_int)
    (sl_one (ss_for PassesOwn.never rfl (si_range1 (sa_cons (se_add se_int (se_call (ok_law_pick T) (hr.mono (by omega)) hg T.m_law_pick T.d_law_pick.kp (bd_law_pick T) (sa_cons (se_var (i := 0)) (sa_cons se_int sa_nil)))) sa_nil) T.b_range) (sg_name (i := 4) sc_law_edge.nd)
    (sl_one (ss_append (i := 2) (se_add se_int (se_call (ok_law_pick T) (hr.mono (by omega)) hg T.m_law_pick T.d_law_pick.kp (bd_law_pick T) (sa_cons (se_var (i := 0)) (sa_cons se_int sa_nil))))))))
    sl_nil)
    (sl_cons (ss_if (sb_eq hr (se_var (i := 1)) se_int)
    (sl_one (ss_set (i := 2) sc_law_edge.nd rfl (.inl rfl) (se_lst (sa_cons (se_add se_int (se_call (ok_law_pick T) (hr.mono (by omega)) hg T.m_law_pick T.d_law_pick.kp (bd_law_pick T) (sa_cons (se_var (i := 0)) (sa_cons se_int sa_nil)))) (sa_cons (se_add se_int (se_call (ok_law_pick T) (hr.mono (by omega)) hg T.m_law_pick T.d_law_pick.kp (bd_law_pick T) (sa_cons (se_var (i := 0)) (sa_cons se_int sa_nil)))) sa_nil)))))
    sl_nil)
    (sl_cons (ss_if (sb_gt (se_var (i := 1)) se_int)
    (sl_one (ss_par (i := 2) (j := 3) rfl sc_law_edge.nd (sa_cons (se_lst (sa_cons se_int (sa_cons (se_add se_int (se_call (ok_law_pick T) (hr.mono (by omega)) hg T.m_law_pick T.d_law_pick.kp (bd_law_pick T) (sa_cons (se_var (i := 0)) (sa_cons se_int sa_nil)))) sa_nil))) (sa_cons (se_ix (se_tup (sa_cons se_int (sa_cons se_int (sa_cons se_int sa_nil)))) (se_call (ok_law_pick T) (hr.mono (by omega)) hg T.m_law_pick T.d_law_pick.kp (bd_law_pick T) (sa_cons (se_var (i := 0)) (sa_cons se_int sa_nil)))) sa_nil))))
    sl_nil)
    (sl_one (ss_frz [2] (ss_ret (se_call (ok_law_sized T) (hr.mono (by omega)) hg T.m_law_sized T.d_law_sized.kp (bd_law_sized T) (sa_cons (se_var (i := 0)) (sa_cons (se_var (i := 2)) (sa_cons (se_var (i := 3)) sa_nil)))))))))))).imp fun _ _ _ _ => spOf_run'
theorem sc_law_right : FnScope n_law_right p_law_right (defScope s_law_right) := ⟨rfl, rfl, rfl, by decide +kernel, rfl, by decide +kernel, by decide +kernel⟩
theorem bd_law_right (T : Txt K mg ad fd) : Binds K (fd 51) p_law_right [] := T.d_law_right.binds (ps := p_law_right) fun _ _ _ _ _ _ us hl => match us, hl with | [_], _ => rfl
theorem ok_law_right (T : Txt K mg ad fd) : FnG P w K mg base 17 (ad 51) (fd 51) p_law_right (spOf K 1 f_law_right) := (fnG_of (m := m_law_right) T.d_law_right sc_law_right fun cdv A outer s H E hr hg =>
    (sl_cons (ss_set (i := 1) sc_law_right.nd rfl (.inl rfl) (se_call (ok_law_world T) (hr.mono (by omega)) hg T.m_law_world T.d_law_world.kp (bd_law_world T) (sa_cons (se_var (i := 0)) (sa_cons se_int (sa_cons se_int (sa_cons (se_add se_int (se_call (ok_law_pick T) (hr.mono (by omega)) hg T.m_law_pick T.d_law_pick.kp (bd_law_pick T) (sa_cons (se_var (i := 0)) (sa_cons se_int sa_nil)))) sa_nil))))))
    (sl_cons (ss_set (i := 2) sc_law_right.nd rfl (.inl rfl) (se_call (ok_law_maybe T) (hr.mono (by omega)) hg T.m_law_maybe T.d_law_maybe.kp (bd_law_maybe T) (sa_cons (se_var (i := 0)) (sa_cons (se_if (sb_eq hr (se_call (ok_law_pick T) (hr.mono (by omega)) hg T.m_law_pick T.d_law_pick.kp (bd_law_pick T) (sa_cons (se_var (i := 0)) (sa_cons se_int sa_nil))) se_int) (se_call (ok_law_edge T) (hr.mono (by omega)) hg T.m_law_edge T.d_law_edge.kp (bd_law_edge T) (sa_cons (se_var (i := 0)) sa_nil)) (se_var (i := 1))) sa_nil))))
    (sl_cons (ss_set (i := 3) sc_law_right.nd rfl (.inl rfl) (se_call (ok_law_maybe T) (hr.mono (by omega)) hg T.m_law_maybe T.d_law_maybe.kp (bd_law_maybe T) (sa_cons (se_var (i := 0)) (sa_cons (se_call (ok_law_odds T) (hr.mono (by omega)) hg T.m_law_odds T.d_law_odds.kp (bd_law_odds T) (sa_cons (se_var (i := 0)) (sa_cons (se_len (sa_cons (se_ix (se_var (i := 1)) se_int) sa_nil) T.b_len) sa_nil))) sa_nil))))
    (sl_cons (ss_set (i := 4) sc_law_right.nd rfl (.inl rfl) (se_call (ok_law_gains T) (hr.mono (by omega)) hg T.m_law_gains T.d_law_gains.kp (bd_law_gains T) (sa_cons (se_var (i := 0)) (sa_cons (se_ix (se_var (i := 1)) se_int) sa_nil))))
    (sl_cons (ss_set (i := 5) sc_law_right.nd rfl (.inl rfl) (se_lst (sa_cons (se_call (ok_is_house T) (hr.mono (by omega)) hg T.m_is_house T.d_is_house.kp (bd_is_house T) (sa_cons (se_var (i := 1)) sa_nil)) (sa_cons (se_call (ok_is_house T) (hr.mono (by omega)) hg T.m_is_house T.d_is_house.kp (bd_is_house T) (sa_cons (se_var (i := 2)) sa_nil)) (sa_cons (se_callK (ks := ["value"]) (π := [0]) (ok_is_house T) (hr.mono (by omega)) hg T.m_is_house T.d_is_house.kp (kb_is_house_0 T) (sk_cons (se_var (i := 2)) sk_nil)) (sa_cons (se_call (ok_is_start T) (hr.mono (by omega)) hg T.m_is_start T.d_is_start.kp (bd_is_start T) (sa_cons (se_var (i := 1)) (sa_cons (se_var (i := 3)) sa_nil))) sa_nil))))))
    (sl_cons (ss_set (i := 5) sc_law_right.nd rfl (.inl rfl) (se_add (se_var (i := 5)) (se_lst (sa_cons (se_callK (ks := ["value", "house"]) (π := [1, 0]) (ok_is_start T) (hr.mono (by omega)) hg T.m_is_start T.d_is_start.kp (kb_is_start_10 T) (sk_cons (se_var (i := 3)) (sk_cons (se_var (i := 1)) sk_nil))) sa_nil))))
    (sl_cons (ss_set (i := 6) sc_law_right.nd rfl (.inl rfl) (se_call (ok_law_is_odds T) (hr.mono (by omega)) hg T.m_law_is_odds T.d_law_is_odds.kp (bd_law_is_odds T) (sa_cons (se_var (i := 3)) (sa_cons (se_len (sa_cons (se_ix (se_var (i := 1)) se_int) sa_nil) T.b_len) sa_nil))))
    (sl_cons (ss_if (sb_ne hr (se_repr hr hg (sa_cons (se_var (i := 5)) sa_nil) T.b_repr) (se_repr hr hg (sa_cons (se_lst (sa_cons se_bl (sa_cons (se_call (ok_law_is_world T) (hr.mono (by omega)) hg T.m_law_is_world T.d_law_is_world.kp (bd_law_is_world T) (sa_cons (se_var (i := 2)) sa_nil)) (sa_cons (se_call (ok_law_is_world T) (hr.mono (by omega)) hg T.m_law_is_world T.d_law_is_world.kp (bd_law_is_world T) (sa_cons (se_var (i := 2)) sa_nil)) (sa_cons (se_var (i := 6)) (sa_cons (se_var (i := 6)) sa_nil)))))) sa_nil) T.b_repr))
    (sl_one (ss_ret se_bl))
    sl_nil)
    (sl_cons (ss_set (i := 7) sc_law_right.nd rfl (.inl rfl) (se_lst (sa_cons (se_call (ok_weighted T) (hr.mono (by omega)) hg T.m_weighted T.d_weighted.kp (bd_weighted T) (sa_cons (se_var (i := 1)) (sa_cons (se_var (i := 4)) sa_nil))) (sa_cons (se_callK (ks := ["weights", "house"]) (π := [1, 0]) (ok_weighted T) (hr.mono (by omega)) hg T.m_weighted T.d_weighted.kp (kb_weighted_10 T) (sk_cons (se_var (i := 4)) (sk_cons (se_var (i := 1)) sk_nil))) sa_nil))))
    (sl_one (ss_ret (se_eq hr (se_repr hr hg (sa_cons (se_var (i := 7)) sa_nil) T.b_repr) (se_repr hr hg (sa_cons (se_mul (se_lst (sa_cons (se_call (ok_law_dressed T) (hr.mono (by omega)) hg T.m_law_dressed T.d_law_dressed.kp (bd_law_dressed T) (sa_cons (se_var (i := 1)) (sa_cons (se_var (i := 4)) sa_nil))) sa_nil)) se_int) sa_nil) T.b_repr)))))))))))))).imp fun _ _ _ _ => spOf_run'
theorem sc_law : FnScope n_law p_law (defScope s_law) := ⟨rfl, rfl, rfl, by decide +kernel, rfl, by decide +kernel, by decide +kernel⟩
theorem bd_law (T : Txt K mg ad fd) : Binds K (fd 52) p_law [] := T.d_law.binds (ps := p_law) fun _ _ _ _ _ _ us hl => match us, hl with | [_], _ => rfl
theorem ok_law (T : Txt K mg ad fd) : FnG P w K mg base 18 (ad 52) (fd 52) p_law (spOf K 1 f_law) := (fnG_of (m := m_law) T.d_law sc_law fun cdv A outer s H E hr hg =>
    (sl_one (ss_ret (se_all rfl (sa_cons (se_lc (own := [("_law_lap", 1)]) (is := [1]) rfl sc_law.nd (si_range1 (sa_cons (se_max2 rfl (sa_cons se_int (sa_cons (se_min2 rfl (sa_cons (se_len (sa_cons (se_var (i := 0)) sa_nil) T.b_len) (sa_cons se_int sa_nil)) T.b_min) sa_nil)) T.b_max) sa_nil) T.b_range) (blkOk_by (own := [("_law_lap", 1)]) (N := n_law) (sc := defScope s_law) (by decide +kernel)) (by decide) (fun _ _ _ _ _ => (sg_name (i := 1) sc_law.nd)) (fun _ _ _ _ _ => sts_nil) (fun _ _ _ _ _ => (se_callN (ok_law_right T) hr hg T.m_law_right T.d_law_right.kp (bd_law_right T) (sa_cons (se_call (ok_law_spring T) (hr.mono (by omega)) hg T.m_law_spring T.d_law_spring.kp (bd_law_spring T) (sa_cons (se_var (i := 0)) (sa_cons (se_var (i := 1)) sa_nil))) sa_nil) (by omega)))) sa_nil) T.b_all)))).imp fun _ _ _ _ => spOf_run'
end
end W2

/-! Pl2: the program's arithmetic -/
namespace W2
open PySem PySem.Spec L2 Dh
@[simp] theorem ev_run' {n l : Nat} {m : Ms} {cs : List Cl} {s : Sto} : run' n l m cs s = if cs.length = n then (match m (cs.map some ++ List.replicate (l - cs.length) none) s with
  | some (.rt r, _, s') => some (r, s')
  | some (.nx, _, s') => some (.d .none, s')
  | _ => none) else none := rfl
@[simp] theorem ev_gFdiv {i j : Int} : gFdiv i j = if j ≠ 0 ∧ Builtin.divisionGoesByPylong i j = false then some (.int (i.fdiv j)) else none := rfl
@[simp] theorem ev_gMod {i j : Int} : gMod i j = if j ≠ 0 then some (.int (i.fmod j)) else none := rfl
theorem sz2 : 2 ≤ sizeLine := by decide
theorem sz1 : 1 ≤ sizeLine := by decide
theorem e_ratio {t l : Int} {s : Sto} (h : 0 < l) (hl : l.natAbs < 2 ^ 9000) : f_ratio [.d (.int t), .d (.int l)] s = some (.d (pF (nrm t l)), s) := by
  have g : 0 < gg t l := gg_pos (by omega)
  have g0 : gg t l ≠ 0 := by omega
  have gl : (gg t l).natAbs < 2 ^ 9000 := Nat.lt_of_le_of_lt (gg_le (by omega)) hl
  have p1 : Builtin.divisionGoesByPylong t (gg t l) = false := pylong_of gl
  have p2 : Builtin.divisionGoesByPylong l (gg t l) = false := pylong_of gl
  simp [f_ratio, m_ratio, h, sz2, pF, nrm, List.replicate_succ]
  simp only [show ((Nat.gcd t.natAbs l.natAbs : Nat) : Int) = gg t l from rfl]
  have l0 : l ≠ 0 := by omega
  simp [l0, p1, p2, Int.fdiv_eq_ediv_of_nonneg _ (Int.le_of_lt g), sz2]
theorem e_plus {p q : Fr} {a b : Nat} {s : Sto} (hp : FrLt a p) (hq : FrLt b q) (h1 : 0 < p.2) (h2 : 0 < q.2) (h : a + b ≤ 9000) : f_plus [.d (pF p), .d (pF q)] s = some (.d (pF (fpl p q)), s) := by
  obtain ⟨x, y⟩ := p
  obtain ⟨z, t⟩ := q
  have m1 := mulOk_of hp.1 hq.2 (by omega)
  have m2 := mulOk_of hq.1 hp.2 (by omega)
  have m3 := mulOk_of hp.2 hq.2 (by omega)
  dsimp only at m1 m2 m3 h1 h2
  have r := e_ratio (t := x * t + z * y) (l := y * t) (s := s) (Int.mul_pos h1 h2) (Nat.lt_of_lt_of_le (lt_add hp.2 hq.2) (Nat.pow_le_pow_right (by decide) h))
  simp [f_plus, m_plus, pF, m1, m2, m3, r, fpl]
theorem e_times {p q : Fr} {a b : Nat} {s : Sto} (hp : FrLt a p) (hq : FrLt b q) (h1 : 0 < p.2) (h2 : 0 < q.2) (h : a + b ≤ 9000) : f_times [.d (pF p), .d (pF q)] s = some (.d (pF (ftm p q)), s) := by
  obtain ⟨x, y⟩ := p
  obtain ⟨z, t⟩ := q
  have m1 := mulOk_of hp.1 hq.1 (by omega)
  have m3 := mulOk_of hp.2 hq.2 (by omega)
  dsimp only at m1 m3 h1 h2
  have r := e_ratio (t := x * z) (l := y * t) (s := s) (Int.mul_pos h1 h2) (Nat.lt_of_lt_of_le (lt_add hp.2 hq.2) (Nat.pow_le_pow_right (by decide) h))
  simp [f_times, m_times, pF, m1, m3, r, ftm]
/-- a loop that adds -/
theorem tot_run {g : Fx} {k : Nat} {s : Sto} (hg : ∀ (p q : Fr) (n : Nat), FrLt n p → FrLt k q → 0 < p.2 → 0 < q.2 → n + k ≤ 9000 → g [.d (pF p), .d (pF q)] s = some (.d (pF (fpl p q)), s)) :
    ∀ (l : List Fr) (p : Fr) (n : Nat) (c : Option Cl) (v : Cl), (∀ q ∈ l, 0 < q.2 ∧ FrLt k q) → 0 < p.2 → FrLt n p → n + (k + 1) * l.length + k ≤ 9000 →
      ∃ c', forRun (gN 2) (mSet 1 (mCall g (maCons (mVar 1) (maCons (mVar 2) maNil)))) (l.map pF) [some v, some (.d (pF p)), c] s = some (.nx, [some v, some (.d (pF (l.foldl fpl p))), c'], s)
  | [], p, n, c, v, _, _, _, _ => ⟨c, by simp⟩
  | q :: l, p, n, c, v, hl, h, h2, hn => by
    have hq := hl q List.mem_cons_self
    rw [List.length_cons, Nat.mul_add] at hn
    have e := hg p q n h2 hq.2 h hq.1 (by omega)
    obtain ⟨c', r⟩ := tot_run hg l (fpl p q) (n + k + 1) (some (.d (pF q))) v (fun z hz => hl z (List.mem_cons_of_mem _ hz)) (fpl_ok h hq.1).1 (fpl_lt h2 hq.2 h hq.1) (by omega)
    refine ⟨c', ?_⟩
    rw [List.map_cons, List.foldl_cons]
    unfold forRun
    simp [e, r]
theorem one_lt : FrLt 1 (0, 1) := ⟨by decide, by decide⟩
theorem e_total {l : List Fr} {k : Nat} {s : Sto} (hl : ∀ q ∈ l, 0 < q.2 ∧ FrLt k q) (h : (k + 1) * (l.length + 1) ≤ 8999) : f_total [.d (.tuple (l.map pF))] s = some (.d (pF (ftot l)), s) := by
  rw [Nat.mul_add] at h
  obtain ⟨c', r⟩ := tot_run (g := f_plus) (k := k) (s := s) (fun p q n h1 h2 h3 h4 h5 => e_plus h1 h2 h3 h4 h5) l (0, 1) 1 none (.d (.tuple (l.map pF))) hl (by decide) one_lt (by omega)
  simp only [f_total, m_total, ev_run', k_ZERO] at *
  simp [List.replicate_succ]
  rw [show PyData.tuple [PyData.int 0, PyData.int 1] = pF (0, 1) from rfl, r]
  simp [ftot]
theorem e_totalL {l : List Fr} {k : Nat} {s : Sto} (hl : ∀ q ∈ l, 0 < q.2 ∧ FrLt k q) (h : (k + 1) * (l.length + 1) ≤ 8999) : f_total [.d (.list (l.map pF))] s = some (.d (pF (ftot l)), s) := by
  rw [Nat.mul_add] at h
  obtain ⟨c', r⟩ := tot_run (g := f_plus) (k := k) (s := s) (fun p q n h1 h2 h3 h4 h5 => e_plus h1 h2 h3 h4 h5) l (0, 1) 1 none (.d (.list (l.map pF))) hl (by decide) one_lt (by omega)
  simp only [f_total, m_total, ev_run', k_ZERO] at *
  simp [List.replicate_succ]
  rw [show PyData.tuple [PyData.int 0, PyData.int 1] = pF (0, 1) from rfl, r]
  simp [ftot]
end W2

/-! Pl3: the law's arithmetic -/
namespace W2
open PySem PySem.Spec L2 Dh
theorem fmod_nat (a b : Nat) : Int.fmod (a : Int) (b : Int) = ((a % b : Nat) : Int) := by
  rw [Int.fmod_eq_emod_of_nonneg _ (by omega), Int.natCast_emod]
theorem euclid (x y : Option Cl) (s : Sto) : ∀ (b a : Nat), ∃ n, whRun (bT (m2 (fI gGt) (mVar 3) (mKon (.int 0)))) (mPar 2 3 (maCons (mVar 3) (maCons (m2 (fI gMod) (mA fInt (maCons (mVar 2) maNil)) (mVar 3)) maNil))) n
    [x, y, some (.d (.int (a : Int))), some (.d (.int (b : Int)))] s = some (.nx, [x, y, some (.d (.int ((Nat.gcd a b : Nat) : Int))), some (.d (.int 0))], s) := by
  intro b
  induction b using Nat.strongRecOn with
  | ind b ih =>
    intro a
    by_cases hb : b = 0
    · subst hb
      refine ⟨1, ?_⟩
      rw [whRun_eq]
      simp
    · obtain ⟨n, e⟩ := ih (a % b) (Nat.mod_lt _ (by omega)) b
      refine ⟨n + 1, ?_⟩
      rw [whRun_eq]
      have hp : (0 : Int) < (b : Int) := by omega
      have hz : (b : Int) ≠ 0 := by omega
      rw [Nat.gcd_comm, ← Nat.gcd_rec, Nat.gcd_comm] at e
      have hq : 0 < b := by omega
      rw [Int.natCast_emod] at e
      simp [hp, hq, hb, mPar, fmod_nat, e]
theorem e_frac {t l : Int} {s : Sto} (h : 0 < l) (hl : l.natAbs < 2 ^ 9000) : f_law_frac [.d (.int t), .d (.int l)] s = some (.d (pF (nrm t l)), s) := by
  have g : 0 < gg t l := gg_pos (by omega)
  have gl : (gg t l).natAbs < 2 ^ 9000 := Nat.lt_of_le_of_lt (gg_le (by omega)) hl
  have p1 : Builtin.divisionGoesByPylong t (gg t l) = false := pylong_of gl
  have p2 : Builtin.divisionGoesByPylong l (gg t l) = false := pylong_of gl
  have a1 : (if t < 0 then -t else t) = ((t.natAbs : Nat) : Int) := by split <;> omega
  have a2 : (if l < 0 then -l else l) = ((l.natAbs : Nat) : Int) := by split <;> omega
  obtain ⟨n, e⟩ := euclid (some (.d (.int t))) (some (.d (.int l))) s l.natAbs t.natAbs
  have e2 := mWhile_of e
  have l0 : l ≠ 0 := by omega
  simp only [f_law_frac, m_law_frac]
  simp only [ev_run', ev_mSeq, mPar, ev_maCons, ev_mA, ev_maNil, ev_mVar, List.map_cons, List.map_nil, List.length_cons, List.length_nil, List.replicate_succ, List.replicate_zero, List.cons_append, List.nil_append, List.getElem?_cons_zero, List.getElem?_cons_succ, ev_rdCl_d, ev_fAbs, ev_ret, ev_toCl1, List.set_cons_zero, List.set_cons_succ, a1, a2, e2]
  simp only [show ((Nat.gcd t.natAbs l.natAbs : Nat) : Int) = gg t l from rfl]
  have g0 : ¬ gg t l = 0 := by omega
  simp [h, g0, p1, p2, Int.fdiv_eq_ediv_of_nonneg _ (Int.le_of_lt g), sz2, pF, nrm]
theorem e_lplus {p q : Fr} {a b : Nat} {s : Sto} (hp : FrLt a p) (hq : FrLt b q) (h1 : 0 < p.2) (h2 : 0 < q.2) (h : a + b ≤ 9000) : f_law_plus [.d (pF p), .d (pF q)] s = some (.d (pF (fpl p q)), s) := by
  obtain ⟨x, y⟩ := p
  obtain ⟨z, t⟩ := q
  have m1 := mulOk_of hp.1 hq.2 (by omega)
  have m2 := mulOk_of hq.1 hp.2 (by omega)
  have m3 := mulOk_of hp.2 hq.2 (by omega)
  dsimp only at m1 m2 m3 h1 h2
  have r := e_frac (t := x * t + z * y) (l := y * t) (s := s) (Int.mul_pos h1 h2) (Nat.lt_of_lt_of_le (lt_add hp.2 hq.2) (Nat.pow_le_pow_right (by decide) h))
  simp [f_law_plus, m_law_plus, pF, m1, m2, m3, r, fpl]
theorem e_ltimes {p q : Fr} {a b : Nat} {s : Sto} (hp : FrLt a p) (hq : FrLt b q) (h1 : 0 < p.2) (h2 : 0 < q.2) (h : a + b ≤ 9000) : f_law_times [.d (pF p), .d (pF q)] s = some (.d (pF (ftm p q)), s) := by
  obtain ⟨x, y⟩ := p
  obtain ⟨z, t⟩ := q
  have m1 := mulOk_of hp.1 hq.1 (by omega)
  have m3 := mulOk_of hp.2 hq.2 (by omega)
  dsimp only at m1 m3 h1 h2
  have r := e_frac (t := x * z) (l := y * t) (s := s) (Int.mul_pos h1 h2) (Nat.lt_of_lt_of_le (lt_add hp.2 hq.2) (Nat.pow_le_pow_right (by decide) h))
  simp [f_law_times, m_law_times, pF, m1, m3, r, ftm]
theorem e_ltotal {l : List Fr} {k : Nat} {s : Sto} (hl : ∀ q ∈ l, 0 < q.2 ∧ FrLt k q) (h : (k + 1) * (l.length + 1) ≤ 8999) : f_law_total [.d (.tuple (l.map pF))] s = some (.d (pF (ftot l)), s) := by
  rw [Nat.mul_add] at h
  obtain ⟨c', r⟩ := tot_run (g := f_law_plus) (k := k) (s := s) (fun p q n h1 h2 h3 h4 h5 => e_lplus h1 h2 h3 h4 h5) l (0, 1) 1 none (.d (.tuple (l.map pF))) hl (by decide) one_lt (by omega)
  simp only [f_law_total, m_law_total, ev_run'] at *
  simp [List.replicate_succ, sz2]
  rw [show PyData.tuple [PyData.int 0, PyData.int 1] = pF (0, 1) from rfl, r]
  simp [ftot]
/-- products of pairs -/
def pPr (p : Fr × Fr) : PyData := .tuple [pF p.1, pF p.2]
theorem pairs_map : ∀ (l m : List Fr), pairs (l.map pF) (m.map pF) = (l.zip m).map pPr
  | [], m => by simp [pairs]
  | x :: l, [] => by simp [pairs]
  | x :: l, y :: m => by
    have := pairs_map l m
    unfold pairs at this ⊢
    simp only [List.map_cons, List.zip_cons_cons, this]
    rfl
theorem dot_lc {k : Nat} {s : Sto} (hk : k + k ≤ 9000) (ρ : Ev) (v w : Option Cl) : ∀ (l : List (Fr × Fr)), (∀ p ∈ l, (0 < p.1.2 ∧ FrLt k p.1) ∧ (0 < p.2.2 ∧ FrLt k p.2)) → ∀ c d,
    lcRun [2, 3] (gT 2 (gsCons (gN 2) (gsCons (gN 3) gsNil))) mYes (mCall f_times (maCons (mVar 2) (maCons (mVar 3) maNil))) (l.map pPr) [v, w, c, d] s = some ((l.map fun p => ftm p.1 p.2).map pF, s)
  | [], _, c, d => by simp
  | p :: l, hl, c, d => by
    obtain ⟨⟨h1, h2⟩, h3, h4⟩ := hl p List.mem_cons_self
    have ih := dot_lc (s := s) hk ρ v w l (fun z hz => hl z (List.mem_cons_of_mem _ hz)) c d
    have e := e_times (s := s) h2 h4 h1 h3 hk
    rw [List.map_cons]
    unfold lcRun
    simp [pPr, e, ih]
theorem zip_mem {l m : List Fr} {P : Fr → Prop} (hl : ∀ q ∈ l, P q) (hm : ∀ q ∈ m, P q) : ∀ p ∈ l.zip m, P p.1 ∧ P p.2 := fun p hp => ⟨hl _ (List.of_mem_zip hp).1, hm _ (List.of_mem_zip hp).2⟩
theorem e_dot {l m : List Fr} {k : Nat} {s : Sto} (hl : ∀ q ∈ l, 0 < q.2 ∧ FrLt k q) (hm : ∀ q ∈ m, 0 < q.2 ∧ FrLt k q) (h : (k + k + 1) * (l.length + 1) ≤ 8999) : f_dot [.d (.tuple (l.map pF)), .d (.tuple (m.map pF))] s = some (.d (pF (fdot l m)), s) := by
  have hz : (l.zip m).length ≤ l.length := by rw [List.length_zip]; exact Nat.min_le_left _ _
  have hz2 : l.length ≤ 8999 := by
    have : 1 * (l.length + 1) ≤ (k + k + 1) * (l.length + 1) := Nat.mul_le_mul_right _ (by omega)
    omega
  have hz3 : (l.zip m).length ≤ sizeLine := Nat.le_trans hz (Nat.le_trans hz2 (by decide))
  have hk : k + k ≤ 9000 := by
    have : (k + k + 1) * 1 ≤ (k + k + 1) * (l.length + 1) := Nat.mul_le_mul_left _ (by omega)
    omega
  have hp := zip_mem (P := fun q => 0 < q.2 ∧ FrLt k q) hl hm
  have a := dot_lc (s := s) hk [] (some (.d (.tuple (l.map pF)))) (some (.d (.tuple (m.map pF)))) (l.zip m) hp none none
  have b := e_totalL (l := (l.zip m).map fun p => ftm p.1 p.2) (k := k + k) (s := s) (fun q hq => by
    obtain ⟨p, hp', rfl⟩ := List.mem_map.mp hq
    have z := hp p hp'
    exact ⟨(ftm_ok z.1.1 z.2.1).1, ftm_lt z.1.2 z.2.2 z.1.1 z.2.1⟩) (by
      rw [List.length_map]
      exact Nat.le_trans (Nat.mul_le_mul_left _ (by omega)) h)
  simp only [f_dot, m_dot, ev_run']
  simp [List.replicate_succ, mLc, zip2, pairs_map, a, hz3, b, fdot]
  rw [List.map_map] at b
  simp at hz3
  simp [hz3, b]
end W2

/-! Pl4: the looks -/
namespace Dh
open PySem PySem.Spec L2
/-- sizes: whole numbers below 2^40, at most 64 items -/
def sz : Nat → PyData → Bool
  | 0, _ => false
  | _ + 1, .int i => decide (i.natAbs < 2 ^ 40)
  | n + 1, .tuple xs => decide (xs.length ≤ 64) && xs.all (sz n)
  | n + 1, .list xs => decide (xs.length ≤ 64) && xs.all (sz n)
  | _ + 1, _ => true
theorem sz_tup {n : Nat} {xs : List PyData} (h : sz (n + 1) (.tuple xs) = true) : xs.length ≤ 64 ∧ ∀ x ∈ xs, sz n x = true := by
  simpa [sz] using h
theorem sz_int {n : Nat} {i : Int} (h : sz n (.int i) = true) : i.natAbs < 2 ^ 40 := by
  cases n with
  | zero => simp [sz] at h
  | succ n => simpa [sz] using h
theorem le64 {n : Nat} (h : n ≤ 64) : n ≤ sizeLine := Nat.le_trans h (by decide)
@[simp] theorem ev_eqII {i j : Int} : fEq false (.d (.int i)) (.d (.int j)) = some (.d (.bool (decide (i = j)))) := by
  show some (R.d (.bool (i == j))) = _
  by_cases h : i = j <;> simp [h]
@[simp] theorem ev_eqFF {a b c d : Int} : fEq false (.d (.tuple [.int a, .int b])) (.d (.tuple [.int c, .int d])) = some (.d (.bool (decide (a = c ∧ b = d)))) := by
  show some (R.d (.bool ((a == c) && ((b == d) && true)))) = _
  by_cases h : a = c <;> by_cases k : b = d <;> simp [h, k]
theorem dec_same {p : Prop} {i j : Decidable p} : @decide p i = @decide p j := by
  rw [Subsingleton.elim i j]
/-- comprehensions -/
theorem lc_map {i : Nat} {e : Mx} {f : PyData → PyData} {ρ : Ev} {s : Sto} : ∀ (xs : List PyData), (∀ x ∈ xs, e (ρ.set i (some (.d x))) s = some (.d (f x), s)) → lcRun [i] (gN i) mYes e xs ρ s = some (xs.map f, s)
  | [], _ => rfl
  | x :: xs, h => by
    have e1 := h x List.mem_cons_self
    have e2 := lc_map xs fun y hy => h y (List.mem_cons_of_mem _ hy)
    unfold lcRun
    simp [e1, e2]
def mk2 (p : PyData × PyData) : PyData := .tuple [p.1, p.2]
theorem lc_map2 {i j : Nat} {e : Mx} {f : PyData × PyData → PyData} {ρ : Ev} {s : Sto} : ∀ (xs : List (PyData × PyData)), (∀ p ∈ xs, e (((ρ.set j none).set i (some (.d p.1))).set j (some (.d p.2))) s = some (.d (f p), s)) →
    lcRun [i, j] (gT 2 (gsCons (gN i) (gsCons (gN j) gsNil))) mYes e (xs.map mk2) ρ s = some (xs.map f, s)
  | [], _ => rfl
  | x :: xs, h => by
    have e1 := h x List.mem_cons_self
    have e2 := lc_map2 xs fun y hy => h y (List.mem_cons_of_mem _ hy)
    rw [List.map_cons]
    unfold lcRun
    simp [mk2, e1, e2]
theorem bools_map {α : Type} (f : α → Bool) : ∀ xs : List α, boolsOf (xs.map fun x => .bool (f x)) = some (xs.map f)
  | [] => rfl
  | x :: xs => by
    rw [List.map_cons, List.map_cons]
    show (boolsOf (xs.map fun x => .bool (f x))).map (f x :: ·) = _
    rw [bools_map f xs]
    rfl
@[simp] theorem ev_fAllF {xs : List PyData} {f : PyData → Bool} : fAll [.f (xs.map fun x => .bool (f x))] = some (.d (.bool (xs.all f))) := by
  show (boolsOf _).map _ = _
  rw [bools_map]
  simp [List.all_map]
theorem fAll_map {α : Type} {xs : List α} {f : α → Bool} : fAll [.f (xs.map fun x => .bool (f x))] = some (.d (.bool (xs.all f))) := by
  show (boolsOf _).map _ = _
  rw [bools_map]
  simp [List.all_map]
/-! the looks as functions -/
def isW : PyData → Bool
  | .int _ => true
  | _ => false
def isT (x : PyData) (n : Int) : Bool := match x with
  | .tuple xs => decide ((xs.length : Int) = n)
  | _ => false
def isFr : PyData → Bool
  | .tuple [.int a, .int b] => decide (0 < b) && decide (gg a b = 1)
  | _ => false
def frOf : PyData → Fr
  | .tuple [.int a, .int b] => (a, b)
  | _ => (0, 1)
theorem isFr_pF {p : Fr} : isFr (pF p) = true ↔ FrOk p := by
  simp [isFr, pF, FrOk]
theorem isFr_of {x : PyData} (h : isFr x = true) : x = pF (frOf x) ∧ FrOk (frOf x) := by
  unfold isFr at h
  split at h
  · simp [pF, frOf, FrOk] at h ⊢
    exact h
  · cases h
theorem sz_fr {n : Nat} {p : Fr} (h : sz n (pF p) = true) : FrLt 40 p := by
  cases n with
  | zero => simp [sz] at h
  | succ n =>
    have := (sz_tup h).2
    exact ⟨sz_int (this (.int p.1) (by simp)), sz_int (this (.int p.2) (by simp))⟩
def isRow (x : PyData) (n : Int) : Bool := match x with
  | .tuple xs => decide ((xs.length : Int) = n) && xs.all isFr
  | _ => false
end Dh
namespace W2
open PySem PySem.Spec L2 Dh
theorem e_is_whole (x : PyData) (s : Sto) : f_is_whole [.d x] s = some (.d (.bool (isW x)), s) := by
  cases x <;> simp [f_is_whole, m_is_whole, isW]
theorem e_lis_whole (x : PyData) (s : Sto) : f_law_is_whole [.d x] s = some (.d (.bool (isW x)), s) := by
  cases x <;> simp [f_law_is_whole, m_law_is_whole, isW]
theorem e_is_between (x : PyData) (l h : Int) (s : Sto) : f_is_between [.d x, .d (.int l), .d (.int h)] s = some (.d (.bool (match x with | .int i => decide (l ≤ i) && decide (i ≤ h) | _ => false)), s) := by
  cases x <;> simp [f_is_between, m_is_between, isW, e_is_whole, mChain]
  rename_i i
  by_cases q : l ≤ i <;> simp [q]
theorem e_is_tuple (x : PyData) (n : Int) (s : Sto) : f_is_tuple_of [.d x, .d (.int n)] s = some (.d (.bool (isT x n)), s) := by
  cases x <;> simp [f_is_tuple_of, m_is_tuple_of, isT]
theorem e_lis_tuple (x : PyData) (n : Int) (s : Sto) : f_law_is_tuple [.d x, .d (.int n)] s = some (.d (.bool (isT x n)), s) := by
  cases x <;> simp [f_law_is_tuple, m_law_is_tuple, isT]
theorem isT2 {x : PyData} (h : isT x 2 = true) : ∃ a b, x = .tuple [a, b] := by
  unfold isT at h
  split at h
  · rename_i xs
    match xs, h with
    | [a, b], _ => exact ⟨a, b, rfl⟩
    | [], h => simp at h
    | [_], h => simp at h
    | _ :: _ :: _ :: _, h => simp at h; omega
  · cases h
theorem isT3 {x : PyData} (h : isT x 3 = true) : ∃ a b c, x = .tuple [a, b, c] := by
  unfold isT at h
  split at h
  · rename_i xs
    match xs, h with
    | [a, b, c], _ => exact ⟨a, b, c, rfl⟩
    | [], h => simp at h
    | [_], h => simp at h
    | [_, _], h => simp at h
    | _ :: _ :: _ :: _ :: _, h => simp at h; omega
  · cases h
theorem isFr_noT {x : PyData} (h : isT x 2 = false) : isFr x = false := by
  unfold isFr
  split
  · simp [isT] at h
  · rfl
theorem e_is_ratio (x : PyData) (s : Sto) : f_is_ratio [.d x] s = some (.d (.bool (isFr x)), s) := by
  cases h : isT x 2 with
  | false => simp [f_is_ratio, m_is_ratio, e_is_tuple, h, isFr_noT h]
  | true =>
    obtain ⟨a, b, rfl⟩ := isT2 h
    cases a <;> cases b <;> simp [f_is_ratio, m_is_ratio, e_is_tuple, h, e_is_whole, isW, isFr]
    rename_i a b
    by_cases q : 0 < b
    · simp [q, gg]
      exact dec_same
    · simp [q]
theorem e_lis_frac (x : PyData) (s : Sto) {n : Nat} (hz : sz n x = true) : f_law_is_frac [.d x] s = some (.d (.bool (isFr x)), s) := by
  cases h : isT x 2 with
  | false => simp [f_law_is_frac, m_law_is_frac, e_lis_tuple, h, isFr_noT h]
  | true =>
    obtain ⟨a, b, rfl⟩ := isT2 h
    cases a <;> cases b <;> simp [f_law_is_frac, m_law_is_frac, e_lis_tuple, h, e_lis_whole, isW, isFr]
    rename_i a b
    by_cases q : 0 < b
    · have hb := (sz_fr (p := (a, b)) hz).2
      have e := e_frac (t := a) (l := b) (s := s) q (lt_mono hb (by decide))
      have g := gg_pos (a := a) (b := b) (by omega)
      simp [q, e, pF, nrm]
      rw [← Bool.decide_and]
      refine decide_eq_decide.mpr ⟨?_, ?_⟩
      · rintro ⟨_, h2⟩
        have := Int.ediv_mul_cancel (gg_dvd2 a b)
        rw [h2] at this
        have h3 : b * gg a b = b * 1 := by omega
        exact Int.eq_of_mul_eq_mul_left (by omega) h3
      · intro h1
        rw [h1]
        simp
    · simp [q]
theorem e_is_row (x : PyData) (n : Int) (s : Sto) {k : Nat} (hz : sz k x = true) : f_is_row [.d x, .d (.int n)] s = some (.d (.bool (isRow x n)), s) := by
  cases x with
  | tuple xs =>
    have e := lc_map (i := 2) (ρ := [some (.d (.tuple xs)), some (.d (.int n)), none]) (s := s) (e := mCall f_is_ratio (maCons (mVar 2) maNil)) (f := fun x => .bool (isFr x)) xs (fun x _ => by simp [e_is_ratio])
    cases k with
    | zero => simp [sz] at hz
    | succ k =>
      have hl := le64 (sz_tup hz).1
      by_cases q : (xs.length : Int) = n <;> simp [f_is_row, m_is_row, e_is_tuple, isT, isRow, q, mLc, List.replicate_succ, e, hl]
  | _ => simp [f_is_row, m_is_row, e_is_tuple, isT, isRow]
theorem e_lis_row (x : PyData) (n : Int) (s : Sto) {k : Nat} (hz : sz k x = true) : f_law_is_row [.d x, .d (.int n)] s = some (.d (.bool (isRow x n)), s) := by
  cases x with
  | tuple xs =>
    cases k with
    | zero => simp [sz] at hz
    | succ k =>
      have e := lc_map (i := 2) (ρ := [some (.d (.tuple xs)), some (.d (.int n)), none]) (s := s) (e := mCall f_law_is_frac (maCons (mVar 2) maNil)) (f := fun x => .bool (isFr x)) xs (fun x hx => by simp [e_lis_frac x s ((sz_tup hz).2 x hx)])
      have hl := le64 (sz_tup hz).1
      by_cases q : (xs.length : Int) = n <;> simp [f_law_is_row, m_law_is_row, e_lis_tuple, isT, isRow, q, mLc, List.replicate_succ, e, hl]
  | _ => simp [f_law_is_row, m_law_is_row, e_lis_tuple, isT, isRow]
end W2

/-! Pl5: rows of chances, deeds -/
namespace Dh
open PySem PySem.Spec L2
theorem map_fr : ∀ {xs : List PyData}, xs.all isFr = true → xs = (xs.map frOf).map pF ∧ ∀ q ∈ xs.map frOf, FrOk q
  | [], _ => ⟨rfl, fun q h => by simp at h⟩
  | x :: xs, h => by
    rw [List.all_cons, Bool.and_eq_true] at h
    have a := isFr_of h.1
    have b := map_fr h.2
    refine ⟨?_, ?_⟩
    · rw [List.map_cons, List.map_cons, ← a.1, ← b.1]
    · intro q hq
      rw [List.map_cons] at hq
      rcases List.mem_cons.mp hq with rfl | hq
      · exact a.2
      · exact b.2 q hq
theorem sz_map_fr {n : Nat} {xs : List PyData} (h : xs.all isFr = true) (hz : ∀ x ∈ xs, sz n x = true) : ∀ q ∈ xs.map frOf, 0 < q.2 ∧ FrLt 40 q := by
  intro q hq
  have a := (map_fr h).2 q hq
  obtain ⟨x, hx, rfl⟩ := List.mem_map.mp hq
  have b := isFr_of (List.all_eq_true.mp h x hx)
  have c := hz x hx
  rw [b.1] at c
  exact ⟨a.1, sz_fr c⟩
def isOne (p : Fr) : Bool := decide (p.1 = 1 ∧ p.2 = 1)
def isOdds (x : PyData) (n : Int) : Bool := isRow x n && (match x with
  | .tuple xs => (xs.all fun x => decide (0 ≤ (frOf x).1)) && isOne (ftot (xs.map frOf))
  | _ => false)
theorem cut1D (xs : List PyData) : cutD xs (some 1) none = xs.drop 1 := by
  unfold cutD
  rw [show HT.sIx xs.length 0 (some 1) = min 1 xs.length from HT.sIx_nat xs.length 0 1, HT.sIx_none]
  cases xs with
  | nil => rfl
  | cons x r =>
    have e : min 1 (x :: r).length = 1 := by rw [List.length_cons]; omega
    rw [e]
    simp
def isCh (n : Int) : PyData → Bool
  | .tuple [.int i, c] => decide (0 ≤ i) && (decide (i ≤ n - 1) && (isFr c && decide (0 < (frOf c).1)))
  | _ => false
def chI : PyData → Int
  | .tuple [.int i, _] => i
  | _ => 0
def chF : PyData → Fr
  | .tuple [_, c] => frOf c
  | _ => (0, 1)
def incr : List Int → Bool
  | x :: y :: r => decide (x < y) && incr (y :: r)
  | _ => true
def incrAt (l : Int) : List Int → Bool
  | [] => true
  | x :: r => decide (l < x) && incrAt x r
theorem incr_at (x : Int) : ∀ r : List Int, incr (x :: r) = incrAt x r
  | [] => rfl
  | y :: r => by
    show (decide (x < y) && incr (y :: r)) = (decide (x < y) && incrAt y r)
    rw [incr_at y r]
theorem incr_zip : ∀ l : List Int, ((l.zip (l.drop 1)).all fun p => decide (p.1 < p.2)) = incr l
  | [] => rfl
  | [_] => rfl
  | x :: y :: r => by
    have := incr_zip (y :: r)
    simp only [List.drop_succ_cons, List.drop_zero, List.zip_cons_cons, List.all_cons] at this ⊢
    rw [this]
    rfl
def areCh (x : PyData) (n : Int) : Bool := match x with
  | .tuple xs => xs.all (isCh n) && (incr (xs.map chI) && isOne (ftot (xs.map chF)))
  | _ => false
def isCh' (n last : Int) : PyData → Bool
  | .tuple [.int i, c] => isFr c && (decide (last < i) && (decide (i < n) && decide (0 < (frOf c).1)))
  | _ => false
def lawGo (n : Int) : List PyData → Int → Fr → Option Fr
  | [], _, w => some w
  | x :: xs, last, w => if isCh' n last x = true then lawGo n xs (chI x) (fpl w (chF x)) else none
theorem isCh_eq (n last : Int) (h : -1 ≤ last) (x : PyData) : isCh' n last x = (isCh n x && decide (last < chI x)) := by
  unfold isCh' isCh
  split
  · rename_i i c
    simp only [chI]
    cases isFr c <;> simp
    by_cases a : last < i
    · have a2 : 0 ≤ i := by omega
      by_cases b : i < n
      · have b2 : i ≤ n - 1 := by omega
        simp [a, a2, b, b2]
      · have b2 : ¬ i ≤ n - 1 := by omega
        simp [a, a2, b, b2]
    · simp [a]
  · rfl
theorem isCh_nn {n : Int} {x : PyData} (h : isCh n x = true) : 0 ≤ chI x := by
  unfold isCh at h
  split at h
  · simp at h
    exact h.1
  · cases h
theorem lawGo_eq (n : Int) : ∀ (xs : List PyData) (last : Int) (w : Fr), -1 ≤ last → lawGo n xs last w = if (xs.all (isCh n) && incrAt last (xs.map chI)) = true then some ((xs.map chF).foldl fpl w) else none
  | [], _, _, _ => by simp [lawGo, incrAt]
  | x :: xs, last, w, h => by
    unfold lawGo
    rw [isCh_eq n last h]
    cases hx : isCh n x with
    | false => simp [hx]
    | true =>
      have ih := lawGo_eq n xs (chI x) (fpl w (chF x)) (by have := isCh_nn hx; omega)
      rw [ih]
      by_cases q : last < chI x <;> simp [hx, q, incrAt]
theorem lawGo_one (n : Int) (xs : List PyData) : (match lawGo n xs (-1) (0, 1) with | some w => isOne w | none => false) = (xs.all (isCh n) && (incr (xs.map chI) && isOne (ftot (xs.map chF)))) := by
  rw [lawGo_eq n xs (-1) (0, 1) (by omega)]
  cases h : xs.all (isCh n) with
  | false => simp
  | true =>
    have e : incrAt (-1) (xs.map chI) = incr (xs.map chI) := by
      cases xs with
      | nil => rfl
      | cons x r =>
        have := isCh_nn (List.all_eq_true.mp h x List.mem_cons_self)
        rw [List.map_cons, incr_at]
        show (decide (-1 < chI x) && _) = _
        rw [decide_eq_true (by omega), Bool.true_and]
    rw [e]
    cases incr (xs.map chI) <;> simp [ftot]
theorem isT_isCh {n : Int} {x : PyData} (h : isT x 2 = false) : isCh n x = false := by
  unfold isCh
  split
  · simp [isT] at h
  · rfl
theorem pairs_of : ∀ {xs : List PyData}, (xs.all fun x => isT x 2) = true → ∃ ys : List (PyData × PyData), xs = ys.map mk2
  | [], _ => ⟨[], rfl⟩
  | x :: xs, h => by
    rw [List.all_cons, Bool.and_eq_true] at h
    obtain ⟨ys, e⟩ := pairs_of h.2
    have : ∃ a b, x = .tuple [a, b] := by
      have h1 := h.1
      unfold isT at h1
      split at h1
      · rename_i zs
        match zs, h1 with
        | [a, b], _ => exact ⟨a, b, rfl⟩
        | [], h => simp at h
        | [_], h => simp at h
        | _ :: _ :: _ :: _, h => simp at h; omega
      · cases h1
    obtain ⟨a, b, rfl⟩ := this
    exact ⟨(a, b) :: ys, by rw [List.map_cons, ← e]; rfl⟩
end Dh
namespace W2
open PySem PySem.Spec L2 Dh
theorem e_chance_row (x : PyData) (n : Int) (s : Sto) {k : Nat} (hz : sz k x = true) : f_is_chance_row [.d x, .d (.int n)] s = some (.d (.bool (isOdds x n)), s) := by
  have er := e_is_row x n s hz
  cases hr : isRow x n with
  | false => simp [f_is_chance_row, m_is_chance_row, er, hr, isOdds]
  | true =>
    cases x with
    | tuple xs =>
      cases k with
      | zero => simp [sz] at hz
      | succ k =>
        have hs := sz_tup hz
        have hf : xs.all isFr = true := by simp [isRow] at hr; simpa using hr.2
        have e := lc_map (i := 2) (ρ := [some (.d (.tuple xs)), some (.d (.int n)), none]) (s := s) (e := m2 (fI gGe) (mIx (mVar 2) (mKon (.int 0))) (mKon (.int 0))) (f := fun x => .bool (decide (0 ≤ (frOf x).1))) xs (fun x hx => by
          have a := isFr_of (List.all_eq_true.mp hf x hx)
          obtain ⟨p, rfl⟩ : ∃ p, x = pF p := ⟨_, a.1⟩
          simp [pF, frOf]
          exact dec_same)
        have t := e_total (l := xs.map frOf) (k := 40) (s := s) (sz_map_fr hf hs.2) (by rw [List.length_map]; omega)
        rw [← (map_fr hf).1] at t
        have hl := le64 hs.1
        cases ha : xs.all fun x => decide (0 ≤ (frOf x).1) <;> simp [f_is_chance_row, m_is_chance_row, er, hr, isOdds, mLc, List.replicate_succ, e, hl, ha, t, pF, k_ONE, isOne]
    | _ => simp [isRow] at hr
theorem e_lis_odds (x : PyData) (n : Int) (s : Sto) {k : Nat} (hz : sz k x = true) : f_law_is_odds [.d x, .d (.int n)] s = some (.d (.bool (isOdds x n)), s) := by
  have er := e_lis_row x n s hz
  cases hr : isRow x n with
  | false => simp [f_law_is_odds, m_law_is_odds, er, hr, isOdds]
  | true =>
    cases x with
    | tuple xs =>
      cases k with
      | zero => simp [sz] at hz
      | succ k =>
        have hs := sz_tup hz
        have hf : xs.all isFr = true := by simp [isRow] at hr; simpa using hr.2
        have e := lc_map (i := 2) (ρ := [some (.d (.tuple xs)), some (.d (.int n)), none]) (s := s) (e := m2 (fI gGe) (mIx (mVar 2) (mKon (.int 0))) (mKon (.int 0))) (f := fun x => .bool (decide (0 ≤ (frOf x).1))) xs (fun x hx => by
          have a := isFr_of (List.all_eq_true.mp hf x hx)
          obtain ⟨p, rfl⟩ : ∃ p, x = pF p := ⟨_, a.1⟩
          simp [pF, frOf]
          exact dec_same)
        have t := e_ltotal (l := xs.map frOf) (k := 40) (s := s) (sz_map_fr hf hs.2) (by rw [List.length_map]; omega)
        rw [← (map_fr hf).1] at t
        have hl := le64 hs.1
        cases ha : xs.all fun x => decide (0 ≤ (frOf x).1) <;> simp [f_law_is_odds, m_law_is_odds, er, hr, isOdds, mLc, List.replicate_succ, e, hl, ha, t, pF, isOne, sz2]
    | _ => simp [isRow] at hr
theorem chOk {n : Int} {p : PyData × PyData} {s : Sto} (f : PyData × PyData → PyData) (hf : f p = .bool (isCh n (mk2 p))) {a b c d : Option Cl} :
    (mAnd (mCall f_is_between (maCons (mVar 4) (maCons (mKon (.int 0)) (maCons (m2 (fI gMns) (mVar 1) (mKon (.int 1))) maNil)))) (mAnd (mCall f_is_ratio (maCons (mVar 5) maNil)) (m2 (fI gGt) (mIx (mVar 5) (mKon (.int 0))) (mKon (.int 0)))))
      [a, some (.d (.int n)), b, c, some (.d p.1), some (.d p.2), none, none, d] s = some (.d (f p), s) := by
  obtain ⟨x, y⟩ := p
  rw [hf]
  simp [e_is_between, e_is_ratio, mk2]
  cases x with
  | int i =>
    by_cases h1 : 0 ≤ i
    · by_cases h2 : i ≤ n - 1
      · cases h3 : isFr y with
        | false => simp [isCh, h1, h2, h3]
        | true =>
          obtain ⟨q, rfl⟩ : ∃ q, y = pF q := ⟨_, (isFr_of h3).1⟩
          simp [isCh, h1, h2, h3]
          simp [pF, frOf]
          exact dec_same
      · simp [isCh, h1, h2]
    · simp [isCh, h1]
  | _ => simp [isCh]
theorem e_are_chances (x : PyData) (n : Int) (s : Sto) {k : Nat} (hz : sz k x = true) : f_are_chances [.d x, .d (.int n)] s = some (.d (.bool (areCh x n)), s) := by
  cases x with
  | tuple xs =>
    cases k with
    | zero => simp [sz] at hz
    | succ k =>
      have hs := sz_tup hz
      have hl := le64 hs.1
      have e1 := lc_map (i := 3) (ρ := [some (.d (.tuple xs)), some (.d (.int n)), none, none, none, none, none, none, none]) (s := s) (e := mCall f_is_tuple_of (maCons (mVar 3) (maCons (mKon (.int 2)) maNil))) (f := fun x => .bool (isT x 2)) xs (fun x _ => by simp [e_is_tuple])
      cases h1 : xs.all fun x => isT x 2 with
      | false =>
        have h2 : xs.all (isCh n) = false := by
          rw [Bool.eq_false_iff, Ne, List.all_eq_true] at h1 ⊢
          intro q
          refine h1 fun x hx => ?_
          cases hc : isT x 2 with
          | true => rfl
          | false => have := q x hx; rw [isT_isCh hc] at this; cases this
        simp [f_are_chances, m_are_chances, areCh, mLc, List.replicate_succ, e1, hl, h1, h2]
      | true =>
        obtain ⟨ys, hys⟩ := pairs_of h1
        have e2 := lc_map2 (i := 4) (j := 5) (ρ := [some (.d (.tuple xs)), some (.d (.int n)), none, none, none, none, none, none, none]) (s := s) (f := fun p => .bool (isCh n (mk2 p))) (e := mAnd (mCall f_is_between (maCons (mVar 4) (maCons (mKon (.int 0)) (maCons (m2 (fI gMns) (mVar 1) (mKon (.int 1))) maNil)))) (mAnd (mCall f_is_ratio (maCons (mVar 5) maNil)) (m2 (fI gGt) (mIx (mVar 5) (mKon (.int 0))) (mKon (.int 0))))) ys (fun p _ => by exact chOk (n := n) (p := p) (s := s) (fun p => .bool (isCh n (mk2 p))) rfl)
        rw [← hys] at e2
        have a2 : fAll [.f (ys.map fun p => .bool (isCh n (mk2 p)))] = some (.d (.bool (xs.all (isCh n)))) := by
          rw [fAll_map, hys, List.all_map]
          rfl
        have l2 : ys.length ≤ sizeLine := by rw [hys, List.length_map] at hl; exact hl
        cases h2 : xs.all (isCh n) with
        | false =>
          rw [h2] at a2
          simp [f_are_chances, m_are_chances, areCh, mLc, List.replicate_succ, e1, hl, h1, e2, a2, h2, l2]
        | true =>
          rw [h2] at a2
          have shape : ∀ p ∈ ys, ∃ (i : Int) (q : Fr), p = (.int i, pF q) ∧ isCh n (mk2 p) = true ∧ 0 < q.2 ∧ FrLt 40 q := by
            intro p hp
            have hx : mk2 p ∈ xs := by rw [hys]; exact List.mem_map_of_mem hp
            have c := List.all_eq_true.mp h2 _ hx
            obtain ⟨x, y⟩ := p
            have c' := c
            unfold isCh mk2 at c'
            split at c'
            · rename_i i z hxy
              simp at hxy
              obtain ⟨rfl, rfl⟩ := hxy
              simp at c'
              have f := isFr_of c'.2.2.1
              have zz := hs.2 _ hx
              cases k with
              | zero => simp [sz] at zz
              | succ k =>
                have z2 := (sz_tup (n := k) (xs := [.int i, y]) zz).2 y (by simp)
                rw [f.1] at z2
                exact ⟨i, frOf y, by rw [← f.1], c, f.2.1, sz_fr z2⟩
            · cases c'
          have e3 := lc_map2 (i := 4) (j := 6) (ρ := [some (.d (.tuple xs)), some (.d (.int n)), none, none, none, none, none, none, none]) (s := s) (f := fun p => .int (chI (mk2 p))) (e := mVar 4) ys (fun p hp => by
            obtain ⟨i, q, rfl, _⟩ := shape p hp
            simp [mk2, chI])
          rw [← hys] at e3
          have g1 : (ys.map fun p => PyData.int (chI (mk2 p))) = (xs.map chI).map PyData.int := by rw [hys, List.map_map, List.map_map]; rfl
          have e4 := lc_map2 (i := 7) (j := 8) (ρ := [some (.d (.tuple xs)), some (.d (.int n)), some (.d (.list ((xs.map chI).map .int))), none, none, none, none, none, none]) (s := s) (f := fun p => .bool (match p with | (.int a, .int b) => decide (a < b) | _ => false)) (e := m2 (fI gLt) (mVar 7) (mVar 8))
            ((((xs.map chI).zip ((xs.map chI).drop 1)).map fun p => (PyData.int p.1, PyData.int p.2))) (fun p hp => by
              obtain ⟨⟨a, b⟩, _, rfl⟩ := List.mem_map.mp hp
              simp)
          have g2 : pairs ((xs.map chI).map .int) (((xs.map chI).map .int).drop 1) = ((((xs.map chI).zip ((xs.map chI).drop 1)).map fun p => (PyData.int p.1, PyData.int p.2))).map mk2 := by
            unfold pairs
            rw [← List.map_drop, List.zip_map, List.map_map, List.map_map]
            rfl
          have a4 : fAll [.f ((((xs.map chI).zip ((xs.map chI).drop 1)).map fun p => (PyData.int p.1, PyData.int p.2)).map fun p => .bool (match p with | (.int a, .int b) => decide (a < b) | _ => false))] = some (.d (.bool (incr (xs.map chI)))) := by
            rw [fAll_map, List.all_map, ← incr_zip]
            rfl
          have l4 : ((((xs.map chI).zip ((xs.map chI).drop 1)).map fun p => (PyData.int p.1, PyData.int p.2)).map fun p => PyData.bool (match p with | (.int a, .int b) => decide (a < b) | _ => false)).length ≤ sizeLine := by
            simp only [List.length_map, List.length_zip]
            exact Nat.le_trans (Nat.min_le_left _ _) hl
          have e5 := lc_map2 (i := 6) (j := 5) (ρ := [some (.d (.tuple xs)), some (.d (.int n)), some (.d (.list ((xs.map chI).map .int))), none, none, none, none, none, none]) (s := s) (f := fun p => pF (chF (mk2 p))) (e := mVar 5) ys (fun p hp => by
            obtain ⟨i, q, rfl, _⟩ := shape p hp
            simp [mk2, chF, pF, frOf])
          rw [← hys] at e5
          have g5 : (ys.map fun p => pF (chF (mk2 p))) = (xs.map chF).map pF := by rw [hys, List.map_map, List.map_map]; rfl
          have t := e_totalL (l := xs.map chF) (k := 40) (s := s) (fun q hq => by
            obtain ⟨x, hx, rfl⟩ := List.mem_map.mp hq
            rw [hys] at hx
            obtain ⟨p, hp, rfl⟩ := List.mem_map.mp hx
            obtain ⟨i, q, rfl, _, h5, h6⟩ := shape p hp
            exact ⟨h5, h6⟩) (by rw [List.length_map]; omega)
          rw [g1] at e3
          rw [g5] at e5
          generalize hL : (xs.map chI).map PyData.int = L at *
          generalize hM : (xs.map chF).map pF = M at *
          have lL : L.length ≤ sizeLine := by rw [← hL]; simpa using hl
          have lM : M.length ≤ sizeLine := by rw [← hM]; simpa using hl
          rw [← g2, List.drop_one] at e4
          generalize ((((xs.map chI).zip ((xs.map chI).drop 1)).map fun p => (PyData.int p.1, PyData.int p.2)).map fun p => PyData.bool (match p with | (.int a, .int b) => decide (a < b) | _ => false)) = N at *
          cases h6 : incr (xs.map chI) with
          | false =>
            rw [h6] at a4
            simp [f_are_chances, m_are_chances, areCh, mLc, List.replicate_succ, e1, hl, h1, e2, a2, h2, l2, e3, lL, frzs, frz1, zip2, mSl, moSome, moNone, fSl, cut1D, e4, l4, a4, h6]
          | true =>
            rw [h6] at a4
            simp [f_are_chances, m_are_chances, areCh, mLc, List.replicate_succ, e1, hl, h1, e2, a2, h2, l2, e3, lL, frzs, frz1, zip2, mSl, moSome, moNone, fSl, cut1D, e4, l4, a4, h6, e5, lM, t, k_ONE, pF, isOne]
  | _ => simp [f_are_chances, m_are_chances, areCh]
end W2

/-! Pl6: deeds, stands, houses -/
namespace Dh
open PySem PySem.Spec L2
def isDeed (x : PyData) (pays n : Int) : Bool := match x with
  | .tuple [c, g] => areCh c n && isRow g pays
  | _ => false
def isStand (x : PyData) (pays n : Int) : Bool := match x with
  | .tuple xs => (decide (1 ≤ (xs.length : Int)) && decide ((xs.length : Int) ≤ 4)) && xs.all fun d => isDeed d pays n
  | _ => false
def isHouse (x : PyData) : Bool := match x with
  | .tuple [sh, .int pays, .tuple st] => (isFr sh && (decide (0 ≤ (frOf sh).1) && decide ((frOf sh).1 < (frOf sh).2))) && (decide (1 ≤ pays) && decide (pays ≤ 4)) && ((decide (1 ≤ (st.length : Int)) && decide ((st.length : Int) ≤ 8)) && st.all fun x => isStand x pays st.length)
  | _ => false
theorem isDeed_noT {x : PyData} {p n : Int} (h : isT x 2 = false) : isDeed x p n = false := by
  unfold isDeed
  split
  · simp [isT] at h
  · rfl
end Dh
namespace W2
open PySem PySem.Spec L2 Dh
theorem e_is_deed (x : PyData) (p n : Int) (s : Sto) {k : Nat} (hz : sz k x = true) : f_is_deed [.d x, .d (.int p), .d (.int n)] s = some (.d (.bool (isDeed x p n)), s) := by
  cases h : isT x 2 with
  | false => simp [f_is_deed, m_is_deed, e_is_tuple, h, isDeed_noT h]
  | true =>
    obtain ⟨a, b, rfl⟩ := isT2 h
    cases k with
    | zero => simp [sz] at hz
    | succ k =>
      have z := (sz_tup hz).2
      have e1 := e_are_chances a n s (z a (by simp))
      have e2 := e_is_row b p s (z b (by simp))
      cases h1 : areCh a n <;> simp [f_is_deed, m_is_deed, e_is_tuple, h, e1, e2, isDeed, h1]
theorem deed_loop (pays n : Int) (s : Sto) (v0 v1 : Option Cl) {k : Nat} : ∀ (xs : List PyData), (∀ x ∈ xs, sz k x = true) → ∀ (last : Int) (w : Fr) (m : Nat) (c : Option Cl), 0 < w.2 → FrLt m w → m + 41 * xs.length + 40 ≤ 9000 →
    match lawGo n xs last w with
    | some w' => ∃ l' c', forRun (gN 5)
        (mSeq (mIfS (tOr2 (tNot2 (bT (mCall f_law_is_tuple (maCons (mVar 5) (maCons (mKon (.int 2)) maNil))))) (tOr2 (tNot2 (bT (mCall f_law_is_whole (maCons (mIx (mVar 5) (mKon (.int 0))) maNil)))) (tNot2 (bT (mCall f_law_is_frac (maCons (mIx (mVar 5) (mKon (.int 1))) maNil)))))) (mRet (mKon (.bool false))) mNil)
    (mSeq (mIfS (tOr2 (tNot2 (bT (mChain gLt gLt (mVar 3) (mIx (mVar 5) (mKon (.int 0))) (mVar 2)))) (bT (m2 (fI gLe) (mIx (mIx (mVar 5) (mKon (.int 1))) (mKon (.int 0))) (mKon (.int 0))))) (mRet (mKon (.bool false))) mNil)
    (mPar 3 4 (maCons (mIx (mVar 5) (mKon (.int 0))) (maCons (mCall f_law_plus (maCons (mVar 4) (maCons (mIx (mVar 5) (mKon (.int 1))) maNil))) maNil)))))
        xs [v0, v1, some (.d (.int n)), some (.d (.int last)), some (.d (pF w)), c] s = some (.nx, [v0, v1, some (.d (.int n)), l', some (.d (pF w')), c'], s)
    | none => ∃ ρ', forRun (gN 5)
        (mSeq (mIfS (tOr2 (tNot2 (bT (mCall f_law_is_tuple (maCons (mVar 5) (maCons (mKon (.int 2)) maNil))))) (tOr2 (tNot2 (bT (mCall f_law_is_whole (maCons (mIx (mVar 5) (mKon (.int 0))) maNil)))) (tNot2 (bT (mCall f_law_is_frac (maCons (mIx (mVar 5) (mKon (.int 1))) maNil)))))) (mRet (mKon (.bool false))) mNil)
    (mSeq (mIfS (tOr2 (tNot2 (bT (mChain gLt gLt (mVar 3) (mIx (mVar 5) (mKon (.int 0))) (mVar 2)))) (bT (m2 (fI gLe) (mIx (mIx (mVar 5) (mKon (.int 1))) (mKon (.int 0))) (mKon (.int 0))))) (mRet (mKon (.bool false))) mNil)
    (mPar 3 4 (maCons (mIx (mVar 5) (mKon (.int 0))) (maCons (mCall f_law_plus (maCons (mVar 4) (maCons (mIx (mVar 5) (mKon (.int 1))) maNil))) maNil)))))
        xs [v0, v1, some (.d (.int n)), some (.d (.int last)), some (.d (pF w)), c] s = some (.rt (.d (.bool false)), ρ', s)
  | [], _, last, w, m, c, _, _, _ => by
    simp only [lawGo]
    exact ⟨_, _, rfl⟩
  | x :: xs, hz, last, w, m, c, hw, hm, hb => by
    rw [List.length_cons, Nat.mul_add] at hb
    have zx := hz x List.mem_cons_self
    unfold lawGo
    cases ht : isT x 2 with
    | false =>
      have e : isCh' n last x = false := by
        unfold isCh'
        split
        · simp [isT] at ht
        · rfl
      simp only [e]
      refine ⟨[v0, v1, some (.d (.int n)), some (.d (.int last)), some (.d (pF w)), some (.d x)], ?_⟩
      unfold forRun
      simp [e_lis_tuple, ht]
    | true =>
      obtain ⟨a, b, rfl⟩ := isT2 ht
      cases k with
      | zero => simp [sz] at zx
      | succ k =>
      have zb := (sz_tup zx).2 b (by simp)
      have fb := e_lis_frac b s zb
      cases hw0 : isW a with
      | false =>
        have e : isCh' n last (.tuple [a, b]) = false := by cases a <;> simp [isW, isCh'] at *
        simp only [e]
        refine ⟨[v0, v1, some (.d (.int n)), some (.d (.int last)), some (.d (pF w)), some (.d (.tuple [a, b]))], ?_⟩
        unfold forRun
        simp [e_lis_tuple, ht, e_lis_whole, hw0]
      | true =>
        obtain ⟨i, rfl⟩ : ∃ i, a = .int i := by
          cases a with
          | int i => exact ⟨i, rfl⟩
          | _ => simp [isW] at hw0
        cases hf : isFr b with
        | false =>
          have e : isCh' n last (.tuple [.int i, b]) = false := by simp [isCh', hf]
          simp only [e]
          refine ⟨[v0, v1, some (.d (.int n)), some (.d (.int last)), some (.d (pF w)), some (.d (.tuple [.int i, b]))], ?_⟩
          unfold forRun
          simp [e_lis_tuple, ht, e_lis_whole, isW, fb, hf]
        | true =>
          obtain ⟨q, rfl⟩ : ∃ q, b = pF q := ⟨_, (isFr_of hf).1⟩
          have hq := sz_fr zb
          have hq2 := (isFr_pF.mp hf).1
          have ep := e_lplus (s := s) hm hq hw hq2 (by omega)
          have ef : frOf (pF q) = q := rfl
          by_cases h1 : last < i
          · by_cases h2 : i < n
            · by_cases h3 : 0 < q.1
              · have e : isCh' n last (.tuple [.int i, pF q]) = true := by simp [isCh', hf, h1, h2, ef, h3]
                simp only [e]
                have h4 : ¬ q.1 ≤ 0 := by omega
                have ih := deed_loop pays n s v0 v1 xs (fun y hy => hz y (List.mem_cons_of_mem _ hy)) i (fpl w q) (m + 40 + 1) (some (.d (.tuple [.int i, pF q]))) (fpl_ok hw hq2).1 (fpl_lt hm hq hw hq2) (by omega)
                simp only [chI, chF, ef, if_true]
                unfold forRun
                have et := e_lis_tuple (.tuple [.int i, pF q]) 2 s
                rw [ht] at et
                simp only [pF] at *
                simp [et, e_lis_whole, isW, fb, hf, mChain, h1, h2, h4, mPar, ep]
                exact ih
              · have e : isCh' n last (.tuple [.int i, pF q]) = false := by simp [isCh', hf, h1, h2, ef, h3]
                simp only [e]
                have h4 : q.1 ≤ 0 := by omega
                refine ⟨[v0, v1, some (.d (.int n)), some (.d (.int last)), some (.d (pF w)), some (.d (.tuple [.int i, pF q]))], ?_⟩
                unfold forRun
                have et := e_lis_tuple (.tuple [.int i, pF q]) 2 s
                rw [ht] at et
                simp only [pF] at *
                simp [et, e_lis_whole, isW, fb, hf, mChain, h1, h2, h4]
            · have e : isCh' n last (.tuple [.int i, pF q]) = false := by simp [isCh', hf, h1, h2]
              simp only [e]
              refine ⟨[v0, v1, some (.d (.int n)), some (.d (.int last)), some (.d (pF w)), some (.d (.tuple [.int i, pF q]))], ?_⟩
              unfold forRun
              have et := e_lis_tuple (.tuple [.int i, pF q]) 2 s
              rw [ht] at et
              simp only [pF] at *
              simp [et, e_lis_whole, isW, fb, hf, mChain, h1, h2]
          · have e : isCh' n last (.tuple [.int i, pF q]) = false := by simp [isCh', hf, h1]
            simp only [e]
            refine ⟨[v0, v1, some (.d (.int n)), some (.d (.int last)), some (.d (pF w)), some (.d (.tuple [.int i, pF q]))], ?_⟩
            unfold forRun
            have et := e_lis_tuple (.tuple [.int i, pF q]) 2 s
            rw [ht] at et
            simp only [pF] at *
            simp [et, e_lis_whole, isW, fb, hf, mChain, h1]
theorem e_lis_deed (x : PyData) (p n : Int) (s : Sto) {k : Nat} (hz : sz k x = true) : f_law_is_deed [.d x, .d (.int p), .d (.int n)] s = some (.d (.bool (isDeed x p n)), s) := by
  cases h : isT x 2 with
  | false => simp [f_law_is_deed, m_law_is_deed, e_lis_tuple, h, isDeed_noT h]
  | true =>
    obtain ⟨a, b, rfl⟩ := isT2 h
    cases k with
    | zero => simp [sz] at hz
    | succ k =>
      have z := (sz_tup hz).2
      have e2 := e_lis_row b p s (z b (by simp))
      cases a with
      | tuple xs =>
        cases h2 : isRow b p with
        | false => simp [f_law_is_deed, m_law_is_deed, e_lis_tuple, h, e2, isDeed, h2]
        | true =>
          cases k with
          | zero => have := z (.tuple xs) (by simp); simp [sz] at this
          | succ k =>
          have za := sz_tup (z (.tuple xs) (by simp))
          have d := deed_loop p n s (some (.d (.tuple [.tuple xs, b]))) (some (.d (.int p))) xs za.2 (-1) (0, 1) 1 none (by decide) one_lt (by omega)
          have g := lawGo_one n xs
          cases hg : lawGo n xs (-1) (0, 1) with
          | none =>
            rw [hg] at d g
            obtain ⟨ρ', d⟩ := d
            simp only [pF] at d
            simp [f_law_is_deed, m_law_is_deed, e_lis_tuple, h, e2, isDeed, h2, mAsg, sz2, List.replicate_succ, d, areCh, ← g]
          | some w =>
            rw [hg] at d g
            obtain ⟨l', c', d⟩ := d
            simp only [pF] at d
            have hd : isDeed (.tuple [.tuple xs, b]) p n = isOne w := by simp [isDeed, areCh, h2, ← g]
            simp [f_law_is_deed, m_law_is_deed, e_lis_tuple, h, e2, hd, h2, mAsg, sz2, List.replicate_succ, d, isOne]
      | _ => simp [f_law_is_deed, m_law_is_deed, e_lis_tuple, h, isDeed, areCh]
theorem lt0 (s : Sto) (a b : Int) : True := trivial
theorem e_is_stand (x : PyData) (p n : Int) (s : Sto) {k : Nat} (hz : sz k x = true) : f_is_stand [.d x, .d (.int p), .d (.int n)] s = some (.d (.bool (isStand x p n)), s) := by
  cases x with
  | tuple xs =>
    cases k with
    | zero => simp [sz] at hz
    | succ k =>
      have hs := sz_tup hz
      have hl := le64 hs.1
      have e := lc_map (i := 3) (ρ := [some (.d (.tuple xs)), some (.d (.int p)), some (.d (.int n)), none]) (s := s) (e := mCall f_is_deed (maCons (mVar 3) (maCons (mVar 1) (maCons (mVar 2) maNil)))) (f := fun x => .bool (isDeed x p n)) xs (fun x hx => by simp [e_is_deed x p n s (hs.2 x hx)])
      have eb := e_is_between (.int (xs.length : Int)) 1 4 s
      dsimp only at eb
      cases hb : (decide (1 ≤ (xs.length : Int)) && decide ((xs.length : Int) ≤ 4)) with
      | false =>
        rw [hb] at eb
        simp [f_is_stand, m_is_stand, isStand, List.replicate_succ, k_MOST_DEEDS, eb, hb]
      | true =>
        rw [hb] at eb
        simp [f_is_stand, m_is_stand, isStand, List.replicate_succ, k_MOST_DEEDS, eb, hb, mLc, e, hl, fAll_map]
  | _ => simp [f_is_stand, m_is_stand, isStand]
theorem e_is_share (x : PyData) (s : Sto) : f_is_share [.d x] s = some (.d (.bool (isFr x && (decide (0 ≤ (frOf x).1) && decide ((frOf x).1 < (frOf x).2)))), s) := by
  cases h : isFr x with
  | false => simp [f_is_share, m_is_share, e_is_ratio, h]
  | true =>
    obtain ⟨p, rfl⟩ : ∃ p, x = pF p := ⟨_, (isFr_of h).1⟩
    simp only [f_is_share, m_is_share, pF] at *
    by_cases q : 0 ≤ p.1
    · simp [e_is_ratio, h, mChain, frOf, q]
      exact dec_same
    · simp [e_is_ratio, h, mChain, frOf, q]
theorem isHouse_noT {x : PyData} (h : isT x 3 = false) : isHouse x = false := by
  unfold isHouse
  split
  · simp [isT] at h
  · rfl
theorem e_is_house_by (x : PyData) (s : Sto) {k : Nat} (hz : sz k x = true) : f_is_house_by [.d x] s = some (.d (.bool (isHouse x)), s) := by
  cases h : isT x 3 with
  | false => simp [f_is_house_by, m_is_house_by, e_is_tuple, h, isHouse_noT h]
  | true =>
    obtain ⟨a, b, c, rfl⟩ := isT3 h
    cases k with
    | zero => simp [sz] at hz
    | succ k =>
      have z := (sz_tup hz).2
      have e1 := e_is_share a s
      cases h1 : (isFr a && (decide (0 ≤ (frOf a).1) && decide ((frOf a).1 < (frOf a).2))) with
      | false =>
        rw [h1] at e1
        have hh : isHouse (.tuple [a, b, c]) = false := by
          unfold isHouse
          split
          · rename_i q
            simp at q
            obtain ⟨rfl, rfl, rfl⟩ := q
            rw [h1]
            simp
          · rfl
        simp [f_is_house_by, m_is_house_by, e_is_tuple, h, e1, hh]
      | true =>
        rw [h1] at e1
        cases hw : isW b with
        | false =>
          have hh : isHouse (.tuple [a, b, c]) = false := by cases b <;> simp [isW, isHouse] at *
          have e2 : f_is_between [.d b, .d (.int 1), .d (.int 4)] s = some (.d (.bool false), s) := by
            rw [e_is_between]
            cases b <;> first | rfl | simp [isW] at hw
          simp [f_is_house_by, m_is_house_by, e_is_tuple, h, e1, hh, e2, k_MOST_PAYS]
        | true =>
          obtain ⟨p, rfl⟩ : ∃ i, b = .int i := by
            cases b with
            | int i => exact ⟨i, rfl⟩
            | _ => simp [isW] at hw
          have e2 := e_is_between (.int p) 1 4 s
          dsimp only at e2
          cases h2 : (decide (1 ≤ p) && decide (p ≤ 4)) with
          | false =>
            rw [h2] at e2
            have hh : isHouse (.tuple [a, .int p, c]) = false := by
              cases c <;> simp [isHouse, h1, h2]
            simp [f_is_house_by, m_is_house_by, e_is_tuple, h, e1, hh, e2, k_MOST_PAYS]
          | true =>
            rw [h2] at e2
            cases c with
            | tuple st =>
              cases k with
              | zero => have := z (.tuple st) (by simp); simp [sz] at this
              | succ k =>
              have zc := sz_tup (z (.tuple st) (by simp))
              have hl := le64 zc.1
              have e3 := e_is_between (.int (st.length : Int)) 1 8 s
              dsimp only at e3
              have e := lc_map (i := 2) (ρ := [some (.d (.tuple [a, .int p, .tuple st])), some (.d (.tuple st)), none]) (s := s) (e := mCall f_is_stand (maCons (mVar 2) (maCons (mIx (mVar 0) (mKon (.int 1))) (maCons (mA fLen (maCons (mVar 1) maNil)) maNil)))) (f := fun x => .bool (isStand x p st.length)) st (fun x hx => by simp [e_is_stand x p st.length s (zc.2 x hx)])
              cases h3 : (decide (1 ≤ (st.length : Int)) && decide ((st.length : Int) ≤ 8)) with
              | false =>
                rw [h3] at e3
                simp [f_is_house_by, m_is_house_by, e_is_tuple, h, e1, e2, e3, k_MOST_PAYS, k_MOST_STANDS, isHouse, h1, h2, h3]
              | true =>
                rw [h3] at e3
                simp [f_is_house_by, m_is_house_by, e_is_tuple, h, e1, e2, e3, k_MOST_PAYS, k_MOST_STANDS, isHouse, h1, h2, h3, mLc, List.replicate_succ, e, hl, fAll_map]
            | _ => simp [f_is_house_by, m_is_house_by, e_is_tuple, h, e1, e2, k_MOST_PAYS, isHouse]
end W2

/-! Pl7: the law's look at a house -/
namespace W2
open PySem PySem.Spec L2 Dh
theorem ev_mChain {g1 g2 : Int → Int → Option PyData} {a b c : Mx} {ρ : Ev} {s : Sto} : mChain g1 g2 a b c ρ s = bnd a (fun x => bnd b fun y => bnd (fun _ => Dh.ret (fI g1 x y)) fun z => match z with
  | .d (.bool true) => bnd c fun w _ => Dh.ret (fI g2 y w)
  | .d (.bool false) => fun _ s => some (.d (.bool false), s)
  | _ => fun _ _ => none) ρ s := rfl
theorem world_loop (a : PyData) (p : Int) (st : List PyData) (s : Sto) {k : Nat} : ∀ (xs : List PyData), (∀ x ∈ xs, sz k x = true) → ∀ (v c : Option Cl),
    ∃ v' c', forRun (gN 1) (mSeq (mIfS (tOr2 (tNot2 (bT (m1 (fIsi "tuple") (mVar 1)))) (tNot2 (bT (mChain gLe gLe (mKon (.int 1)) (mA fLen (maCons (mVar 1) maNil)) (mKon (.int 4)))))) (mRet (mKon (.bool false))) mNil)
    (mIfS (tNot2 (bT (mA fAll (maCons (mLc (mSeqI (mVar 1)) [2] (gN 2) mYes (mCall f_law_is_deed (maCons (mVar 2) (maCons (mIx (mVar 0) (mKon (.int 1))) (maCons (mA fLen (maCons (mIx (mVar 0) (mKon (.int 2))) maNil)) maNil))))) maNil)))) (mRet (mKon (.bool false))) mNil)) xs [some (.d (.tuple [a, .int p, .tuple st])), v, c] s
      = some (if (xs.all fun x => isStand x p st.length) = true then .nx else .rt (.d (.bool false)), [some (.d (.tuple [a, .int p, .tuple st])), v', c'], s)
  | [], _, v, c => ⟨v, c, by simp⟩
  | x :: xs, hz, v, c => by
    have zx := hz x List.mem_cons_self
    obtain ⟨v1, c1, ih⟩ := world_loop a p st s xs (fun y hy => hz y (List.mem_cons_of_mem _ hy)) (some (.d x)) c
    cases ht : isA "tuple" x with
    | false =>
      have e0 : isStand x p st.length = false := by
        unfold isStand
        split
        · simp at ht
        · rfl
      refine ⟨some (.d x), c, ?_⟩
      rw [List.all_cons, e0, Bool.false_and]
      conv => lhs; unfold forRun
      simp [ht]
    | true =>
      obtain ⟨ds, rfl⟩ : ∃ ds, x = .tuple ds := by
        cases x with
        | tuple ds => exact ⟨ds, rfl⟩
        | _ => simp at ht
      cases k with
      | zero => simp [sz] at zx
      | succ k =>
        have hs := sz_tup zx
        have hl := le64 hs.1
        have e := lc_map (i := 2) (ρ := [some (.d (.tuple [a, .int p, .tuple st])), some (.d (.tuple ds)), c]) (s := s) (e := mCall f_law_is_deed (maCons (mVar 2) (maCons (mIx (mVar 0) (mKon (.int 1))) (maCons (mA fLen (maCons (mIx (mVar 0) (mKon (.int 2))) maNil)) maNil)))) (f := fun x => .bool (isDeed x p st.length)) ds (fun x hx => by simp [e_lis_deed x p st.length s (hs.2 x hx)])
        by_cases h1 : (1 : Int) ≤ ds.length
        · by_cases h2 : (ds.length : Int) ≤ 4
          · cases h3 : ds.all fun x => isDeed x p st.length with
            | true =>
              have e0 : isStand (.tuple ds) p st.length = true := by simp only [isStand, h3, decide_eq_true h1, decide_eq_true h2]; rfl
              refine ⟨v1, c1, ?_⟩
              rw [List.all_cons, e0, Bool.true_and, ← ih]
              conv => lhs; unfold forRun
              simp [ev_mChain, h1, h2, mLc, e, hl, fAll_map, h3]
            | false =>
              have e0 : isStand (.tuple ds) p st.length = false := by simp only [isStand, h3, Bool.and_false]
              refine ⟨some (.d (.tuple ds)), c, ?_⟩
              rw [List.all_cons, e0, Bool.false_and]
              conv => lhs; unfold forRun
              simp [ev_mChain, h1, h2, mLc, e, hl, fAll_map, h3]
          · have e0 : isStand (.tuple ds) p st.length = false := by simp only [isStand, decide_eq_false h2, Bool.and_false, Bool.false_and]
            refine ⟨some (.d (.tuple ds)), c, ?_⟩
            rw [List.all_cons, e0, Bool.false_and]
            conv => lhs; unfold forRun
            simp [ev_mChain, h1, h2]
        · have e0 : isStand (.tuple ds) p st.length = false := by simp only [isStand, decide_eq_false h1, Bool.false_and]
          refine ⟨some (.d (.tuple ds)), c, ?_⟩
          rw [List.all_cons, e0, Bool.false_and]
          conv => lhs; unfold forRun
          simp [ev_mChain, h1]
theorem e_lis_world (x : PyData) (s : Sto) {k : Nat} (hz : sz k x = true) : f_law_is_world [.d x] s = some (.d (.bool (isHouse x)), s) := by
  cases h : isT x 3 with
  | false => simp [f_law_is_world, m_law_is_world, e_lis_tuple, h, isHouse_noT h]
  | true =>
    obtain ⟨a, b, c, rfl⟩ := isT3 h
    cases k with
    | zero => simp [sz] at hz
    | succ k =>
      have z := (sz_tup hz).2
      have e1 := e_lis_frac a s (z a (by simp))
      cases h1 : isFr a with
      | false =>
        have hh : isHouse (.tuple [a, b, c]) = false := by
          unfold isHouse
          split
          · rename_i q
            simp at q
            obtain ⟨rfl, rfl, rfl⟩ := q
            rw [h1]
            simp
          · rfl
        simp [f_law_is_world, m_law_is_world, e_lis_tuple, h, e1, h1, hh]
      | true =>
        cases hw : isW b with
        | false =>
          have hh : isHouse (.tuple [a, b, c]) = false := by cases b <;> simp [isW, isHouse] at *
          simp [f_law_is_world, m_law_is_world, e_lis_tuple, h, e1, h1, hh, e_lis_whole, hw]
        | true =>
          obtain ⟨p, rfl⟩ : ∃ i, b = .int i := by
            cases b with
            | int i => exact ⟨i, rfl⟩
            | _ => simp [isW] at hw
          obtain ⟨q, rfl⟩ : ∃ q, a = pF q := ⟨_, (isFr_of h1).1⟩
          have ef : frOf (pF q) = q := rfl
          simp only [pF] at *
          cases c with
          | tuple st =>
            cases k with
            | zero => have := z (.tuple st) (by simp); simp [sz] at this
            | succ k =>
            have zc := sz_tup (z (.tuple st) (by simp))
            obtain ⟨v', c', lp⟩ := world_loop (.tuple [.int q.1, .int q.2]) p st s st zc.2 none none
            by_cases g1 : 0 ≤ q.1
            · by_cases g2 : q.1 < q.2
              · by_cases g3 : 1 ≤ p
                · by_cases g4 : p ≤ 4
                  · by_cases g5 : (1 : Int) ≤ st.length
                    · by_cases g6 : (st.length : Int) ≤ 8
                      · have hh : isHouse (.tuple [.tuple [.int q.1, .int q.2], .int p, .tuple st]) = st.all fun x => isStand x p st.length := by
                          simp only [isHouse, h1, ef, decide_eq_true g1, decide_eq_true g2, decide_eq_true g3, decide_eq_true g4, decide_eq_true g5, decide_eq_true g6, Bool.true_and]
                        rw [hh]
                        cases g7 : st.all fun x => isStand x p st.length with
                        | true =>
                          rw [g7] at lp
                          simp only [if_true] at lp
                          simp [f_law_is_world, m_law_is_world, e_lis_tuple, h, e1, h1, e_lis_whole, isW, ev_mChain, g1, g2, g3, g4, g5, g6, List.replicate_succ, lp]
                        | false =>
                          rw [g7] at lp
                          simp only [Bool.false_eq_true, if_false] at lp
                          simp [f_law_is_world, m_law_is_world, e_lis_tuple, h, e1, h1, e_lis_whole, isW, ev_mChain, g1, g2, g3, g4, g5, g6, List.replicate_succ, lp]
                      · have hh : isHouse (.tuple [.tuple [.int q.1, .int q.2], .int p, .tuple st]) = false := by
                          simp only [isHouse, decide_eq_false g6, Bool.false_and, Bool.and_false]
                        simp [f_law_is_world, m_law_is_world, e_lis_tuple, h, e1, h1, e_lis_whole, isW, ev_mChain, g1, g2, g3, g4, g5, g6, hh]
                    · have hh : isHouse (.tuple [.tuple [.int q.1, .int q.2], .int p, .tuple st]) = false := by
                        simp only [isHouse, decide_eq_false g5, Bool.false_and, Bool.and_false]
                      simp [f_law_is_world, m_law_is_world, e_lis_tuple, h, e1, h1, e_lis_whole, isW, ev_mChain, g1, g2, g3, g4, g5, hh]
                  · have hh : isHouse (.tuple [.tuple [.int q.1, .int q.2], .int p, .tuple st]) = false := by
                      simp only [isHouse, decide_eq_false g4, Bool.false_and, Bool.and_false]
                    simp [f_law_is_world, m_law_is_world, e_lis_tuple, h, e1, h1, e_lis_whole, isW, ev_mChain, g1, g2, g3, g4, hh]
                · have hh : isHouse (.tuple [.tuple [.int q.1, .int q.2], .int p, .tuple st]) = false := by
                    simp only [isHouse, decide_eq_false g3, Bool.false_and, Bool.and_false]
                  simp [f_law_is_world, m_law_is_world, e_lis_tuple, h, e1, h1, e_lis_whole, isW, ev_mChain, g1, g2, g3, hh]
              · have hh : isHouse (.tuple [.tuple [.int q.1, .int q.2], .int p, .tuple st]) = false := by
                  simp [isHouse, frOf, g2]
                simp [f_law_is_world, m_law_is_world, e_lis_tuple, h, e1, h1, e_lis_whole, isW, ev_mChain, g1, g2, hh]
            · have hh : isHouse (.tuple [.tuple [.int q.1, .int q.2], .int p, .tuple st]) = false := by
                simp [isHouse, frOf, g1]
              simp [f_law_is_world, m_law_is_world, e_lis_tuple, h, e1, h1, e_lis_whole, isW, ev_mChain, g1, hh]
          | _ =>
            by_cases g1 : 0 ≤ q.1
            · by_cases g2 : q.1 < q.2
              · by_cases g3 : 1 ≤ p
                · by_cases g4 : p ≤ 4 <;> simp [f_law_is_world, m_law_is_world, e_lis_tuple, h, e1, h1, e_lis_whole, isW, ev_mChain, g1, g2, g3, g4, isHouse]
                · simp [f_law_is_world, m_law_is_world, e_lis_tuple, h, e1, h1, e_lis_whole, isW, ev_mChain, g1, g2, g3, isHouse]
              · simp [f_law_is_world, m_law_is_world, e_lis_tuple, h, e1, h1, e_lis_whole, isW, ev_mChain, g1, g2, isHouse]
            · simp [f_law_is_world, m_law_is_world, e_lis_tuple, h, e1, h1, e_lis_whole, isW, ev_mChain, g1, isHouse]
theorem e_is_house (x : PyData) (s : Sto) {k : Nat} (hz : sz k x = true) : f_is_house [.d x] s = some (.d (.bool (isHouse x)), s) := by
  simp [f_is_house, m_is_house, e_is_house_by x s hz]
theorem e_check_house (x : PyData) (s : Sto) {k : Nat} (hz : sz k x = true) (h : isHouse x = true) : f_check_house [.d x] s = some (.d .none, s) := by
  simp [f_check_house, m_check_house, e_is_house_by x s hz, h]
theorem e_is_start (a b : PyData) (st : List PyData) (x : PyData) (s : Sto) {k j : Nat} (hz : sz k (.tuple [a, b, .tuple st]) = true) (h : isHouse (.tuple [a, b, .tuple st]) = true) (hx : sz j x = true) :
    f_is_start [.d (.tuple [a, b, .tuple st]), .d x] s = some (.d (.bool (isOdds x st.length)), s) := by
  simp [f_is_start, m_is_start, e_check_house _ s hz h, mDrop, f_is_start_by, m_is_start_by, e_chance_row x st.length s hx]
end W2

/-! Pl8: the spring -/
namespace Dh
open PySem PySem.Spec L2
/-- a spring that can be asked m times more -/
def Vs (m : Nat) (s : Sto) : Prop := ∃ a b c : Int, s = [a, b, c] ∧ 0 ≤ b ∧ b < 2147483579 ∧ 0 ≤ c ∧ c + (m : Int) ≤ 1099511627776
theorem Vs.mono {m n : Nat} {s : Sto} (h : Vs n s) (k : m ≤ n) : Vs m s := by
  obtain ⟨a, b, c, e, h1, h2, h3, h4⟩ := h
  exact ⟨a, b, c, e, h1, h2, h3, by omega⟩
theorem lit40 : (2 : Nat) ^ 40 = 1099511627776 := by decide
theorem lt40 {i : Int} (h0 : 0 ≤ i) (h : i < 1099511627776) : i.natAbs < 2 ^ 40 := by rw [lit40]; omega
theorem for_inv {g : Gx} {body : Ms} {k N : Nat} (I : Nat → Ev → Prop) : ∀ (xs : List PyData) (i : Nat) (ρ : Ev) (s : Sto) (m : Nat), i + xs.length = N → I i ρ → Vs (m + xs.length * k) s →
    (∀ x ∈ xs, ∀ (j : Nat) (ρ : Ev) (s : Sto) (m : Nat), j < N → I j ρ → Vs (m + k) s → ∃ ρ1 ρ2 s2, g x ρ = some ρ1 ∧ body ρ1 s = some (.nx, ρ2, s2) ∧ I (j + 1) ρ2 ∧ Vs m s2) →
    ∃ ρ' s', forRun g body xs ρ s = some (.nx, ρ', s') ∧ I N ρ' ∧ Vs m s'
  | [], i, ρ, s, m, hN, h, v, _ => ⟨ρ, s, rfl, by rw [List.length_nil, Nat.add_zero] at hN; rw [← hN]; exact h, v.mono (by omega)⟩
  | x :: xs, i, ρ, s, m, hN, h, v, st => by
    have e : m + (x :: xs).length * k = (m + xs.length * k) + k := by rw [List.length_cons, Nat.add_mul]; omega
    rw [e] at v
    rw [List.length_cons] at hN
    obtain ⟨ρ1, ρ2, s2, e1, e2, h2, v2⟩ := st x List.mem_cons_self i ρ s _ (by omega) h v
    obtain ⟨ρ', s', e3, h3, v3⟩ := for_inv I xs (i + 1) ρ2 s2 m (by omega) h2 v2 fun y hy => st y (List.mem_cons_of_mem _ hy)
    refine ⟨ρ', s', ?_, h3, v3⟩
    unfold forRun
    simp [e1, e2, e3]
theorem atI_ofNat {α : Type} {xs : List α} {i : Nat} (h : i < xs.length) : atI xs (i : Int) = xs[i]? := by
  unfold atI ixN
  have h1 : ¬ ((i : Int) < 0) := by omega
  have h2 : (i : Int) < (xs.length : Int) := by omega
  simp [h2]
theorem atI_pick {α : Type} {xs : List α} {d : Int} (h0 : 0 ≤ d) (h : d < xs.length) : ∃ x ∈ xs, atI xs d = some x := by
  obtain ⟨n, rfl⟩ := Int.eq_ofNat_of_zero_le h0
  have hn : n < xs.length := by omega
  exact ⟨xs[n], List.getElem_mem hn, by rw [show ((n : Nat) : Int) = (n : Int) from rfl, atI_ofNat hn, List.getElem?_eq_getElem hn]⟩
end Dh
namespace W2
open PySem PySem.Spec L2 Dh
theorem mulI {i j : Int} (h : mulOk i j = true) : fMul (.d (.int i)) (.d (.int j)) = some (.d (.int (i * j))) := by
  rw [ev_fMulI, if_pos h]
theorem gm3 {i l : Int} (h : l ≠ 0) : gMod i l = some (.int (i.fmod l)) := if_pos h
theorem pk1 {v w u : Option Cl} {a b c : Int} : mPut 0 (mKon (.int 2)) (m2 fAdd (mIx (mVar 0) (mKon (.int 2))) (mKon (.int 1))) [some .s, v, w, u] [a, b, c] = some (.nx, [some .s, v, w, u], [a, b, c + 1]) := by
  simp [mPut, ixN]
theorem pk2 {v w u : Option Cl} {a b c M x y : Int} (hM : M ≠ 0) (q1 : mulOk b x = true) (q2 : mulOk y c = true) : (mSet 3 (m2 (fI gMod) (mA fInt (maCons (m2 fAdd (m2 fMul (mIx (mVar 0) (mKon (.int 1))) (mKon (.int x))) (m2 fMul (mKon (.int y)) (mIx (mVar 0) (mKon (.int 2))))) maNil)) (mKon (.int M)))) [some .s, v, w, u] [a, b, c] = some (.nx, [some .s, v, w, some (.d (.int (Int.fmod (b * x + y * c) M)))], [a, b, c]) := by
  simp [-ev_fMulI, mulI q1, mulI q2, -ev_gMod, gm3 hM]
theorem pk3 {v w : Option Cl} {a b c x M N y : Int} (hM : M ≠ 0) (hN : N ≠ 0) (q3 : mulOk x (Int.fmod x N + y) = true) : (mPut 0 (mKon (.int 1)) (m2 (fI gMod) (mA fInt (maCons (m2 fAdd (m2 fMul (mVar 3) (m2 fAdd (m2 (fI gMod) (mA fInt (maCons (mVar 3) maNil)) (mKon (.int N))) (mKon (.int y)))) (mIx (mVar 0) (mKon (.int 2)))) maNil)) (mKon (.int M)))) [some .s, v, w, some (.d (.int x))] [a, b, c] = some (.nx, [some .s, v, w, some (.d (.int x))], [a, Int.fmod (x * (Int.fmod x N + y) + c) M, c]) := by
  simp [-ev_fMulI, mulI q3, -ev_gMod, gm3 hM, gm3 hN, mPut, ixN]
theorem pk4 {v w : Option Cl} {a z c l D : Int} (l0 : l ≠ 0) (hD : D ≠ 0) (p : Builtin.divisionGoesByPylong z D = false) : (mRet (m2 (fI gMod) (mA fInt (maCons (m2 (fI gFdiv) (mIx (mVar 0) (mKon (.int 1))) (mKon (.int D))) maNil)) (mVar 1))) [some .s, some (.d (.int l)), v, w] [a, z, c] = some (.rt (.d (.int (Int.fmod (Int.fdiv z D) l))), [some .s, some (.d (.int l)), v, w], [a, z, c]) := by
  simp [-ev_gMod, gm3 l0, p, hD]
theorem pk0 {a b c l : Int} (ha : ¬ 0 < a) {A : Ms} {v w : Option Cl} : (mIfS (bT (m2 (fI gGt) (mIx (mVar 0) (mKon (.int 0))) (mKon (.int 0)))) A mNil) [some .s, some (.d (.int l)), v, w] [a, b, c] = some (.nx, [some .s, some (.d (.int l)), v, w], [a, b, c]) := by
  simp [ha]
theorem pk5 {a b c l : Int} (l0 : l ≠ 0) (ha : ¬ 0 < a) (q1 : mulOk b 40692 = true) (q2 : mulOk 15013 (c + 1) = true) (m3 : mulOk (Int.fmod (b * 40692 + 15013 * (c + 1)) 2147483579) (Int.fmod (Int.fmod (b * 40692 + 15013 * (c + 1)) 2147483579) 6007 + 20011) = true)
    (p : Builtin.divisionGoesByPylong (Int.fmod (Int.fmod (b * 40692 + 15013 * (c + 1)) 2147483579 * (Int.fmod (Int.fmod (b * 40692 + 15013 * (c + 1)) 2147483579) 6007 + 20011) + (c + 1)) 2147483579) 1013 = false) :
    f_law_pick [.s, .d (.int l)] [a, b, c] = some (.d (.int (Int.fmod (Int.fdiv (Int.fmod (Int.fmod (b * 40692 + 15013 * (c + 1)) 2147483579 * (Int.fmod (Int.fmod (b * 40692 + 15013 * (c + 1)) 2147483579) 6007 + 20011) + (c + 1)) 2147483579) 1013) l)),
      [a, Int.fmod (Int.fmod (b * 40692 + 15013 * (c + 1)) 2147483579 * (Int.fmod (Int.fmod (b * 40692 + 15013 * (c + 1)) 2147483579) 6007 + 20011) + (c + 1)) 2147483579, c + 1]) := by
  have e2 := pk2 (v := some (.d (.int l))) (w := none) (u := none) (a := a) (M := 2147483579) (by decide) q1 q2
  have e3 := pk3 (v := some (.d (.int l))) (w := none) (a := a) (b := b) (c := c + 1) (M := 2147483579) (by decide) (by decide) m3
  have e4 := pk4 (v := none) (w := some (.d (.int (Int.fmod (b * 40692 + 15013 * (c + 1)) 2147483579)))) (a := a) (c := c + 1) l0 (by decide) p
  have r : f_law_pick [.s, .d (.int l)] [a, b, c] = (match m_law_pick [some .s, some (.d (.int l)), none, none] [a, b, c] with
    | some (.rt r, _, s') => some (r, s')
    | some (.nx, _, s') => some (.d .none, s')
    | _ => none) := rfl
  rw [r]
  unfold m_law_pick
  rw [ev_mSeq, pk0 ha]
  dsimp only
  rw [ev_mSeq, pk1]
  dsimp only
  rw [ev_mSeq, e2]
  dsimp only
  rw [ev_mSeq, e3]
  dsimp only
  rw [e4]
theorem e_pick {l : Int} {s : Sto} {m : Nat} (v : Vs (m + 1) s) (h : 0 < l) (hl : l < 1099511627776) : ∃ d s', f_law_pick [.s, .d (.int l)] s = some (.d (.int d), s') ∧ 0 ≤ d ∧ d < l ∧ Vs m s' := by
  obtain ⟨a, b, c, rfl, h1, h2, h3, h4⟩ := v
  have l0 : l ≠ 0 := by omega
  by_cases ha : 0 < a
  · have p : Builtin.divisionGoesByPylong a l = false := pylong_of (lt_mono (a := 40) (lt40 (by omega) hl) (by decide))
    refine ⟨a % l, [a / l, b, c], ?_, Int.emod_nonneg _ l0, Int.emod_lt_of_pos _ h, a / l, b, c, rfl, h1, h2, h3, by omega⟩
    simp [f_law_pick, m_law_pick, ha, fDivmod, h, p, mPair, ixN, List.replicate_succ]
  · have f1 : ∀ i j : Int, 0 < j → Int.fmod i j = i % j := fun i j hj => Int.fmod_eq_emod_of_nonneg _ (by omega)
    have m1 : mulOk b 40692 = true := mulOk_of (a := 31) (b := 16) (by omega) (by decide) (by decide)
    have m2 : mulOk 15013 (c + 1) = true := mulOk_of (a := 14) (b := 41) (by decide) (by omega) (by decide)
    have x1 : 0 ≤ Int.fmod (b * 40692 + 15013 * (c + 1)) 2147483579 := by rw [f1 _ _ (by decide)]; exact Int.emod_nonneg _ (by decide)
    have x2 : Int.fmod (b * 40692 + 15013 * (c + 1)) 2147483579 < 2147483579 := by rw [f1 _ _ (by decide)]; exact Int.emod_lt_of_pos _ (by decide)
    have y := pk5 (a := a) l0 ha m1 m2
    generalize Int.fmod (b * 40692 + 15013 * (c + 1)) 2147483579 = x at *
    have y1 : 0 ≤ Int.fmod x 6007 := by rw [f1 _ _ (by decide)]; exact Int.emod_nonneg _ (by decide)
    have y2 : Int.fmod x 6007 < 6007 := by rw [f1 _ _ (by decide)]; exact Int.emod_lt_of_pos _ (by decide)
    have m3 : mulOk x (Int.fmod x 6007 + 20011) = true := mulOk_of (a := 31) (b := 16) (by omega) (by omega) (by decide)
    have z1 : 0 ≤ Int.fmod (x * (Int.fmod x 6007 + 20011) + (c + 1)) 2147483579 := by rw [f1 _ _ (by decide)]; exact Int.emod_nonneg _ (by decide)
    have z2 : Int.fmod (x * (Int.fmod x 6007 + 20011) + (c + 1)) 2147483579 < 2147483579 := by rw [f1 _ _ (by decide)]; exact Int.emod_lt_of_pos _ (by decide)
    have y' := y m3
    generalize Int.fmod (x * (Int.fmod x 6007 + 20011) + (c + 1)) 2147483579 = z at *
    have p : Builtin.divisionGoesByPylong z 1013 = false := pylong_of (lt_mono (a := 10) (by decide) (by decide))
    refine ⟨_, [a, z, c + 1], y' p, ?_, ?_, a, z, c + 1, rfl, z1, z2, by omega, by omega⟩
    · rw [f1 _ l h]; exact Int.emod_nonneg _ l0
    · rw [f1 _ l h]; exact Int.emod_lt_of_pos _ h
theorem e_any {xs : List PyData} {s : Sto} {m : Nat} (v : Vs (m + 1) s) (h : 0 < xs.length) (hl : xs.length < 1099511627776) : ∃ x ∈ xs, ∃ s', f_law_any_of [.s, .d (.tuple xs)] s = some (.d x, s') ∧ Vs m s' := by
  obtain ⟨d, s', e, h1, h2, v'⟩ := e_pick (l := (xs.length : Int)) v (by omega) (by omega)
  obtain ⟨x, hx, ex⟩ := atI_pick h1 h2
  refine ⟨x, hx, s', ?_, v'⟩
  simp [f_law_any_of, m_law_any_of, e, ex]
theorem e_part {s : Sto} {m : Nat} (v : Vs (m + 3) s) : ∃ q s', f_law_part [.s] s = some (.d (pF q), s') ∧ FrOk q ∧ 0 ≤ q.1 ∧ q.1 < q.2 ∧ FrLt 10 q ∧ Vs m s' := by
  obtain ⟨d, s1, e1, h1, h2, v1⟩ := e_pick (m := m + 2) (l := 9) v (by decide) (by decide)
  by_cases hd : d < 7
  · have key : ∀ d : Int, 0 ≤ d → d < 7 → ∃ q : Fr, atI [PyData.tuple [.int 1, .int 2], .tuple [.int 1, .int 2], .tuple [.int 1, .int 3], .tuple [.int 2, .int 3], .tuple [.int 3, .int 4], .tuple [.int 1, .int 4], .tuple [.int 0, .int 1]] d = some (pF q) ∧ FrOk q ∧ 0 ≤ q.1 ∧ q.1 < q.2 ∧ FrLt 10 q := by
      intro d h0 h7
      have : d = 0 ∨ d = 1 ∨ d = 2 ∨ d = 3 ∨ d = 4 ∨ d = 5 ∨ d = 6 := by omega
      rcases this with rfl | rfl | rfl | rfl | rfl | rfl | rfl
      · exact ⟨(1, 2), rfl, ⟨by decide, rfl⟩, by decide, by decide, ⟨by decide, by decide⟩⟩
      · exact ⟨(1, 2), rfl, ⟨by decide, rfl⟩, by decide, by decide, ⟨by decide, by decide⟩⟩
      · exact ⟨(1, 3), rfl, ⟨by decide, rfl⟩, by decide, by decide, ⟨by decide, by decide⟩⟩
      · exact ⟨(2, 3), rfl, ⟨by decide, rfl⟩, by decide, by decide, ⟨by decide, by decide⟩⟩
      · exact ⟨(3, 4), rfl, ⟨by decide, rfl⟩, by decide, by decide, ⟨by decide, by decide⟩⟩
      · exact ⟨(1, 4), rfl, ⟨by decide, rfl⟩, by decide, by decide, ⟨by decide, by decide⟩⟩
      · exact ⟨(0, 1), rfl, ⟨by decide, rfl⟩, by decide, by decide, ⟨by decide, by decide⟩⟩
    obtain ⟨q, eq, k1, k2, k3, k4⟩ := key d h1 hd
    refine ⟨q, s1, ?_, k1, k2, k3, k4, v1.mono (by omega)⟩
    simp [f_law_part, m_law_part, e1, hd, List.replicate_succ, sz2, le64, eq]
  · obtain ⟨u, s2, e2, h3, h4, v2⟩ := e_pick (m := m + 1) (l := 60) v1 (by decide) (by decide)
    obtain ⟨t, s3, e3, h5, h6, v3⟩ := e_pick (m := m) (l := 2 + u) v2 (by omega) (by omega)
    have ef := e_frac (t := t) (l := 2 + u) (s := s3) (by omega) (lt_mono (a := 6) (by omega) (by decide))
    refine ⟨nrm t (2 + u), s3, ?_, nrm_ok (by omega), ?_, ?_, nrm_lt (by omega) (by omega) (by omega), v3⟩
    · simp [f_law_part, m_law_part, e1, hd, List.replicate_succ, e2, e3, ef]
    · exact Int.ediv_nonneg h5 (Int.le_of_lt (gg_pos (by omega)))
    · have c := nrm_cross (a := t) (b := 2 + u) (by omega)
      have p := nrm_pos (a := t) (b := 2 + u) (by omega)
      by_cases q : (nrm t (2 + u)).1 < (nrm t (2 + u)).2
      · exact q
      · have q' : (nrm t (2 + u)).2 ≤ (nrm t (2 + u)).1 := by omega
        have a1 := Int.mul_le_mul_of_nonneg_right q' (show 0 ≤ 2 + u by omega)
        have a2 := Int.mul_lt_mul_of_pos_right h6 p
        rw [Int.mul_comm (2 + u)] at a2
        omega
end W2

/-! Pl9: what the law draws -/
namespace Dh
open PySem PySem.Spec L2
theorem rangeL_len (lo : Int) (n : Nat) : (rangeL lo n).length = n := by simp [rangeL]
def GoodFr (k : Nat) (q : Fr) : Prop := FrOk q ∧ FrLt k q
theorem sm64 {n : Nat} (h : n ≤ 64) : n < sizeLine := Nat.lt_of_le_of_lt h (by decide)
theorem mApp_ev {i : Nat} {a : Mx} {ρ : Ev} {s s1 : Sto} {r : R} {x : PyData} {xs : List PyData} (e : a ρ s = some (r, s1)) (hx : toD r = some x) (ho : ρ[i]? = some (some (.o xs))) (hl : xs.length < sizeLine) : mApp i a ρ s = some (.nx, ρ.set i (some (.o (xs ++ [x]))), s1) := by
  unfold mApp
  simp [e, hx, ho, hl]
end Dh
namespace W2
open PySem PySem.Spec L2 Dh
theorem sz3 : 3 ≤ sizeLine := by decide
theorem sz5 : 5 ≤ sizeLine := by decide
theorem e_gain {p : Int} {s : Sto} {m : Nat} {qs : List Fr} {c : Option Cl} (hl : qs.length < sizeLine) (v : Vs (m + 3) s) : ∃ q s', (mIfS (bT (m2 (fEq false) (mCall f_law_pick (maCons (mVar 0) (maCons (mKon (.int 14)) maNil))) (mKon (.int 13))))
    (mApp 2 (mCall f_law_frac (maCons (m2 (fI gMns) (mCall f_law_pick (maCons (mVar 0) (maCons (mKon (.int 20000001)) maNil))) (mKon (.int 10000000))) (maCons (m2 fAdd (mKon (.int 1)) (mCall f_law_pick (maCons (mVar 0) (maCons (mKon (.int 60)) maNil)))) maNil))))
    (mApp 2 (mCall f_law_frac (maCons (m2 (fI gMns) (mCall f_law_pick (maCons (mVar 0) (maCons (mKon (.int 8)) maNil))) (mKon (.int 3))) (maCons (mCall f_law_any_of (maCons (mVar 0) (maCons (mA fTup (maCons (mKon (.int 1)) (maCons (mKon (.int 1)) (maCons (mKon (.int 1)) (maCons (mKon (.int 2)) (maCons (mKon (.int 3)) maNil)))))) maNil))) maNil)))))
    [some .s, some (.d (.int p)), some (.o (qs.map pF)), c] s = some (.nx, [some .s, some (.d (.int p)), some (.o ((qs ++ [q]).map pF)), c], s') ∧ FrOk q ∧ FrLt 25 q ∧ Vs m s' := by
  obtain ⟨d, s1, e1, h1, h2, v1⟩ := e_pick (m := m + 2) (l := 14) v (by decide) (by decide)
  by_cases hd : d = 13
  · obtain ⟨u, s2, e2, h3, h4, v2⟩ := e_pick (m := m + 1) (l := 20000001) v1 (by decide) (by decide)
    obtain ⟨t, s3, e3, h5, h6, v3⟩ := e_pick (m := m) (l := 60) v2 (by decide) (by decide)
    have ef := e_frac (t := u - 10000000) (l := 1 + t) (s := s3) (by omega) (lt_mono (a := 6) (by omega) (by decide))
    refine ⟨nrm (u - 10000000) (1 + t), s3, ?_, nrm_ok (by omega), nrm_lt (by omega) (by omega) (by omega), v3⟩
    have ea := mApp_ev (i := 2) (ρ := [some .s, some (.d (.int p)), some (.o (qs.map pF)), c]) (s := s1) (a := mCall f_law_frac (maCons (m2 (fI gMns) (mCall f_law_pick (maCons (mVar 0) (maCons (mKon (.int 20000001)) maNil))) (mKon (.int 10000000))) (maCons (m2 fAdd (mKon (.int 1)) (mCall f_law_pick (maCons (mVar 0) (maCons (mKon (.int 60)) maNil)))) maNil))) (xs := qs.map pF) (s1 := s3) (by simp [e2, e3, ef]; rfl) rfl rfl (by simpa using hl)
    simp [e1, hd, ea]
  · obtain ⟨u, s2, e2, h3, h4, v2⟩ := e_pick (m := m + 1) (l := 8) v1 (by decide) (by decide)
    obtain ⟨x, hx, s3, e3, v3⟩ := e_any (m := m) (xs := [.int 1, .int 1, .int 1, .int 2, .int 3]) v2 (by decide) (by decide)
    have hxi : ∃ t : Int, x = .int t ∧ 1 ≤ t ∧ t ≤ 3 := by
      simp at hx
      rcases hx with rfl | rfl | rfl
      · exact ⟨1, rfl, by decide, by decide⟩
      · exact ⟨2, rfl, by decide, by decide⟩
      · exact ⟨3, rfl, by decide, by decide⟩
    obtain ⟨t, rfl, h5, h6⟩ := hxi
    have ef := e_frac (t := u - 3) (l := t) (s := s3) (by omega) (lt_mono (a := 6) (by omega) (by decide))
    refine ⟨nrm (u - 3) t, s3, ?_, nrm_ok (by omega), nrm_lt (by omega) (by omega) (by omega), v3⟩
    have ea := mApp_ev (i := 2) (ρ := [some .s, some (.d (.int p)), some (.o (qs.map pF)), c]) (s := s1) (a := mCall f_law_frac (maCons (m2 (fI gMns) (mCall f_law_pick (maCons (mVar 0) (maCons (mKon (.int 8)) maNil))) (mKon (.int 3))) (maCons (mCall f_law_any_of (maCons (mVar 0) (maCons (mA fTup (maCons (mKon (.int 1)) (maCons (mKon (.int 1)) (maCons (mKon (.int 1)) (maCons (mKon (.int 2)) (maCons (mKon (.int 3)) maNil)))))) maNil))) maNil))) (xs := qs.map pF) (s1 := s3) (by simp [e2, e3, ef, sz5]; rfl) rfl rfl (by simpa using hl)
    simp [e1, hd, ea]
theorem e_gains {p : Int} {s : Sto} {m : Nat} (h0 : 0 ≤ p) (h5 : p ≤ 5) (v : Vs (m + 15) s) : ∃ (qs : List Fr) (s' : Sto), f_law_gains [.s, .d (.int p)] s = some (.d (.tuple (qs.map pF)), s') ∧ (qs.length : Int) = p ∧ (∀ q ∈ qs, FrOk q ∧ FrLt 25 q) ∧ Vs m s' := by
  obtain ⟨ρ', s', e, ⟨qs, c, rfl, hlen, hq⟩, v'⟩ := for_inv (g := gN 3) (body :=
    (mIfS (bT (m2 (fEq false) (mCall f_law_pick (maCons (mVar 0) (maCons (mKon (.int 14)) maNil))) (mKon (.int 13))))
    (mApp 2 (mCall f_law_frac (maCons (m2 (fI gMns) (mCall f_law_pick (maCons (mVar 0) (maCons (mKon (.int 20000001)) maNil))) (mKon (.int 10000000))) (maCons (m2 fAdd (mKon (.int 1)) (mCall f_law_pick (maCons (mVar 0) (maCons (mKon (.int 60)) maNil)))) maNil))))
    (mApp 2 (mCall f_law_frac (maCons (m2 (fI gMns) (mCall f_law_pick (maCons (mVar 0) (maCons (mKon (.int 8)) maNil))) (mKon (.int 3))) (maCons (mCall f_law_any_of (maCons (mVar 0) (maCons (mA fTup (maCons (mKon (.int 1)) (maCons (mKon (.int 1)) (maCons (mKon (.int 1)) (maCons (mKon (.int 2)) (maCons (mKon (.int 3)) maNil)))))) maNil))) maNil))))))
    (k := 3) (fun j ρ => ∃ (qs : List Fr) (c : Option Cl), ρ = [some .s, some (.d (.int p)), some (.o (qs.map pF)), c] ∧ qs.length = j ∧ ∀ q ∈ qs, FrOk q ∧ FrLt 25 q)
    (rangeL 0 p.toNat) 0 [some .s, some (.d (.int p)), some (.o []), none] s m rfl ⟨[], none, rfl, rfl, by simp⟩ (v.mono (by rw [rangeL_len]; omega)) (by
      rintro x hx j ρ s m hN ⟨qs, c, rfl, hj, hq⟩ v
      rw [rangeL_len] at hN
      obtain ⟨q, s', e, k1, k2, v'⟩ := e_gain (p := p) (c := some (.d x)) (show qs.length < sizeLine from sm64 (by omega)) v
      refine ⟨_, _, s', rfl, e, ⟨qs ++ [q], some (.d x), rfl, by rw [List.length_append, hj]; rfl, fun z hz => ?_⟩, v'⟩
      rcases List.mem_append.mp hz with hz | hz
      · exact hq z hz
      · obtain rfl := List.mem_singleton.mp hz
        exact ⟨k1, k2⟩)
  rw [Nat.zero_add, rangeL_len] at hlen
  refine ⟨qs, s', ?_, by omega, hq, v'⟩
  have hr : -(2 ^ 62) ≤ p ∧ p < 2 ^ 62 := ⟨by omega, by omega⟩
  simp [f_law_gains, m_law_gains, List.replicate_succ, range1]
  simp [show -4611686018427387904 ≤ p by omega, show p < 4611686018427387904 by omega, e]
end W2

/-! Pl10: parts, chances, odds -/
namespace Dh
open PySem PySem.Spec L2
theorem intsOf_map : ∀ ns : List Int, intsOf (ns.map .int) = some ns
  | [] => rfl
  | n :: r => by
    show (intsOf (r.map .int)).map (n :: ·) = _
    rw [intsOf_map r]
    rfl
@[simp] theorem ev_fSumB {ns : List Int} : fSum [.b (ns.map .int)] = some (.d (.int ns.sum)) := by
  show (intsOf _).map _ = _
  rw [intsOf_map]
  rfl
@[simp] theorem ev_fSumD {ns : List Int} : fSum [.d (.list (ns.map .int))] = some (.d (.int ns.sum)) := by
  show (intsOf _).map _ = _
  rw [intsOf_map]
  rfl
def Parts (ns : List Int) : Prop := ∀ n ∈ ns, 0 ≤ n ∧ n ≤ 43
theorem sum_nn : ∀ {ns : List Int}, Parts ns → 0 ≤ ns.sum ∧ ns.sum ≤ 43 * ns.length
  | [], _ => by simp
  | n :: r, h => by
    have a := h n List.mem_cons_self
    have b := sum_nn (ns := r) fun x hx => h x (List.mem_cons_of_mem _ hx)
    rw [List.sum_cons, List.length_cons]
    omega
theorem sum_set : ∀ {ns : List Int} {j : Nat}, Parts ns → j < ns.length → 0 < (ns.set j 1).sum
  | [], _, _, h => by simp at h
  | n :: r, 0, h, _ => by
    have b := sum_nn (ns := r) fun x hx => h x (List.mem_cons_of_mem _ hx)
    rw [List.set_cons_zero, List.sum_cons]
    omega
  | n :: r, j + 1, h, hj => by
    have a := h n List.mem_cons_self
    have b := sum_set (ns := r) (j := j) (fun x hx => h x (List.mem_cons_of_mem _ hx)) (by rw [List.length_cons] at hj; omega)
    rw [List.set_cons_succ, List.sum_cons]
    omega
theorem parts_set {ns : List Int} {j : Nat} (h : Parts ns) : Parts (ns.set j 1) := fun n hn => by
  rcases List.mem_or_eq_of_mem_set hn with hn | rfl
  · exact h n hn
  · exact ⟨by decide, by decide⟩
end Dh
namespace W2
open PySem PySem.Spec L2 Dh
theorem sz12 : 12 ≤ sizeLine := by decide
theorem e_part1 {w : Int} {s : Sto} {m : Nat} {ns : List Int} {c d : Option Cl} (hl : ns.length < sizeLine) (v : Vs (m + 2) s) : ∃ (n : Int) (x : Option Cl) (s' : Sto), (mSeq (mSet 4 (mCall f_law_pick (maCons (mVar 0) (maCons (mKon (.int 13)) maNil))))
    (mApp 2 (mIf (bT (m2 (fI gLt) (mVar 4) (mKon (.int 12)))) (mIx (mA fTup (maCons (mKon (.int 0)) (maCons (mKon (.int 1)) (maCons (mKon (.int 0)) (maCons (mKon (.int 1)) (maCons (mKon (.int 2)) (maCons (mKon (.int 0)) (maCons (mKon (.int 1)) (maCons (mKon (.int 3)) (maCons (mKon (.int 0)) (maCons (mKon (.int 1)) (maCons (mKon (.int 2)) (maCons (mKon (.int 0)) maNil))))))))))))) (mVar 4)) (m2 fAdd (mKon (.int 4)) (mCall f_law_pick (maCons (mVar 0) (maCons (mKon (.int 40)) maNil)))))))
    [some .s, some (.d (.int w)), some (.o (ns.map .int)), c, d] s = some (.nx, [some .s, some (.d (.int w)), some (.o ((ns ++ [n]).map .int)), c, x], s') ∧ 0 ≤ n ∧ n ≤ 43 ∧ Vs m s' := by
  obtain ⟨u, s1, e1, h1, h2, v1⟩ := e_pick (m := m + 1) (l := 13) v (by decide) (by decide)
  by_cases hu : u < 12
  · obtain ⟨x, hx, ex⟩ := atI_pick (xs := [PyData.int 0, .int 1, .int 0, .int 1, .int 2, .int 0, .int 1, .int 3, .int 0, .int 1, .int 2, .int 0]) h1 hu
    have hxi : ∃ t : Int, x = .int t ∧ 0 ≤ t ∧ t ≤ 43 := by
      simp at hx
      rcases hx with rfl | rfl | rfl | rfl | rfl | rfl | rfl | rfl | rfl | rfl | rfl | rfl <;> exact ⟨_, rfl, by decide, by decide⟩
    obtain ⟨t, rfl, h5, h6⟩ := hxi
    refine ⟨t, some (.d (.int u)), s1, ?_, h5, h6, v1.mono (by omega)⟩
    have hl' : (ns.map PyData.int).length < sizeLine := by simpa using hl
    simp [e1, mApp, hu, sz12, ex, hl]
  · obtain ⟨t, s2, e2, h3, h4, v2⟩ := e_pick (m := m) (l := 40) v1 (by decide) (by decide)
    refine ⟨4 + t, some (.d (.int u)), s2, ?_, by omega, by omega, v2⟩
    simp [e1, mApp, hu, e2, hl]
theorem e_parts {w : Int} {s : Sto} {m : Nat} (h0 : 1 ≤ w) (h9 : w ≤ 9) (v : Vs (m + 19) s) : ∃ (ns : List Int) (s' : Sto), f_law_parts [.s, .d (.int w)] s = some (.f (ns.map .int), s') ∧ (ns.length : Int) = w ∧ Parts ns ∧ 0 < ns.sum ∧ Vs m s' := by
  obtain ⟨ρ', s1, e, ⟨ns, c, d, rfl, hlen, hq⟩, v1⟩ := for_inv (g := gN 3) (body := (mSeq (mSet 4 (mCall f_law_pick (maCons (mVar 0) (maCons (mKon (.int 13)) maNil))))
    (mApp 2 (mIf (bT (m2 (fI gLt) (mVar 4) (mKon (.int 12)))) (mIx (mA fTup (maCons (mKon (.int 0)) (maCons (mKon (.int 1)) (maCons (mKon (.int 0)) (maCons (mKon (.int 1)) (maCons (mKon (.int 2)) (maCons (mKon (.int 0)) (maCons (mKon (.int 1)) (maCons (mKon (.int 3)) (maCons (mKon (.int 0)) (maCons (mKon (.int 1)) (maCons (mKon (.int 2)) (maCons (mKon (.int 0)) maNil))))))))))))) (mVar 4)) (m2 fAdd (mKon (.int 4)) (mCall f_law_pick (maCons (mVar 0) (maCons (mKon (.int 40)) maNil))))))))
    (k := 2) (fun j ρ => ∃ (ns : List Int) (c d : Option Cl), ρ = [some .s, some (.d (.int w)), some (.o (ns.map .int)), c, d] ∧ ns.length = j ∧ Parts ns)
    (rangeL 0 w.toNat) 0 [some .s, some (.d (.int w)), some (.o []), none, none] s (m + 1) rfl ⟨[], none, none, rfl, rfl, fun _ h => by simp at h⟩ (v.mono (by rw [rangeL_len]; omega)) (by
      rintro x hx j ρ s m hN ⟨ns, c, d, rfl, hj, hq⟩ v
      rw [rangeL_len] at hN
      obtain ⟨n, y, s', e, k1, k2, v'⟩ := e_part1 (w := w) (c := some (.d x)) (d := d) (show ns.length < sizeLine from sm64 (by omega)) v
      refine ⟨_, _, s', rfl, e, ⟨ns ++ [n], some (.d x), y, rfl, by rw [List.length_append, hj]; rfl, fun z hz => ?_⟩, v'⟩
      rcases List.mem_append.mp hz with hz | hz
      · exact hq z hz
      · obtain rfl := List.mem_singleton.mp hz
        exact ⟨k1, k2⟩)
  rw [Nat.zero_add, rangeL_len] at hlen
  have hs := sum_nn hq
  by_cases h : ns.sum = 0
  · obtain ⟨t, s2, e2, h3, h4, v2⟩ := e_pick (m := m) (l := w) v1 (by omega) (by omega)
    obtain ⟨k, rfl⟩ := Int.eq_ofNat_of_zero_le h3
    have hk : k < ns.length := by omega
    refine ⟨ns.set k 1, s2, ?_, by rw [List.length_set]; omega, parts_set hq, sum_set hq hk, v2⟩
    have hix : ixN ns.length (k : Int) = some k := by
      unfold ixN
      rw [if_pos (by omega), if_pos (by omega)]
      simp
    simp [f_law_parts, m_law_parts, List.replicate_succ, range1, show -4611686018427387904 ≤ w by omega, show w < 4611686018427387904 by omega, e, h, mPut, e2, hix, List.map_set]
  · refine ⟨ns, s1, ?_, by omega, hq, by omega, v1.mono (by omega)⟩
    simp [f_law_parts, m_law_parts, List.replicate_succ, range1, show -4611686018427387904 ≤ w by omega, show w < 4611686018427387904 by omega, e, h]
end W2

/-! Pl11: clean data; chances, odds -/
namespace Dh
open PySem PySem.Spec L2
def cl (L B : Nat) : Nat → PyData → Bool
  | 0, _ => false
  | _ + 1, .int i => decide (i.natAbs < 2 ^ B)
  | n + 1, .tuple xs => decide (xs.length ≤ L) && xs.all (cl L B n)
  | n + 1, .list xs => decide (xs.length ≤ L) && xs.all (cl L B n)
  | _ + 1, _ => false
theorem cl_tup {L B n : Nat} {xs : List PyData} (h1 : xs.length ≤ L) (h2 : ∀ x ∈ xs, cl L B n x = true) : cl L B (n + 1) (.tuple xs) = true := by
  simp only [cl, decide_eq_true h1, Bool.true_and, List.all_eq_true]
  exact h2
theorem cl_tup_of {L B n : Nat} {xs : List PyData} (h : cl L B (n + 1) (.tuple xs) = true) : xs.length ≤ L ∧ ∀ x ∈ xs, cl L B n x = true := by
  simpa [cl] using h
theorem cl_list_of {L B n : Nat} {xs : List PyData} (h : cl L B (n + 1) (.list xs) = true) : xs.length ≤ L ∧ ∀ x ∈ xs, cl L B n x = true := by
  simpa [cl] using h
theorem cl_int {L B n : Nat} {i : Int} (h : i.natAbs < 2 ^ B) : cl L B (n + 1) (.int i) = true := by
  simp [cl, h]
theorem cl_pF {L B n : Nat} {q : Fr} (hL : 2 ≤ L) (h : FrLt B q) : cl L B (n + 2) (pF q) = true :=
  cl_tup hL fun x hx => by
    simp at hx
    rcases hx with rfl | rfl
    · exact cl_int h.1
    · exact cl_int h.2
theorem cl_up {L B : Nat} : ∀ {n : Nat} {x : PyData}, cl L B n x = true → cl L B (n + 1) x = true
  | 0, x, h => by simp [cl] at h
  | n + 1, x, h => by
    cases x with
    | tuple xs => exact cl_tup (cl_tup_of h).1 fun y hy => cl_up ((cl_tup_of h).2 y hy)
    | list xs =>
      have a := cl_list_of h
      show (decide (xs.length ≤ L) && xs.all (cl L B (n + 1))) = true
      simp only [decide_eq_true a.1, Bool.true_and, List.all_eq_true]
      exact fun y hy => cl_up (a.2 y hy)
    | int i => simpa [cl] using h
    | none => simp [cl] at h
    | bool b => simp [cl] at h
    | str x => simp [cl] at h
    | dict d => simp [cl] at h
theorem cl_le {L B n k : Nat} {x : PyData} (h : cl L B n x = true) (hk : n ≤ k) : cl L B k x = true := by
  induction hk with
  | refl => exact h
  | step _ ih => exact cl_up ih
theorem cl_sz {L B : Nat} (hL : L ≤ 64) (hB : B ≤ 40) : ∀ {n : Nat} {x : PyData}, cl L B n x = true → sz n x = true
  | 0, x, h => by simp [cl] at h
  | n + 1, x, h => by
    cases x with
    | tuple xs =>
      have a := cl_tup_of h
      simp only [sz, decide_eq_true (Nat.le_trans a.1 hL), Bool.true_and, List.all_eq_true]
      exact fun y hy => cl_sz hL hB (a.2 y hy)
    | list xs =>
      have a := cl_list_of h
      simp only [sz, decide_eq_true (Nat.le_trans a.1 hL), Bool.true_and, List.all_eq_true]
      exact fun y hy => cl_sz hL hB (a.2 y hy)
    | int i =>
      have a : i.natAbs < 2 ^ B := by simpa [cl] using h
      simp only [sz, decide_eq_true (lt_mono a hB)]
    | none => simp [cl] at h
    | bool b => simp [cl] at h
    | str x => simp [cl] at h
    | dict d => simp [cl] at h
theorem noDicts_all : ∀ xs : List PyData, (∀ x ∈ xs, noDict x = true) → noDicts xs = true
  | [], _ => by simp [noDicts]
  | x :: xs, h => by
    simp only [noDicts, h x List.mem_cons_self, Bool.true_and]
    exact noDicts_all xs fun y hy => h y (List.mem_cons_of_mem _ hy)
theorem canLayAll_all : ∀ xs : List PyData, (∀ x ∈ xs, PyData.canLay0 x = true) → PyData.canLayAll0 xs = true
  | [], _ => by simp [PyData.canLayAll0]
  | x :: xs, h => by
    simp only [PyData.canLayAll0, h x List.mem_cons_self, Bool.true_and]
    exact canLayAll_all xs fun y hy => h y (List.mem_cons_of_mem _ hy)
theorem depthAll_le {k : Nat} : ∀ xs : List PyData, (∀ x ∈ xs, PyData.depth x ≤ k) → PyData.depthAll xs ≤ k
  | [], _ => by simp [PyData.depthAll]
  | x :: xs, h => by
    simp only [PyData.depthAll]
    exact Nat.max_le.mpr ⟨h x List.mem_cons_self, depthAll_le xs fun y hy => h y (List.mem_cons_of_mem _ hy)⟩
theorem showAll_all : ∀ xs : List PyData, (∀ x ∈ xs, PyData.showable x = true) → PyData.showableAll xs = true
  | [], _ => by simp [PyData.showableAll]
  | x :: xs, h => by
    simp only [PyData.showableAll, h x List.mem_cons_self, Bool.true_and]
    exact showAll_all xs fun y hy => h y (List.mem_cons_of_mem _ hy)
theorem shortAll_all {B : Nat} : ∀ xs : List PyData, (∀ x ∈ xs, PyData.leavesShort B x = true) → PyData.leavesShortAll B xs = true
  | [], _ => by simp [PyData.leavesShortAll]
  | x :: xs, h => by
    simp only [PyData.leavesShortAll, h x List.mem_cons_self, Bool.true_and]
    exact shortAll_all xs fun y hy => h y (List.mem_cons_of_mem _ hy)
theorem int_text {i : Int} {B : Nat} (hB : 0 < B) (h : i.natAbs < 2 ^ B) : (PyData.shown (.int i)).length ≤ B + 1 := by
  have hl : i.natAbs.log2 < B := by
    by_cases z : i.natAbs = 0
    · rw [z]; simpa using hB
    · exact (Nat.log2_lt z).mpr h
  have e := int_text_length_le (a := i) hB hl
  show (Str.ofString (toString i)).length ≤ B + 1
  rw [ofString_length]
  exact e
/-- all that a clean datum is -/
structure Clean (B k : Nat) (x : PyData) : Prop where
  nd : noDict x = true
  lay : PyData.canLay0 x = true
  dep : PyData.depth x ≤ k
  sh : PyData.showable x = true
  short : PyData.leavesShort (B + 1) x = true
theorem cl_clean {L B : Nat} (hB : 0 < B) (hB2 : B ≤ 1000) : ∀ {n : Nat} {x : PyData}, cl L B n x = true → Clean B n x
  | 0, x, h => by simp [cl] at h
  | n + 1, x, h => by
    cases x with
    | tuple xs =>
      have a := (cl_tup_of h).2
      have c := fun y hy => cl_clean hB hB2 (a y hy)
      refine ⟨?_, ?_, ?_, ?_, ?_⟩
      · simp only [noDict]; exact noDicts_all xs fun y hy => (c y hy).nd
      · simp only [PyData.canLay0]; exact canLayAll_all xs fun y hy => (c y hy).lay
      · simp only [PyData.depth]; exact Nat.succ_le_succ (depthAll_le xs fun y hy => (c y hy).dep)
      · simp only [PyData.showable]; exact showAll_all xs fun y hy => (c y hy).sh
      · simp only [PyData.leavesShort]; exact shortAll_all xs fun y hy => (c y hy).short
    | list xs =>
      have a := (cl_list_of h).2
      have c := fun y hy => cl_clean hB hB2 (a y hy)
      refine ⟨?_, ?_, ?_, ?_, ?_⟩
      · simp only [noDict]; exact noDicts_all xs fun y hy => (c y hy).nd
      · simp only [PyData.canLay0]; exact canLayAll_all xs fun y hy => (c y hy).lay
      · simp only [PyData.depth]; exact Nat.succ_le_succ (depthAll_le xs fun y hy => (c y hy).dep)
      · simp only [PyData.showable]; exact showAll_all xs fun y hy => (c y hy).sh
      · simp only [PyData.leavesShort]; exact shortAll_all xs fun y hy => (c y hy).short
    | int i =>
      have a : i.natAbs < 2 ^ B := by simpa [cl] using h
      have hl : i.natAbs.log2 < 1920 := by
        by_cases z : i.natAbs = 0
        · rw [z]; decide
        · have := (Nat.log2_lt z).mpr a
          omega
      exact ⟨rfl, rfl, Nat.zero_le _, by simp only [PyData.showable, decide_eq_true hl], by simp only [PyData.leavesShort, decide_eq_true (int_text hB a)]⟩
    | none => simp [cl] at h
    | bool b => simp [cl] at h
    | str x => simp [cl] at h
    | dict d => simp [cl] at h
theorem weightAll_le {k : Nat} : ∀ xs : List PyData, (∀ x ∈ xs, PyData.weight x ≤ k) → PyData.weightAll xs ≤ xs.length * (k + 1)
  | [], _ => by simp [PyData.weightAll]
  | x :: xs, h => by
    have a := h x List.mem_cons_self
    have b := weightAll_le xs fun y hy => h y (List.mem_cons_of_mem _ hy)
    simp only [PyData.weightAll, List.length_cons, Nat.add_mul]
    omega
theorem weight_int {i : Int} {B : Nat} (h : i.natAbs < 2 ^ B) : PyData.weight (.int i) ≤ B := by
  show (if i == 0 then 0 else i.natAbs.log2 + 1) ≤ B
  split
  · exact Nat.zero_le _
  · rename_i q
    have z : i.natAbs ≠ 0 := fun z => q (by simpa using z)
    have := (Nat.log2_lt z).mpr h
    omega
theorem weight_pF {q : Fr} {B : Nat} (h : FrLt B q) : PyData.weight (pF q) ≤ 2 * B + 2 := by
  have a := weight_int h.1
  have b := weight_int h.2
  simp only [pF, PyData.weight, PyData.weightAll] at a b ⊢
  omega
/-! sums of parts -/
theorem nrm0 {S : Int} (h : 0 < S) : nrm 0 S = (0, 1) := by
  have e : gg 0 S = S := by
    unfold gg
    simp
    omega
  unfold nrm
  rw [e, Int.zero_ediv, Int.ediv_self (by omega)]
theorem nrm1 {S : Int} (h : 0 < S) : nrm S S = (1, 1) := by
  have e : gg S S = S := by
    unfold gg
    simp
    omega
  unfold nrm
  rw [e, Int.ediv_self (by omega)]
theorem fold_parts {S : Int} (h : 0 < S) : ∀ (ns : List Int) (a : Int), (ns.map fun n => nrm n S).foldl fpl (nrm a S) = nrm (a + ns.sum) S
  | [], a => by simp
  | n :: r, a => by
    rw [List.map_cons, List.foldl_cons, fpl_nrm h, fold_parts h r, List.sum_cons, Int.add_assoc]
theorem tot_parts {ns : List Int} (h : 0 < ns.sum) : ftot (ns.map fun n => nrm n ns.sum) = (1, 1) := by
  unfold ftot
  rw [← nrm0 h, fold_parts h, Int.zero_add, nrm1 h]
def chL (S : Int) : Nat → List Int → List (Int × Fr)
  | _, [] => []
  | i, n :: r => if 0 < n then ((i : Int), nrm n S) :: chL S (i + 1) r else chL S (i + 1) r
def pCh (c : Int × Fr) : PyData := .tuple [.int c.1, pF c.2]
theorem chL_len (S : Int) : ∀ (ns : List Int) (i : Nat), (chL S i ns).length ≤ ns.length
  | [], i => by simp [chL]
  | n :: r, i => by
    have := chL_len S r (i + 1)
    unfold chL
    split
    · simp; exact this
    · simp; omega
theorem chL_mem {S : Int} : ∀ {ns : List Int} {i : Nat} {c : Int × Fr}, c ∈ chL S i ns → (i : Int) ≤ c.1 ∧ c.1 < i + ns.length ∧ ∃ n ∈ ns, 0 < n ∧ c.2 = nrm n S
  | [], i, c, h => by simp [chL] at h
  | n :: r, i, c, h => by
    unfold chL at h
    rw [List.length_cons]
    split at h
    · rename_i hn
      rcases List.mem_cons.mp h with rfl | h
      · exact ⟨by simp, by simp; omega, n, List.mem_cons_self, hn, rfl⟩
      · obtain ⟨h1, h2, m, hm, h3⟩ := chL_mem h
        exact ⟨by omega, by omega, m, List.mem_cons_of_mem _ hm, h3⟩
    · obtain ⟨h1, h2, m, hm, h3⟩ := chL_mem h
      exact ⟨by omega, by omega, m, List.mem_cons_of_mem _ hm, h3⟩
theorem chL_incr {S : Int} : ∀ (ns : List Int) (i : Nat) (l : Int), l < i → incrAt l ((chL S i ns).map (·.1)) = true
  | [], i, l, _ => by simp [chL, incrAt]
  | n :: r, i, l, h => by
    unfold chL
    split
    · rw [List.map_cons]
      simp only [incrAt, decide_eq_true h, Bool.true_and]
      exact chL_incr r (i + 1) i (by omega)
    · exact chL_incr r (i + 1) l (by omega)
theorem chL_fold {S : Int} (h : 0 < S) : ∀ (ns : List Int) (i : Nat) (a : Int), (∀ n ∈ ns, 0 ≤ n) → ((chL S i ns).map (·.2)).foldl fpl (nrm a S) = nrm (a + ns.sum) S
  | [], i, a, _ => by simp [chL]
  | n :: r, i, a, hn => by
    have h0 := hn n List.mem_cons_self
    have hr := fun x hx => hn x (List.mem_cons_of_mem _ hx)
    unfold chL
    rw [List.sum_cons]
    split
    · rw [List.map_cons, List.foldl_cons, fpl_nrm h, chL_fold h r (i + 1) _ hr, Int.add_assoc]
    · rename_i q
      have : n = 0 := by omega
      rw [chL_fold h r (i + 1) a hr, this, Int.zero_add]
theorem areCh_chL {ns : List Int} (hp : Parts ns) (h : 0 < ns.sum) : areCh (.tuple ((chL ns.sum 0 ns).map pCh)) (ns.length : Int) = true := by
  have a : ((chL ns.sum 0 ns).map pCh).all (isCh (ns.length : Int)) = true := by
    rw [List.all_map, List.all_eq_true]
    intro c hc
    obtain ⟨h1, h2, n, hn, h3, h4⟩ := chL_mem hc
    have f : isFr (pF c.2) = true := by rw [h4]; exact isFr_pF.mpr (nrm_ok h)
    have e : frOf (pF c.2) = c.2 := rfl
    have g : 0 < c.2.1 := by
      rw [h4]
      exact Int.ediv_pos_of_pos_of_dvd h3 (Int.le_of_lt (gg_pos (by omega))) (gg_dvd1 _ _)
    have i1 : 0 ≤ c.1 := by omega
    have i2 : c.1 ≤ (ns.length : Int) - 1 := by omega
    simp only [Function.comp, pCh, isCh, f, e, decide_eq_true i1, decide_eq_true i2, decide_eq_true g, Bool.and_self]
  have b : (((chL ns.sum 0 ns).map pCh).map chI) = (chL ns.sum 0 ns).map (·.1) := by rw [List.map_map]; rfl
  have c : (((chL ns.sum 0 ns).map pCh).map chF) = (chL ns.sum 0 ns).map (·.2) := by rw [List.map_map]; rfl
  have d : ftot ((chL ns.sum 0 ns).map (·.2)) = (1, 1) := by
    unfold ftot
    rw [← nrm0 h, chL_fold h ns 0 0 (fun n hn => (hp n hn).1), Int.zero_add, nrm1 h]
  have e : incr ((chL ns.sum 0 ns).map (·.1)) = true := by
    have := chL_incr (S := ns.sum) ns 0 (-1) (by decide)
    cases hq : (chL ns.sum 0 ns).map (·.1) with
    | nil => rfl
    | cons x r =>
      rw [hq] at this
      rw [incr_at]
      simp only [incrAt, Bool.and_eq_true] at this
      exact this.2
  show (((chL ns.sum 0 ns).map pCh).all (isCh (ns.length : Int)) && (incr (((chL ns.sum 0 ns).map pCh).map chI) && isOne (ftot (((chL ns.sum 0 ns).map pCh).map chF)))) = true
  rw [a, b, c, d, e]
  rfl
theorem isOdds_parts {ns : List Int} (hp : Parts ns) (h : 0 < ns.sum) : isOdds (.tuple ((ns.map fun n => nrm n ns.sum).map pF)) (ns.length : Int) = true := by
  have a : ((ns.map fun n => nrm n ns.sum).map pF).all isFr = true := by
    rw [List.all_map, List.all_map, List.all_eq_true]
    intro n hn
    exact isFr_pF.mpr (nrm_ok h)
  have b : (((ns.map fun n => nrm n ns.sum).map pF).all fun x => decide (0 ≤ (frOf x).1)) = true := by
    rw [List.all_map, List.all_map, List.all_eq_true]
    intro n hn
    exact decide_eq_true (Int.ediv_nonneg (hp n hn).1 (Int.le_of_lt (gg_pos (by omega))))
  have c : (((ns.map fun n => nrm n ns.sum).map pF).map frOf) = ns.map fun n => nrm n ns.sum := by rw [List.map_map]; exact List.map_id' _
  show ((decide ((((ns.map fun n => nrm n ns.sum).map pF).length : Int) = (ns.length : Int)) && ((ns.map fun n => nrm n ns.sum).map pF).all isFr) && ((((ns.map fun n => nrm n ns.sum).map pF).all fun x => decide (0 ≤ (frOf x).1)) && isOne (ftot (((ns.map fun n => nrm n ns.sum).map pF).map frOf)))) = true
  rw [a, b, c, tot_parts h, List.length_map, List.length_map]
  simp [isOne]
end Dh

/-! Pl12: deeds, houses that are drawn -/
namespace W2
open PySem PySem.Spec L2 Dh
theorem part_lt {ns : List Int} (hp : Parts ns) (hl : ns.length ≤ 9) (h : 0 < ns.sum) {n : Int} (hn : n ∈ ns) : FrOk (nrm n ns.sum) ∧ FrLt 10 (nrm n ns.sum) := by
  have a := hp n hn
  have b := (sum_nn hp).2
  exact ⟨nrm_ok h, nrm_lt h (by omega) (by omega)⟩
theorem at_pre {pre r : List Int} {n : Int} : atI ((pre ++ n :: r).map PyData.int) ((pre.length : Nat) : Int) = some (.int n) := by
  rw [atI_ofNat (by simp)]
  simp
theorem ch_lc {ns : List Int} (hp : Parts ns) (hl : ns.length ≤ 9) (h : 0 < ns.sum) (w : Option Cl) (s : Sto) : ∀ (r pre : List Int), ns = pre ++ r →
    lcRun [3] (gN 3) (bT (m2 (fI gGt) (mIx (mVar 2) (mVar 3)) (mKon (.int 0)))) (mA fTup (maCons (mVar 3) (maCons (mCall f_law_frac (maCons (mIx (mVar 2) (mVar 3)) (maCons (mA fSum (maCons (mVar 2) maNil)) maNil))) maNil)))
      ((List.range' pre.length r.length).map fun i => PyData.int (0 + (i : Nat))) [some .s, w, some (.o (ns.map .int)), none] s = some ((chL ns.sum pre.length r).map pCh, s)
  | [], pre, e => by simp [chL]
  | n :: r, pre, e => by
    have ih := ch_lc hp hl h w s r (pre ++ [n]) (by rw [e]; simp)
    have hn : n ∈ ns := by rw [e]; simp
    have hs := (sum_nn hp).2
    have e1 : atI (ns.map PyData.int) ((pre.length : Nat) : Int) = some (.int n) := by rw [e]; exact at_pre
    have ef := e_frac (t := n) (l := ns.sum) (s := s) h (lt_mono (a := 10) (by omega) (by decide))
    rw [List.length_cons, List.range'_succ, List.map_cons]
    rw [List.length_append, List.length_cons, List.length_nil, Nat.zero_add] at ih
    unfold lcRun chL
    simp only [Int.zero_add] at ih ⊢
    by_cases q : 0 < n
    · simp [e1, q, ef, ih, sz2, pCh]
    · simp [e1, q, ih]
theorem e_chances {w : Int} {s : Sto} {m : Nat} (h0 : 1 ≤ w) (h9 : w ≤ 9) (v : Vs (m + 19) s) : ∃ (c : PyData) (s' : Sto), f_law_chances [.s, .d (.int w)] s = some (.d c, s') ∧ areCh c w = true ∧ cl 20 30 4 c = true ∧ PyData.weight c ≤ 400 ∧ Vs m s' := by
  obtain ⟨ns, s1, e, hlen, hp, hs, v1⟩ := e_parts h0 h9 v
  have hl : ns.length ≤ 9 := by omega
  have lc := ch_lc hp hl hs (some (.d (.int w))) s1 ns [] rfl
  have hcl : ∀ c ∈ chL ns.sum 0 ns, cl 20 30 3 (pCh c) = true ∧ PyData.weight (pCh c) ≤ 34 := by
    intro c hc
    obtain ⟨h1, h2, n, hn, h3, h4⟩ := chL_mem hc
    have f := (part_lt hp hl hs hn).2
    rw [← h4] at f
    have i1 : c.1.natAbs < 2 ^ 10 := by omega
    refine ⟨cl_tup (by simp) fun x hx => ?_, ?_⟩
    · simp at hx
      rcases hx with rfl | rfl
      · exact cl_int (lt_mono i1 (by decide))
      · exact cl_pF (by decide) (f.mono (by decide))
    · have a := weight_int i1
      have b := weight_pF f
      simp only [pCh, PyData.weight, PyData.weightAll] at a b ⊢
      omega
  have hlc := chL_len ns.sum ns 0
  refine ⟨.tuple ((chL ns.sum 0 ns).map pCh), s1, ?_, by rw [← hlen]; exact areCh_chL hp hs, cl_tup (by rw [List.length_map]; omega) (fun x hx => by
    obtain ⟨c, hc, rfl⟩ := List.mem_map.mp hx
    exact (hcl c hc).1), ?_, v1⟩
  · have hr : rangeL 0 w.toNat = (List.range' ([] : List Int).length ns.length).map fun i => PyData.int (0 + (i : Nat)) := by
      unfold rangeL
      rw [List.range_eq_range', show w.toNat = ns.length by omega]
      rfl
    have hq : ((chL ns.sum 0 ns).map pCh).length ≤ sizeLine := le64 (by rw [List.length_map]; omega)
    simp only [List.length_nil] at lc hr
    simp [f_law_chances, m_law_chances, List.replicate_succ, e, range1, show -4611686018427387904 ≤ w by omega, show w < 4611686018427387904 by omega, mLc]
    rw [hr, lc]
    simp only [List.length_map] at hq
    simp [hq]
  · have a := weightAll_le (k := 34) ((chL ns.sum 0 ns).map pCh) (fun x hx => by
      obtain ⟨c, hc, rfl⟩ := List.mem_map.mp hx
      exact (hcl c hc).2)
    rw [List.length_map] at a
    simp only [PyData.weight]
    omega
theorem e_odds {w : Int} {s : Sto} {m : Nat} (h0 : 1 ≤ w) (h9 : w ≤ 9) (v : Vs (m + 19) s) : ∃ (c : PyData) (s' : Sto), f_law_odds [.s, .d (.int w)] s = some (.d c, s') ∧ cl 20 30 3 c = true ∧ Vs m s' := by
  obtain ⟨ns, s1, e, hlen, hp, hs, v1⟩ := e_parts h0 h9 v
  have hl : ns.length ≤ 9 := by omega
  have hsum := (sum_nn hp).2
  have lc := lc_map (i := 3) (ρ := [some .s, some (.d (.int w)), some (.d (.list (ns.map .int))), none]) (s := s1) (e := mCall f_law_frac (maCons (mVar 3) (maCons (mA fSum (maCons (mVar 2) maNil)) maNil))) (f := fun x => match x with | .int n => pF (nrm n ns.sum) | _ => .none) (ns.map .int) (fun x hx => by
    obtain ⟨n, hn, rfl⟩ := List.mem_map.mp hx
    have ef := e_frac (t := n) (l := ns.sum) (s := s1) hs (lt_mono (a := 10) (by omega) (by decide))
    simp [ef])
  have g : ((ns.map PyData.int).map fun x => match x with | .int n => pF (nrm n ns.sum) | _ => .none) = (ns.map fun n => nrm n ns.sum).map pF := by rw [List.map_map, List.map_map]; rfl
  rw [g] at lc
  refine ⟨.tuple ((ns.map fun n => nrm n ns.sum).map pF), s1, ?_, cl_tup (by rw [List.length_map, List.length_map]; omega) (fun x hx => ?_), v1⟩
  · have hq : ((ns.map fun n => nrm n ns.sum).map pF).length ≤ sizeLine := le64 (by rw [List.length_map, List.length_map]; omega)
    generalize ((ns.map fun n => nrm n ns.sum).map pF) = M at *
    simp [f_law_odds, m_law_odds, List.replicate_succ, e, frzs, frz1, mLc]
    rw [lc]
    simp [hq]
  · obtain ⟨q, hq, rfl⟩ := List.mem_map.mp hx
    obtain ⟨n, hn, rfl⟩ := List.mem_map.mp hq
    exact cl_pF (by decide) ((part_lt hp hl hs hn).2.mono (by decide))
/-- a deed that is drawn -/
def GoodDeed (p n : Int) (d : PyData) : Prop := ∃ (c : PyData) (qs : List Fr), d = .tuple [c, .tuple (qs.map pF)] ∧ areCh c n = true ∧ cl 20 30 4 c = true ∧ PyData.weight c ≤ 400 ∧ (qs.length : Int) = p ∧ ∀ q ∈ qs, FrOk q ∧ FrLt 25 q
theorem good_cl {p n : Int} {d : PyData} (h : GoodDeed p n d) (hp : p ≤ 5) : cl 20 30 5 d = true := by
  obtain ⟨c, qs, rfl, h1, h2, _, h3, h4⟩ := h
  refine cl_tup (by simp) fun x hx => ?_
  simp at hx
  rcases hx with rfl | rfl
  · exact h2
  · refine cl_up (cl_tup (n := 2) (by rw [List.length_map]; omega) fun y hy => ?_)
    obtain ⟨q, hq, rfl⟩ := List.mem_map.mp hy
    exact cl_pF (by decide) ((h4 q hq).2.mono (by decide))
theorem good_is {p n : Int} {d : PyData} (h : GoodDeed p n d) : isDeed d p n = true := by
  obtain ⟨c, qs, rfl, h1, h2, _, h3, h4⟩ := h
  have a : (qs.map pF).all isFr = true := by
    rw [List.all_map, List.all_eq_true]
    exact fun q hq => isFr_pF.mpr (h4 q hq).1
  show (areCh c n && (decide (((qs.map pF).length : Int) = p) && (qs.map pF).all isFr)) = true
  rw [h1, a, List.length_map, decide_eq_true h3]
  rfl
/-- the stands of a house that is drawn -/
def GoodSts (p n : Int) (counts : List Int) (sts : List (List PyData)) : Prop := sts.length = counts.length ∧ ∀ ds ∈ sts, (∃ k ∈ counts, (ds.length : Int) = k) ∧ ∀ d ∈ ds, GoodDeed p n d
theorem eqOk_of {L B k : Nat} {x : PyData} (h : cl L B k x = true) (hB : 0 < B) (hB2 : B ≤ 1000) (hk : k ≤ 64) : eqOk x = true := by
  have c := cl_clean hB hB2 h
  unfold eqOk SeqAt.shaped
  rw [c.nd, c.lay, decide_eq_true (Nat.le_trans c.dep hk)]
  rfl
theorem ne_nil_ev {p n : Int} {ds : List PyData} (h : ∀ d ∈ ds, GoodDeed p n d) (hp : p ≤ 5) (hl : ds.length ≤ 20) : fEq true (.b ds) (.f []) = some (.d (.bool (!ds.isEmpty))) := by
  have a : eqOk (.list ds) = true := by
    refine eqOk_of (L := 20) (B := 30) (k := 6) ?_ (by decide) (by decide) (by decide)
    show (decide (ds.length ≤ 20) && ds.all (cl 20 30 5)) = true
    rw [decide_eq_true hl, Bool.true_and, List.all_eq_true]
    exact fun d hd => good_cl (h d hd) hp
  have b : eqOk (.list []) = true := by decide
  show (if eqOk (.list ds) = true ∧ eqOk (.list []) = true then some (R.d (.bool (if true then !PyData.eqv (.list ds) (.list []) else PyData.eqv (.list ds) (.list [])))) else none) = _
  rw [if_pos ⟨a, b⟩]
  cases ds <;> simp [PyData.eqv, PyData.eqvAll]
theorem dd1a {n : Int} {cs : List PyData} {s1 s2 : Sto} {c : PyData} (hn : (cs.length : Int) = n) {g : Fx} (e2 : g [.s, .d (.int n)] s1 = some (.d c, s2)) {x2 x3 x4 x5 x6 x7 x8 : Option Cl} : mSet 8 (mCall g (maCons (mVar 0) (maCons (mA fLen (maCons (mVar 1) maNil)) maNil)))
      [some .s, some (.d (.list cs)), x2, x3, x4, x5, x6, x7, x8] s1 = some (.nx, [some .s, some (.d (.list cs)), x2, x3, x4, x5, x6, x7, some (.d c)], s2) := by
  simp [hn, e2]
theorem dd1b {p : Int} {s2 s3 : Sto} {c gd : PyData} {g : Fx} (e3 : g [.s, .d (.int p)] s2 = some (.d gd, s3)) {x1 x3 x4 x5 x6 x7 : Option Cl} : mA fTup (maCons (mVar 8) (maCons (mCall g (maCons (mVar 0) (maCons (mVar 2) maNil))) maNil)) [some .s, x1, some (.d (.int p)), x3, x4, x5, x6, x7, some (.d c)] s2 = some (.d (.tuple [c, gd]), s3) := by
  simp [e3, sz2]
theorem seq_nx {a b : Ms} {ρ ρ1 : Ev} {s s1 : Sto} {z : Option (Out × Ev × Sto)} (h : a ρ s = some (.nx, ρ1, s1)) (h2 : b ρ1 s1 = z) : mSeq a b ρ s = z := by
  rw [ev_mSeq, h]
  exact h2
theorem dd1 {p : Int} {cs : List Int} {s1 s2 s3 : Sto} {ds : List PyData} {c : PyData} {gd : PyData} (e2 : f_law_chances [.s, .d (.int (cs.length : Int))] s1 = some (.d c, s2)) (e3 : f_law_gains [.s, .d (.int p)] s2 = some (.d gd, s3)) (hs : ds.length < sizeLine) {x3 x4 x5 x7 x8 : Option Cl} : (mSeq (mSet 8 (mCall f_law_chances (maCons (mVar 0) (maCons (mA fLen (maCons (mVar 1) maNil)) maNil))))
      (mApp 6 (mA fTup (maCons (mVar 8) (maCons (mCall f_law_gains (maCons (mVar 0) (maCons (mVar 2) maNil))) maNil)))))
      [some .s, some (.d (.list (cs.map .int))), some (.d (.int p)), x3, x4, x5, some (.o ds), x7, x8] s1 = some (.nx, [some .s, some (.d (.list (cs.map .int))), some (.d (.int p)), x3, x4, x5, some (.o (ds ++ [.tuple [c, gd]])), x7, some (.d c)], s3) :=
  seq_nx (dd1a (by rw [List.length_map]) e2) (mApp_ev (dd1b e3) rfl rfl hs)
theorem dd2 {s s1 : Sto} {u : Int} {d0 : PyData} {r : List PyData} (en : fEq true (.b (d0 :: r)) (.f []) = some (.d (.bool true))) {g : Fx} (e1 : g [.s, .d (.int 9)] s = some (.d (.int u), s1)) (hu : u = 8) {A B : Ms} {x1 x2 x3 x4 x5 x7 x8 : Option Cl} : (mIfS (tAnd2 (bT (m2 (fEq true) (mVar 6) (mA fLst maNil))) (bT (m2 (fEq false) (mCall g (maCons (mVar 0) (maCons (mKon (.int 9)) maNil))) (mKon (.int 8))))) A B)
    [some .s, x1, x2, x3, x4, x5, some (.o (d0 :: r)), x7, x8] s = A [some .s, x1, x2, x3, x4, x5, some (.o (d0 :: r)), x7, x8] s1 := by
  simp [en, e1, hu]
theorem dd3 {s s1 : Sto} {u : Int} {d0 : PyData} {r : List PyData} (en : fEq true (.b (d0 :: r)) (.f []) = some (.d (.bool true))) {g : Fx} (e1 : g [.s, .d (.int 9)] s = some (.d (.int u), s1)) (hu : u ≠ 8) {A B : Ms} {x1 x2 x3 x4 x5 x7 x8 : Option Cl} : (mIfS (tAnd2 (bT (m2 (fEq true) (mVar 6) (mA fLst maNil))) (bT (m2 (fEq false) (mCall g (maCons (mVar 0) (maCons (mKon (.int 9)) maNil))) (mKon (.int 8))))) A B)
    [some .s, x1, x2, x3, x4, x5, some (.o (d0 :: r)), x7, x8] s = B [some .s, x1, x2, x3, x4, x5, some (.o (d0 :: r)), x7, x8] s1 := by
  simp [en, e1, hu]
theorem dd4 {s : Sto} (en : fEq true (.b []) (.f []) = some (.d (.bool false))) {T : Mt} {A B : Ms} {x0 x1 x2 x3 x4 x5 x7 x8 : Option Cl} : (mIfS (tAnd2 (bT (m2 (fEq true) (mVar 6) (mA fLst maNil))) T) A B)
    [x0, x1, x2, x3, x4, x5, some (.o []), x7, x8] s = B [x0, x1, x2, x3, x4, x5, some (.o []), x7, x8] s := by
  simp [en]
theorem dd5 {s : Sto} {d0 : PyData} {r : List PyData} (hs : (d0 :: r).length < sizeLine) {x0 x1 x2 x3 x4 x5 x7 x8 : Option Cl} : mApp 6 (mIx (mVar 6) (mKon (.int 0))) [x0, x1, x2, x3, x4, x5, some (.o (d0 :: r)), x7, x8] s = some (.nx, [x0, x1, x2, x3, x4, x5, some (.o ((d0 :: r) ++ [d0])), x7, x8], s) :=
  mApp_ev (by simp; rfl) rfl rfl hs
theorem e_deed1 {p : Int} {cs : List Int} {s : Sto} {m : Nat} (hp0 : 0 ≤ p) (hp : p ≤ 5) (hw1 : 1 ≤ cs.length) (hw : cs.length ≤ 9) {ds : List PyData} (hd : ∀ d ∈ ds, GoodDeed p cs.length d) (hl : ds.length < 10) (v : Vs (m + 40) s) {x3 x4 x5 x7 x8 : Option Cl} :
    ∃ (d : PyData) (y : Option Cl) (s' : Sto), (mIfS (tAnd2 (bT (m2 (fEq true) (mVar 6) (mA fLst maNil))) (bT (m2 (fEq false) (mCall f_law_pick (maCons (mVar 0) (maCons (mKon (.int 9)) maNil))) (mKon (.int 8)))))
    (mApp 6 (mIx (mVar 6) (mKon (.int 0))))
    (mSeq (mSet 8 (mCall f_law_chances (maCons (mVar 0) (maCons (mA fLen (maCons (mVar 1) maNil)) maNil))))
    (mApp 6 (mA fTup (maCons (mVar 8) (maCons (mCall f_law_gains (maCons (mVar 0) (maCons (mVar 2) maNil))) maNil))))))
    [some .s, some (.d (.list (cs.map .int))), some (.d (.int p)), x3, x4, x5, some (.o ds), x7, x8] s = some (.nx, [some .s, some (.d (.list (cs.map .int))), some (.d (.int p)), x3, x4, x5, some (.o (ds ++ [d])), x7, y], s') ∧ GoodDeed p cs.length d ∧ Vs m s' := by
  have hs : ds.length < sizeLine := sm64 (by omega)
  have en := ne_nil_ev hd hp (by omega)
  have new : ∀ {s1 : Sto}, Vs (m + 34) s1 → ∃ (c gd : PyData) (s2 s3 : Sto), f_law_chances [.s, .d (.int (cs.length : Int))] s1 = some (.d c, s2) ∧ f_law_gains [.s, .d (.int p)] s2 = some (.d gd, s3) ∧ GoodDeed p cs.length (.tuple [c, gd]) ∧ Vs m s3 := by
    intro s1 v1
    obtain ⟨c, s2, e2, c1, c2, c3, v2⟩ := e_chances (w := (cs.length : Int)) (m := m + 15) (by omega) (by omega) v1
    obtain ⟨qs, s3, e3, g1, g2, v3⟩ := e_gains (m := m) hp0 hp v2
    exact ⟨c, _, s2, s3, e2, e3, ⟨c, qs, rfl, c1, c2, c3, g1, g2⟩, v3⟩
  cases ds with
  | nil =>
    obtain ⟨c, gd, s2, s3, e2, e3, g, v'⟩ := new (v.mono (by omega))
    exact ⟨_, _, s3, (dd4 en).trans (dd1 e2 e3 hs), g, v'⟩
  | cons d0 r =>
    simp only [List.isEmpty_cons, Bool.not_false] at en
    obtain ⟨u, s1, e1, h1, h2, v1⟩ := e_pick (m := m + 39) (l := 9) v (by decide) (by decide)
    by_cases hu : u = 8
    · exact ⟨d0, x8, s1, (dd2 en e1 hu).trans (dd5 hs), hd d0 List.mem_cons_self, v1.mono (by omega)⟩
    · obtain ⟨c, gd, s2, s3, e2, e3, g, v'⟩ := new (s1 := s1) (v1.mono (by omega))
      exact ⟨_, _, s3, (dd3 en e1 hu).trans (dd1 e2 e3 hs), g, v'⟩
/-- one stand -/
theorem e_stand1 {p k : Int} {cs : List Int} {s : Sto} {m : Nat} (hp0 : 0 ≤ p) (hp : p ≤ 5) (hw1 : 1 ≤ cs.length) (hw : cs.length ≤ 9) (hk0 : 0 ≤ k) (hk : k ≤ 5) {sts : List PyData} (hl : sts.length < 10) (v : Vs (m + 200) s) {x3 x6 x7 x8 : Option Cl} :
    ∃ (ds : List PyData) (y6 y7 y8 : Option Cl) (s' : Sto), (mSeq (mSet 6 (mA fLst maNil))
    (mSeq (mFor (mArgI range1 (maCons (mVar 5) maNil)) (gN 7)
    (mIfS (tAnd2 (bT (m2 (fEq true) (mVar 6) (mA fLst maNil))) (bT (m2 (fEq false) (mCall f_law_pick (maCons (mVar 0) (maCons (mKon (.int 9)) maNil))) (mKon (.int 8)))))
    (mApp 6 (mIx (mVar 6) (mKon (.int 0))))
    (mSeq (mSet 8 (mCall f_law_chances (maCons (mVar 0) (maCons (mA fLen (maCons (mVar 1) maNil)) maNil))))
    (mApp 6 (mA fTup (maCons (mVar 8) (maCons (mCall f_law_gains (maCons (mVar 0) (maCons (mVar 2) maNil))) maNil)))))))
    (mApp 4 (mA fTupOf (maCons (mVar 6) maNil)))))
    [some .s, some (.d (.list (cs.map .int))), some (.d (.int p)), x3, some (.o sts), some (.d (.int k)), x6, x7, x8] s = some (.nx, [some .s, some (.d (.list (cs.map .int))), some (.d (.int p)), x3, some (.o (sts ++ [.tuple ds])), some (.d (.int k)), y6, y7, y8], s') ∧ (ds.length : Int) = k ∧ (∀ d ∈ ds, GoodDeed p cs.length d) ∧ Vs m s' := by
  obtain ⟨ρ', s', e, ⟨ds, y7, y8, rfl, hlen, hq⟩, v'⟩ := for_inv (g := gN 7) (body := (mIfS (tAnd2 (bT (m2 (fEq true) (mVar 6) (mA fLst maNil))) (bT (m2 (fEq false) (mCall f_law_pick (maCons (mVar 0) (maCons (mKon (.int 9)) maNil))) (mKon (.int 8)))))
    (mApp 6 (mIx (mVar 6) (mKon (.int 0))))
    (mSeq (mSet 8 (mCall f_law_chances (maCons (mVar 0) (maCons (mA fLen (maCons (mVar 1) maNil)) maNil))))
    (mApp 6 (mA fTup (maCons (mVar 8) (maCons (mCall f_law_gains (maCons (mVar 0) (maCons (mVar 2) maNil))) maNil)))))))
    (k := 40) (fun j ρ => ∃ (ds : List PyData) (y7 y8 : Option Cl), ρ = [some .s, some (.d (.list (cs.map .int))), some (.d (.int p)), x3, some (.o sts), some (.d (.int k)), some (.o ds), y7, y8] ∧ ds.length = j ∧ ∀ d ∈ ds, GoodDeed p cs.length d)
    (rangeL 0 k.toNat) 0 [some .s, some (.d (.list (cs.map .int))), some (.d (.int p)), x3, some (.o sts), some (.d (.int k)), some (.o []), x7, x8] s m rfl ⟨[], x7, x8, rfl, rfl, by simp⟩ (v.mono (by rw [rangeL_len]; omega)) (by
      rintro x hx j ρ s m hN ⟨ds, y7, y8, rfl, hj, hq⟩ v
      rw [rangeL_len] at hN
      obtain ⟨d, y, s', e, g, v'⟩ := e_deed1 (x3 := x3) (x4 := some (.o sts)) (x5 := some (.d (.int k))) (x7 := some (.d x)) (x8 := y8) hp0 hp hw1 hw hq (by omega) v
      refine ⟨_, _, s', rfl, e, ⟨ds ++ [d], some (.d x), y, rfl, by rw [List.length_append, hj]; rfl, fun z hz => ?_⟩, v'⟩
      rcases List.mem_append.mp hz with hz | hz
      · exact hq z hz
      · obtain rfl := List.mem_singleton.mp hz
        exact g)
  rw [Nat.zero_add, rangeL_len] at hlen
  have hr : mArgI range1 (maCons (mVar 5) maNil) [some .s, some (.d (.list (cs.map .int))), some (.d (.int p)), x3, some (.o sts), some (.d (.int k)), some (.o []), x7, x8] s = some (rangeL 0 k.toNat, s) := by
    simp [range1, show -4611686018427387904 ≤ k by omega, show k < 4611686018427387904 by omega]
  refine ⟨ds, some (.o ds), y7, y8, s', seq_nx (ρ1 := [some .s, some (.d (.list (cs.map .int))), some (.d (.int p)), x3, some (.o sts), some (.d (.int k)), some (.o []), x7, x8]) (s1 := s) (by simp) (seq_nx (ρ1 := [some .s, some (.d (.list (cs.map .int))), some (.d (.int p)), x3, some (.o sts), some (.d (.int k)), some (.o ds), y7, y8]) (s1 := s') ?_ (mApp_ev (s1 := s') (r := .d (.tuple ds)) (by simp) rfl rfl (sm64 (by omega)))), by omega, hq, v'⟩
  rw [ev_mFor, hr]
  exact e
end W2

/-! Pl13: houses that are drawn -/
namespace W2
open PySem PySem.Spec L2 Dh
def SzRes (cs : List Int) (p : Int) (w : PyData) : Prop := ∃ (q : Fr) (sts : List (List PyData)), w = .tuple [pF q, .int p, .tuple (sts.map .tuple)] ∧ FrOk q ∧ 0 ≤ q.1 ∧ q.1 < q.2 ∧ FrLt 10 q ∧ GoodSts p cs.length cs sts
theorem sz_1 {f : Fx} {s s1 : Sto} {q : PyData} (e : f [.s] s = some (.d q, s1)) {x1 x2 x3 x4 x5 x6 x7 x8 : Option Cl} : mPar 3 4 (maCons (mCall f (maCons (mVar 0) maNil)) (maCons (mA fLst maNil) maNil)) [some .s, x1, x2, x3, x4, x5, x6, x7, x8] s = some (.nx, [some .s, x1, x2, some (.d q), some (.o []), x5, x6, x7, x8], s1) := by
  simp [mPar, e]
theorem sz_2 {s : Sto} {xs : List PyData} {x0 x2 x3 x4 x5 x6 x7 x8 : Option Cl} : mSeqI (mVar 1) [x0, some (.d (.list xs)), x2, x3, x4, x5, x6, x7, x8] s = some (xs, s) := by
  simp
theorem sz_3 {s : Sto} {q p : PyData} {sts : List PyData} {x0 x1 x5 x6 x7 x8 : Option Cl} : mRet (mA fTup (maCons (mVar 3) (maCons (mVar 2) (maCons (mA fTupOf (maCons (mVar 4) maNil)) maNil)))) [x0, x1, some (.d p), some (.d q), some (.o sts), x5, x6, x7, x8] s = some (.rt (.d (.tuple [q, p, .tuple sts])), [x0, x1, some (.d p), some (.d q), some (.o sts), x5, x6, x7, x8], s) := by
  simp [sz3]
theorem run_rt {n l : Nat} {m : Ms} {cs : List Cl} {s s' : Sto} {ρ ρ' : Ev} {r : R} (hl : cs.length = n) (hp : cs.map some ++ List.replicate (l - cs.length) none = ρ) (h : m ρ s = some (.rt r, ρ', s')) : run' n l m cs s = some (r, s') := by
  rw [ev_run', if_pos hl, hp, h]
theorem e_sized {p : Int} {cs : List Int} {s : Sto} {m : Nat} (hp0 : 0 ≤ p) (hp : p ≤ 5) (hw1 : 1 ≤ cs.length) (hw : cs.length ≤ 9) (hc : ∀ k ∈ cs, 0 ≤ k ∧ k ≤ 5) (v : Vs (m + 2000) s) :
    ∃ (w : PyData) (s' : Sto), f_law_sized [.s, .d (.list (cs.map .int)), .d (.int p)] s = some (.d w, s') ∧ SzRes cs p w ∧ Vs m s' := by
  obtain ⟨q, s1, e1, q1, q2, q3, q4, v1⟩ := e_part (m := m + 1800) (v.mono (by omega))
  obtain ⟨ρ', s', e, ⟨sts, y5, y6, y7, y8, rfl, hlen, hq⟩, v'⟩ := for_inv (g := gN 5) (body := (mSeq (mSet 6 (mA fLst maNil))
    (mSeq (mFor (mArgI range1 (maCons (mVar 5) maNil)) (gN 7)
    (mIfS (tAnd2 (bT (m2 (fEq true) (mVar 6) (mA fLst maNil))) (bT (m2 (fEq false) (mCall f_law_pick (maCons (mVar 0) (maCons (mKon (.int 9)) maNil))) (mKon (.int 8)))))
    (mApp 6 (mIx (mVar 6) (mKon (.int 0))))
    (mSeq (mSet 8 (mCall f_law_chances (maCons (mVar 0) (maCons (mA fLen (maCons (mVar 1) maNil)) maNil))))
    (mApp 6 (mA fTup (maCons (mVar 8) (maCons (mCall f_law_gains (maCons (mVar 0) (maCons (mVar 2) maNil))) maNil)))))))
    (mApp 4 (mA fTupOf (maCons (mVar 6) maNil))))))
    (k := 200) (fun j ρ => ∃ (sts : List (List PyData)) (y5 y6 y7 y8 : Option Cl), ρ = [some .s, some (.d (.list (cs.map .int))), some (.d (.int p)), some (.d (pF q)), some (.o (sts.map .tuple)), y5, y6, y7, y8] ∧ sts.length = j ∧ ∀ ds ∈ sts, (∃ k ∈ cs, (ds.length : Int) = k) ∧ ∀ d ∈ ds, GoodDeed p cs.length d)
    (cs.map .int) 0 [some .s, some (.d (.list (cs.map .int))), some (.d (.int p)), some (.d (pF q)), some (.o []), none, none, none, none] s1 m rfl ⟨[], none, none, none, none, rfl, rfl, by simp⟩ (v1.mono (by rw [List.length_map]; omega)) (by
      rintro x hx j ρ s m hN ⟨sts, y5, y6, y7, y8, rfl, hj, hq⟩ v
      rw [List.length_map] at hN
      obtain ⟨k, hk, rfl⟩ := List.mem_map.mp hx
      obtain ⟨ds, z6, z7, z8, s', e, d1, d2, v'⟩ := e_stand1 (p := p) (k := k) (cs := cs) (x3 := some (.d (pF q))) (x6 := y6) (x7 := y7) (x8 := y8) (sts := sts.map .tuple) hp0 hp hw1 hw (hc k hk).1 (hc k hk).2 (by rw [List.length_map]; omega) v
      refine ⟨_, _, s', rfl, e, ⟨sts ++ [ds], some (.d (.int k)), z6, z7, z8, by rw [List.map_append]; rfl, by rw [List.length_append, hj]; rfl, fun z hz => ?_⟩, v'⟩
      rcases List.mem_append.mp hz with hz | hz
      · exact hq z hz
      · obtain rfl := List.mem_singleton.mp hz
        exact ⟨⟨k, hk, d1⟩, d2⟩)
  rw [Nat.zero_add, List.length_map] at hlen
  refine ⟨_, s', ?_, ⟨q, sts, rfl, q1, q2, q3, q4, hlen, hq⟩, v'⟩
  refine run_rt rfl rfl (seq_nx (sz_1 e1) (seq_nx (ρ1 := [some .s, some (.d (.list (cs.map .int))), some (.d (.int p)), some (.d (pF q)), some (.o (sts.map .tuple)), y5, y6, y7, y8]) (s1 := s') ?_ sz_3))
  rw [ev_mFor, sz_2]
  exact e
theorem world_1 {f : Fx} {s s1 : Sto} {n d : Int} (e : f [.s, .d (.int n)] s = some (.d (.int d), s1)) (h0 : 0 ≤ d) (h1 : d < 100) {x2 x3 x4 x5 : Option Cl} : mArgI range1 (maCons (m2 fAdd (mKon (.int 1)) (mCall f (maCons (mVar 0) (maCons (mVar 1) maNil)))) maNil) [some .s, some (.d (.int n)), x2, x3, x4, x5] s = some (rangeL 0 (1 + d).toNat, s1) := by
  simp [e, range1, show -4611686018427387904 ≤ 1 + d by omega, show 1 + d < 4611686018427387904 by omega]
theorem world_2 {f : Fx} {s s1 : Sto} {n d : Int} (e : f [.s, .d (.int n)] s = some (.d (.int d), s1)) {x1 x3 x5 : Option Cl} : m2 fAdd (mKon (.int 1)) (mCall f (maCons (mVar 0) (maCons (mVar 2) maNil))) [some .s, x1, some (.d (.int n)), x3, x4, x5] s = some (.d (.int (1 + d)), s1) := by
  simp [e]
theorem world_3 {f : Fx} {s s1 : Sto} {xs : List PyData} {p : PyData} {w : PyData} (e : f [.s, .d (.list xs), .d p] s = some (.d w, s1)) {x1 x2 x5 : Option Cl} : mFrz [4] (mRet (mCall f (maCons (mVar 0) (maCons (mVar 4) (maCons (mVar 3) maNil))))) [some .s, x1, x2, some (.d p), some (.o xs), x5] s = some (.rt (.d w), [some .s, x1, x2, some (.d p), some (.d (.list xs)), x5], s1) := by
  simp [frzs, frz1, e]
theorem e_world {p : Int} {s : Sto} {m : Nat} (hp0 : 0 ≤ p) (hp : p ≤ 5) (v : Vs (m + 2010) s) :
    ∃ (cs : List Int) (w : PyData) (s' : Sto), f_law_world [.s, .d (.int 3), .d (.int 3), .d (.int p)] s = some (.d w, s') ∧ 1 ≤ cs.length ∧ cs.length ≤ 3 ∧ (∀ k ∈ cs, 1 ≤ k ∧ k ≤ 3) ∧ SzRes cs p w ∧ Vs m s' := by
  obtain ⟨d, s1, e1, d1, d2, v1⟩ := e_pick (m := m + 2009) (l := 3) v (by decide) (by decide)
  obtain ⟨ρ', s2, e, ⟨cs, y5, rfl, hlen, hq⟩, v2⟩ := for_inv (g := gN 5) (body := (mApp 4 (m2 fAdd (mKon (.int 1)) (mCall f_law_pick (maCons (mVar 0) (maCons (mVar 2) maNil))))))
    (k := 1) (fun j ρ => ∃ (cs : List Int) (y5 : Option Cl), ρ = [some .s, some (.d (.int 3)), some (.d (.int 3)), some (.d (.int p)), some (.o (cs.map .int)), y5] ∧ cs.length = j ∧ ∀ k ∈ cs, 1 ≤ k ∧ k ≤ 3)
    (rangeL 0 (1 + d).toNat) 0 [some .s, some (.d (.int 3)), some (.d (.int 3)), some (.d (.int p)), some (.o []), none] s1 (m + 2000) rfl ⟨[], none, rfl, rfl, by simp⟩ (v1.mono (by rw [rangeL_len]; omega)) (by
      rintro x hx j ρ s m hN ⟨cs, y5, rfl, hj, hq⟩ v
      rw [rangeL_len] at hN
      obtain ⟨u, s', e, u1, u2, v'⟩ := e_pick (m := m) (l := 3) v (by decide) (by decide)
      refine ⟨_, _, s', rfl, mApp_ev (world_2 e) rfl rfl (sm64 (by rw [List.length_map]; omega)), ⟨cs ++ [1 + u], some (.d x), by rw [List.map_append]; rfl, by rw [List.length_append, hj]; rfl, fun z hz => ?_⟩, v'⟩
      rcases List.mem_append.mp hz with hz | hz
      · exact hq z hz
      · obtain rfl := List.mem_singleton.mp hz
        exact ⟨by omega, by omega⟩)
  rw [Nat.zero_add, rangeL_len] at hlen
  obtain ⟨w, s3, e3, r, v3⟩ := e_sized (m := m) (p := p) (cs := cs) hp0 hp (by omega) (by omega) (fun k hk => ⟨by have := hq k hk; omega, by have := hq k hk; omega⟩) v2
  refine ⟨cs, w, s3, ?_, by omega, by omega, hq, r, v3⟩
  refine run_rt rfl rfl (seq_nx (ρ1 := [some .s, some (.d (.int 3)), some (.d (.int 3)), some (.d (.int p)), some (.o []), none]) (s1 := s) (by simp [List.replicate_succ]) (seq_nx (s1 := s2) (ρ1 := [some .s, some (.d (.int 3)), some (.d (.int 3)), some (.d (.int p)), some (.o (cs.map .int)), y5]) ?_ (world_3 e3)))
  rw [ev_mFor, world_1 e1 d1 (by omega)]
  exact e
end W2

/-! Pl14: houses at an edge; what a drawn house is -/
namespace W2
open PySem PySem.Spec L2 Dh
theorem if_eq {n d : Int} {i : Nat} {A B : Ms} {ρ : Ev} {s : Sto} (h : ρ[i]? = some (some (.d (.int d)))) : mIfS (bT (m2 (fEq false) (mVar i) (mKon (.int n)))) A B ρ s = if d = n then A ρ s else B ρ s := by
  by_cases q : d = n <;> simp [h, q]
theorem if_gt {n d : Int} {i : Nat} {A B : Ms} {ρ : Ev} {s : Sto} (h : ρ[i]? = some (some (.d (.int d)))) : mIfS (bT (m2 (fI gGt) (mVar i) (mKon (.int n)))) A B ρ s = if n < d then A ρ s else B ρ s := by
  by_cases q : n < d <;> simp [h, q]
theorem if_lt {n d : Int} {i : Nat} {A B : Ms} {ρ : Ev} {s : Sto} (h : ρ[i]? = some (some (.d (.int d)))) : mIfS (bT (m2 (fI gLt) (mVar i) (mKon (.int n)))) A B ρ s = if d < n then A ρ s else B ρ s := by
  by_cases q : d < n <;> simp [h, q]
theorem ed_1 {f : Fx} {s s1 : Sto} {d : PyData} (e : f [.s, .d (.int 4)] s = some (.d d, s1)) {x1 x2 x3 x4 : Option Cl} : mPar3 1 2 3 (maCons (mCall f (maCons (mVar 0) (maCons (mKon (.int 4)) maNil))) (maCons (mA fLst maNil) (maCons (mKon (.int 1)) maNil))) [some .s, x1, x2, x3, x4] s = some (.nx, [some .s, some (.d d), some (.o []), some (.d (.int 1)), x4], s1) := by
  simp [mPar3, e]
theorem ed_2 {f : Fx} {s s1 : Sto} {d : Int} (e : f [.s, .d (.int 2)] s = some (.d (.int d), s1)) (h0 : 0 ≤ d) (h1 : d < 100) {x1 x2 x3 x4 : Option Cl} : mArgI range1 (maCons (m2 fAdd (mKon (.int 8)) (mCall f (maCons (mVar 0) (maCons (mKon (.int 2)) maNil)))) maNil) [some .s, x1, x2, x3, x4] s = some (rangeL 0 (8 + d).toNat, s1) := by
  simp [e, range1, show -4611686018427387904 ≤ 8 + d by omega, show 8 + d < 4611686018427387904 by omega]
theorem ed_3 {f : Fx} {s s1 : Sto} {n d a : Int} (e : f [.s, .d (.int n)] s = some (.d (.int d), s1)) {x1 x2 x3 x4 : Option Cl} : m2 fAdd (mKon (.int a)) (mCall f (maCons (mVar 0) (maCons (mKon (.int n)) maNil))) [some .s, x1, x2, x3, x4] s = some (.d (.int (a + d)), s1) := by
  simp [e]
theorem ed_4 {A B : Mx} {ρ ρ' : Ev} {s s1 s2 : Sto} {a b : PyData} (e1 : A ρ s = some (.d a, s1)) (e2 : B ρ s1 = some (.d b, s2)) : mSet 2 (mA fLst (maCons A (maCons B maNil))) ρ s = some (.nx, ρ.set 2 (some (.o [a, b])), s2) := by
  simp [e1, e2, sz2]
theorem ed_5 {A B : Mx} {ρ : Ev} {s s1 s2 : Sto} {a b : PyData} (e1 : A ρ s = some (.d a, s1)) (e2 : B ρ s1 = some (.d b, s2)) : mPar 2 3 (maCons (mA fLst (maCons (mKon (.int 1)) (maCons A maNil))) (maCons B maNil)) ρ s = some (.nx, (ρ.set 2 (some (.o [.int 1, a]))).set 3 (some (.d b)), s2) := by
  simp [mPar, e1, e2, sz2]
theorem ed_6 {f : Fx} {s s1 : Sto} {d : Int} {x : PyData} (e : f [.s, .d (.int 3)] s = some (.d (.int d), s1)) (hx : atI [PyData.int 0, .int 4, .int 5] d = some x) {x1 x2 x3 x4 : Option Cl} : mIx (mA fTup (maCons (mKon (.int 0)) (maCons (mKon (.int 4)) (maCons (mKon (.int 5)) maNil)))) (mCall f (maCons (mVar 0) (maCons (mKon (.int 3)) maNil))) [some .s, x1, x2, x3, x4] s = some (.d x, s1) := by
  simp [e, hx, sz3]
theorem ed_7 {f : Fx} {s s1 : Sto} {xs : List PyData} {p : PyData} {w : PyData} (e : f [.s, .d (.list xs), .d p] s = some (.d w, s1)) {x1 x4 : Option Cl} : mFrz [2] (mRet (mCall f (maCons (mVar 0) (maCons (mVar 2) (maCons (mVar 3) maNil))))) [some .s, x1, some (.o xs), some (.d p), x4] s = some (.rt (.d w), [some .s, x1, some (.d (.list xs)), some (.d p), x4], s1) := by
  simp [frzs, frz1, e]
theorem e_edge {s : Sto} {m : Nat} (v : Vs (m + 2030) s) : ∃ (cs : List Int) (p : Int) (w : PyData) (s' : Sto), f_law_edge [.s] s = some (.d w, s') ∧ 0 ≤ p ∧ p ≤ 5 ∧ cs.length ≤ 9 ∧ (∀ k ∈ cs, 0 ≤ k ∧ k ≤ 5) ∧ SzRes cs p w ∧ Vs m s' := by
  obtain ⟨d, s1, e1, d1, d2, v1⟩ := e_pick (m := m + 2029) (l := 4) v (by decide) (by decide)
  by_cases h0 : d = 0
  · subst h0
    obtain ⟨u, s2, e2, u1, u2, v2⟩ := e_pick (m := m + 2028) (l := 2) v1 (by decide) (by decide)
    obtain ⟨ρ', s3, e, ⟨cs, y4, rfl, hlen, hq⟩, v3⟩ := for_inv (g := gN 4) (body := (mApp 2 (m2 fAdd (mKon (.int 1)) (mCall f_law_pick (maCons (mVar 0) (maCons (mKon (.int 2)) maNil))))))
      (k := 1) (fun j ρ => ∃ (cs : List Int) (y4 : Option Cl), ρ = [some .s, some (.d (.int 0)), some (.o (cs.map .int)), some (.d (.int 1)), y4] ∧ cs.length = j ∧ ∀ k ∈ cs, 1 ≤ k ∧ k ≤ 3)
      (rangeL 0 (8 + u).toNat) 0 [some .s, some (.d (.int 0)), some (.o []), some (.d (.int 1)), none] s2 (m + 2000) rfl ⟨[], none, rfl, rfl, by simp⟩ (v2.mono (by rw [rangeL_len]; omega)) (by
        rintro x hx j ρ s m hN ⟨cs, y4, rfl, hj, hq⟩ v
        rw [rangeL_len] at hN
        obtain ⟨u, s', e, u1, u2, v'⟩ := e_pick (m := m) (l := 2) v (by decide) (by decide)
        refine ⟨_, _, s', rfl, mApp_ev (ed_3 e) rfl rfl (sm64 (by rw [List.length_map]; omega)), ⟨cs ++ [1 + u], some (.d x), by rw [List.map_append]; rfl, by rw [List.length_append, hj]; rfl, fun z hz => ?_⟩, v'⟩
        rcases List.mem_append.mp hz with hz | hz
        · exact hq z hz
        · obtain rfl := List.mem_singleton.mp hz
          exact ⟨by omega, by omega⟩)
    rw [Nat.zero_add, rangeL_len] at hlen
    have hc : ∀ k ∈ cs, 0 ≤ k ∧ k ≤ 5 := fun k hk => ⟨by have := hq k hk; omega, by have := hq k hk; omega⟩
    obtain ⟨w, s4, e4, r, v4⟩ := e_sized (m := m) (p := 1) (cs := cs) (by decide) (by decide) (by omega) (by omega) hc v3
    refine ⟨cs, 1, w, s4, ?_, by decide, by decide, by omega, hc, r, v4⟩
    refine run_rt rfl rfl (seq_nx (ed_1 e1) (seq_nx (ρ1 := [some .s, some (.d (.int 0)), some (.o (cs.map .int)), some (.d (.int 1)), y4]) (s1 := s3) ?_ (seq_nx ((if_eq rfl).trans (if_neg (by decide))) (seq_nx ((if_gt rfl).trans (if_neg (by decide))) (ed_7 e4)))))
    rw [if_eq rfl, if_pos rfl, ev_mFor, ed_2 e2 u1 (by omega)]
    exact e
  · by_cases h1 : d = 1
    · subst h1
      obtain ⟨a, s2, e2, a1, a2, v2⟩ := e_pick (m := m + 2028) (l := 2) v1 (by decide) (by decide)
      obtain ⟨b, s3, e3, b1, b2, v3⟩ := e_pick (m := m + 2027) (l := 2) v2 (by decide) (by decide)
      have hc : ∀ k ∈ [1 + a, 4 + b], 0 ≤ k ∧ k ≤ 5 := fun k hk => by
        simp at hk
        rcases hk with rfl | rfl <;> omega
      obtain ⟨w, s4, e4, r, v4⟩ := e_sized (m := m) (p := 1) (cs := [1 + a, 4 + b]) (by decide) (by decide) (by simp) (by simp) hc (v3.mono (by omega))
      refine ⟨[1 + a, 4 + b], 1, w, s4, ?_, by decide, by decide, by simp, hc, r, v4⟩
      exact run_rt rfl rfl (seq_nx (ed_1 e1) (seq_nx ((if_eq rfl).trans (if_neg (by decide))) (seq_nx ((if_eq rfl).trans ((if_pos rfl).trans (ed_4 (ρ' := []) (ed_3 e2) (ed_3 e3)))) (seq_nx ((if_gt rfl).trans (if_neg (by decide))) (ed_7 e4)))))
    · obtain ⟨a, s2, e2, a1, a2, v2⟩ := e_pick (m := m + 2028) (l := 3) v1 (by decide) (by decide)
      obtain ⟨b, s3, e3, b1, b2, v3⟩ := e_pick (m := m + 2027) (l := 3) v2 (by decide) (by decide)
      obtain ⟨x, hx, ex⟩ := atI_pick (xs := [PyData.int 0, .int 4, .int 5]) b1 b2
      obtain ⟨p, rfl, p0, p5⟩ : ∃ p : Int, x = .int p ∧ 0 ≤ p ∧ p ≤ 5 := by
        simp at hx
        rcases hx with rfl | rfl | rfl <;> exact ⟨_, rfl, by decide, by decide⟩
      have hc : ∀ k ∈ [1, 1 + a], 0 ≤ k ∧ k ≤ 5 := fun k hk => by
        simp at hk
        rcases hk with rfl | rfl <;> omega
      obtain ⟨w, s4, e4, r, v4⟩ := e_sized (m := m) (p := p) (cs := [1, 1 + a]) p0 p5 (by simp) (by simp) hc (v3.mono (by omega))
      refine ⟨[1, 1 + a], p, w, s4, ?_, p0, p5, by simp, hc, r, v4⟩
      exact run_rt rfl rfl (seq_nx (ed_1 e1) (seq_nx ((if_eq rfl).trans (if_neg h0)) (seq_nx ((if_eq rfl).trans (if_neg h1)) (seq_nx ((if_gt rfl).trans ((if_pos (by omega)).trans (ed_5 (ed_3 e2) (ed_6 e3 ex)))) (ed_7 e4)))))
/-- what was drawn is clean -/
theorem SzRes.cl {cs : List Int} {p : Int} {w : PyData} (h : SzRes cs p w) (hp0 : 0 ≤ p) (hp : p ≤ 5) (hl : cs.length ≤ 9) (hc : ∀ k ∈ cs, 0 ≤ k ∧ k ≤ 5) : Dh.cl 20 30 8 w = true := by
  obtain ⟨q, sts, rfl, q1, q2, q3, q4, hlen, hq⟩ := h
  refine cl_tup (by simp) fun x hx => ?_
  simp only [List.mem_cons, List.not_mem_nil, or_false] at hx
  rcases hx with rfl | rfl | rfl
  · exact cl_le (n := 2) (cl_pF (by decide) (q4.mono (by decide))) (by decide)
  · exact cl_int (by omega)
  · refine cl_tup (n := 6) (by rw [List.length_map]; omega) fun y hy => ?_
    obtain ⟨ds, hds, rfl⟩ := List.mem_map.mp hy
    obtain ⟨⟨k, hk, hkl⟩, hd⟩ := hq ds hds
    have := hc k hk
    exact cl_tup (n := 5) (by omega) fun d hd' => good_cl (hd d hd') hp
theorem SzRes.house {cs : List Int} {p : Int} {w : PyData} (h : SzRes cs p w) (hp0 : 1 ≤ p) (hp : p ≤ 4) (hl0 : 1 ≤ cs.length) (hl : cs.length ≤ 3) (hc : ∀ k ∈ cs, 1 ≤ k ∧ k ≤ 3) : isHouse w = true := by
  obtain ⟨q, sts, rfl, q1, q2, q3, q4, hlen, hq⟩ := h
  have a : isFr (pF q) = true := isFr_pF.mpr q1
  have b : frOf (pF q) = q := rfl
  have c : (sts.map PyData.tuple).all (fun x => isStand x p ((sts.map PyData.tuple).length : Int)) = true := by
    rw [List.all_map, List.all_eq_true]
    intro ds hds
    obtain ⟨⟨k, hk, hkl⟩, hd⟩ := hq ds hds
    have hk2 := hc k hk
    have e : (ds.all fun d => isDeed d p ((sts.map PyData.tuple).length : Int)) = true := by
      rw [List.all_eq_true]
      intro d hd'
      rw [List.length_map, hlen]
      exact good_is (hd d hd')
    show ((decide (1 ≤ (ds.length : Int)) && decide ((ds.length : Int) ≤ 4)) && ds.all fun d => isDeed d p ((sts.map PyData.tuple).length : Int)) = true
    rw [e, decide_eq_true (by omega), decide_eq_true (by omega)]
    rfl
  have d : 1 ≤ ((sts.map PyData.tuple).length : Int) := by rw [List.length_map]; omega
  have e : ((sts.map PyData.tuple).length : Int) ≤ 8 := by rw [List.length_map]; omega
  show ((isFr (pF q) && (decide (0 ≤ (frOf (pF q)).1) && decide ((frOf (pF q)).1 < (frOf (pF q)).2))) && (decide (1 ≤ p) && decide (p ≤ 4)) && ((decide (1 ≤ ((sts.map PyData.tuple).length : Int)) && decide (((sts.map PyData.tuple).length : Int) ≤ 8)) && (sts.map PyData.tuple).all fun x => isStand x p ((sts.map PyData.tuple).length : Int))) = true
  rw [a, b, c, decide_eq_true q2, decide_eq_true q3, decide_eq_true hp0, decide_eq_true hp, decide_eq_true d, decide_eq_true e]
  rfl
end W2

/-! Pl15: what is bent -/
namespace W2
open PySem PySem.Spec L2 Dh
def oddL : List PyData := [.none, .bool true, .bool false, .int 0, .int 1, .int 2, .int 3, .int 7, .int (-1), .int 61, .str (Str.ofString ""), .str (Str.ofString "a"), .str (Str.ofString "1/2"), .tuple [], .tuple [.int 0], .tuple [.int 1], .tuple [.int 0, .int 1], .tuple [.int 1, .int 1], .tuple [.int 1, .int 2], .tuple [.int 2, .int 4], .tuple [.int 0, .int 2], .tuple [.int 1, .int 0], .tuple [.int (-1), .int 2], .tuple [.int 1, .int (-2)], .tuple [.bool true, .int 2], .tuple [.int 1, .bool true], .tuple [.tuple [.int 0, .int 1]], .tuple [.tuple [.int 1, .int 1]], .tuple [.int 0, .int 1, .int 0], .tuple [.tuple [.int 1, .int 2], .tuple [.int 1, .int 2]], .tuple [.tuple [.int 1, .int 1], .tuple [.int 0, .int 1]], .tuple [.tuple [.tuple [.int 1, .int 1]]], .tuple [.int 0, .int 0, .int 0], .tuple [.tuple [.int 1, .int 1], .tuple [.int 1, .int 1], .tuple [.int 1, .int 1]], .tuple [.none], .tuple [.tuple []], .list [], .list [.int 1], .list [.tuple [.int 1, .int 1]], .list [.list [.tuple [.int 1, .int 1]]], .dict [], .dict [(.str (Str.ofString "a"), .int 1)], .tuple [.str (Str.ofString "a"), .none]]
theorem odd_1 {f : Fx} {A : Mx} {s s1 : Sto} {L : List PyData} {y : PyData} (e1 : A [some .s] s = some (.d (.tuple L), s)) (e : f [.s, .d (.tuple L)] s = some (.d y, s1)) : mRet (mCall f (maCons (mVar 0) (maCons A maNil))) [some .s] s = some (.rt (.d y), [some .s], s1) := by
  simp [e1, e]
theorem odd_sz : oddL.all (sz 4) = true := by decide
theorem e_odd {s : Sto} {m : Nat} (v : Vs (m + 1) s) : ∃ (y : PyData) (s' : Sto), f_law_odd [.s] s = some (.d y, s') ∧ sz 4 y = true ∧ Vs m s' := by
  obtain ⟨y, hy, s', e, v'⟩ := e_any (xs := oddL) v (by decide) (by decide)
  refine ⟨y, s', ?_, List.all_eq_true.mp odd_sz y hy, v'⟩
  refine run_rt rfl rfl (odd_1 (L := oddL) ?_ e)
  rfl
end W2

/-! Pl16: bending -/
namespace Dh
open PySem PySem.Spec L2
theorem cutD_mem {xs : List PyData} {lo hi : Option Int} {z : PyData} (h : z ∈ cutD xs lo hi) : z ∈ xs := List.mem_of_mem_drop (List.mem_of_mem_take h)
theorem cutD_len (xs : List PyData) (lo hi : Option Int) : (cutD xs lo hi).length ≤ xs.length := by
  unfold cutD
  rw [List.length_take, List.length_drop]
  omega
theorem sz_tup_mk {n : Nat} {xs : List PyData} (h1 : xs.length ≤ 64) (h2 : ∀ x ∈ xs, sz n x = true) : sz (n + 1) (.tuple xs) = true := by
  simp only [sz, decide_eq_true h1, Bool.true_and, List.all_eq_true]
  exact h2
theorem sz_list_mk {n : Nat} {xs : List PyData} (h1 : xs.length ≤ 64) (h2 : ∀ x ∈ xs, sz n x = true) : sz (n + 1) (.list xs) = true := by
  simp only [sz, decide_eq_true h1, Bool.true_and, List.all_eq_true]
  exact h2
theorem sz_int_mk {n : Nat} {i : Int} (h : i.natAbs < 2 ^ 40) : sz (n + 1) (.int i) = true := by
  simp [sz, h]
theorem sz_up : ∀ {n : Nat} {x : PyData}, sz n x = true → sz (n + 1) x = true
  | 0, x, h => by simp [sz] at h
  | n + 1, x, h => by
    cases x with
    | tuple xs => exact sz_tup_mk (sz_tup h).1 fun y hy => sz_up ((sz_tup h).2 y hy)
    | list xs =>
      have a : xs.length ≤ 64 ∧ ∀ x ∈ xs, sz n x = true := by simpa [sz] using h
      exact sz_list_mk a.1 fun y hy => sz_up (a.2 y hy)
    | int i => simpa [sz] using h
    | _ => rfl
theorem sz_le {n k : Nat} {x : PyData} (h : sz n x = true) (hk : n ≤ k) : sz k x = true := by
  induction hk with
  | refl => exact h
  | step _ ih => exact sz_up ih
end Dh
namespace W2
open PySem PySem.Spec L2 Dh
theorem lit30 : (2 : Nat) ^ 30 = 1073741824 := by decide
theorem e_twice {xs : List PyData} {s : Sto} {k : Nat} (h : cl 20 30 (k + 1) (.tuple xs) = true) : ∃ y, f_law_twice [.d (.tuple xs)] s = some (.d y, s) ∧ sz (k + 2) y = true := by
  have hc := cl_tup_of h
  have hz : ∀ x ∈ xs, sz k x = true := fun x hx => cl_sz (by decide) (by decide) (hc.2 x hx)
  have hl : xs.length + xs.length ≤ sizeLine := le64 (by omega)
  by_cases h2 : xs.length = 2
  · match xs, h2, hc, hl, hz with
    | [a, b], _, hc, hl, hz =>
      by_cases hi : (∃ i, a = .int i) ∧ ∃ j, b = .int j
      · obtain ⟨⟨i, rfl⟩, j, rfl⟩ := hi
        have ha := hc.2 (.int i) (by simp)
        have hb := hc.2 (.int j) (by simp)
        cases k with
        | zero => simp [cl] at ha
        | succ k =>
          have ha' : i.natAbs < 2 ^ 30 := by simpa [cl] using ha
          have hb' : j.natAbs < 2 ^ 30 := by simpa [cl] using hb
          have m1 : mulOk i 2 = true := mulOk_of (a := 30) (b := 2) ha' (by decide) (by decide)
          have m2 : mulOk j 2 = true := mulOk_of (a := 30) (b := 2) hb' (by decide) (by decide)
          refine ⟨.tuple [.int (i * 2), .int (j * 2)], by simp [f_law_twice, m_law_twice, m1, m2, sz2], sz_tup_mk (by simp) fun x hx => ?_⟩
          rw [lit30] at ha' hb'
          simp only [List.mem_cons, List.not_mem_nil, or_false] at hx
          rcases hx with rfl | rfl
          · exact sz_int_mk (by rw [lit40]; omega)
          · exact sz_int_mk (by rw [lit40]; omega)
      · have ht : isA "int" a = false ∨ (isA "int" a = true ∧ isA "int" b = false) := by
          have ha := hc.2 a (by simp)
          have hb := hc.2 b (by simp)
          cases k with
          | zero => simp [cl] at ha
          | succ k =>
            cases a with
            | int i =>
              cases b with
              | int j => exact absurd ⟨⟨i, rfl⟩, j, rfl⟩ hi
              | bool _ => simp [cl] at hb
              | _ => exact .inr ⟨rfl, rfl⟩
            | bool _ => simp [cl] at ha
            | _ => exact .inl rfl
        refine ⟨.tuple ([a, b] ++ [a, b]), ?_, sz_tup_mk (by simp) fun x hx => sz_up (hz x (by rcases List.mem_append.mp hx with h | h <;> exact h))⟩
        rcases ht with ht | ⟨ht, ht2⟩
        · simp [f_law_twice, m_law_twice, ht, show 4 ≤ sizeLine by decide]
        · simp [f_law_twice, m_law_twice, ht, ht2, show 4 ≤ sizeLine by decide]
  · refine ⟨.tuple (xs ++ xs), ?_, sz_tup_mk (by rw [List.length_append]; omega) fun x hx => sz_up (hz x (by simpa using hx))⟩
    have h3 : ¬ ((xs.length : Int) = 2) := by omega
    simp [f_law_twice, m_law_twice, h3, hl]
theorem bn_1 {f : Fx} {x : PyData} (hx : isA "tuple" x = false) {T : Mt} {A : Ms} {s : Sto} {x0 x2 x3 x4 : Option Cl} : mIfS (tAnd2 (bT (m1 (fIsi "tuple") (mVar 1))) T) A mNil [x0, some (.d x), x2, x3, x4] s = some (.nx, [x0, some (.d x), x2, x3, x4], s) := by
  simp [hx]
theorem bn_2 {T : Mt} {A : Ms} {s : Sto} {x0 x2 x3 x4 : Option Cl} : mIfS (tAnd2 (bT (m1 (fIsi "tuple") (mVar 1))) (tAnd2 (bT (m2 (fI gGt) (mA fLen (maCons (mVar 1) maNil)) (mKon (.int 0)))) T)) A mNil [x0, some (.d (.tuple [])), x2, x3, x4] s = some (.nx, [x0, some (.d (.tuple [])), x2, x3, x4], s) := by
  simp
theorem bn_3 {f : Fx} {y : PyData} {ys : List PyData} {s s1 : Sto} {u : Int} (e : f [.s, .d (.int 7)] s = some (.d (.int u), s1)) (hu : ¬ 0 < u) {A : Ms} {x2 x3 x4 : Option Cl} :
    mIfS (tAnd2 (bT (m1 (fIsi "tuple") (mVar 1))) (tAnd2 (bT (m2 (fI gGt) (mA fLen (maCons (mVar 1) maNil)) (mKon (.int 0)))) (bT (m2 (fI gGt) (mCall f (maCons (mVar 0) (maCons (mKon (.int 7)) maNil))) (mKon (.int 0)))))) A mNil [some .s, some (.d (.tuple (y :: ys))), x2, x3, x4] s = some (.nx, [some .s, some (.d (.tuple (y :: ys))), x2, x3, x4], s1) := by
  have h : (0 : Int) < (ys.length : Int) + 1 := by omega
  simp [e, hu, h]
theorem bn_4 {f : Fx} {y : PyData} {ys : List PyData} {s s1 : Sto} {u : Int} (e : f [.s, .d (.int 7)] s = some (.d (.int u), s1)) (hu : 0 < u) {A : Ms} {x2 x3 x4 : Option Cl} :
    mIfS (tAnd2 (bT (m1 (fIsi "tuple") (mVar 1))) (tAnd2 (bT (m2 (fI gGt) (mA fLen (maCons (mVar 1) maNil)) (mKon (.int 0)))) (bT (m2 (fI gGt) (mCall f (maCons (mVar 0) (maCons (mKon (.int 7)) maNil))) (mKon (.int 0)))))) A mNil [some .s, some (.d (.tuple (y :: ys))), x2, x3, x4] s = A [some .s, some (.d (.tuple (y :: ys))), x2, x3, x4] s1 := by
  have h : (0 : Int) < (ys.length : Int) + 1 := by omega
  simp [e, hu, h]
theorem bn_5 {f : Fx} {xs : List PyData} {s s1 : Sto} {d : PyData} {n : Int} (hn : (xs.length : Int) = n) (e : f [.s, .d (.int n)] s = some (.d d, s1)) {x2 x3 x4 : Option Cl} : mSet 2 (mCall f (maCons (mVar 0) (maCons (mA fLen (maCons (mVar 1) maNil)) maNil))) [some .s, some (.d (.tuple xs)), x2, x3, x4] s = some (.nx, [some .s, some (.d (.tuple xs)), some (.d d), x3, x4], s1) := by
  simp [hn, e]
theorem bn_6 {g : Fx} {xs : List PyData} {x y : PyData} {d : Int} {s s1 : Sto} (hx : atI xs d = some x) (e : g [.s, .d x] s = some (.d y, s1)) (hl : xs.length ≤ 20) {x3 x4 : Option Cl} :
    mRet (m2 fAdd (m2 fAdd (mSl (mVar 1) moNone (moSome (mVar 2))) (mA fTup (maCons (mCall g (maCons (mVar 0) (maCons (mIx (mVar 1) (mVar 2)) maNil))) maNil))) (mSl (mVar 1) (moSome (m2 fAdd (mVar 2) (mKon (.int 1)))) moNone)) [some .s, some (.d (.tuple xs)), some (.d (.int d)), x3, x4] s
      = some (.rt (.d (.tuple ((cutD xs none (some d) ++ [y]) ++ cutD xs (some (d + 1)) none))), [some .s, some (.d (.tuple xs)), some (.d (.int d)), x3, x4], s1) := by
  have a := cutD_len xs none (some d)
  have b := cutD_len xs (some (d + 1)) none
  have c : (cutD xs none (some d)).length + 1 ≤ sizeLine := le64 (by omega)
  have c2 : (cutD xs none (some d)).length + 1 + (cutD xs (some (d + 1)) none).length ≤ sizeLine := le64 (by omega)
  have c3 : (cutD xs none (some d)).length + ((cutD xs (some (d + 1)) none).length + 1) ≤ sizeLine := le64 (by omega)
  simp [hx, e, mSl, moSome, moNone, fSl, sz1, c, c2, c3]
theorem bn_7 {f : Fx} {s s1 : Sto} {d : PyData} (e : f [.s, .d (.int 9)] s = some (.d d, s1)) {x1 x2 x3 x4 : Option Cl} : mSet 3 (mCall f (maCons (mVar 0) (maCons (mKon (.int 9)) maNil))) [some .s, x1, x2, x3, x4] s = some (.nx, [some .s, x1, x2, some (.d d), x4], s1) := by
  simp [e]
theorem bn_8 {T : String} {x : PyData} {w : Int} {A B : Ms} {s : Sto} {x0 x2 x4 : Option Cl} : mIfS (tAnd2 (bT (m1 (fIsi T) (mVar 1))) (bT (m2 (fI gLt) (mVar 3) (mKon (.int 7))))) A B [x0, some (.d x), x2, some (.d (.int w)), x4] s = if isA T x = true ∧ w < 7 then A [x0, some (.d x), x2, some (.d (.int w)), x4] s else B [x0, some (.d x), x2, some (.d (.int w)), x4] s := by
  cases h : isA T x
  · simp [h]
  · by_cases q : w < 7 <;> simp [h, q]
theorem bn_9 {g : Fx} {x y : PyData} {s : Sto} (e : g [.d x] s = some (.d y, s)) {x0 x2 x3 x4 : Option Cl} : mSet 4 (mCall g (maCons (mVar 1) maNil)) [x0, some (.d x), x2, x3, x4] s = some (.nx, [x0, some (.d x), x2, x3, some (.d y)], s) := by
  simp [e]
theorem bn_10 {xs : List PyData} {y z : PyData} {w : Int} {s : Sto} (hl : xs.length ≤ 20) (hz : atI [.tuple (xs ++ cutD xs (some (-1)) none), .tuple (cutD xs (some 1) none), .tuple (cutD xs none (some (-1))), .tuple xs.reverse, .list xs, .tuple [.tuple xs], y] w = some z) {x0 x2 : Option Cl} :
    mRet (mIx (mA fTup (maCons (m2 fAdd (mVar 1) (mSl (mVar 1) (moSome (m1 fNeg (mKon (.int 1)))) moNone)) (maCons (mSl (mVar 1) (moSome (mKon (.int 1))) moNone) (maCons (mSl (mVar 1) moNone (moSome (m1 fNeg (mKon (.int 1))))) (maCons (m1 fRev (mVar 1)) (maCons (mA fLstOf (maCons (mVar 1) maNil)) (maCons (mA fTup (maCons (mVar 1) maNil)) (maCons (mVar 4) maNil)))))))) (mVar 3)) [x0, some (.d (.tuple xs)), x2, some (.d (.int w)), some (.d y)] s
      = some (.rt (.d z), [x0, some (.d (.tuple xs)), x2, some (.d (.int w)), some (.d y)], s) := by
  have b := cutD_len xs (some (-1)) none
  have c : xs.length + (cutD xs (some (-1)) none).length ≤ sizeLine := le64 (by omega)
  have e7 : 7 ≤ sizeLine := by decide
  simp [mSl, moSome, moNone, fSl, c, fRev, fLstOf, sz1, e7, hz]
theorem bn_11 {i w : Int} {z : PyData} {s : Sto} (hm : mulOk i 2 = true) {st : Str} (es : fStr [.d (.int i)] = some (.d (.str st))) (hz : atI [.int (i - 1), .int (i + 1), .int (0 - i), .int (i * 2), .bool (decide (0 < i)), .int (i + 7), .str st] w = some z) {x0 x2 x4 : Option Cl} :
    mRet (mIx (mA fTup (maCons (m2 (fI gMns) (mVar 1) (mKon (.int 1))) (maCons (m2 fAdd (mVar 1) (mKon (.int 1))) (maCons (m2 (fI gMns) (mKon (.int 0)) (mVar 1)) (maCons (m2 fMul (mVar 1) (mKon (.int 2))) (maCons (m2 (fI gGt) (mVar 1) (mKon (.int 0))) (maCons (m2 fAdd (mVar 1) (mKon (.int 7))) (maCons (mA fStr (maCons (mVar 1) maNil)) maNil)))))))) (mVar 3)) [x0, some (.d (.int i)), x2, some (.d (.int w)), x4] s
      = some (.rt (.d z), [x0, some (.d (.int i)), x2, some (.d (.int w)), x4], s) := by
  have e7 : 7 ≤ sizeLine := by decide
  simp only [Int.zero_sub] at hz
  simp [hm, es, e7, hz]
theorem bn_12 {f : Fx} {s s1 : Sto} {y : PyData} (e : f [.s] s = some (.d y, s1)) {x1 x2 x3 x4 : Option Cl} : mRet (mCall f (maCons (mVar 0) maNil)) [some .s, x1, x2, x3, x4] s = some (.rt (.d y), [some .s, x1, x2, x3, x4], s1) := by
  simp [e]
end W2

/-! Pl17: bending, the whole -/
namespace W2
open PySem PySem.Spec L2 Dh
theorem seq_rt {a b : Ms} {ρ ρ1 : Ev} {s s1 : Sto} {r : R} (h : a ρ s = some (.rt r, ρ1, s1)) : mSeq a b ρ s = some (.rt r, ρ1, s1) := by
  rw [ev_mSeq, h]
def BSpec (k : Nat) (g : Fx) : Prop := ∀ (x : PyData) (s : Sto) (m : Nat), cl 20 30 k x = true → Vs (m + 3 * k) s → ∃ (y : PyData) (s' : Sto), g [.s, .d x] s = some (.d y, s') ∧ sz (k + 4) y = true ∧ Vs m s'
/-- the second half of the body -/
theorem bent_tail {k : Nat} {g : Fx} {x : PyData} {s : Sto} {m : Nat} (hc : cl 20 30 (k + 1) x = true) (v : Vs (m + 2) s) (x2 x3 x4 : Option Cl) : ∃ (y : PyData) (s' : Sto) (ρ' : Ev),
    (mSeq (mSet 3 (mCall f_law_pick (maCons (mVar 0) (maCons (mKon (.int 9)) maNil))))
    (mSeq (mIfS (tAnd2 (bT (m1 (fIsi "tuple") (mVar 1))) (bT (m2 (fI gLt) (mVar 3) (mKon (.int 7)))))
    (mSeq (mSet 4 (mCall f_law_twice (maCons (mVar 1) maNil)))
    (mRet (mIx (mA fTup (maCons (m2 fAdd (mVar 1) (mSl (mVar 1) (moSome (m1 fNeg (mKon (.int 1)))) moNone)) (maCons (mSl (mVar 1) (moSome (mKon (.int 1))) moNone) (maCons (mSl (mVar 1) moNone (moSome (m1 fNeg (mKon (.int 1))))) (maCons (m1 fRev (mVar 1)) (maCons (mA fLstOf (maCons (mVar 1) maNil)) (maCons (mA fTup (maCons (mVar 1) maNil)) (maCons (mVar 4) maNil)))))))) (mVar 3))))
    mNil)
    (mSeq (mIfS (tAnd2 (bT (m1 (fIsi "int") (mVar 1))) (bT (m2 (fI gLt) (mVar 3) (mKon (.int 7)))))
    (mRet (mIx (mA fTup (maCons (m2 (fI gMns) (mVar 1) (mKon (.int 1))) (maCons (m2 fAdd (mVar 1) (mKon (.int 1))) (maCons (m2 (fI gMns) (mKon (.int 0)) (mVar 1)) (maCons (m2 fMul (mVar 1) (mKon (.int 2))) (maCons (m2 (fI gGt) (mVar 1) (mKon (.int 0))) (maCons (m2 fAdd (mVar 1) (mKon (.int 7))) (maCons (mA fStr (maCons (mVar 1) maNil)) maNil)))))))) (mVar 3)))
    mNil)
    (mRet (mCall f_law_odd (maCons (mVar 0) maNil)))))) [.some .s, some (.d x), x2, x3, x4] s = some (.rt (.d y), ρ', s') ∧ sz (k + 5) y = true ∧ Vs m s' := by
  obtain ⟨w, s1, e1, w0, w9, v1⟩ := e_pick (m := m + 1) (l := 9) v (by decide) (by decide)
  obtain ⟨o, s2, e2, o1, v2⟩ := e_odd (m := m) v1
  have hodd : sz (k + 5) o = true := sz_le o1 (by omega)
  cases x with
  | tuple xs =>
    by_cases hw : w < 7
    · have h := cl_tup_of hc
      have hz : ∀ x ∈ xs, sz k x = true := fun x hx => cl_sz (by decide) (by decide) (h.2 x hx)
      obtain ⟨y, ey, zy⟩ := e_twice (s := s1) hc
      obtain ⟨z, hzm, ez⟩ := atI_pick (xs := [PyData.tuple (xs ++ cutD xs (some (-1)) none), .tuple (cutD xs (some 1) none), .tuple (cutD xs none (some (-1))), .tuple xs.reverse, .list xs, .tuple [.tuple xs], y]) w0 hw
      refine ⟨z, s1, [some .s, some (.d (.tuple xs)), x2, some (.d (.int w)), some (.d y)], seq_nx (bn_7 e1) (seq_rt ?_), ?_, v1.mono (by omega)⟩
      · have q := (seq_nx (bn_9 (x0 := some .s) (x2 := x2) (x3 := some (.d (.int w))) (x4 := x4) ey) (bn_10 (s := s1) (x0 := some .s) (x2 := x2) h.1 ez))
        rw [bn_8, if_pos ⟨rfl, hw⟩, q]
      · have c1 := cutD_len xs (some (-1)) none
        have c2 := cutD_len xs (some 1) none
        have c3 := cutD_len xs none (some (-1))
        have up : ∀ x ∈ xs, sz (k + 4) x = true := fun x hx => sz_le (hz x hx) (by omega)
        simp only [List.mem_cons, List.not_mem_nil, or_false] at hzm
        rcases hzm with rfl | rfl | rfl | rfl | rfl | rfl | rfl
        · exact sz_tup_mk (by rw [List.length_append]; omega) fun x hx => by
            rcases List.mem_append.mp hx with hx | hx
            · exact up x hx
            · exact up x (cutD_mem hx)
        · exact sz_tup_mk (by omega) fun x hx => up x (cutD_mem hx)
        · exact sz_tup_mk (by omega) fun x hx => up x (cutD_mem hx)
        · exact sz_tup_mk (by rw [List.length_reverse]; omega) fun x hx => up x (List.mem_reverse.mp hx)
        · exact sz_list_mk (by omega) up
        · exact sz_tup_mk (by simp) fun x hx => by
            obtain rfl := List.mem_singleton.mp hx
            exact sz_tup_mk (n := k + 3) (by omega) fun x hx => sz_le (hz x hx) (by omega)
        · exact sz_le zy (by omega)
    · refine ⟨o, s2, _, seq_nx (bn_7 e1) (seq_nx (s1 := s1) (ρ1 := [some .s, some (.d (.tuple xs)), x2, some (.d (.int w)), x4]) (bn_8.trans (if_neg (fun q => hw q.2))) (seq_nx (s1 := s1) (ρ1 := [some .s, some (.d (.tuple xs)), x2, some (.d (.int w)), x4]) (bn_8.trans (if_neg (fun q => hw q.2))) (bn_12 e2))), hodd, v2⟩
  | int i =>
    by_cases hw : w < 7
    · have hi : i.natAbs < 2 ^ 30 := by simpa [cl] using hc
      have hm : mulOk i 2 = true := mulOk_of (a := 30) (b := 2) hi (by decide) (by decide)
      have hlog : i.natAbs.log2 < 1920 := by
        by_cases z : i.natAbs = 0
        · rw [z]; decide
        · have := (Nat.log2_lt z).mpr hi
          omega
      obtain ⟨z, hzm, ez⟩ := atI_pick (xs := [PyData.int (i - 1), .int (i + 1), .int (0 - i), .int (i * 2), .bool (decide (0 < i)), .int (i + 7), .str (toString i : String)]) w0 hw
      refine ⟨z, s1, [some .s, some (.d (.int i)), x2, some (.d (.int w)), x4], seq_nx (bn_7 e1) (seq_nx (s1 := s1) (ρ1 := [some .s, some (.d (.int i)), x2, some (.d (.int w)), x4]) (bn_8.trans (if_neg (fun q => by cases q.1))) (seq_rt ?_)), ?_, v1.mono (by omega)⟩
      · have q := bn_11 (s := s1) (x0 := some .s) (x2 := x2) (x4 := x4) hm (if_pos hlog) ez
        rw [bn_8, if_pos ⟨rfl, hw⟩, q]
      · rw [lit30] at hi
        simp only [List.mem_cons, List.not_mem_nil, or_false] at hzm
        rcases hzm with rfl | rfl | rfl | rfl | rfl | rfl | rfl
        · exact sz_int_mk (by rw [lit40]; omega)
        · exact sz_int_mk (by rw [lit40]; omega)
        · exact sz_int_mk (by rw [lit40]; omega)
        · exact sz_int_mk (by rw [lit40]; omega)
        · rfl
        · exact sz_int_mk (by rw [lit40]; omega)
        · rfl
    · refine ⟨o, s2, _, seq_nx (bn_7 e1) (seq_nx (s1 := s1) (ρ1 := [some .s, some (.d (.int i)), x2, some (.d (.int w)), x4]) (bn_8.trans (if_neg (fun q => hw q.2))) (seq_nx (s1 := s1) (ρ1 := [some .s, some (.d (.int i)), x2, some (.d (.int w)), x4]) (bn_8.trans (if_neg (fun q => hw q.2))) (bn_12 e2))), hodd, v2⟩
  | list xs =>
    refine ⟨o, s2, _, seq_nx (bn_7 e1) (seq_nx (s1 := s1) (ρ1 := [some .s, some (.d (.list xs)), x2, some (.d (.int w)), x4]) (bn_8.trans (if_neg (fun q => by cases q.1))) (seq_nx (s1 := s1) (ρ1 := [some .s, some (.d (.list xs)), x2, some (.d (.int w)), x4]) (bn_8.trans (if_neg (fun q => by cases q.1))) (bn_12 e2))), hodd, v2⟩
  | _ => simp [cl] at hc
theorem bent_step {k : Nat} {g : Fx} (ih : BSpec k g) : BSpec (k + 1) (run' 2 5 (m_law_bent g)) := by
  intro x s m hc v
  by_cases ht : ∃ y ys, x = .tuple (y :: ys)
  · obtain ⟨y, ys, rfl⟩ := ht
    have h := cl_tup_of hc
    obtain ⟨u, s1, e1, u0, u7, v1⟩ := e_pick (m := m + 3 * k + 2) (l := 7) (v.mono (by omega)) (by decide) (by decide)
    by_cases hu : 0 < u
    · obtain ⟨d, s2, e2, d0, d1, v2⟩ := e_pick (m := m + 3 * k) (l := (((y :: ys).length : Nat) : Int)) (v1.mono (by omega)) (by rw [List.length_cons]; omega) (by have := h.1; omega)
      obtain ⟨z, hz, ez⟩ := atI_pick d0 d1
      obtain ⟨b, s3, e3, b1, v3⟩ := ih z s2 m (h.2 z hz) v2
      refine ⟨.tuple ((cutD (y :: ys) none (some d) ++ [b]) ++ cutD (y :: ys) (some (d + 1)) none), s3, run_rt rfl rfl (ρ' := [some .s, some (.d (.tuple (y :: ys))), some (.d (.int d)), none, none]) ?_, ?_, v3⟩
      · unfold m_law_bent
        have q := (bn_4 (x2 := none) (x3 := none) (x4 := none) (A := (mSeq (mSet 2 (mCall f_law_pick (maCons (mVar 0) (maCons (mA fLen (maCons (mVar 1) maNil)) maNil))))
    (mRet (m2 fAdd (m2 fAdd (mSl (mVar 1) moNone (moSome (mVar 2))) (mA fTup (maCons (mCall g (maCons (mVar 0) (maCons (mIx (mVar 1) (mVar 2)) maNil))) maNil))) (mSl (mVar 1) (moSome (m2 fAdd (mVar 2) (mKon (.int 1)))) moNone))))) (y := y) (ys := ys) e1 hu).trans (seq_nx (bn_5 rfl e2) (bn_6 ez e3 h.1))
        exact seq_rt q
      · have c1 := cutD_len (y :: ys) none (some d)
        have c2 := cutD_len (y :: ys) (some (d + 1)) none
        refine sz_tup_mk (n := k + 4) (by rw [List.length_append, List.length_append, List.length_cons, List.length_nil]; omega) fun x hx => ?_
        have up : ∀ x ∈ (y :: ys), sz (k + 4) x = true := fun x hx => sz_le (cl_sz (by decide) (by decide) (h.2 x hx)) (by omega)
        rcases List.mem_append.mp hx with hx | hx
        · rcases List.mem_append.mp hx with hx | hx
          · exact up x (cutD_mem hx)
          · obtain rfl := List.mem_singleton.mp hx
            exact b1
        · exact up x (cutD_mem hx)
    · obtain ⟨z, s2, ρ', e2, z1, v2⟩ := bent_tail (g := g) (m := m) hc (v1.mono (by omega)) none none none
      exact ⟨z, s2, run_rt rfl rfl (seq_nx (bn_3 e1 hu) e2), z1, v2⟩
  · obtain ⟨z, s2, ρ', e2, z1, v2⟩ := bent_tail (g := g) (m := m) hc (v.mono (by omega)) none none none
    refine ⟨z, s2, run_rt rfl rfl (seq_nx (s1 := s) (ρ1 := [some .s, some (.d x), none, none, none]) ?_ e2), z1, v2⟩
    cases x with
    | tuple xs =>
      cases xs with
      | nil => exact bn_2
      | cons y ys => exact absurd ⟨y, ys, rfl⟩ ht
    | int i => exact bn_1 (f := g) rfl
    | list xs => exact bn_1 (f := g) rfl
    | _ => simp [cl] at hc
theorem bent_all : ∀ (n k : Nat), k ≤ n → BSpec k (f_law_bent n)
  | n, 0, _ => fun x s m hc _ => by simp [cl] at hc
  | 0, k + 1, h => by omega
  | n + 1, k + 1, h => bent_step (bent_all n k (by omega))
theorem mb_1 {f : Fx} {s s1 : Sto} {d : PyData} (e : f [.s, .d (.int 10)] s = some (.d d, s1)) {x1 x2 : Option Cl} : mSet 2 (mCall f (maCons (mVar 0) (maCons (mKon (.int 10)) maNil))) [some .s, x1, x2] s = some (.nx, [some .s, x1, some (.d d)], s1) := by
  simp [e]
theorem mb_2 {f g : Fx} {s s1 : Sto} {w : Int} {x y : PyData} (hw : w < 9) (e : f [.s, .d x] s = some (.d y, s1)) : mRet (mIf (bT (m2 (fI gLt) (mVar 2) (mKon (.int 9)))) (mCall f (maCons (mVar 0) (maCons (mVar 1) maNil))) (mCall g (maCons (mVar 0) maNil))) [some .s, some (.d x), some (.d (.int w))] s = some (.rt (.d y), [some .s, some (.d x), some (.d (.int w))], s1) := by
  simp [hw, e]
theorem mb_3 {f g : Fx} {s s1 : Sto} {w : Int} {x y : PyData} (hw : ¬ w < 9) (e : g [.s] s = some (.d y, s1)) : mRet (mIf (bT (m2 (fI gLt) (mVar 2) (mKon (.int 9)))) (mCall f (maCons (mVar 0) (maCons (mVar 1) maNil))) (mCall g (maCons (mVar 0) maNil))) [some .s, some (.d x), some (.d (.int w))] s = some (.rt (.d y), [some .s, some (.d x), some (.d (.int w))], s1) := by
  simp [hw, e]
theorem e_maybe {x : PyData} {s : Sto} {m : Nat} (hc : cl 20 30 8 x = true) (v : Vs (m + 30) s) : ∃ (y : PyData) (s' : Sto), f_law_maybe [.s, .d x] s = some (.d y, s') ∧ sz 12 y = true ∧ Vs m s' := by
  obtain ⟨w, s1, e1, w0, w9, v1⟩ := e_pick (m := m + 29) (l := 10) v (by decide) (by decide)
  by_cases h6 : w < 6
  · refine ⟨x, s1, run_rt rfl rfl (seq_nx (mb_1 e1) (seq_rt (ρ1 := [some .s, some (.d x), some (.d (.int w))]) ?_)), sz_le (cl_sz (by decide) (by decide) hc) (by decide), v1.mono (by omega)⟩
    · rw [if_lt rfl, if_pos h6]
      rfl
  · by_cases h9 : w < 9
    · obtain ⟨y, s2, e2, y1, v2⟩ := bent_all 12 8 (by decide) x s1 m hc (v1.mono (by omega))
      exact ⟨y, s2, run_rt rfl rfl (seq_nx (mb_1 e1) (seq_nx ((if_lt rfl).trans (if_neg h6)) (mb_2 h9 e2))), y1, v2⟩
    · obtain ⟨y, s2, e2, y1, v2⟩ := e_odd (m := m) (v1.mono (by omega))
      exact ⟨y, s2, run_rt rfl rfl (seq_nx (mb_1 e1) (seq_nx ((if_lt rfl).trans (if_neg h6)) (mb_3 h9 e2))), sz_le y1 (by decide), v2⟩
end W2

/-! Pl18: weighted and dressed -/
namespace Dh
open PySem PySem.Spec L2
def frs : PyData → List Fr
  | .tuple g => g.map frOf
  | _ => []
def ddW (b : List Fr) : PyData → PyData
  | .tuple [c, g] => .tuple [c, .tuple [pF (fdot b (frs g))]]
  | d => d
theorem frs_map (qs : List Fr) : frs (.tuple (qs.map pF)) = qs := by
  show (qs.map pF).map frOf = qs
  rw [List.map_map]
  exact List.map_id' _
end Dh
namespace W2
open PySem PySem.Spec L2 Dh
theorem for_nx {g : Gx} {body : Ms} {x : PyData} {xs : List PyData} {ρ ρ1 ρ2 : Ev} {s s2 : Sto} {z : Option (Out × Ev × Sto)} (h1 : g x ρ = some ρ1) (h2 : body ρ1 s = some (.nx, ρ2, s2)) (h3 : forRun g body xs ρ2 s2 = z) : forRun g body (x :: xs) ρ s = z := by
  unfold forRun
  rw [h1]
  dsimp only
  rw [h2]
  exact h3
theorem ldot_run {k : Nat} {s : Sto} (v0 v1 : Option Cl) : ∀ (l : List (Fr × Fr)) (p : Fr) (n : Nat) (c d : Option Cl), (∀ q ∈ l, (0 < q.1.2 ∧ FrLt k q.1) ∧ (0 < q.2.2 ∧ FrLt k q.2)) → 0 < p.2 → FrLt n p → n + (k + k + 1) * l.length + (k + k) ≤ 9000 →
    ∃ c' d', forRun (gT 2 (gsCons (gN 3) (gsCons (gN 4) gsNil))) (mSet 2 (mCall f_law_plus (maCons (mVar 2) (maCons (mCall f_law_times (maCons (mVar 3) (maCons (mVar 4) maNil))) maNil)))) (l.map pPr) [v0, v1, some (.d (pF p)), c, d] s
      = some (.nx, [v0, v1, some (.d (pF ((l.map fun p => ftm p.1 p.2).foldl fpl p))), c', d'], s)
  | [], p, n, c, d, _, _, _, _ => ⟨c, d, by simp⟩
  | q :: l, p, n, c, d, hl, h, h2, hn => by
    have hq := hl q List.mem_cons_self
    rw [List.length_cons, Nat.mul_add] at hn
    have e1 := e_ltimes (s := s) hq.1.2 hq.2.2 hq.1.1 hq.2.1 (by omega)
    have t1 := ftm_lt hq.1.2 hq.2.2 hq.1.1 hq.2.1
    have t2 := (ftm_ok (p := q.1) (q := q.2) hq.1.1 hq.2.1).1
    have e2 := e_lplus (s := s) h2 t1 h t2 (by omega)
    obtain ⟨c', d', r⟩ := ldot_run v0 v1 l (fpl p (ftm q.1 q.2)) (n + (k + k) + 1) (some (.d (pF q.1))) (some (.d (pF q.2))) (fun z hz => hl z (List.mem_cons_of_mem _ hz)) (fpl_ok h t2).1 (fpl_lt h2 t1 h t2) (by omega)
    refine ⟨c', d', ?_⟩
    rw [List.map_cons, List.map_cons, List.foldl_cons]
    unfold forRun
    simp [pPr, e1, e2]
    exact r
theorem e_ldot {l m : List Fr} {k : Nat} {s : Sto} (hl : ∀ q ∈ l, 0 < q.2 ∧ FrLt k q) (hm : ∀ q ∈ m, 0 < q.2 ∧ FrLt k q) (h : (k + k + 1) * (l.length + 1) ≤ 8999) : f_law_dot [.d (.tuple (l.map pF)), .d (.tuple (m.map pF))] s = some (.d (pF (fdot l m)), s) := by
  have hz : (l.zip m).length ≤ l.length := by rw [List.length_zip]; exact Nat.min_le_left _ _
  have hp := zip_mem (P := fun q => 0 < q.2 ∧ FrLt k q) hl hm
  have hk : (k + k + 1) * (l.zip m).length ≤ (k + k + 1) * l.length := Nat.mul_le_mul_left _ hz
  rw [Nat.mul_add] at h
  obtain ⟨c', d', r⟩ := ldot_run (k := k) (s := s) (some (.d (.tuple (l.map pF)))) (some (.d (.tuple (m.map pF)))) (l.zip m) (0, 1) 1 none none hp (by decide) one_lt (by omega)
  refine run_rt rfl rfl (seq_nx (s1 := s) (ρ1 := [some (.d (.tuple (l.map pF))), some (.d (.tuple (m.map pF))), some (.d (pF (0, 1))), none, none]) (by simp [List.replicate_succ, sz2, pF]) (seq_nx (s1 := s) (ρ1 := [some (.d (.tuple (l.map pF))), some (.d (.tuple (m.map pF))), some (.d (pF (fdot l m))), c', d']) ?_ rfl))
  rw [ev_mFor, show mArgI zip2 (maCons (mVar 0) (maCons (mVar 1) maNil)) [some (.d (.tuple (l.map pF))), some (.d (.tuple (m.map pF))), some (.d (pF (0, 1))), none, none] s = some ((l.zip m).map pPr, s) by simp [zip2, pairs_map]]
  exact r
theorem wb_in {f : Fx} {b : PyData} {h : PyData × PyData → PyData} {s : Sto} {ps : List (PyData × PyData)} (hf : ∀ p ∈ ps, f [.d b, .d p.2] s = some (.d (h p), s)) (hl : ps.length ≤ 64) {x0 x2 x4 x5 : Option Cl} :
    mA fTupOf (maCons (mLc (mSeqI (mVar 3)) [4, 5] (gT 2 (gsCons (gN 4) (gsCons (gN 5) gsNil))) mYes (mA fTup (maCons (mVar 4) (maCons (mA fTup (maCons (mCall f (maCons (mVar 1) (maCons (mVar 5) maNil))) maNil)) maNil)))) maNil) [x0, some (.d b), x2, some (.d (.tuple (ps.map mk2))), x4, x5] s
      = some (.d (.tuple (ps.map fun p => .tuple [p.1, .tuple [h p]])), s) := by
  have e := lc_map2 (i := 4) (j := 5) (ρ := [x0, some (.d b), x2, some (.d (.tuple (ps.map mk2))), x4, x5]) (s := s) (e := mA fTup (maCons (mVar 4) (maCons (mA fTup (maCons (mCall f (maCons (mVar 1) (maCons (mVar 5) maNil))) maNil)) maNil))) (f := fun p => .tuple [p.1, .tuple [h p]]) ps (fun p hp => by simp [hf p hp, sz1, sz2])
  have hl' := le64 hl
  generalize ps.map mk2 = M at *
  simp [mLc, e, hl']
theorem wb_out {E : Mx} {st : List PyData} {h : PyData → PyData} {s : Sto} {a p b : PyData} (hE : ∀ x ∈ st, E [some (.d (.tuple [a, p, .tuple st])), some (.d b), none, some (.d x), none, none] s = some (.d (h x), s)) (hl : st.length ≤ 64) :
    mSet 2 (mA fTupOf (maCons (mLc (mSeqI (mIx (mVar 0) (mKon (.int 2)))) [3] (gN 3) mYes E) maNil)) [some (.d (.tuple [a, p, .tuple st])), some (.d b), none, none, none, none] s = some (.nx, [some (.d (.tuple [a, p, .tuple st])), some (.d b), some (.d (.tuple (st.map h))), none, none, none], s) := by
  have e := lc_map (i := 3) (ρ := [some (.d (.tuple [a, p, .tuple st])), some (.d b), none, none, none, none]) (s := s) (e := E) (f := h) st hE
  have hl' := le64 hl
  simp [mLc, e, hl']
theorem wb_ret {s : Sto} {a p st b r : PyData} : mRet (mA fTup (maCons (mIx (mVar 0) (mKon (.int 0))) (maCons (mKon (.int 1)) (maCons (mVar 2) maNil)))) [some (.d (.tuple [a, p, st])), some (.d b), some (.d r), none, none, none] s = some (.rt (.d (.tuple [a, .int 1, r])), [some (.d (.tuple [a, p, st])), some (.d b), some (.d r), none, none, none], s) := by
  simp [sz3]
theorem good_pairs {p n : Int} {ds : List PyData} (h : ∀ d ∈ ds, GoodDeed p n d) : ∃ ps : List (PyData × PyData), ds = ps.map mk2 ∧ ∀ q ∈ ps, ∃ qs : List Fr, q.2 = .tuple (qs.map pF) ∧ (qs.length : Int) = p ∧ ∀ z ∈ qs, FrOk z ∧ FrLt 25 z := by
  have a : (ds.all fun x => isT x 2) = true := by
    rw [List.all_eq_true]
    intro d hd
    obtain ⟨c, qs, rfl, _⟩ := h d hd
    rfl
  obtain ⟨ps, rfl⟩ := pairs_of a
  refine ⟨ps, rfl, fun q hq => ?_⟩
  obtain ⟨c, qs, e, _, _, _, h1, h2⟩ := h (mk2 q) (List.mem_map_of_mem hq)
  unfold mk2 at e
  simp at e
  exact ⟨qs, e.2, h1, h2⟩
theorem e_wby {q b : List Fr} {cs : List Int} {p : Int} {w : PyData} {sh : Fr} {sts : List (List PyData)} {s : Sto} (hg : GoodSts p cs.length cs sts) (hl : sts.length ≤ 64) (hc : ∀ ds ∈ sts, ds.length ≤ 64) (hb : ∀ z ∈ b, FrOk z ∧ FrLt 25 z) (hbl : b.length ≤ 5) :
    f_weighted_by [.d (.tuple [pF sh, .int p, .tuple (sts.map .tuple)]), .d (.tuple (b.map pF))] s = some (.d (.tuple [pF sh, .int 1, .tuple ((sts.map PyData.tuple).map fun x => match x with | .tuple ds => .tuple (ds.map (ddW b)) | y => y)]), s) := by
  refine run_rt rfl rfl (seq_nx (wb_out (fun x hx => ?_) (by rw [List.length_map]; exact hl)) wb_ret)
  obtain ⟨ds, hds, rfl⟩ := List.mem_map.mp hx
  obtain ⟨ps, hps, hq⟩ := good_pairs (hg.2 ds hds).2
  have g : (ds.map (ddW b)) = ps.map fun p => .tuple [p.1, .tuple [pF (fdot b (frs p.2))]] := by rw [hps, List.map_map]; rfl
  dsimp only
  rw [g]
  have hll := hc ds hds
  rw [hps] at hll ⊢
  rw [List.length_map] at hll
  refine wb_in (fun z hz => ?_) hll
  obtain ⟨qs, e2, _, h2⟩ := hq z hz
  rw [e2, frs_map]
  exact e_dot (k := 25) (fun z hz => ⟨(hb z hz).1.1, (hb z hz).2⟩) (fun z hz => ⟨(h2 z hz).1.1, (h2 z hz).2⟩) (by omega)
theorem dr_in {f : Fx} {b : PyData} {h : PyData → PyData} {s : Sto} {ds : List PyData} (hf : ∀ d ∈ ds, ∃ c g y, d = .tuple [c, g] ∧ f [.d b, .d g] s = some (.d y, s) ∧ h d = .tuple [c, .tuple [y]]) (hl : ds.length ≤ 64) {x0 x2 x4 : Option Cl} :
    mA fTupOf (maCons (mLc (mSeqI (mVar 3)) [4] (gN 4) mYes (mA fTup (maCons (mIx (mVar 4) (mKon (.int 0))) (maCons (mA fTup (maCons (mCall f (maCons (mVar 1) (maCons (mIx (mVar 4) (mKon (.int 1))) maNil))) maNil)) maNil)))) maNil) [x0, some (.d b), x2, some (.d (.tuple ds)), x4] s
      = some (.d (.tuple (ds.map h)), s) := by
  have e := lc_map (i := 4) (ρ := [x0, some (.d b), x2, some (.d (.tuple ds)), x4]) (s := s) (e := mA fTup (maCons (mIx (mVar 4) (mKon (.int 0))) (maCons (mA fTup (maCons (mCall f (maCons (mVar 1) (maCons (mIx (mVar 4) (mKon (.int 1))) maNil))) maNil)) maNil))) (f := h) ds (fun d hd => by
    obtain ⟨c, g, y, rfl, e, e2⟩ := hf d hd
    simp [e, e2, sz1, sz2])
  have hl' := le64 hl
  simp [mLc, e, hl']
theorem dr_loop {f : Fx} {b a p : PyData} {st : List PyData} {h : PyData → PyData} {s : Sto} : ∀ (sts : List (List PyData)) (acc : List PyData) (x3 x4 : Option Cl), (∀ ds ∈ sts, ds.length ≤ 64 ∧ ∀ d ∈ ds, ∃ c g y, d = .tuple [c, g] ∧ f [.d b, .d g] s = some (.d y, s) ∧ h d = .tuple [c, .tuple [y]]) → acc.length + sts.length ≤ 64 →
    ∃ y3 y4, forRun (gN 3) (mApp 2 (mA fTupOf (maCons (mLc (mSeqI (mVar 3)) [4] (gN 4) mYes (mA fTup (maCons (mIx (mVar 4) (mKon (.int 0))) (maCons (mA fTup (maCons (mCall f (maCons (mVar 1) (maCons (mIx (mVar 4) (mKon (.int 1))) maNil))) maNil)) maNil)))) maNil))) (sts.map .tuple)
      [some (.d (.tuple [a, p, .tuple st])), some (.d b), some (.o acc), x3, x4] s = some (.nx, [some (.d (.tuple [a, p, .tuple st])), some (.d b), some (.o (acc ++ sts.map fun ds => .tuple (ds.map h))), y3, y4], s)
  | [], acc, x3, x4, _, _ => ⟨x3, x4, by simp⟩
  | ds :: sts, acc, x3, x4, hf, hl => by
    rw [List.length_cons] at hl
    have h1 := hf ds List.mem_cons_self
    have e1 := dr_in (x0 := some (.d (.tuple [a, p, .tuple st]))) (x2 := some (.o acc)) (x4 := x4) h1.2 h1.1
    obtain ⟨y3, y4, e2⟩ := dr_loop (a := a) (p := p) (st := st) sts (acc ++ [.tuple (ds.map h)]) (some (.d (.tuple ds))) x4 (fun z hz => hf z (List.mem_cons_of_mem _ hz)) (by rw [List.length_append, List.length_cons, List.length_nil]; omega)
    refine ⟨y3, y4, ?_⟩
    rw [List.map_cons, List.map_cons]
    refine for_nx rfl (mApp_ev e1 rfl rfl (sm64 (by omega))) ?_
    rw [List.append_assoc] at e2
    exact e2
theorem dr_ret {s : Sto} {a p st b : PyData} {r : List PyData} {x3 x4 : Option Cl} : mRet (mA fTup (maCons (mIx (mVar 0) (mKon (.int 0))) (maCons (mKon (.int 1)) (maCons (mA fTupOf (maCons (mVar 2) maNil)) maNil)))) [some (.d (.tuple [a, p, st])), some (.d b), some (.o r), x3, x4] s = some (.rt (.d (.tuple [a, .int 1, .tuple r])), [some (.d (.tuple [a, p, st])), some (.d b), some (.o r), x3, x4], s) := by
  simp [sz3]
theorem dr_it {s : Sto} {a p b : PyData} {st : List PyData} {x2 x3 x4 : Option Cl} : mSeqI (mIx (mVar 0) (mKon (.int 2))) [some (.d (.tuple [a, p, .tuple st])), some (.d b), x2, x3, x4] s = some (st, s) := by
  simp
theorem e_dressed {b : List Fr} {cs : List Int} {p : Int} {sh : Fr} {sts : List (List PyData)} {s : Sto} (hg : GoodSts p cs.length cs sts) (hl : sts.length ≤ 64) (hc : ∀ ds ∈ sts, ds.length ≤ 64) (hb : ∀ z ∈ b, FrOk z ∧ FrLt 25 z) (hbl : b.length ≤ 5) :
    f_law_dressed [.d (.tuple [pF sh, .int p, .tuple (sts.map .tuple)]), .d (.tuple (b.map pF))] s = some (.d (.tuple [pF sh, .int 1, .tuple ((sts.map PyData.tuple).map fun x => match x with | .tuple ds => .tuple (ds.map (ddW b)) | y => y)]), s) := by
  obtain ⟨y3, y4, e⟩ := dr_loop (f := f_law_dot) (b := .tuple (b.map pF)) (a := pF sh) (p := .int p) (st := sts.map .tuple) (h := ddW b) (s := s) sts [] none none (fun ds hds => ⟨hc ds hds, fun d hd => by
    obtain ⟨c, qs, rfl, _, _, _, _, h2⟩ := (hg.2 ds hds).2 d hd
    refine ⟨c, _, _, rfl, e_ldot (k := 25) (fun z hz => ⟨(hb z hz).1.1, (hb z hz).2⟩) (fun z hz => ⟨(h2 z hz).1.1, (h2 z hz).2⟩) (by omega), ?_⟩
    show PyData.tuple [c, .tuple [pF (fdot b (frs (.tuple (qs.map pF))))]] = _
    rw [frs_map]⟩) (by simpa using hl)
  have g : ((sts.map PyData.tuple).map fun x => match x with | .tuple ds => .tuple (ds.map (ddW b)) | y => y) = sts.map fun ds => PyData.tuple (ds.map (ddW b)) := by rw [List.map_map]; rfl
  rw [g]
  refine run_rt rfl rfl (seq_nx (s1 := s) (ρ1 := [some (.d (.tuple [pF sh, .int p, .tuple (sts.map .tuple)])), some (.d (.tuple (b.map pF))), some (.o []), none, none]) (by simp [List.replicate_succ]) (seq_nx (s1 := s) (ρ1 := [some (.d (.tuple [pF sh, .int p, .tuple (sts.map .tuple)])), some (.d (.tuple (b.map pF))), some (.o (sts.map fun ds => PyData.tuple (ds.map (ddW b)))), y3, y4]) ?_ dr_ret))
  rw [ev_mFor, dr_it]
  exact e
end W2

/-! Pl19: weighted, printed; what is right -/
namespace Dh
open PySem PySem.Spec L2
theorem fRepr_list {B k : Nat} {xs : List PyData} {x : R} (hx : rdD x = some (.list xs)) (c : Clean B k (.list xs)) (hk : k ≤ 60) (hB : 8 ≤ B + 1) (hw : (B + 3) * PyData.weight (.list xs) + (B + 1) ≤ sizeLine) : fRepr [x] = some (.d (.str (PyData.shown (.list xs)))) := by
  have h : reprOk (.list xs) = true := by
    unfold reprOk
    have l := PyData.shown_le (B + 1) hB (.list xs) c.short
    rw [c.nd, c.sh, decide_eq_true (Nat.le_trans c.dep hk), decide_eq_true (Nat.le_trans l hw)]
    rfl
  unfold fRepr
  dsimp only
  rw [hx]
  exact if_pos h
theorem fRepr_bools (a b c d e : Bool) {x : R} (hx : rdD x = some (.list [.bool a, .bool b, .bool c, .bool d, .bool e])) : fRepr [x] = some (.d (.str (PyData.shown (.list [.bool a, .bool b, .bool c, .bool d, .bool e])))) := by
  have h : reprOk (.list [.bool a, .bool b, .bool c, .bool d, .bool e]) = true := by
    cases a <;> cases b <;> cases c <;> cases d <;> cases e <;> decide
  unfold fRepr
  dsimp only
  rw [hx]
  exact if_pos h
theorem fEq_str {neg : Bool} {a b : Str} : fEq neg (.d (.str a)) (.d (.str b)) = some (.d (.bool (if neg then !(a == b) else a == b))) := rfl
end Dh
namespace W2
open PySem PySem.Spec L2 Dh
theorem run_nx {n l : Nat} {m : Ms} {cs : List Cl} {s s' : Sto} {ρ ρ' : Ev} (hl : cs.length = n) (hp : cs.map some ++ List.replicate (l - cs.length) none = ρ) (h : m ρ s = some (.nx, ρ', s')) : run' n l m cs s = some (.d .none, s') := by
  rw [ev_run', if_pos hl, hp, h]
theorem cw_loop {f : Fx} {s : Sto} : ∀ (zs : List PyData) (a b x y : Option Cl), (∀ z ∈ zs, ∃ i v, z = .tuple [.int i, v] ∧ f [.d v] s = some (.d (.bool true), s)) →
    ∃ ρ', forRun (gT 2 (gsCons (gN 2) (gsCons (gN 3) gsNil))) (mIfS (tNot2 (bT (mCall f (maCons (mVar 3) maNil)))) mNever mNil) zs [a, b, x, y] s = some (.nx, ρ', s)
  | [], a, b, x, y, _ => ⟨_, rfl⟩
  | z :: zs, a, b, x, y, h => by
    obtain ⟨i, v, rfl, e⟩ := h z List.mem_cons_self
    obtain ⟨ρ', r⟩ := cw_loop zs a b (some (.d (.int i))) (some (.d v)) fun z hz => h z (List.mem_cons_of_mem _ hz)
    exact ⟨ρ', for_nx (ρ1 := [a, b, some (.d (.int i)), some (.d v)]) rfl (by simp [e]) r⟩
theorem e_cw {a st : PyData} {p : Int} {b : List Fr} {s : Sto} (hb : ∀ z ∈ b, FrOk z) (hl : (b.length : Int) = p) : f_check_weights [.d (.tuple [a, .int p, st]), .d (.tuple (b.map pF))] s = some (.d .none, s) := by
  have e1 := e_is_tuple (.tuple (b.map pF)) p s
  rw [show isT (.tuple (b.map pF)) p = true by simp [isT, hl]] at e1
  obtain ⟨ρ', r⟩ := cw_loop (f := f_is_ratio) (s := s) (Dh.numbered (b.map pF)) (some (.d (.tuple [a, .int p, st]))) (some (.d (.tuple (b.map pF)))) none none (fun z hz => by
    unfold Dh.numbered at hz
    obtain ⟨⟨v, i⟩, hv, rfl⟩ := List.mem_map.mp hz
    have hm : v ∈ b.map pF := by
      have := List.mem_map_of_mem (f := Prod.fst) hv
      rwa [List.zipIdx_map_fst] at this
    obtain ⟨q, hq, rfl⟩ := List.mem_map.mp hm
    exact ⟨_, _, rfl, by rw [e_is_ratio, isFr_pF.mpr (hb q hq)]⟩)
  have m : m_check_weights [some (.d (.tuple [a, .int p, st])), some (.d (.tuple (b.map pF))), none, none] s = some (.nx, ρ', s) := by
    refine seq_nx (s1 := s) (ρ1 := [some (.d (.tuple [a, .int p, st])), some (.d (.tuple (b.map pF))), none, none]) (by simp [e1]) ?_
    rw [ev_mFor, show mArgI enum1 (maCons (mVar 1) maNil) [some (.d (.tuple [a, .int p, st])), some (.d (.tuple (b.map pF))), none, none] s = some (Dh.numbered (b.map pF), s) by simp [enum1]]
    exact r
  exact run_nx rfl rfl m
theorem wt_all {f g h : Fx} {x y z : PyData} {s : Sto} (e1 : f [.d x] s = some (.d .none, s)) (e2 : g [.d x, .d y] s = some (.d .none, s)) (e3 : h [.d x, .d y] s = some (.d z, s)) : mSeq (mDrop (mCall f (maCons (mVar 0) maNil))) (mSeq (mDrop (mCall g (maCons (mVar 0) (maCons (mVar 1) maNil)))) (mRet (mCall h (maCons (mVar 0) (maCons (mVar 1) maNil))))) [some (.d x), some (.d y)] s = some (.rt (.d z), [some (.d x), some (.d y)], s) := by
  simp [mDrop, e1, e2, e3]
end W2

/-! Pl20: the law's right, in steps -/
namespace W2
open PySem PySem.Spec L2 Dh
theorem ev_mCallK {g : Fx} {π : List Nat} {n : Nat} {a : Ma} {ρ : Ev} {s : Sto} : mCallK g π n a ρ s = (match a ρ s with | some (rs, s1) => (match toArgs rs with | some cs => if cs.length = n then g (Dh.perm (.d .none) π cs) s1 else none | none => none) | none => none) := by
  unfold mCallK bnd
  rcases a ρ s with _ | ⟨_, _⟩ <;> rfl
theorem perm1 {x : Cl} : Dh.perm (.d .none) [0] [x] = [x] := rfl
theorem perm2 {x y : Cl} : Dh.perm (.d .none) [1, 0] [x, y] = [y, x] := rfl
theorem sz4 : 4 ≤ sizeLine := by decide
section
variable {s s1 s2 : Sto} {x1 x2 x3 x4 x5 x6 x7 : Option Cl}
theorem rt1 {fp fw : Fx} {u : Int} {w : PyData} (e1 : fp [.s, .d (.int 4)] s = some (.d (.int u), s1)) (e2 : fw [.s, .d (.int 3), .d (.int 3), .d (.int (1 + u))] s1 = some (.d w, s2)) : mSet 1 (mCall fw (maCons (mVar 0) (maCons (mKon (.int 3)) (maCons (mKon (.int 3)) (maCons (m2 fAdd (mKon (.int 1)) (mCall fp (maCons (mVar 0) (maCons (mKon (.int 4)) maNil)))) maNil))))) [some .s, x1, x2, x3, x4, x5, x6, x7] s = some (.nx, [some .s, some (.d w), x2, x3, x4, x5, x6, x7], s2) := by
  simp [e1, e2]
theorem rt2a {fp fm fe : Fx} {w x y : PyData} {s3 : Sto} (e1 : fp [.s, .d (.int 3)] s = some (.d (.int 2), s1)) (e2 : fe [.s] s1 = some (.d x, s2)) (e3 : fm [.s, .d x] s2 = some (.d y, s3)) : mSet 2 (mCall fm (maCons (mVar 0) (maCons (mIf (bT (m2 (fEq false) (mCall fp (maCons (mVar 0) (maCons (mKon (.int 3)) maNil))) (mKon (.int 2)))) (mCall fe (maCons (mVar 0) maNil)) (mVar 1)) maNil))) [some .s, some (.d w), x2, x3, x4, x5, x6, x7] s = some (.nx, [some .s, some (.d w), some (.d y), x3, x4, x5, x6, x7], s3) := by
  simp [e1, e2, e3]
theorem rt2b {fp fm fe : Fx} {w y : PyData} {u : Int} (e1 : fp [.s, .d (.int 3)] s = some (.d (.int u), s1)) (hu : u ≠ 2) (e3 : fm [.s, .d w] s1 = some (.d y, s2)) : mSet 2 (mCall fm (maCons (mVar 0) (maCons (mIf (bT (m2 (fEq false) (mCall fp (maCons (mVar 0) (maCons (mKon (.int 3)) maNil))) (mKon (.int 2)))) (mCall fe (maCons (mVar 0) maNil)) (mVar 1)) maNil))) [some .s, some (.d w), x2, x3, x4, x5, x6, x7] s = some (.nx, [some .s, some (.d w), some (.d y), x3, x4, x5, x6, x7], s2) := by
  simp [e1, hu, e3]
theorem rt3 {fm fo : Fx} {a p x y : PyData} {st : List PyData} {n : Int} (hn : (st.length : Int) = n) (e1 : fo [.s, .d (.int n)] s = some (.d x, s1)) (e2 : fm [.s, .d x] s1 = some (.d y, s2)) : mSet 3 (mCall fm (maCons (mVar 0) (maCons (mCall fo (maCons (mVar 0) (maCons (mA fLen (maCons (mIx (mVar 1) (mKon (.int 2))) maNil)) maNil))) maNil))) [some .s, some (.d (.tuple [a, p, .tuple st])), x2, x3, x4, x5, x6, x7] s = some (.nx, [some .s, some (.d (.tuple [a, p, .tuple st])), x2, some (.d y), x4, x5, x6, x7], s2) := by
  simp [hn, e1, e2]
theorem rt4 {fg : Fx} {a p c y : PyData} (e : fg [.s, .d p] s = some (.d y, s1)) : mSet 4 (mCall fg (maCons (mVar 0) (maCons (mIx (mVar 1) (mKon (.int 1))) maNil))) [some .s, some (.d (.tuple [a, p, c])), x2, x3, x4, x5, x6, x7] s = some (.nx, [some .s, some (.d (.tuple [a, p, c])), x2, x3, some (.d y), x5, x6, x7], s1) := by
  simp [e]
theorem rt5 {fh fs : Fx} {w t b : PyData} {h1 h2 h3 : PyData} (e1 : fh [.d w] s = some (.d h1, s)) (e2 : fh [.d t] s = some (.d h2, s)) (e3 : fs [.d w, .d b] s = some (.d h3, s)) {x0 : Option Cl} : mSet 5 (mA fLst (maCons (mCall fh (maCons (mVar 1) maNil)) (maCons (mCall fh (maCons (mVar 2) maNil)) (maCons (mCallK fh [0] 1 (maCons (mVar 2) maNil)) (maCons (mCall fs (maCons (mVar 1) (maCons (mVar 3) maNil))) maNil))))) [x0, some (.d w), some (.d t), some (.d b), x4, x5, x6, x7] s = some (.nx, [x0, some (.d w), some (.d t), some (.d b), x4, some (.o [h1, h2, h2, h3]), x6, x7], s) := by
  simp [e1, e2, e3, ev_mCallK, perm1, sz4]
theorem rt6 {fs : Fx} {w b h3 a1 a2 a3 a4 : PyData} (e3 : fs [.d w, .d b] s = some (.d h3, s)) {x0 : Option Cl} : mSet 5 (m2 fAdd (mVar 5) (mA fLst (maCons (mCallK fs [1, 0] 2 (maCons (mVar 3) (maCons (mVar 1) maNil))) maNil))) [x0, some (.d w), x2, some (.d b), x4, some (.o [a1, a2, a3, a4]), x6, x7] s = some (.nx, [x0, some (.d w), x2, some (.d b), x4, some (.o [a1, a2, a3, a4, h3]), x6, x7], s) := by
  simp [e3, ev_mCallK, perm2, sz1]
  simp [fAdd, sz5]
theorem rt7 {fd : Fx} {a p b h : PyData} {st : List PyData} {n : Int} (hn : (st.length : Int) = n) (e : fd [.d b, .d (.int n)] s = some (.d h, s)) {x0 : Option Cl} : mSet 6 (mCall fd (maCons (mVar 3) (maCons (mA fLen (maCons (mIx (mVar 1) (mKon (.int 2))) maNil)) maNil))) [x0, some (.d (.tuple [a, p, .tuple st])), x2, some (.d b), x4, x5, x6, x7] s = some (.nx, [x0, some (.d (.tuple [a, p, .tuple st])), x2, some (.d b), x4, x5, some (.d h), x7], s) := by
  simp [hn, e]
theorem rt8 {fl : Fx} {t : PyData} {k o : Bool} (e : fl [.d t] s = some (.d (.bool k), s)) {A : Ms} {x0 : Option Cl} : mIfS (bT (m2 (fEq true) (mA fRepr (maCons (mVar 5) maNil)) (mA fRepr (maCons (mA fLst (maCons (mKon (.bool true)) (maCons (mCall fl (maCons (mVar 2) maNil)) (maCons (mCall fl (maCons (mVar 2) maNil)) (maCons (mVar 6) (maCons (mVar 6) maNil)))))) maNil)))) A mNil
    [x0, x1, some (.d t), x3, x4, some (.o [.bool true, .bool k, .bool k, .bool o, .bool o]), some (.d (.bool o)), x7] s = some (.nx, [x0, x1, some (.d t), x3, x4, some (.o [.bool true, .bool k, .bool k, .bool o, .bool o]), some (.d (.bool o)), x7], s) := by
  have r1 := fRepr_bools true k k o o (x := .b [.bool true, .bool k, .bool k, .bool o, .bool o]) rfl
  have r2 := fRepr_bools true k k o o (x := .f [.bool true, .bool k, .bool k, .bool o, .bool o]) rfl
  simp [r1, r2, e, sz5, fEq_str]
theorem rt9 {f2 : Fx} {w b z : PyData} (e : f2 [.d w, .d b] s = some (.d z, s)) {x0 : Option Cl} : mSet 7 (mA fLst (maCons (mCall f2 (maCons (mVar 1) (maCons (mVar 4) maNil))) (maCons (mCallK f2 [1, 0] 2 (maCons (mVar 4) (maCons (mVar 1) maNil))) maNil))) [x0, some (.d w), x2, x3, some (.d b), x5, x6, x7] s = some (.nx, [x0, some (.d w), x2, x3, some (.d b), x5, x6, some (.o [z, z])], s) := by
  simp [e, ev_mCallK, perm2, sz2]
theorem rt10 {fdr : Fx} {w b z : PyData} (e : fdr [.d w, .d b] s = some (.d z, s)) (r1 : fRepr [.b [z, z]] = some (.d (.str (PyData.shown (.list [z, z]))))) (r2 : fRepr [.f [z, z]] = some (.d (.str (PyData.shown (.list [z, z]))))) {x0 : Option Cl} : mRet (m2 (fEq false) (mA fRepr (maCons (mVar 7) maNil)) (mA fRepr (maCons (m2 fMul (mA fLst (maCons (mCall fdr (maCons (mVar 1) (maCons (mVar 4) maNil))) maNil)) (mKon (.int 2))) maNil))) [x0, some (.d w), x2, x3, some (.d b), x5, x6, some (.o [z, z])] s = some (.rt (.d (.bool true)), [x0, some (.d w), x2, x3, some (.d b), x5, x6, some (.o [z, z])], s) := by
  have m : fMul (.f [z]) (.d (.int 2)) = some (.f [z, z]) := by
    show (if (0 : Int) ≤ 2 ∧ (2 : Int) < 2 ^ 63 ∧ [z].length * (2 : Int).toNat ≤ sizeLine then some (R.f (List.replicate (2 : Int).toNat [z]).flatten) else none) = _
    rw [if_pos ⟨by decide, by decide, (show 2 ≤ sizeLine by decide)⟩]
    rfl
  simp [e, r1, r2, m, sz1, fEq_str]
end
end W2

/-! Pl21: the law's right holds -/
namespace Dh
open PySem PySem.Spec L2
theorem cl_bits {L B B2 : Nat} (hB : B ≤ B2) : ∀ {n : Nat} {x : PyData}, cl L B n x = true → cl L B2 n x = true
  | 0, x, h => by simp [cl] at h
  | n + 1, x, h => by
    cases x with
    | tuple xs => exact cl_tup (cl_tup_of h).1 fun y hy => cl_bits hB ((cl_tup_of h).2 y hy)
    | list xs =>
      have a := cl_list_of h
      show (decide (xs.length ≤ L) && xs.all (cl L B2 n)) = true
      rw [decide_eq_true a.1, Bool.true_and, List.all_eq_true]
      exact fun y hy => cl_bits hB (a.2 y hy)
    | int i =>
      have a : i.natAbs < 2 ^ B := by simpa [cl] using h
      exact cl_int (lt_mono a hB)
    | _ => simp [cl] at h
end Dh
namespace W2
open PySem PySem.Spec L2 Dh
theorem fdot_lt {b g : List Fr} (hb : ∀ z ∈ b, FrOk z ∧ FrLt 25 z) (hg : ∀ z ∈ g, FrOk z ∧ FrLt 25 z) (hl : b.length ≤ 4) : FrLt 205 (fdot b g) := by
  have hz : (b.zip g).length ≤ b.length := by rw [List.length_zip]; exact Nat.min_le_left _ _
  have r := (fold_lt (k := 50) ((b.zip g).map fun p => ftm p.1 p.2) (0, 1) 1 (fun q hq => by
    obtain ⟨p, hp, rfl⟩ := List.mem_map.mp hq
    have h1 := hb _ (List.of_mem_zip hp).1
    have h2 := hg _ (List.of_mem_zip hp).2
    exact ⟨(ftm_ok h1.1.1 h2.1.1).1, ftm_lt h1.2 h2.2 h1.1.1 h2.1.1⟩) (by decide) one_lt).2
  rw [List.length_map] at r
  exact r.mono (by omega)
theorem e_right {s : Sto} (v : Vs 100000 s) : ∃ s', f_law_right [.s] s = some (.d (.bool true), s') := by
  obtain ⟨u, s1, e1, u0, u4, v1⟩ := e_pick (m := 99999) (l := 4) v (by decide) (by decide)
  obtain ⟨cs, w, s2, e2, c1, c3, ck, rw_, v2⟩ := e_world (p := 1 + u) (m := 90000) (by omega) (by omega) (v1.mono (by decide))
  have ck' : ∀ k ∈ cs, 0 ≤ k ∧ k ≤ 5 := fun k hk => ⟨by have := ck k hk; omega, by have := ck k hk; omega⟩
  have wcl := rw_.cl (by omega) (by omega) (by omega) ck'
  have wh := rw_.house (by omega) (by omega) c1 c3 ck
  have wsz := cl_sz (by decide) (by decide) wcl
  have E1 := rt1 (x1 := none) (x2 := none) (x3 := none) (x4 := none) (x5 := none) (x6 := none) (x7 := none) e1 e2
  -- the thing
  have th : ∃ (y : PyData) (s3 : Sto), mSet 2 (mCall f_law_maybe (maCons (mVar 0) (maCons (mIf (bT (m2 (fEq false) (mCall f_law_pick (maCons (mVar 0) (maCons (mKon (.int 3)) maNil))) (mKon (.int 2)))) (mCall f_law_edge (maCons (mVar 0) maNil)) (mVar 1)) maNil))) [some .s, some (.d w), none, none, none, none, none, none] s2 = some (.nx, [some .s, some (.d w), some (.d y), none, none, none, none, none], s3) ∧ sz 12 y = true ∧ Vs 80000 s3 := by
    obtain ⟨t, s3, e3, t0, t3, v3⟩ := e_pick (m := 89999) (l := 3) v2 (by decide) (by decide)
    by_cases ht : t = 2
    · subst ht
      obtain ⟨cs2, p2, x, s4, e4, q1, q2, q3, q4, q5, v4⟩ := e_edge (m := 85000) (v3.mono (by decide))
      obtain ⟨y, s5, e5, y1, v5⟩ := e_maybe (m := 80000) (q5.cl q1 q2 q3 q4) (v4.mono (by decide))
      exact ⟨y, s5, rt2a e3 e4 e5, y1, v5⟩
    · obtain ⟨y, s5, e5, y1, v5⟩ := e_maybe (m := 80000) wcl (v3.mono (by decide))
      exact ⟨y, s5, rt2b e3 ht e5, y1, v5⟩
  obtain ⟨y, s3, E2, y1, v3⟩ := th
  obtain ⟨sh, sts, rfl, q1, q2, q3, q4, hg⟩ := rw_
  have hn : ((sts.map PyData.tuple).length : Int) = (cs.length : Int) := by rw [List.length_map, hg.1]
  obtain ⟨od, s4, e4, od1, v4⟩ := e_odds (w := (cs.length : Int)) (m := 70000) (by omega) (by omega) (v3.mono (by decide))
  obtain ⟨b, s5, e5, b1, v5⟩ := e_maybe (m := 60000) (cl_le od1 (by decide)) (v4.mono (by decide))
  have E3 := rt3 (x2 := some (.d y)) (x3 := none) (x4 := none) (x5 := none) (x6 := none) (x7 := none) (a := pF sh) (p := .int (1 + u)) hn e4 e5
  obtain ⟨by_, s6, e6, by1, by2, v6⟩ := e_gains (p := 1 + u) (m := 50000) (by omega) (by omega) (v5.mono (by decide))
  have E4 := rt4 (x2 := some (.d y)) (x3 := some (.d b)) (x4 := none) (x5 := none) (x6 := none) (x7 := none) (a := pF sh) (c := .tuple (sts.map .tuple)) e6
  have h1 := e_is_house _ s6 wsz
  rw [wh] at h1
  have h2 := e_is_house _ s6 y1
  have h3 := e_is_start (pF sh) (.int (1 + u)) (sts.map .tuple) b s6 wsz wh b1
  rw [hn] at h3
  have E5 := rt5 (x4 := some (.d (.tuple (by_.map pF)))) (x5 := none) (x6 := none) (x7 := none) (x0 := some .s) h1 h2 h3
  have E6 := rt6 (x2 := some (.d y)) (x4 := some (.d (.tuple (by_.map pF)))) (x6 := none) (x7 := none) (x0 := some .s) (a1 := .bool true) (a2 := .bool (isHouse y)) (a3 := .bool (isHouse y)) (a4 := .bool (isOdds b cs.length)) h3
  have h4 := e_lis_odds b (cs.length : Int) s6 b1
  have E7 := rt7 (x2 := some (.d y)) (x4 := some (.d (.tuple (by_.map pF)))) (x5 := some (.o [.bool true, .bool (isHouse y), .bool (isHouse y), .bool (isOdds b cs.length), .bool (isOdds b cs.length)])) (x6 := none) (x7 := none) (x0 := some .s) (a := pF sh) (p := .int (1 + u)) hn h4
  have h5 := e_lis_world y s6 y1
  have hsl : sts.length ≤ 64 := by have := hg.1; omega
  have hdl : ∀ ds ∈ sts, ds.length ≤ 3 := fun ds hds => by
    obtain ⟨⟨k, hk, hkl⟩, _⟩ := hg.2 ds hds
    have := ck k hk
    omega
  have hbl : by_.length ≤ 5 := by omega
  have d1 := e_wby (q := []) (w := .none) (sh := sh) (s := s6) hg hsl (fun ds hds => Nat.le_trans (hdl ds hds) (by decide)) by2 hbl
  have d2 := e_dressed (sh := sh) (s := s6) hg hsl (fun ds hds => Nat.le_trans (hdl ds hds) (by decide)) by2 hbl
  rw [List.map_map] at d1 d2
  replace d1 : f_weighted_by [.d (.tuple [pF sh, .int (1 + u), .tuple (sts.map .tuple)]), .d (.tuple (by_.map pF))] s6 = some (.d (.tuple [pF sh, .int 1, .tuple (sts.map fun ds => PyData.tuple (ds.map (ddW by_)))]), s6) := d1
  replace d2 : f_law_dressed [.d (.tuple [pF sh, .int (1 + u), .tuple (sts.map .tuple)]), .d (.tuple (by_.map pF))] s6 = some (.d (.tuple [pF sh, .int 1, .tuple (sts.map fun ds => PyData.tuple (ds.map (ddW by_)))]), s6) := d2
  have d3 : f_weighted [.d (.tuple [pF sh, .int (1 + u), .tuple (sts.map .tuple)]), .d (.tuple (by_.map pF))] s6 = some (.d (.tuple [pF sh, .int 1, .tuple (sts.map fun ds => PyData.tuple (ds.map (ddW by_)))]), s6) :=
    run_rt rfl rfl (wt_all (e_check_house _ s6 wsz wh) (e_cw (fun z hz => (by2 z hz).1) by1) d1)
  have E9 := rt9 (x2 := some (.d y)) (x3 := some (.d b)) (x5 := some (.o [.bool true, .bool (isHouse y), .bool (isHouse y), .bool (isOdds b cs.length), .bool (isOdds b cs.length)])) (x6 := some (.d (.bool (isOdds b cs.length)))) (x7 := none) (x0 := some .s) d3
  -- sizes of what is printed
  have hdd : ∀ ds ∈ sts, ∀ d ∈ ds, cl 20 205 5 (ddW by_ d) = true ∧ PyData.weight (ddW by_ d) ≤ 815 := by
    intro ds hds d hd
    obtain ⟨c, qs, rfl, _, k2, k3, k4, k5⟩ := (hg.2 ds hds).2 d hd
    have f := fdot_lt (g := qs) by2 k5 (by omega)
    have e : ddW by_ (.tuple [c, .tuple (qs.map pF)]) = .tuple [c, .tuple [pF (fdot by_ qs)]] := by
      show PyData.tuple [c, .tuple [pF (fdot by_ (frs (.tuple (qs.map pF))))]] = _
      rw [frs_map]
    rw [e]
    refine ⟨cl_tup (by simp) fun x hx => ?_, ?_⟩
    · simp only [List.mem_cons, List.not_mem_nil, or_false] at hx
      rcases hx with rfl | rfl
      · exact cl_bits (by decide) k2
      · exact cl_tup (n := 3) (by simp) fun x hx => by
          obtain rfl := List.mem_singleton.mp hx
          exact cl_le (n := 2) (cl_pF (by decide) f) (by decide)
    · have a := weight_pF f
      simp only [PyData.weight, PyData.weightAll] at *
      omega
  have hz : cl 20 205 8 (.tuple [pF sh, .int 1, .tuple (sts.map fun ds => PyData.tuple (ds.map (ddW by_)))]) = true ∧ PyData.weight (.tuple [pF sh, .int 1, .tuple (sts.map fun ds => PyData.tuple (ds.map (ddW by_)))]) ≤ 7373 := by
    have hs : ∀ x ∈ (sts.map fun ds => PyData.tuple (ds.map (ddW by_))), cl 20 205 6 x = true ∧ PyData.weight x ≤ 2448 := by
      intro x hx
      obtain ⟨ds, hds, rfl⟩ := List.mem_map.mp hx
      have hl := hdl ds hds
      refine ⟨cl_tup (n := 5) (by rw [List.length_map]; omega) fun y hy => ?_, ?_⟩
      · obtain ⟨d, hd, rfl⟩ := List.mem_map.mp hy
        exact (hdd ds hds d hd).1
      · have a := weightAll_le (k := 815) (ds.map (ddW by_)) (fun y hy => by
          obtain ⟨d, hd, rfl⟩ := List.mem_map.mp hy
          exact (hdd ds hds d hd).2)
        rw [List.length_map] at a
        simp only [PyData.weight]
        omega
    have hl3 : sts.length ≤ 3 := by have := hg.1; omega
    refine ⟨cl_tup (by simp) fun x hx => ?_, ?_⟩
    · simp only [List.mem_cons, List.not_mem_nil, or_false] at hx
      rcases hx with rfl | rfl | rfl
      · exact cl_le (n := 2) (cl_pF (by decide) (q4.mono (by decide))) (by decide)
      · exact cl_int (by decide)
      · exact cl_tup (n := 6) (by rw [List.length_map]; omega) fun y hy => (hs y hy).1
    · have a := weightAll_le (k := 2448) (sts.map fun ds => PyData.tuple (ds.map (ddW by_))) (fun y hy => (hs y hy).2)
      rw [List.length_map] at a
      have b := weight_pF q4
      have c : PyData.weight (.int 1) = 1 := rfl
      simp only [PyData.weight, PyData.weightAll] at a b c ⊢
      omega
  generalize hZ : PyData.tuple [pF sh, .int 1, .tuple (sts.map fun ds => PyData.tuple (ds.map (ddW by_)))] = Z at *
  have hcl : cl 20 205 9 (.list [Z, Z]) = true := by
    show (decide ([Z, Z].length ≤ 20) && [Z, Z].all (cl 20 205 8)) = true
    rw [List.all_cons, List.all_cons, hz.1]
    rfl
  have cln := cl_clean (by decide) (by decide) hcl
  have hw : (205 + 3) * PyData.weight (.list [Z, Z]) + (205 + 1) ≤ sizeLine := by
    have a : PyData.weight (.list [Z, Z]) ≤ 14748 := by
      simp only [PyData.weight, PyData.weightAll]
      omega
    have b : sizeLine = 16777216 := by decide
    rw [b]
    omega
  have r1 := fRepr_list (x := .b [Z, Z]) rfl cln (by decide) (by decide) hw
  have r2 := fRepr_list (x := .f [Z, Z]) rfl cln (by decide) (by decide) hw
  have E10 := rt10 (x2 := some (.d y)) (x3 := some (.d b)) (x5 := some (.o [.bool true, .bool (isHouse y), .bool (isHouse y), .bool (isOdds b cs.length), .bool (isOdds b cs.length)])) (x6 := some (.d (.bool (isOdds b cs.length)))) (x0 := some .s) d2 r1 r2
  have E8 := rt8 (o := isOdds b cs.length) (A := mRet (mKon (.bool false))) (x0 := some .s) (x1 := some (.d (.tuple [pF sh, .int (1 + u), .tuple (sts.map .tuple)]))) (x3 := some (.d b)) (x4 := some (.d (.tuple (by_.map pF)))) (x7 := none) h5
  exact ⟨s6, run_rt rfl rfl (seq_nx E1 (seq_nx E2 (seq_nx E3 (seq_nx E4 (seq_nx E5 (seq_nx E6 (seq_nx E7 (seq_nx E8 (seq_nx E9 E10)))))))))⟩
end W2

/-! Pl22: the spring, the law -/
namespace W2
open PySem PySem.Spec L2 Dh
theorem sp_1 {x : PyData} {l A B : Int} {s : Sto} (q : mulOk B l = true) : mSet 2 (m2 fAdd (mKon (.int A)) (m2 fMul (mKon (.int B)) (mVar 1))) [some (.d x), some (.d (.int l)), none, none, none] s = some (.nx, [some (.d x), some (.d (.int l)), some (.d (.int (A + B * l))), none, none], s) := by
  simp [-ev_fMulI, mulI q]
theorem sp_2 {x c M A B C : Int} {s : Sto} (hM : M ≠ 0) (q1 : mulOk x A = true) (q2 : mulOk (Int.fmod c M) B = true) {x0 x1 x4 : Option Cl} : mSet 2 (m2 (fI gMod) (mA fInt (maCons (m2 fAdd (m2 fAdd (m2 fMul (mVar 2) (mKon (.int A))) (m2 fMul (m2 (fI gMod) (mA fInt (maCons (mVar 3) maNil)) (mKon (.int M))) (mKon (.int B)))) (mKon (.int C))) maNil)) (mKon (.int M))) [x0, x1, some (.d (.int x)), some (.d (.int c)), x4] s = some (.nx, [x0, x1, some (.d (.int (Int.fmod (x * A + Int.fmod c M * B + C) M))), some (.d (.int c)), x4], s) := by
  simp [-ev_fMulI, mulI q1, mulI q2, -ev_gMod, gm3 hM]
theorem sp_3 {x c M A B C : Int} {s : Sto} (hM : M ≠ 0) (q1 : mulOk x A = true) (q2 : mulOk (Int.fmod c M) B = true) {x0 x1 x3 : Option Cl} : mSet 2 (m2 (fI gMod) (mA fInt (maCons (m2 fAdd (m2 fAdd (m2 fMul (mVar 2) (mKon (.int A))) (m2 fMul (m2 (fI gMod) (mA fInt (maCons (mVar 4) maNil)) (mKon (.int M))) (mKon (.int B)))) (mKon (.int C))) maNil)) (mKon (.int M))) [x0, x1, some (.d (.int x)), x3, some (.d (.int c))] s = some (.nx, [x0, x1, some (.d (.int (Int.fmod (x * A + Int.fmod c M * B + C) M))), x3, some (.d (.int c))], s) := by
  simp [-ev_fMulI, mulI q1, mulI q2, -ev_gMod, gm3 hM]
theorem fmod_rng {i M : Int} (h : 0 < M) : 0 ≤ Int.fmod i M ∧ Int.fmod i M < M := by
  rw [Int.fmod_eq_emod_of_nonneg _ (by omega)]
  exact ⟨Int.emod_nonneg _ (by omega), Int.emod_lt_of_pos _ h⟩
theorem sp_ok {x c : Int} (h0 : 0 ≤ x) (h1 : x < 2147483579) {A B : Int} (hA : A.natAbs < 2 ^ 20) (hB : B.natAbs < 2 ^ 20) : mulOk x A = true ∧ mulOk (Int.fmod c 2147483579) B = true := by
  have r := fmod_rng (i := c) (M := 2147483579) (by decide)
  exact ⟨mulOk_of (a := 31) (by omega) hA (by decide), mulOk_of (a := 31) (by omega) hB (by decide)⟩
theorem sp_loop {s : Sto} (x0 x1 x4 : Option Cl) : ∀ (ns : List Int) (x : Int) (x3 : Option Cl), 0 ≤ x → x < 2147483579 →
    ∃ (y : Int) (y3 : Option Cl), forRun (gN 3) (mSet 2 (m2 (fI gMod) (mA fInt (maCons (m2 fAdd (m2 fAdd (m2 fMul (mVar 2) (mKon (.int 52711))) (m2 fMul (m2 (fI gMod) (mA fInt (maCons (mVar 3) maNil)) (mKon (.int 2147483579))) (mKon (.int 5)))) (mKon (.int 23))) maNil)) (mKon (.int 2147483579)))) (ns.map .int) [x0, x1, some (.d (.int x)), x3, x4] s
      = some (.nx, [x0, x1, some (.d (.int y)), y3, x4], s) ∧ 0 ≤ y ∧ y < 2147483579
  | [], x, x3, h0, h1 => ⟨x, x3, rfl, h0, h1⟩
  | n :: ns, x, x3, h0, h1 => by
    have q := sp_ok (c := n) h0 h1 (A := 52711) (B := 5) (by decide) (by decide)
    have r := fmod_rng (i := x * 52711 + Int.fmod n 2147483579 * 5 + 23) (M := 2147483579) (by decide)
    obtain ⟨y, y3, e, y0, y1⟩ := sp_loop x0 x1 x4 ns _ (some (.d (.int n))) r.1 r.2
    exact ⟨y, y3, for_nx rfl (sp_2 (by decide) q.1 q.2) e, y0, y1⟩
theorem cut9 (xs : List PyData) : cutD xs none (some 9) = xs.take 9 := by
  unfold cutD
  rw [HT.sIx_none, show HT.sIx xs.length xs.length (some 9) = min 9 xs.length from HT.sIx_nat xs.length xs.length 9, List.drop_zero, Nat.sub_zero]
  by_cases h : 9 ≤ xs.length
  · rw [Nat.min_eq_left h]
  · rw [Nat.min_eq_right (by omega), List.take_of_length_le (by omega), List.take_of_length_le (by omega)]
theorem sp_it {xs : List PyData} {s : Sto} {x1 x2 x3 x4 : Option Cl} : mSeqI (mSl (mVar 0) moNone (moSome (mKon (.int 9)))) [some (.d (.list xs)), x1, x2, x3, x4] s = some (xs.take 9, s) := by
  simp [mSl, moNone, moSome, fSl, cut9]
theorem sp_4 {ns : List Int} {l : Nat} {s : Sto} {x2 x3 x4 : Option Cl} : ∃ o : Int, mSet 4 (mIf (bT (m2 (fI gLt) (mVar 1) (mA fLen (maCons (mVar 0) maNil)))) (mA fInt (maCons (mIx (mVar 0) (mVar 1)) maNil)) (mKon (.int 0))) [some (.d (.list (ns.map .int))), some (.d (.int (l : Int))), x2, x3, x4] s = some (.nx, [some (.d (.list (ns.map .int))), some (.d (.int (l : Int))), x2, x3, some (.d (.int o))], s) := by
  by_cases h : l < ns.length
  · have e : atI (ns.map PyData.int) (l : Int) = some (.int ns[l]) := by
      rw [atI_ofNat (by simpa using h)]
      simp [h]
    exact ⟨ns[l], by simp [h, e]⟩
  · exact ⟨0, by simp [h]⟩
theorem sp_5 {o m : Int} {s : Sto} {x0 x1 x3 : Option Cl} : ∃ a : Int, mRet (mA fLst (maCons (mIf (tOr2 (bT (m2 (fI gLt) (mVar 4) (mKon (.int 0)))) (bT (m2 (fI gGe) (mVar 4) (m2 (fI gPow) (mKon (.int 10)) (mKon (.int 15)))))) (mA fAbs (maCons (mVar 4) maNil)) (mKon (.int 0))) (maCons (mVar 2) (maCons (mKon (.int 0)) maNil)))) [x0, x1, some (.d (.int m)), x3, some (.d (.int o))] s = some (.rt (.f [.int a, .int m, .int 0]), [x0, x1, some (.d (.int m)), x3, some (.d (.int o))], s) := by
  have gp : gPow 10 15 = some (.int (10 ^ (15 : Int).toNat)) := if_pos (by decide)
  generalize (10 : Int) ^ (15 : Int).toNat = T at gp
  by_cases h : o < 0
  · exact ⟨if o < 0 then -o else o, by simp [h, sz3]⟩
  · by_cases h2 : T ≤ o
    · exact ⟨if o < 0 then -o else o, by simp [h, gp, h2, sz3]⟩
    · exact ⟨0, by simp [h, gp, h2, sz3]⟩
theorem e_spring {ns : List Int} {l : Nat} (hl : l ≤ 100) {s : Sto} : ∃ a b : Int, f_law_spring [.d (.list (ns.map .int)), .d (.int (l : Int))] s = some (.f [.int a, .int b, .int 0], s) ∧ 0 ≤ b ∧ b < 2147483579 := by
  have q : mulOk 9973 (l : Int) = true := mulOk_of (a := 14) (b := 7) (by decide) (by omega) (by decide)
  obtain ⟨y, y3, e, y0, y1⟩ := sp_loop (s := s) (some (.d (.list (ns.map .int)))) (some (.d (.int (l : Int)))) none (ns.take 9) (61990 + 9973 * (l : Int)) none (by omega) (by omega)
  obtain ⟨o, e4⟩ := sp_4 (ns := ns) (l := l) (s := s) (x2 := some (.d (.int y))) (x3 := y3) (x4 := none)
  have q2 := sp_ok (c := o) y0 y1 (A := 41) (B := 30103) (by decide) (by decide)
  have r := fmod_rng (i := y * 41 + Int.fmod o 2147483579 * 30103 + 7) (M := 2147483579) (by decide)
  have e5 := sp_3 (s := s) (x := y) (c := o) (C := 7) (x0 := some (.d (.list (ns.map .int)))) (x1 := some (.d (.int (l : Int)))) (x3 := y3) (M := 2147483579) (by decide) q2.1 q2.2
  generalize Int.fmod (y * 41 + Int.fmod o 2147483579 * 30103 + 7) 2147483579 = b at *
  obtain ⟨a, e6⟩ := sp_5 (o := o) (m := b) (s := s) (x0 := some (.d (.list (ns.map .int)))) (x1 := some (.d (.int (l : Int)))) (x3 := y3)
  refine ⟨a, b, run_rt rfl rfl (seq_nx (sp_1 q) (seq_nx (s1 := s) (ρ1 := [some (.d (.list (ns.map .int))), some (.d (.int (l : Int))), some (.d (.int y)), y3, none]) ?_ (seq_nx e4 (seq_nx e5 e6)))), r.1, r.2⟩
  rw [ev_mFor, sp_it, ← List.map_take]
  exact e
theorem cn_ev {f g : Fx} {x l : PyData} {a b c : Int} {s s' : Sto} (e1 : f [.d x, .d l] s = some (.f [.int a, .int b, .int c], s)) (e2 : g [.s] [a, b, c] = some (.d (.bool true), s')) : mCallN g (maCons (mCall f (maCons (mVar 0) (maCons (mVar 1) maNil))) maNil) [some (.d x), some (.d l)] s = some (.d (.bool true), s) := by
  have st : stoOf [.int a, .int b, .int c] = some [a, b, c] := rfl
  have od : onlyD [] = some [] := rfl
  simp [mCallN, e1, st, od, e2]
theorem lw_it {xs : List PyData} {s : Sto} {x1 : Option Cl} : ∃ n : Nat, n ≤ 5 ∧ mArgI range1 (maCons (mA fMax2 (maCons (mKon (.int 2)) (maCons (mA fMin2 (maCons (mA fLen (maCons (mVar 0) maNil)) (maCons (mKon (.int 5)) maNil))) maNil))) maNil) [some (.d (.list xs)), x1] s = some (rangeL 0 n, s) := by
  by_cases h : (5 : Int) < (xs.length : Int)
  · refine ⟨5, by decide, ?_⟩
    simp [fMin2, fMax2, range1, h]
  · by_cases h2 : (2 : Int) < (xs.length : Int)
    · refine ⟨xs.length, by omega, ?_⟩
      simp [fMin2, fMax2, range1, h, h2, show -4611686018427387904 ≤ (xs.length : Int) by omega, show (xs.length : Int) < 4611686018427387904 by omega]
    · refine ⟨2, by decide, ?_⟩
      simp [fMin2, fMax2, range1, h, h2]
theorem lw_all {g : Mx} {it : Mi} {xs : List PyData} {ρ : Ev} {s : Sto} (h : it ρ s = some (xs, s)) (hl : xs.length ≤ 64) (e : ∀ x ∈ xs, g (ρ.set 1 (some (.d x))) s = some (.d (.bool true), s)) : mRet (mA fAll (maCons (mLc it [1] (gN 1) mYes g) maNil)) ρ s = some (.rt (.d (.bool true)), ρ, s) := by
  have l := lc_map (i := 1) (f := fun _ => .bool true) xs e
  have hl' := le64 hl
  have a : fAll [.f (xs.map fun _ => .bool true)] = some (.d (.bool true)) := by
    rw [ev_fAllF]
    simp
  simp only [ev_mRet, ev_mA, ev_maCons, ev_maNil, mLc, h, l, List.length_map, if_pos hl', a, ev_ret]
theorem plain (ns : List Int) (hn : ns.length ≤ 63) (hb : ∀ z ∈ ns, Builtin.Int.intBits z ≤ 1048576) : ∃ s', f_law [.d (.list (ns.map .int))] [] = some (.d (.bool true), s') := by
  obtain ⟨n, hn5, e⟩ := lw_it (xs := ns.map .int) (s := []) (x1 := none)
  refine ⟨[], run_rt rfl rfl (lw_all e (by rw [rangeL_len]; omega) fun x hx => ?_)⟩
  unfold rangeL at hx
  obtain ⟨i, hi, rfl⟩ := List.mem_map.mp hx
  have hi' := List.mem_range.mp hi
  obtain ⟨a, b, e1, b0, b1⟩ := e_spring (ns := ns) (l := i) (by omega) (s := [])
  obtain ⟨s', e2⟩ := e_right (s := [a, b, 0]) ⟨a, b, 0, rfl, b0, b1, by decide, by decide⟩
  rw [Int.zero_add]
  exact cn_ev e1 e2
end W2

namespace W2
open PySem PySem.Spec L2 Dh PyProof.Rows
section
theorem all_mk {P : Program} {w : World} {K : PySem.W.Frag} {h : Heap} {mg : Str → Option Value} {fa : Addr}
    {f0 : Addr} {od0 an0 : Option Addr} {sl0 : Array (Option Value)} {oc0 kV0 dc0 pm0 cd0 ct0 : Value}
    {f1 : Addr} {od1 an1 : Option Addr} {sl1 : Array (Option Value)} {oc1 kV1 dc1 pm1 cd1 ct1 : Value}
    {f2 : Addr} {od2 an2 : Option Addr} {sl2 : Array (Option Value)} {oc2 kV2 dc2 pm2 cd2 ct2 : Value}
    {f3 : Addr} {od3 an3 : Option Addr} {sl3 : Array (Option Value)} {oc3 kV3 dc3 pm3 cd3 ct3 : Value}
    {f4 : Addr} {od4 an4 : Option Addr} {sl4 : Array (Option Value)} {oc4 kV4 dc4 pm4 cd4 ct4 : Value}
    {f5 : Addr} {od5 an5 : Option Addr} {sl5 : Array (Option Value)} {oc5 kV5 dc5 pm5 cd5 ct5 : Value}
    {f6 : Addr} {od6 an6 : Option Addr} {sl6 : Array (Option Value)} {oc6 kV6 dc6 pm6 cd6 ct6 : Value}
    {f7 : Addr} {od7 an7 : Option Addr} {sl7 : Array (Option Value)} {oc7 kV7 dc7 pm7 cd7 ct7 : Value}
    {f8 : Addr} {od8 an8 : Option Addr} {sl8 : Array (Option Value)} {oc8 kV8 dc8 pm8 cd8 ct8 : Value}
    {f9 : Addr} {od9 an9 : Option Addr} {sl9 : Array (Option Value)} {oc9 kV9 dc9 pm9 cd9 ct9 : Value}
    {f10 : Addr} {od10 an10 : Option Addr} {sl10 : Array (Option Value)} {oc10 kV10 dc10 pm10 cd10 ct10 : Value}
    {f11 : Addr} {od11 an11 : Option Addr} {sl11 : Array (Option Value)} {oc11 kV11 dc11 pm11 cd11 ct11 : Value}
    {f12 : Addr} {od12 an12 : Option Addr} {sl12 : Array (Option Value)} {oc12 kV12 dc12 pm12 cd12 ct12 : Value}
    {f13 : Addr} {od13 an13 : Option Addr} {sl13 : Array (Option Value)} {oc13 kV13 dc13 pm13 cd13 ct13 : Value}
    {f14 : Addr} {od14 an14 : Option Addr} {sl14 : Array (Option Value)} {oc14 kV14 dc14 pm14 cd14 ct14 : Value}
    {f15 : Addr} {od15 an15 : Option Addr} {sl15 : Array (Option Value)} {oc15 kV15 dc15 pm15 cd15 ct15 : Value}
    {f16 : Addr} {od16 an16 : Option Addr} {sl16 : Array (Option Value)} {oc16 kV16 dc16 pm16 cd16 ct16 : Value}
    {f17 : Addr} {od17 an17 : Option Addr} {sl17 : Array (Option Value)} {oc17 kV17 dc17 pm17 cd17 ct17 : Value}
    {f18 : Addr} {od18 an18 : Option Addr} {sl18 : Array (Option Value)} {oc18 kV18 dc18 pm18 cd18 ct18 : Value}
    {f19 : Addr} {od19 an19 : Option Addr} {sl19 : Array (Option Value)} {oc19 kV19 dc19 pm19 cd19 ct19 : Value}
    {f20 : Addr} {od20 an20 : Option Addr} {sl20 : Array (Option Value)} {oc20 kV20 dc20 pm20 cd20 ct20 : Value}
    {f21 : Addr} {od21 an21 : Option Addr} {sl21 : Array (Option Value)} {oc21 kV21 dc21 pm21 cd21 ct21 : Value}
    {f22 : Addr} {od22 an22 : Option Addr} {sl22 : Array (Option Value)} {oc22 kV22 dc22 pm22 cd22 ct22 : Value}
    {f23 : Addr} {od23 an23 : Option Addr} {sl23 : Array (Option Value)} {oc23 kV23 dc23 pm23 cd23 ct23 : Value}
    {f24 : Addr} {od24 an24 : Option Addr} {sl24 : Array (Option Value)} {oc24 kV24 dc24 pm24 cd24 ct24 : Value}
    {f25 : Addr} {od25 an25 : Option Addr} {sl25 : Array (Option Value)} {oc25 kV25 dc25 pm25 cd25 ct25 : Value}
    {f26 : Addr} {od26 an26 : Option Addr} {sl26 : Array (Option Value)} {oc26 kV26 dc26 pm26 cd26 ct26 : Value}
    {f27 : Addr} {od27 an27 : Option Addr} {sl27 : Array (Option Value)} {oc27 kV27 dc27 pm27 cd27 ct27 : Value}
    {f28 : Addr} {od28 an28 : Option Addr} {sl28 : Array (Option Value)} {oc28 kV28 dc28 pm28 cd28 ct28 : Value}
    {f29 : Addr} {od29 an29 : Option Addr} {sl29 : Array (Option Value)} {oc29 kV29 dc29 pm29 cd29 ct29 : Value}
    {f30 : Addr} {od30 an30 : Option Addr} {sl30 : Array (Option Value)} {oc30 kV30 dc30 pm30 cd30 ct30 : Value}
    {f31 : Addr} {od31 an31 : Option Addr} {sl31 : Array (Option Value)} {oc31 kV31 dc31 pm31 cd31 ct31 : Value}
    {f32 : Addr} {od32 an32 : Option Addr} {sl32 : Array (Option Value)} {oc32 kV32 dc32 pm32 cd32 ct32 : Value}
    {f33 : Addr} {od33 an33 : Option Addr} {sl33 : Array (Option Value)} {oc33 kV33 dc33 pm33 cd33 ct33 : Value}
    {f34 : Addr} {od34 an34 : Option Addr} {sl34 : Array (Option Value)} {oc34 kV34 dc34 pm34 cd34 ct34 : Value}
    {f35 : Addr} {od35 an35 : Option Addr} {sl35 : Array (Option Value)} {oc35 kV35 dc35 pm35 cd35 ct35 : Value}
    {f36 : Addr} {od36 an36 : Option Addr} {sl36 : Array (Option Value)} {oc36 kV36 dc36 pm36 cd36 ct36 : Value}
    {f37 : Addr} {od37 an37 : Option Addr} {sl37 : Array (Option Value)} {oc37 kV37 dc37 pm37 cd37 ct37 : Value}
    {f38 : Addr} {od38 an38 : Option Addr} {sl38 : Array (Option Value)} {oc38 kV38 dc38 pm38 cd38 ct38 : Value}
    {f39 : Addr} {od39 an39 : Option Addr} {sl39 : Array (Option Value)} {oc39 kV39 dc39 pm39 cd39 ct39 : Value}
    {f40 : Addr} {od40 an40 : Option Addr} {sl40 : Array (Option Value)} {oc40 kV40 dc40 pm40 cd40 ct40 : Value}
    {f41 : Addr} {od41 an41 : Option Addr} {sl41 : Array (Option Value)} {oc41 kV41 dc41 pm41 cd41 ct41 : Value}
    {f42 : Addr} {od42 an42 : Option Addr} {sl42 : Array (Option Value)} {oc42 kV42 dc42 pm42 cd42 ct42 : Value}
    {f43 : Addr} {od43 an43 : Option Addr} {sl43 : Array (Option Value)} {oc43 kV43 dc43 pm43 cd43 ct43 : Value}
    {f44 : Addr} {od44 an44 : Option Addr} {sl44 : Array (Option Value)} {oc44 kV44 dc44 pm44 cd44 ct44 : Value}
    {f45 : Addr} {od45 an45 : Option Addr} {sl45 : Array (Option Value)} {oc45 kV45 dc45 pm45 cd45 ct45 : Value}
    {f46 : Addr} {od46 an46 : Option Addr} {sl46 : Array (Option Value)} {oc46 kV46 dc46 pm46 cd46 ct46 : Value}
    {f47 : Addr} {od47 an47 : Option Addr} {sl47 : Array (Option Value)} {oc47 kV47 dc47 pm47 cd47 ct47 : Value}
    {f48 : Addr} {od48 an48 : Option Addr} {sl48 : Array (Option Value)} {oc48 kV48 dc48 pm48 cd48 ct48 : Value}
    {f49 : Addr} {od49 an49 : Option Addr} {sl49 : Array (Option Value)} {oc49 kV49 dc49 pm49 cd49 ct49 : Value}
    {f50 : Addr} {od50 an50 : Option Addr} {sl50 : Array (Option Value)} {oc50 kV50 dc50 pm50 cd50 ct50 : Value}
    {f51 : Addr} {od51 an51 : Option Addr} {sl51 : Array (Option Value)} {oc51 kV51 dc51 pm51 cd51 ct51 : Value}
    {f52 : Addr} {od52 an52 : Option Addr} {sl52 : Array (Option Value)} {oc52 kV52 dc52 pm52 cd52 ct52 : Value}
    {u0 : Tok}
    {u1 : Tok}
    {u2 : Tok}
    {u3 : Tok}
    {u4 : Tok}
    {q5 : Addr}
    {u6 : Tok}
    {u7 : Tok}
    {q8 : Addr}
    (X : K.In h) (G : h.Ns mainGlobals mg) (hfa : mg "law" = some (.ref fa))
    (a0 : PySem.W.nsIn K mainGlobals "is_whole" = some (some (.ref f0))) (l0 : K.lookup f0 = some ⟨oc0, od0, .func (PySem.W.fnOf "is_whole" "is_whole" (defArgs s_is_whole) (defBody s_is_whole) (defScope s_is_whole) .none kV0 dc0 pm0 an0 cd0 ct0), sl0⟩) (c0 : PySem.W.codeIn K cd0 "is_whole" = true) (k0 : PySem.W.keepIn K (.ref f0) = true)
    (a1 : PySem.W.nsIn K mainGlobals "is_between" = some (some (.ref f1))) (l1 : K.lookup f1 = some ⟨oc1, od1, .func (PySem.W.fnOf "is_between" "is_between" (defArgs s_is_between) (defBody s_is_between) (defScope s_is_between) .none kV1 dc1 pm1 an1 cd1 ct1), sl1⟩) (c1 : PySem.W.codeIn K cd1 "is_between" = true) (k1 : PySem.W.keepIn K (.ref f1) = true)
    (a2 : PySem.W.nsIn K mainGlobals "is_tuple_of" = some (some (.ref f2))) (l2 : K.lookup f2 = some ⟨oc2, od2, .func (PySem.W.fnOf "is_tuple_of" "is_tuple_of" (defArgs s_is_tuple_of) (defBody s_is_tuple_of) (defScope s_is_tuple_of) .none kV2 dc2 pm2 an2 cd2 ct2), sl2⟩) (c2 : PySem.W.codeIn K cd2 "is_tuple_of" = true) (k2 : PySem.W.keepIn K (.ref f2) = true)
    (a3 : PySem.W.nsIn K mainGlobals "is_ratio" = some (some (.ref f3))) (l3 : K.lookup f3 = some ⟨oc3, od3, .func (PySem.W.fnOf "is_ratio" "is_ratio" (defArgs s_is_ratio) (defBody s_is_ratio) (defScope s_is_ratio) .none kV3 dc3 pm3 an3 cd3 ct3), sl3⟩) (c3 : PySem.W.codeIn K cd3 "is_ratio" = true) (k3 : PySem.W.keepIn K (.ref f3) = true)
    (a4 : PySem.W.nsIn K mainGlobals "is_row" = some (some (.ref f4))) (l4 : K.lookup f4 = some ⟨oc4, od4, .func (PySem.W.fnOf "is_row" "is_row" (defArgs s_is_row) (defBody s_is_row) (defScope s_is_row) .none kV4 dc4 pm4 an4 cd4 ct4), sl4⟩) (c4 : PySem.W.codeIn K cd4 "is_row" = true) (k4 : PySem.W.keepIn K (.ref f4) = true)
    (a5 : PySem.W.nsIn K mainGlobals "ratio" = some (some (.ref f5))) (l5 : K.lookup f5 = some ⟨oc5, od5, .func (PySem.W.fnOf "ratio" "ratio" (defArgs s_ratio) (defBody s_ratio) (defScope s_ratio) .none kV5 dc5 pm5 an5 cd5 ct5), sl5⟩) (c5 : PySem.W.codeIn K cd5 "ratio" = true) (k5 : PySem.W.keepIn K (.ref f5) = true)
    (a6 : PySem.W.nsIn K mainGlobals "plus" = some (some (.ref f6))) (l6 : K.lookup f6 = some ⟨oc6, od6, .func (PySem.W.fnOf "plus" "plus" (defArgs s_plus) (defBody s_plus) (defScope s_plus) .none kV6 dc6 pm6 an6 cd6 ct6), sl6⟩) (c6 : PySem.W.codeIn K cd6 "plus" = true) (k6 : PySem.W.keepIn K (.ref f6) = true)
    (a7 : PySem.W.nsIn K mainGlobals "times" = some (some (.ref f7))) (l7 : K.lookup f7 = some ⟨oc7, od7, .func (PySem.W.fnOf "times" "times" (defArgs s_times) (defBody s_times) (defScope s_times) .none kV7 dc7 pm7 an7 cd7 ct7), sl7⟩) (c7 : PySem.W.codeIn K cd7 "times" = true) (k7 : PySem.W.keepIn K (.ref f7) = true)
    (a8 : PySem.W.nsIn K mainGlobals "total" = some (some (.ref f8))) (l8 : K.lookup f8 = some ⟨oc8, od8, .func (PySem.W.fnOf "total" "total" (defArgs s_total) (defBody s_total) (defScope s_total) .none kV8 dc8 pm8 an8 cd8 ct8), sl8⟩) (c8 : PySem.W.codeIn K cd8 "total" = true) (k8 : PySem.W.keepIn K (.ref f8) = true)
    (a9 : PySem.W.nsIn K mainGlobals "dot" = some (some (.ref f9))) (l9 : K.lookup f9 = some ⟨oc9, od9, .func (PySem.W.fnOf "dot" "dot" (defArgs s_dot) (defBody s_dot) (defScope s_dot) .none kV9 dc9 pm9 an9 cd9 ct9), sl9⟩) (c9 : PySem.W.codeIn K cd9 "dot" = true) (k9 : PySem.W.keepIn K (.ref f9) = true)
    (a10 : PySem.W.nsIn K mainGlobals "is_chance_row" = some (some (.ref f10))) (l10 : K.lookup f10 = some ⟨oc10, od10, .func (PySem.W.fnOf "is_chance_row" "is_chance_row" (defArgs s_is_chance_row) (defBody s_is_chance_row) (defScope s_is_chance_row) .none kV10 dc10 pm10 an10 cd10 ct10), sl10⟩) (c10 : PySem.W.codeIn K cd10 "is_chance_row" = true) (k10 : PySem.W.keepIn K (.ref f10) = true)
    (a11 : PySem.W.nsIn K mainGlobals "are_chances" = some (some (.ref f11))) (l11 : K.lookup f11 = some ⟨oc11, od11, .func (PySem.W.fnOf "are_chances" "are_chances" (defArgs s_are_chances) (defBody s_are_chances) (defScope s_are_chances) .none kV11 dc11 pm11 an11 cd11 ct11), sl11⟩) (c11 : PySem.W.codeIn K cd11 "are_chances" = true) (k11 : PySem.W.keepIn K (.ref f11) = true)
    (a12 : PySem.W.nsIn K mainGlobals "is_deed" = some (some (.ref f12))) (l12 : K.lookup f12 = some ⟨oc12, od12, .func (PySem.W.fnOf "is_deed" "is_deed" (defArgs s_is_deed) (defBody s_is_deed) (defScope s_is_deed) .none kV12 dc12 pm12 an12 cd12 ct12), sl12⟩) (c12 : PySem.W.codeIn K cd12 "is_deed" = true) (k12 : PySem.W.keepIn K (.ref f12) = true)
    (a13 : PySem.W.nsIn K mainGlobals "is_stand" = some (some (.ref f13))) (l13 : K.lookup f13 = some ⟨oc13, od13, .func (PySem.W.fnOf "is_stand" "is_stand" (defArgs s_is_stand) (defBody s_is_stand) (defScope s_is_stand) .none kV13 dc13 pm13 an13 cd13 ct13), sl13⟩) (c13 : PySem.W.codeIn K cd13 "is_stand" = true) (k13 : PySem.W.keepIn K (.ref f13) = true)
    (a14 : PySem.W.nsIn K mainGlobals "is_share" = some (some (.ref f14))) (l14 : K.lookup f14 = some ⟨oc14, od14, .func (PySem.W.fnOf "is_share" "is_share" (defArgs s_is_share) (defBody s_is_share) (defScope s_is_share) .none kV14 dc14 pm14 an14 cd14 ct14), sl14⟩) (c14 : PySem.W.codeIn K cd14 "is_share" = true) (k14 : PySem.W.keepIn K (.ref f14) = true)
    (a15 : PySem.W.nsIn K mainGlobals "is_house_by" = some (some (.ref f15))) (l15 : K.lookup f15 = some ⟨oc15, od15, .func (PySem.W.fnOf "is_house_by" "is_house_by" (defArgs s_is_house_by) (defBody s_is_house_by) (defScope s_is_house_by) .none kV15 dc15 pm15 an15 cd15 ct15), sl15⟩) (c15 : PySem.W.codeIn K cd15 "is_house_by" = true) (k15 : PySem.W.keepIn K (.ref f15) = true)
    (a16 : PySem.W.nsIn K mainGlobals "is_start_by" = some (some (.ref f16))) (l16 : K.lookup f16 = some ⟨oc16, od16, .func (PySem.W.fnOf "is_start_by" "is_start_by" (defArgs s_is_start_by) (defBody s_is_start_by) (defScope s_is_start_by) .none kV16 dc16 pm16 an16 cd16 ct16), sl16⟩) (c16 : PySem.W.codeIn K cd16 "is_start_by" = true) (k16 : PySem.W.keepIn K (.ref f16) = true)
    (a17 : PySem.W.nsIn K mainGlobals "weighted_by" = some (some (.ref f17))) (l17 : K.lookup f17 = some ⟨oc17, od17, .func (PySem.W.fnOf "weighted_by" "weighted_by" (defArgs s_weighted_by) (defBody s_weighted_by) (defScope s_weighted_by) .none kV17 dc17 pm17 an17 cd17 ct17), sl17⟩) (c17 : PySem.W.codeIn K cd17 "weighted_by" = true) (k17 : PySem.W.keepIn K (.ref f17) = true)
    (a18 : PySem.W.nsIn K mainGlobals "check_house" = some (some (.ref f18))) (l18 : K.lookup f18 = some ⟨oc18, od18, .func (PySem.W.fnOf "check_house" "check_house" (defArgs s_check_house) (defBody s_check_house) (defScope s_check_house) .none kV18 dc18 pm18 an18 cd18 ct18), sl18⟩) (c18 : PySem.W.codeIn K cd18 "check_house" = true) (k18 : PySem.W.keepIn K (.ref f18) = true)
    (a19 : PySem.W.nsIn K mainGlobals "check_weights" = some (some (.ref f19))) (l19 : K.lookup f19 = some ⟨oc19, od19, .func (PySem.W.fnOf "check_weights" "check_weights" (defArgs s_check_weights) (defBody s_check_weights) (defScope s_check_weights) .none kV19 dc19 pm19 an19 cd19 ct19), sl19⟩) (c19 : PySem.W.codeIn K cd19 "check_weights" = true) (k19 : PySem.W.keepIn K (.ref f19) = true)
    (a20 : PySem.W.nsIn K mainGlobals "is_house" = some (some (.ref f20))) (l20 : K.lookup f20 = some ⟨oc20, od20, .func (PySem.W.fnOf "is_house" "is_house" (defArgs s_is_house) (defBody s_is_house) (defScope s_is_house) .none kV20 dc20 pm20 an20 cd20 ct20), sl20⟩) (c20 : PySem.W.codeIn K cd20 "is_house" = true) (k20 : PySem.W.keepIn K (.ref f20) = true)
    (a21 : PySem.W.nsIn K mainGlobals "is_start" = some (some (.ref f21))) (l21 : K.lookup f21 = some ⟨oc21, od21, .func (PySem.W.fnOf "is_start" "is_start" (defArgs s_is_start) (defBody s_is_start) (defScope s_is_start) .none kV21 dc21 pm21 an21 cd21 ct21), sl21⟩) (c21 : PySem.W.codeIn K cd21 "is_start" = true) (k21 : PySem.W.keepIn K (.ref f21) = true)
    (a22 : PySem.W.nsIn K mainGlobals "weighted" = some (some (.ref f22))) (l22 : K.lookup f22 = some ⟨oc22, od22, .func (PySem.W.fnOf "weighted" "weighted" (defArgs s_weighted) (defBody s_weighted) (defScope s_weighted) .none kV22 dc22 pm22 an22 cd22 ct22), sl22⟩) (c22 : PySem.W.codeIn K cd22 "weighted" = true) (k22 : PySem.W.keepIn K (.ref f22) = true)
    (a23 : PySem.W.nsIn K mainGlobals "_law_spring" = some (some (.ref f23))) (l23 : K.lookup f23 = some ⟨oc23, od23, .func (PySem.W.fnOf "_law_spring" "_law_spring" (defArgs s_law_spring) (defBody s_law_spring) (defScope s_law_spring) .none kV23 dc23 pm23 an23 cd23 ct23), sl23⟩) (c23 : PySem.W.codeIn K cd23 "_law_spring" = true) (k23 : PySem.W.keepIn K (.ref f23) = true)
    (a24 : PySem.W.nsIn K mainGlobals "_law_pick" = some (some (.ref f24))) (l24 : K.lookup f24 = some ⟨oc24, od24, .func (PySem.W.fnOf "_law_pick" "_law_pick" (defArgs s_law_pick) (defBody s_law_pick) (defScope s_law_pick) .none kV24 dc24 pm24 an24 cd24 ct24), sl24⟩) (c24 : PySem.W.codeIn K cd24 "_law_pick" = true) (k24 : PySem.W.keepIn K (.ref f24) = true)
    (a25 : PySem.W.nsIn K mainGlobals "_law_any_of" = some (some (.ref f25))) (l25 : K.lookup f25 = some ⟨oc25, od25, .func (PySem.W.fnOf "_law_any_of" "_law_any_of" (defArgs s_law_any_of) (defBody s_law_any_of) (defScope s_law_any_of) .none kV25 dc25 pm25 an25 cd25 ct25), sl25⟩) (c25 : PySem.W.codeIn K cd25 "_law_any_of" = true) (k25 : PySem.W.keepIn K (.ref f25) = true)
    (a26 : PySem.W.nsIn K mainGlobals "_law_frac" = some (some (.ref f26))) (l26 : K.lookup f26 = some ⟨oc26, od26, .func (PySem.W.fnOf "_law_frac" "_law_frac" (defArgs s_law_frac) (defBody s_law_frac) (defScope s_law_frac) .none kV26 dc26 pm26 an26 cd26 ct26), sl26⟩) (c26 : PySem.W.codeIn K cd26 "_law_frac" = true) (k26 : PySem.W.keepIn K (.ref f26) = true)
    (a27 : PySem.W.nsIn K mainGlobals "_law_plus" = some (some (.ref f27))) (l27 : K.lookup f27 = some ⟨oc27, od27, .func (PySem.W.fnOf "_law_plus" "_law_plus" (defArgs s_law_plus) (defBody s_law_plus) (defScope s_law_plus) .none kV27 dc27 pm27 an27 cd27 ct27), sl27⟩) (c27 : PySem.W.codeIn K cd27 "_law_plus" = true) (k27 : PySem.W.keepIn K (.ref f27) = true)
    (a28 : PySem.W.nsIn K mainGlobals "_law_times" = some (some (.ref f28))) (l28 : K.lookup f28 = some ⟨oc28, od28, .func (PySem.W.fnOf "_law_times" "_law_times" (defArgs s_law_times) (defBody s_law_times) (defScope s_law_times) .none kV28 dc28 pm28 an28 cd28 ct28), sl28⟩) (c28 : PySem.W.codeIn K cd28 "_law_times" = true) (k28 : PySem.W.keepIn K (.ref f28) = true)
    (a29 : PySem.W.nsIn K mainGlobals "_law_total" = some (some (.ref f29))) (l29 : K.lookup f29 = some ⟨oc29, od29, .func (PySem.W.fnOf "_law_total" "_law_total" (defArgs s_law_total) (defBody s_law_total) (defScope s_law_total) .none kV29 dc29 pm29 an29 cd29 ct29), sl29⟩) (c29 : PySem.W.codeIn K cd29 "_law_total" = true) (k29 : PySem.W.keepIn K (.ref f29) = true)
    (a30 : PySem.W.nsIn K mainGlobals "_law_dot" = some (some (.ref f30))) (l30 : K.lookup f30 = some ⟨oc30, od30, .func (PySem.W.fnOf "_law_dot" "_law_dot" (defArgs s_law_dot) (defBody s_law_dot) (defScope s_law_dot) .none kV30 dc30 pm30 an30 cd30 ct30), sl30⟩) (c30 : PySem.W.codeIn K cd30 "_law_dot" = true) (k30 : PySem.W.keepIn K (.ref f30) = true)
    (a31 : PySem.W.nsIn K mainGlobals "_law_part" = some (some (.ref f31))) (l31 : K.lookup f31 = some ⟨oc31, od31, .func (PySem.W.fnOf "_law_part" "_law_part" (defArgs s_law_part) (defBody s_law_part) (defScope s_law_part) .none kV31 dc31 pm31 an31 cd31 ct31), sl31⟩) (c31 : PySem.W.codeIn K cd31 "_law_part" = true) (k31 : PySem.W.keepIn K (.ref f31) = true)
    (a32 : PySem.W.nsIn K mainGlobals "_law_gains" = some (some (.ref f32))) (l32 : K.lookup f32 = some ⟨oc32, od32, .func (PySem.W.fnOf "_law_gains" "_law_gains" (defArgs s_law_gains) (defBody s_law_gains) (defScope s_law_gains) .none kV32 dc32 pm32 an32 cd32 ct32), sl32⟩) (c32 : PySem.W.codeIn K cd32 "_law_gains" = true) (k32 : PySem.W.keepIn K (.ref f32) = true)
    (a33 : PySem.W.nsIn K mainGlobals "_law_parts" = some (some (.ref f33))) (l33 : K.lookup f33 = some ⟨oc33, od33, .func (PySem.W.fnOf "_law_parts" "_law_parts" (defArgs s_law_parts) (defBody s_law_parts) (defScope s_law_parts) .none kV33 dc33 pm33 an33 cd33 ct33), sl33⟩) (c33 : PySem.W.codeIn K cd33 "_law_parts" = true) (k33 : PySem.W.keepIn K (.ref f33) = true)
    (a34 : PySem.W.nsIn K mainGlobals "_law_chances" = some (some (.ref f34))) (l34 : K.lookup f34 = some ⟨oc34, od34, .func (PySem.W.fnOf "_law_chances" "_law_chances" (defArgs s_law_chances) (defBody s_law_chances) (defScope s_law_chances) .none kV34 dc34 pm34 an34 cd34 ct34), sl34⟩) (c34 : PySem.W.codeIn K cd34 "_law_chances" = true) (k34 : PySem.W.keepIn K (.ref f34) = true)
    (a35 : PySem.W.nsIn K mainGlobals "_law_odds" = some (some (.ref f35))) (l35 : K.lookup f35 = some ⟨oc35, od35, .func (PySem.W.fnOf "_law_odds" "_law_odds" (defArgs s_law_odds) (defBody s_law_odds) (defScope s_law_odds) .none kV35 dc35 pm35 an35 cd35 ct35), sl35⟩) (c35 : PySem.W.codeIn K cd35 "_law_odds" = true) (k35 : PySem.W.keepIn K (.ref f35) = true)
    (a36 : PySem.W.nsIn K mainGlobals "_law_sized" = some (some (.ref f36))) (l36 : K.lookup f36 = some ⟨oc36, od36, .func (PySem.W.fnOf "_law_sized" "_law_sized" (defArgs s_law_sized) (defBody s_law_sized) (defScope s_law_sized) .none kV36 dc36 pm36 an36 cd36 ct36), sl36⟩) (c36 : PySem.W.codeIn K cd36 "_law_sized" = true) (k36 : PySem.W.keepIn K (.ref f36) = true)
    (a37 : PySem.W.nsIn K mainGlobals "_law_world" = some (some (.ref f37))) (l37 : K.lookup f37 = some ⟨oc37, od37, .func (PySem.W.fnOf "_law_world" "_law_world" (defArgs s_law_world) (defBody s_law_world) (defScope s_law_world) .none kV37 dc37 pm37 an37 cd37 ct37), sl37⟩) (c37 : PySem.W.codeIn K cd37 "_law_world" = true) (k37 : PySem.W.keepIn K (.ref f37) = true)
    (a38 : PySem.W.nsIn K mainGlobals "_law_dressed" = some (some (.ref f38))) (l38 : K.lookup f38 = some ⟨oc38, od38, .func (PySem.W.fnOf "_law_dressed" "_law_dressed" (defArgs s_law_dressed) (defBody s_law_dressed) (defScope s_law_dressed) .none kV38 dc38 pm38 an38 cd38 ct38), sl38⟩) (c38 : PySem.W.codeIn K cd38 "_law_dressed" = true) (k38 : PySem.W.keepIn K (.ref f38) = true)
    (a39 : PySem.W.nsIn K mainGlobals "_law_is_whole" = some (some (.ref f39))) (l39 : K.lookup f39 = some ⟨oc39, od39, .func (PySem.W.fnOf "_law_is_whole" "_law_is_whole" (defArgs s_law_is_whole) (defBody s_law_is_whole) (defScope s_law_is_whole) .none kV39 dc39 pm39 an39 cd39 ct39), sl39⟩) (c39 : PySem.W.codeIn K cd39 "_law_is_whole" = true) (k39 : PySem.W.keepIn K (.ref f39) = true)
    (a40 : PySem.W.nsIn K mainGlobals "_law_is_tuple" = some (some (.ref f40))) (l40 : K.lookup f40 = some ⟨oc40, od40, .func (PySem.W.fnOf "_law_is_tuple" "_law_is_tuple" (defArgs s_law_is_tuple) (defBody s_law_is_tuple) (defScope s_law_is_tuple) .none kV40 dc40 pm40 an40 cd40 ct40), sl40⟩) (c40 : PySem.W.codeIn K cd40 "_law_is_tuple" = true) (k40 : PySem.W.keepIn K (.ref f40) = true)
    (a41 : PySem.W.nsIn K mainGlobals "_law_is_frac" = some (some (.ref f41))) (l41 : K.lookup f41 = some ⟨oc41, od41, .func (PySem.W.fnOf "_law_is_frac" "_law_is_frac" (defArgs s_law_is_frac) (defBody s_law_is_frac) (defScope s_law_is_frac) .none kV41 dc41 pm41 an41 cd41 ct41), sl41⟩) (c41 : PySem.W.codeIn K cd41 "_law_is_frac" = true) (k41 : PySem.W.keepIn K (.ref f41) = true)
    (a42 : PySem.W.nsIn K mainGlobals "_law_is_row" = some (some (.ref f42))) (l42 : K.lookup f42 = some ⟨oc42, od42, .func (PySem.W.fnOf "_law_is_row" "_law_is_row" (defArgs s_law_is_row) (defBody s_law_is_row) (defScope s_law_is_row) .none kV42 dc42 pm42 an42 cd42 ct42), sl42⟩) (c42 : PySem.W.codeIn K cd42 "_law_is_row" = true) (k42 : PySem.W.keepIn K (.ref f42) = true)
    (a43 : PySem.W.nsIn K mainGlobals "_law_is_odds" = some (some (.ref f43))) (l43 : K.lookup f43 = some ⟨oc43, od43, .func (PySem.W.fnOf "_law_is_odds" "_law_is_odds" (defArgs s_law_is_odds) (defBody s_law_is_odds) (defScope s_law_is_odds) .none kV43 dc43 pm43 an43 cd43 ct43), sl43⟩) (c43 : PySem.W.codeIn K cd43 "_law_is_odds" = true) (k43 : PySem.W.keepIn K (.ref f43) = true)
    (a44 : PySem.W.nsIn K mainGlobals "_law_is_deed" = some (some (.ref f44))) (l44 : K.lookup f44 = some ⟨oc44, od44, .func (PySem.W.fnOf "_law_is_deed" "_law_is_deed" (defArgs s_law_is_deed) (defBody s_law_is_deed) (defScope s_law_is_deed) .none kV44 dc44 pm44 an44 cd44 ct44), sl44⟩) (c44 : PySem.W.codeIn K cd44 "_law_is_deed" = true) (k44 : PySem.W.keepIn K (.ref f44) = true)
    (a45 : PySem.W.nsIn K mainGlobals "_law_is_world" = some (some (.ref f45))) (l45 : K.lookup f45 = some ⟨oc45, od45, .func (PySem.W.fnOf "_law_is_world" "_law_is_world" (defArgs s_law_is_world) (defBody s_law_is_world) (defScope s_law_is_world) .none kV45 dc45 pm45 an45 cd45 ct45), sl45⟩) (c45 : PySem.W.codeIn K cd45 "_law_is_world" = true) (k45 : PySem.W.keepIn K (.ref f45) = true)
    (a46 : PySem.W.nsIn K mainGlobals "_law_odd" = some (some (.ref f46))) (l46 : K.lookup f46 = some ⟨oc46, od46, .func (PySem.W.fnOf "_law_odd" "_law_odd" (defArgs s_law_odd) (defBody s_law_odd) (defScope s_law_odd) .none kV46 dc46 pm46 an46 cd46 ct46), sl46⟩) (c46 : PySem.W.codeIn K cd46 "_law_odd" = true) (k46 : PySem.W.keepIn K (.ref f46) = true)
    (a47 : PySem.W.nsIn K mainGlobals "_law_twice" = some (some (.ref f47))) (l47 : K.lookup f47 = some ⟨oc47, od47, .func (PySem.W.fnOf "_law_twice" "_law_twice" (defArgs s_law_twice) (defBody s_law_twice) (defScope s_law_twice) .none kV47 dc47 pm47 an47 cd47 ct47), sl47⟩) (c47 : PySem.W.codeIn K cd47 "_law_twice" = true) (k47 : PySem.W.keepIn K (.ref f47) = true)
    (a48 : PySem.W.nsIn K mainGlobals "_law_bent" = some (some (.ref f48))) (l48 : K.lookup f48 = some ⟨oc48, od48, .func (PySem.W.fnOf "_law_bent" "_law_bent" (defArgs s_law_bent) (defBody s_law_bent) (defScope s_law_bent) .none kV48 dc48 pm48 an48 cd48 ct48), sl48⟩) (c48 : PySem.W.codeIn K cd48 "_law_bent" = true) (k48 : PySem.W.keepIn K (.ref f48) = true)
    (a49 : PySem.W.nsIn K mainGlobals "_law_maybe" = some (some (.ref f49))) (l49 : K.lookup f49 = some ⟨oc49, od49, .func (PySem.W.fnOf "_law_maybe" "_law_maybe" (defArgs s_law_maybe) (defBody s_law_maybe) (defScope s_law_maybe) .none kV49 dc49 pm49 an49 cd49 ct49), sl49⟩) (c49 : PySem.W.codeIn K cd49 "_law_maybe" = true) (k49 : PySem.W.keepIn K (.ref f49) = true)
    (a50 : PySem.W.nsIn K mainGlobals "_law_edge" = some (some (.ref f50))) (l50 : K.lookup f50 = some ⟨oc50, od50, .func (PySem.W.fnOf "_law_edge" "_law_edge" (defArgs s_law_edge) (defBody s_law_edge) (defScope s_law_edge) .none kV50 dc50 pm50 an50 cd50 ct50), sl50⟩) (c50 : PySem.W.codeIn K cd50 "_law_edge" = true) (k50 : PySem.W.keepIn K (.ref f50) = true)
    (a51 : PySem.W.nsIn K mainGlobals "_law_right" = some (some (.ref f51))) (l51 : K.lookup f51 = some ⟨oc51, od51, .func (PySem.W.fnOf "_law_right" "_law_right" (defArgs s_law_right) (defBody s_law_right) (defScope s_law_right) .none kV51 dc51 pm51 an51 cd51 ct51), sl51⟩) (c51 : PySem.W.codeIn K cd51 "_law_right" = true) (k51 : PySem.W.keepIn K (.ref f51) = true)
    (a52 : PySem.W.nsIn K mainGlobals "law" = some (some (.ref f52))) (l52 : K.lookup f52 = some ⟨oc52, od52, .func (PySem.W.fnOf "law" "law" (defArgs s_law) (defBody s_law) (defScope s_law) .none kV52 dc52 pm52 an52 cd52 ct52), sl52⟩) (c52 : PySem.W.codeIn K cd52 "law" = true) (k52 : PySem.W.keepIn K (.ref f52) = true)
    (z_abs : PySem.W.nsIn K mainGlobals "abs" = some none)
    (z_all : PySem.W.nsIn K mainGlobals "all" = some none)
    (z_bool : PySem.W.nsIn K mainGlobals "bool" = some none)
    (z_divmod : PySem.W.nsIn K mainGlobals "divmod" = some none)
    (z_enumerate : PySem.W.nsIn K mainGlobals "enumerate" = some none)
    (z_gcd : PySem.W.nsIn K mainGlobals "gcd" = some (some (.builtin "math.gcd")))
    (z_int : PySem.W.nsIn K mainGlobals "int" = some none)
    (z_isinstance : PySem.W.nsIn K mainGlobals "isinstance" = some none)
    (z_len : PySem.W.nsIn K mainGlobals "len" = some none)
    (z_list : PySem.W.nsIn K mainGlobals "list" = some none)
    (z_max : PySem.W.nsIn K mainGlobals "max" = some none)
    (z_min : PySem.W.nsIn K mainGlobals "min" = some none)
    (z_range : PySem.W.nsIn K mainGlobals "range" = some none)
    (z_repr : PySem.W.nsIn K mainGlobals "repr" = some none)
    (z_str : PySem.W.nsIn K mainGlobals "str" = some none)
    (z_sum : PySem.W.nsIn K mainGlobals "sum" = some none)
    (z_tuple : PySem.W.nsIn K mainGlobals "tuple" = some none)
    (z_zip : PySem.W.nsIn K mainGlobals "zip" = some none)
    (g_MOST_DEEDS : PySem.W.nsIn K mainGlobals "MOST_DEEDS" = some (some (.int (4) u0)))
    (g_MOST_PAYS : PySem.W.nsIn K mainGlobals "MOST_PAYS" = some (some (.int (4) u1)))
    (g_MOST_STANDS : PySem.W.nsIn K mainGlobals "MOST_STANDS" = some (some (.int (8) u2)))
    (t5 : K.lookup q5 = some { cls := .type "tuple", data := .seq #[.int (1) u3, .int (1) u4] })
    (g_ONE : PySem.W.nsIn K mainGlobals "ONE" = some (some (.ref q5)))
    (t8 : K.lookup q8 = some { cls := .type "tuple", data := .seq #[.int (0) u6, .int (1) u7] })
    (g_ZERO : PySem.W.nsIn K mainGlobals "ZERO" = some (some (.ref q8))) :
    ∃ fd : FuncData, (∀ (s : Shared) (v : Value), BindsTo s fd ⟨[v], []⟩ [("_law_script", v)]) ∧ ∀ base : Heap, K.In base → base.Ns mainGlobals mg → FnG P w K mg base 18 fa fd ["_law_script"] (spOf K 1 f_law) := by
  have e := hfa.symm.trans (PySem.W.mg_of X G a52)
  have e2 : f52 = fa := by cases e; rfl
  subst e2
  have T : Txt K mg (fun i => ([f0, f1, f2, f3, f4, f5, f6, f7, f8, f9, f10, f11, f12, f13, f14, f15, f16, f17, f18, f19, f20, f21, f22, f23, f24, f25, f26, f27, f28, f29, f30, f31, f32, f33, f34, f35, f36, f37, f38, f39, f40, f41, f42, f43, f44, f45, f46, f47, f48, f49, f50, f51, f52] : List Addr).getD i f52) (fun i => ([PySem.W.fnOf "is_whole" "is_whole" (defArgs s_is_whole) (defBody s_is_whole) (defScope s_is_whole) .none kV0 dc0 pm0 an0 cd0 ct0,
      PySem.W.fnOf "is_between" "is_between" (defArgs s_is_between) (defBody s_is_between) (defScope s_is_between) .none kV1 dc1 pm1 an1 cd1 ct1,
      PySem.W.fnOf "is_tuple_of" "is_tuple_of" (defArgs s_is_tuple_of) (defBody s_is_tuple_of) (defScope s_is_tuple_of) .none kV2 dc2 pm2 an2 cd2 ct2,
      PySem.W.fnOf "is_ratio" "is_ratio" (defArgs s_is_ratio) (defBody s_is_ratio) (defScope s_is_ratio) .none kV3 dc3 pm3 an3 cd3 ct3,
      PySem.W.fnOf "is_row" "is_row" (defArgs s_is_row) (defBody s_is_row) (defScope s_is_row) .none kV4 dc4 pm4 an4 cd4 ct4,
      PySem.W.fnOf "ratio" "ratio" (defArgs s_ratio) (defBody s_ratio) (defScope s_ratio) .none kV5 dc5 pm5 an5 cd5 ct5,
      PySem.W.fnOf "plus" "plus" (defArgs s_plus) (defBody s_plus) (defScope s_plus) .none kV6 dc6 pm6 an6 cd6 ct6,
      PySem.W.fnOf "times" "times" (defArgs s_times) (defBody s_times) (defScope s_times) .none kV7 dc7 pm7 an7 cd7 ct7,
      PySem.W.fnOf "total" "total" (defArgs s_total) (defBody s_total) (defScope s_total) .none kV8 dc8 pm8 an8 cd8 ct8,
      PySem.W.fnOf "dot" "dot" (defArgs s_dot) (defBody s_dot) (defScope s_dot) .none kV9 dc9 pm9 an9 cd9 ct9,
      PySem.W.fnOf "is_chance_row" "is_chance_row" (defArgs s_is_chance_row) (defBody s_is_chance_row) (defScope s_is_chance_row) .none kV10 dc10 pm10 an10 cd10 ct10,
      PySem.W.fnOf "are_chances" "are_chances" (defArgs s_are_chances) (defBody s_are_chances) (defScope s_are_chances) .none kV11 dc11 pm11 an11 cd11 ct11,
      PySem.W.fnOf "is_deed" "is_deed" (defArgs s_is_deed) (defBody s_is_deed) (defScope s_is_deed) .none kV12 dc12 pm12 an12 cd12 ct12,
      PySem.W.fnOf "is_stand" "is_stand" (defArgs s_is_stand) (defBody s_is_stand) (defScope s_is_stand) .none kV13 dc13 pm13 an13 cd13 ct13,
      PySem.W.fnOf "is_share" "is_share" (defArgs s_is_share) (defBody s_is_share) (defScope s_is_share) .none kV14 dc14 pm14 an14 cd14 ct14,
      PySem.W.fnOf "is_house_by" "is_house_by" (defArgs s_is_house_by) (defBody s_is_house_by) (defScope s_is_house_by) .none kV15 dc15 pm15 an15 cd15 ct15,
      PySem.W.fnOf "is_start_by" "is_start_by" (defArgs s_is_start_by) (defBody s_is_start_by) (defScope s_is_start_by) .none kV16 dc16 pm16 an16 cd16 ct16,
      PySem.W.fnOf "weighted_by" "weighted_by" (defArgs s_weighted_by) (defBody s_weighted_by) (defScope s_weighted_by) .none kV17 dc17 pm17 an17 cd17 ct17,
      PySem.W.fnOf "check_house" "check_house" (defArgs s_check_house) (defBody s_check_house) (defScope s_check_house) .none kV18 dc18 pm18 an18 cd18 ct18,
      PySem.W.fnOf "check_weights" "check_weights" (defArgs s_check_weights) (defBody s_check_weights) (defScope s_check_weights) .none kV19 dc19 pm19 an19 cd19 ct19,
      PySem.W.fnOf "is_house" "is_house" (defArgs s_is_house) (defBody s_is_house) (defScope s_is_house) .none kV20 dc20 pm20 an20 cd20 ct20,
      PySem.W.fnOf "is_start" "is_start" (defArgs s_is_start) (defBody s_is_start) (defScope s_is_start) .none kV21 dc21 pm21 an21 cd21 ct21,
      PySem.W.fnOf "weighted" "weighted" (defArgs s_weighted) (defBody s_weighted) (defScope s_weighted) .none kV22 dc22 pm22 an22 cd22 ct22,
      PySem.W.fnOf "_law_spring" "_law_spring" (defArgs s_law_spring) (defBody s_law_spring) (defScope s_law_spring) .none kV23 dc23 pm23 an23 cd23 ct23,
      PySem.W.fnOf "_law_pick" "_law_pick" (defArgs s_law_pick) (defBody s_law_pick) (defScope s_law_pick) .none kV24 dc24 pm24 an24 cd24 ct24,
      PySem.W.fnOf "_law_any_of" "_law_any_of" (defArgs s_law_any_of) (defBody s_law_any_of) (defScope s_law_any_of) .none kV25 dc25 pm25 an25 cd25 ct25,
      PySem.W.fnOf "_law_frac" "_law_frac" (defArgs s_law_frac) (defBody s_law_frac) (defScope s_law_frac) .none kV26 dc26 pm26 an26 cd26 ct26,
      PySem.W.fnOf "_law_plus" "_law_plus" (defArgs s_law_plus) (defBody s_law_plus) (defScope s_law_plus) .none kV27 dc27 pm27 an27 cd27 ct27,
      PySem.W.fnOf "_law_times" "_law_times" (defArgs s_law_times) (defBody s_law_times) (defScope s_law_times) .none kV28 dc28 pm28 an28 cd28 ct28,
      PySem.W.fnOf "_law_total" "_law_total" (defArgs s_law_total) (defBody s_law_total) (defScope s_law_total) .none kV29 dc29 pm29 an29 cd29 ct29,
      PySem.W.fnOf "_law_dot" "_law_dot" (defArgs s_law_dot) (defBody s_law_dot) (defScope s_law_dot) .none kV30 dc30 pm30 an30 cd30 ct30,
      PySem.W.fnOf "_law_part" "_law_part" (defArgs s_law_part) (defBody s_law_part) (defScope s_law_part) .none kV31 dc31 pm31 an31 cd31 ct31,
      PySem.W.fnOf "_law_gains" "_law_gains" (defArgs s_law_gains) (defBody s_law_gains) (defScope s_law_gains) .none kV32 dc32 pm32 an32 cd32 ct32,
      PySem.W.fnOf "_law_parts" "_law_parts" (defArgs s_law_parts) (defBody s_law_parts) (defScope s_law_parts) .none kV33 dc33 pm33 an33 cd33 ct33,
      PySem.W.fnOf "_law_chances" "_law_chances" (defArgs s_law_chances) (defBody s_law_chances) (defScope s_law_chances) .none kV34 dc34 pm34 an34 cd34 ct34,
      PySem.W.fnOf "_law_odds" "_law_odds" (defArgs s_law_odds) (defBody s_law_odds) (defScope s_law_odds) .none kV35 dc35 pm35 an35 cd35 ct35,
      PySem.W.fnOf "_law_sized" "_law_sized" (defArgs s_law_sized) (defBody s_law_sized) (defScope s_law_sized) .none kV36 dc36 pm36 an36 cd36 ct36,
      PySem.W.fnOf "_law_world" "_law_world" (defArgs s_law_world) (defBody s_law_world) (defScope s_law_world) .none kV37 dc37 pm37 an37 cd37 ct37,
      PySem.W.fnOf "_law_dressed" "_law_dressed" (defArgs s_law_dressed) (defBody s_law_dressed) (defScope s_law_dressed) .none kV38 dc38 pm38 an38 cd38 ct38,
      PySem.W.fnOf "_law_is_whole" "_law_is_whole" (defArgs s_law_is_whole) (defBody s_law_is_whole) (defScope s_law_is_whole) .none kV39 dc39 pm39 an39 cd39 ct39,
      PySem.W.fnOf "_law_is_tuple" "_law_is_tuple" (defArgs s_law_is_tuple) (defBody s_law_is_tuple) (defScope s_law_is_tuple) .none kV40 dc40 pm40 an40 cd40 ct40,
      PySem.W.fnOf "_law_is_frac" "_law_is_frac" (defArgs s_law_is_frac) (defBody s_law_is_frac) (defScope s_law_is_frac) .none kV41 dc41 pm41 an41 cd41 ct41,
      PySem.W.fnOf "_law_is_row" "_law_is_row" (defArgs s_law_is_row) (defBody s_law_is_row) (defScope s_law_is_row) .none kV42 dc42 pm42 an42 cd42 ct42,
      PySem.W.fnOf "_law_is_odds" "_law_is_odds" (defArgs s_law_is_odds) (defBody s_law_is_odds) (defScope s_law_is_odds) .none kV43 dc43 pm43 an43 cd43 ct43,
      PySem.W.fnOf "_law_is_deed" "_law_is_deed" (defArgs s_law_is_deed) (defBody s_law_is_deed) (defScope s_law_is_deed) .none kV44 dc44 pm44 an44 cd44 ct44,
      PySem.W.fnOf "_law_is_world" "_law_is_world" (defArgs s_law_is_world) (defBody s_law_is_world) (defScope s_law_is_world) .none kV45 dc45 pm45 an45 cd45 ct45,
      PySem.W.fnOf "_law_odd" "_law_odd" (defArgs s_law_odd) (defBody s_law_odd) (defScope s_law_odd) .none kV46 dc46 pm46 an46 cd46 ct46,
      PySem.W.fnOf "_law_twice" "_law_twice" (defArgs s_law_twice) (defBody s_law_twice) (defScope s_law_twice) .none kV47 dc47 pm47 an47 cd47 ct47,
      PySem.W.fnOf "_law_bent" "_law_bent" (defArgs s_law_bent) (defBody s_law_bent) (defScope s_law_bent) .none kV48 dc48 pm48 an48 cd48 ct48,
      PySem.W.fnOf "_law_maybe" "_law_maybe" (defArgs s_law_maybe) (defBody s_law_maybe) (defScope s_law_maybe) .none kV49 dc49 pm49 an49 cd49 ct49,
      PySem.W.fnOf "_law_edge" "_law_edge" (defArgs s_law_edge) (defBody s_law_edge) (defScope s_law_edge) .none kV50 dc50 pm50 an50 cd50 ct50,
      PySem.W.fnOf "_law_right" "_law_right" (defArgs s_law_right) (defBody s_law_right) (defScope s_law_right) .none kV51 dc51 pm51 an51 cd51 ct51,
      PySem.W.fnOf "law" "law" (defArgs s_law) (defBody s_law) (defScope s_law) .none kV52 dc52 pm52 an52 cd52 ct52] : List FuncData).getD i (PySem.W.fnOf "law" "law" (defArgs s_law) (defBody s_law) (defScope s_law) .none kV52 dc52 pm52 an52 cd52 ct52)) :=
    { d_is_whole := fun_mk (st := s_is_whole) l0 c0 k0,
      m_is_whole := PySem.W.mg_of X G a0,
      d_is_between := fun_mk (st := s_is_between) l1 c1 k1,
      m_is_between := PySem.W.mg_of X G a1,
      d_is_tuple_of := fun_mk (st := s_is_tuple_of) l2 c2 k2,
      m_is_tuple_of := PySem.W.mg_of X G a2,
      d_is_ratio := fun_mk (st := s_is_ratio) l3 c3 k3,
      m_is_ratio := PySem.W.mg_of X G a3,
      d_is_row := fun_mk (st := s_is_row) l4 c4 k4,
      m_is_row := PySem.W.mg_of X G a4,
      d_ratio := fun_mk (st := s_ratio) l5 c5 k5,
      m_ratio := PySem.W.mg_of X G a5,
      d_plus := fun_mk (st := s_plus) l6 c6 k6,
      m_plus := PySem.W.mg_of X G a6,
      d_times := fun_mk (st := s_times) l7 c7 k7,
      m_times := PySem.W.mg_of X G a7,
      d_total := fun_mk (st := s_total) l8 c8 k8,
      m_total := PySem.W.mg_of X G a8,
      d_dot := fun_mk (st := s_dot) l9 c9 k9,
      m_dot := PySem.W.mg_of X G a9,
      d_is_chance_row := fun_mk (st := s_is_chance_row) l10 c10 k10,
      m_is_chance_row := PySem.W.mg_of X G a10,
      d_are_chances := fun_mk (st := s_are_chances) l11 c11 k11,
      m_are_chances := PySem.W.mg_of X G a11,
      d_is_deed := fun_mk (st := s_is_deed) l12 c12 k12,
      m_is_deed := PySem.W.mg_of X G a12,
      d_is_stand := fun_mk (st := s_is_stand) l13 c13 k13,
      m_is_stand := PySem.W.mg_of X G a13,
      d_is_share := fun_mk (st := s_is_share) l14 c14 k14,
      m_is_share := PySem.W.mg_of X G a14,
      d_is_house_by := fun_mk (st := s_is_house_by) l15 c15 k15,
      m_is_house_by := PySem.W.mg_of X G a15,
      d_is_start_by := fun_mk (st := s_is_start_by) l16 c16 k16,
      m_is_start_by := PySem.W.mg_of X G a16,
      d_weighted_by := fun_mk (st := s_weighted_by) l17 c17 k17,
      m_weighted_by := PySem.W.mg_of X G a17,
      d_check_house := fun_mk (st := s_check_house) l18 c18 k18,
      m_check_house := PySem.W.mg_of X G a18,
      d_check_weights := fun_mk (st := s_check_weights) l19 c19 k19,
      m_check_weights := PySem.W.mg_of X G a19,
      d_is_house := fun_mk (st := s_is_house) l20 c20 k20,
      m_is_house := PySem.W.mg_of X G a20,
      d_is_start := fun_mk (st := s_is_start) l21 c21 k21,
      m_is_start := PySem.W.mg_of X G a21,
      d_weighted := fun_mk (st := s_weighted) l22 c22 k22,
      m_weighted := PySem.W.mg_of X G a22,
      d_law_spring := fun_mk (st := s_law_spring) l23 c23 k23,
      m_law_spring := PySem.W.mg_of X G a23,
      d_law_pick := fun_mk (st := s_law_pick) l24 c24 k24,
      m_law_pick := PySem.W.mg_of X G a24,
      d_law_any_of := fun_mk (st := s_law_any_of) l25 c25 k25,
      m_law_any_of := PySem.W.mg_of X G a25,
      d_law_frac := fun_mk (st := s_law_frac) l26 c26 k26,
      m_law_frac := PySem.W.mg_of X G a26,
      d_law_plus := fun_mk (st := s_law_plus) l27 c27 k27,
      m_law_plus := PySem.W.mg_of X G a27,
      d_law_times := fun_mk (st := s_law_times) l28 c28 k28,
      m_law_times := PySem.W.mg_of X G a28,
      d_law_total := fun_mk (st := s_law_total) l29 c29 k29,
      m_law_total := PySem.W.mg_of X G a29,
      d_law_dot := fun_mk (st := s_law_dot) l30 c30 k30,
      m_law_dot := PySem.W.mg_of X G a30,
      d_law_part := fun_mk (st := s_law_part) l31 c31 k31,
      m_law_part := PySem.W.mg_of X G a31,
      d_law_gains := fun_mk (st := s_law_gains) l32 c32 k32,
      m_law_gains := PySem.W.mg_of X G a32,
      d_law_parts := fun_mk (st := s_law_parts) l33 c33 k33,
      m_law_parts := PySem.W.mg_of X G a33,
      d_law_chances := fun_mk (st := s_law_chances) l34 c34 k34,
      m_law_chances := PySem.W.mg_of X G a34,
      d_law_odds := fun_mk (st := s_law_odds) l35 c35 k35,
      m_law_odds := PySem.W.mg_of X G a35,
      d_law_sized := fun_mk (st := s_law_sized) l36 c36 k36,
      m_law_sized := PySem.W.mg_of X G a36,
      d_law_world := fun_mk (st := s_law_world) l37 c37 k37,
      m_law_world := PySem.W.mg_of X G a37,
      d_law_dressed := fun_mk (st := s_law_dressed) l38 c38 k38,
      m_law_dressed := PySem.W.mg_of X G a38,
      d_law_is_whole := fun_mk (st := s_law_is_whole) l39 c39 k39,
      m_law_is_whole := PySem.W.mg_of X G a39,
      d_law_is_tuple := fun_mk (st := s_law_is_tuple) l40 c40 k40,
      m_law_is_tuple := PySem.W.mg_of X G a40,
      d_law_is_frac := fun_mk (st := s_law_is_frac) l41 c41 k41,
      m_law_is_frac := PySem.W.mg_of X G a41,
      d_law_is_row := fun_mk (st := s_law_is_row) l42 c42 k42,
      m_law_is_row := PySem.W.mg_of X G a42,
      d_law_is_odds := fun_mk (st := s_law_is_odds) l43 c43 k43,
      m_law_is_odds := PySem.W.mg_of X G a43,
      d_law_is_deed := fun_mk (st := s_law_is_deed) l44 c44 k44,
      m_law_is_deed := PySem.W.mg_of X G a44,
      d_law_is_world := fun_mk (st := s_law_is_world) l45 c45 k45,
      m_law_is_world := PySem.W.mg_of X G a45,
      d_law_odd := fun_mk (st := s_law_odd) l46 c46 k46,
      m_law_odd := PySem.W.mg_of X G a46,
      d_law_twice := fun_mk (st := s_law_twice) l47 c47 k47,
      m_law_twice := PySem.W.mg_of X G a47,
      d_law_bent := fun_mk (st := s_law_bent) l48 c48 k48,
      m_law_bent := PySem.W.mg_of X G a48,
      d_law_maybe := fun_mk (st := s_law_maybe) l49 c49 k49,
      m_law_maybe := PySem.W.mg_of X G a49,
      d_law_edge := fun_mk (st := s_law_edge) l50 c50 k50,
      m_law_edge := PySem.W.mg_of X G a50,
      d_law_right := fun_mk (st := s_law_right) l51 c51 k51,
      m_law_right := PySem.W.mg_of X G a51,
      d_law := fun_mk (st := s_law) l52 c52 k52,
      m_law := PySem.W.mg_of X G a52,
      b_abs := PySem.W.mg_none_of X G z_abs,
      b_all := PySem.W.mg_none_of X G z_all,
      b_bool := PySem.W.mg_none_of X G z_bool,
      b_divmod := PySem.W.mg_none_of X G z_divmod,
      b_enumerate := PySem.W.mg_none_of X G z_enumerate,
      b_gcd := PySem.W.mg_of X G z_gcd,
      b_int := PySem.W.mg_none_of X G z_int,
      b_isinstance := PySem.W.mg_none_of X G z_isinstance,
      b_len := PySem.W.mg_none_of X G z_len,
      b_list := PySem.W.mg_none_of X G z_list,
      b_max := PySem.W.mg_none_of X G z_max,
      b_min := PySem.W.mg_none_of X G z_min,
      b_range := PySem.W.mg_none_of X G z_range,
      b_repr := PySem.W.mg_none_of X G z_repr,
      b_str := PySem.W.mg_none_of X G z_str,
      b_sum := PySem.W.mg_none_of X G z_sum,
      b_tuple := PySem.W.mg_none_of X G z_tuple,
      b_zip := PySem.W.mg_none_of X G z_zip,
      g_MOST_DEEDS := ⟨⟨.int (4), _, PySem.W.mg_of X G g_MOST_DEEDS, ⟨_, rfl⟩, fun fz H => (.int _)⟩⟩,
      g_MOST_PAYS := ⟨⟨.int (4), _, PySem.W.mg_of X G g_MOST_PAYS, ⟨_, rfl⟩, fun fz H => (.int _)⟩⟩,
      g_MOST_STANDS := ⟨⟨.int (8), _, PySem.W.mg_of X G g_MOST_STANDS, ⟨_, rfl⟩, fun fz H => (.int _)⟩⟩,
      g_ONE := ⟨⟨.ref q5, _, PySem.W.mg_of X G g_ONE, rfl, fun fz H => (.tup (.inr ⟨_, #[.int (1) u3, .int (1) u4], _, t5, rfl, rfl, (show 2 ≤ sizeLine by decide), (show Vals [.int (1), .int (1)] _ from (.cons ⟨_, rfl⟩ (.cons ⟨_, rfl⟩ .nil)))⟩) (.cons (.int _) (.cons (.int _) .nil)))⟩⟩,
      g_ZERO := ⟨⟨.ref q8, _, PySem.W.mg_of X G g_ZERO, rfl, fun fz H => (.tup (.inr ⟨_, #[.int (0) u6, .int (1) u7], _, t8, rfl, rfl, (show 2 ≤ sizeLine by decide), (show Vals [.int (0), .int (1)] _ from (.cons ⟨_, rfl⟩ (.cons ⟨_, rfl⟩ .nil)))⟩) (.cons (.int _) (.cons (.int _) .nil)))⟩⟩ }
  exact ⟨_, fun s v => .of_eq rfl, fun base _ _ => ok_law T⟩
end
end W2

open PySem PySem.W PyProof.Rows
set_option maxHeartbeats 0 in
theorem PySem.Challenge.cw_deedhouses_k02_houses_starts_and_weighte_holds : PySem.Challenge.rw_deedhouses_k02_houses_starts_and_weighte.Holds := by
  w_on; o_law; k_head; (case hw => w_witness2)
  k_fill
  refine Dh.law_end (l := PySem.Challenge.rw_deedhouses_k02_houses_starts_and_weighte) (n := 63) (k := 18) (x := "_law_script") (g := W2.f_law) rfl (by decide) rfl ⟨rfl, by decide, by decide⟩ (fun w h Y => PySem.W.kIn_of Y) W2.plain ?F
  case F =>
    intro w mg fa h KX G hmg
    refine' W2.all_mk KX G hmg ?a0 ?l0 ?c0 ?k0 ?a1 ?l1 ?c1 ?k1 ?a2 ?l2 ?c2 ?k2 ?a3 ?l3 ?c3 ?k3 ?a4 ?l4 ?c4 ?k4 ?a5 ?l5 ?c5 ?k5 ?a6 ?l6 ?c6 ?k6 ?a7 ?l7 ?c7 ?k7 ?a8 ?l8 ?c8 ?k8 ?a9 ?l9 ?c9 ?k9 ?a10 ?l10 ?c10 ?k10 ?a11 ?l11 ?c11 ?k11 ?a12 ?l12 ?c12 ?k12 ?a13 ?l13 ?c13 ?k13 ?a14 ?l14 ?c14 ?k14 ?a15 ?l15 ?c15 ?k15 ?a16 ?l16 ?c16 ?k16 ?a17 ?l17 ?c17 ?k17 ?a18 ?l18 ?c18 ?k18 ?a19 ?l19 ?c19 ?k19 ?a20 ?l20 ?c20 ?k20 ?a21 ?l21 ?c21 ?k21 ?a22 ?l22 ?c22 ?k22 ?a23 ?l23 ?c23 ?k23 ?a24 ?l24 ?c24 ?k24 ?a25 ?l25 ?c25 ?k25 ?a26 ?l26 ?c26 ?k26 ?a27 ?l27 ?c27 ?k27 ?a28 ?l28 ?c28 ?k28 ?a29 ?l29 ?c29 ?k29 ?a30 ?l30 ?c30 ?k30 ?a31 ?l31 ?c31 ?k31 ?a32 ?l32 ?c32 ?k32 ?a33 ?l33 ?c33 ?k33 ?a34 ?l34 ?c34 ?k34 ?a35 ?l35 ?c35 ?k35 ?a36 ?l36 ?c36 ?k36 ?a37 ?l37 ?c37 ?k37 ?a38 ?l38 ?c38 ?k38 ?a39 ?l39 ?c39 ?k39 ?a40 ?l40 ?c40 ?k40 ?a41 ?l41 ?c41 ?k41 ?a42 ?l42 ?c42 ?k42 ?a43 ?l43 ?c43 ?k43 ?a44 ?l44 ?c44 ?k44 ?a45 ?l45 ?c45 ?k45 ?a46 ?l46 ?c46 ?k46 ?a47 ?l47 ?c47 ?k47 ?a48 ?l48 ?c48 ?k48 ?a49 ?l49 ?c49 ?k49 ?a50 ?l50 ?c50 ?k50 ?a51 ?l51 ?c51 ?k51 ?a52 ?l52 ?c52 ?k52 ?z_abs ?z_all ?z_bool ?z_divmod ?z_enumerate ?z_gcd ?z_int ?z_isinstance ?z_len ?z_list ?z_max ?z_min ?z_range ?z_repr ?z_str ?z_sum ?z_tuple ?z_zip ?g_MOST_DEEDS ?g_MOST_PAYS ?g_MOST_STANDS ?t5 ?g_ONE ?t8 ?g_ZERO
    (case a0 => k_is); (case l0 => k_is); (case c0 => k_is); (case k0 => k_is); (case a1 => k_is); (case l1 => k_is); (case c1 => k_is); (case k1 => k_is); (case a2 => k_is); (case l2 => k_is); (case c2 => k_is); (case k2 => k_is); (case a3 => k_is); (case l3 => k_is); (case c3 => k_is); (case k3 => k_is); (case a4 => k_is); (case l4 => k_is); (case c4 => k_is); (case k4 => k_is); (case a5 => k_is); (case l5 => k_is); (case c5 => k_is); (case k5 => k_is); (case a6 => k_is); (case l6 => k_is); (case c6 => k_is); (case k6 => k_is); (case a7 => k_is); (case l7 => k_is); (case c7 => k_is); (case k7 => k_is); (case a8 => k_is); (case l8 => k_is); (case c8 => k_is); (case k8 => k_is); (case a9 => k_is); (case l9 => k_is); (case c9 => k_is); (case k9 => k_is); (case a10 => k_is); (case l10 => k_is); (case c10 => k_is); (case k10 => k_is); (case a11 => k_is); (case l11 => k_is); (case c11 => k_is); (case k11 => k_is); (case a12 => k_is); (case l12 => k_is); (case c12 => k_is); (case k12 => k_is); (case a13 => k_is); (case l13 => k_is); (case c13 => k_is); (case k13 => k_is); (case a14 => k_is); (case l14 => k_is); (case c14 => k_is); (case k14 => k_is); (case a15 => k_is); (case l15 => k_is); (case c15 => k_is); (case k15 => k_is); (case a16 => k_is); (case l16 => k_is); (case c16 => k_is); (case k16 => k_is); (case a17 => k_is); (case l17 => k_is); (case c17 => k_is); (case k17 => k_is); (case a18 => k_is); (case l18 => k_is); (case c18 => k_is); (case k18 => k_is); (case a19 => k_is); (case l19 => k_is); (case c19 => k_is); (case k19 => k_is); (case a20 => k_is); (case l20 => k_is); (case c20 => k_is); (case k20 => k_is); (case a21 => k_is); (case l21 => k_is); (case c21 => k_is); (case k21 => k_is); (case a22 => k_is); (case l22 => k_is); (case c22 => k_is); (case k22 => k_is); (case a23 => k_is); (case l23 => k_is); (case c23 => k_is); (case k23 => k_is); (case a24 => k_is); (case l24 => k_is); (case c24 => k_is); (case k24 => k_is); (case a25 => k_is); (case l25 => k_is); (case c25 => k_is); (case k25 => k_is); (case a26 => k_is); (case l26 => k_is); (case c26 => k_is); (case k26 => k_is); (case a27 => k_is); (case l27 => k_is); (case c27 => k_is); (case k27 => k_is); (case a28 => k_is); (case l28 => k_is); (case c28 => k_is); (case k28 => k_is); (case a29 => k_is); (case l29 => k_is); (case c29 => k_is); (case k29 => k_is); (case a30 => k_is); (case l30 => k_is); (case c30 => k_is); (case k30 => k_is); (case a31 => k_is); (case l31 => k_is); (case c31 => k_is); (case k31 => k_is); (case a32 => k_is); (case l32 => k_is); (case c32 => k_is); (case k32 => k_is); (case a33 => k_is); (case l33 => k_is); (case c33 => k_is); (case k33 => k_is); (case a34 => k_is); (case l34 => k_is); (case c34 => k_is); (case k34 => k_is); (case a35 => k_is); (case l35 => k_is); (case c35 => k_is); (case k35 => k_is); (case a36 => k_is); (case l36 => k_is); (case c36 => k_is); (case k36 => k_is); (case a37 => k_is); (case l37 => k_is); (case c37 => k_is); (case k37 => k_is); (case a38 => k_is); (case l38 => k_is); (case c38 => k_is); (case k38 => k_is); (case a39 => k_is); (case l39 => k_is); (case c39 => k_is); (case k39 => k_is); (case a40 => k_is); (case l40 => k_is); (case c40 => k_is); (case k40 => k_is); (case a41 => k_is); (case l41 => k_is); (case c41 => k_is); (case k41 => k_is); (case a42 => k_is); (case l42 => k_is); (case c42 => k_is); (case k42 => k_is); (case a43 => k_is); (case l43 => k_is); (case c43 => k_is); (case k43 => k_is); (case a44 => k_is); (case l44 => k_is); (case c44 => k_is); (case k44 => k_is); (case a45 => k_is); (case l45 => k_is); (case c45 => k_is); (case k45 => k_is); (case a46 => k_is); (case l46 => k_is); (case c46 => k_is); (case k46 => k_is); (case a47 => k_is); (case l47 => k_is); (case c47 => k_is); (case k47 => k_is); (case a48 => k_is); (case l48 => k_is); (case c48 => k_is); (case k48 => k_is); (case a49 => k_is); (case l49 => k_is); (case c49 => k_is); (case k49 => k_is); (case a50 => k_is); (case l50 => k_is); (case c50 => k_is); (case k50 => k_is); (case a51 => k_is); (case l51 => k_is); (case c51 => k_is); (case k51 => k_is); (case a52 => k_is); (case l52 => k_is); (case c52 => k_is); (case k52 => k_is); (case z_abs => k_is); (case z_all => k_is); (case z_bool => k_is); (case z_divmod => k_is); (case z_enumerate => k_is); (case z_gcd => k_is); (case z_int => k_is); (case z_isinstance => k_is); (case z_len => k_is); (case z_list => k_is); (case z_max => k_is); (case z_min => k_is); (case z_range => k_is); (case z_repr => k_is); (case z_str => k_is); (case z_sum => k_is); (case z_tuple => k_is); (case z_zip => k_is); (case g_MOST_DEEDS => k_is); (case g_MOST_PAYS => k_is); (case g_MOST_STANDS => k_is); (case g_ONE => k_is); (case t5 => k_is); (case g_ZERO => k_is); (case t8 => k_is)
